import PyProof.Rows.All
import Wide.All
import OpenK.AllK
import Wide.FinOn
import HandS.ForMost
import HandS.Property
import HandS.SetBool
import HandS.SetKeys
import HandS.TupSets
import HandS.Walk
import HandS.SortOrd
import HandS.Conv
import HandS.More
import HandS.ForExc
import HandS.ExcInit
import HandS.ExcIs
import HandS.ExcField
import KE.KStateDown
import Lean
import HandS.Defaults
import HandS.Head0
import HandS.Head1
import HandS.Head2
import HandS.HeadEnd
import HandS.HeadHook1
import HandS.HeadHook2
import HandS.HeadNt
import HandS.Flow
import HandS.IsInst
import HandS.Wide
import HandS.CallLocal
import HandS.Star
import KE.KDictWalk
import KE.GoesMore
import PyProof.Rows.TupDisplay
import PySem.Challenge.RW_rightstate_k91_picks_and_what_is_told_of
set_option Elab.async false
set_option linter.all false
set_option maxRecDepth 100000
set_option maxHeartbeats 2000000
/-! Own special methods: `x in o`, `o[k]` by a class's own def. -/
namespace Rs
open PySem PySem.Spec PyProof.Rows L2
/-- the class at C has the def at f under the special name m -/
structure Dun (K : PySem.W.Frag) (C : Addr) (m : Str) (f : Addr) : Prop where
  at_ : PySem.W.findIn K (.ref C) m = some (some (.ref f))
  fn : PySem.W.isFn K (.ref f) = true
  fi : PySem.W.fnIn K f = true

def rInO (C : Addr) (sp : Sp) (E : XK) (neg : Bool) : R2 := fun x y H Q =>
  ∃ a dx fs, y = .ref a ∧ H a = some (.ins C dx fs) ∧ sp [.ref a, x] H (fun r H' => ∃ b, r = .bl b ∧ Q (.bl (if neg = true then !b else b)) H') E

section
variable {X : Cx} {CX : CXT} {k : Nat} {C f : Addr} {fd : FuncData} {ps : List Str} {sp : Sp} {E : XK}
theorem in_run {pins : List (Addr × Obj)} {s : Shared} {σ : L2.St} {H : Hp} {x : V} {v : Value} {a dx : Addr} {fs : List (Str × V)} {Q : VK} {g : Bool → Bool}
    (d : Dun X.K C "__contains__" f) (F : FnOk X.prog X.w X.K X.mg X.base CX k f fd ps sp) (hr : Room k X.A) (hb : Binds X.K fd ps []) (hx : Passes CX X E)
    (I : Inv X pins σ H s) (rx : RelV x v) (h : sp [.ref a, x] H (fun r H' => ∃ b, r = .bl b ∧ Q (.bl (g b)) H') E) :
    wpAny (model X.prog X.w) X.A (call (.ref f) [.ref a, v]) (fun r s' => wpAny (model X.prog X.w) X.A (truthy r) (fun b => EP X pins σ Q (.bool (g b))) X.xe s') X.xe s := by
  refine wpAny_mono (run_fn (us := [.ref a, v]) (vs := [.ref a, x]) (dvs := []) F hr hb .nil hx I (.cons rfl (.cons rx .nil)) h) (fun r s' q => ?_) fun _ _ z => z
  obtain ⟨y, H', I', ry, b, rfl, q⟩ := q
  cases ry
  exact wpAny_truthy_bool ⟨.bl (g b), H', I', rfl, q⟩
theorem op_inO (d : Dun X.K C "__contains__" f) (F : FnOk X.prog X.w X.K X.mg X.base CX k f fd ps sp) (hr : Room k X.A) (hb : Binds X.K fd ps []) (hx : Passes CX X E) :
    OpR X (compareOp .In) (rInO C sp E false) := by
  intro pins s σ H x y v u Q I rx ry h
  obtain ⟨a, dx, fs, rfl, ha, h⟩ := h
  cases ry
  obtain ⟨mA, J, _⟩ := ins_get I.hok ha
  obtain ⟨od, J, _⟩ := J.look
  obtain ⟨m, hF⟩ := I.fr
  exact PySem.W.in_K hF I.ok.mod.kin J d.at_ d.fn (in_run (g := fun b => b) (dx := dx) (fs := fs) d F hr hb hx I rx h)
theorem op_notInO (d : Dun X.K C "__contains__" f) (F : FnOk X.prog X.w X.K X.mg X.base CX k f fd ps sp) (hr : Room k X.A) (hb : Binds X.K fd ps []) (hx : Passes CX X E) :
    OpR X (compareOp .NotIn) (rInO C sp E true) := by
  intro pins s σ H x y v u Q I rx ry h
  obtain ⟨a, dx, fs, rfl, ha, h⟩ := h
  cases ry
  obtain ⟨mA, J, _⟩ := ins_get I.hok ha
  obtain ⟨od, J, _⟩ := J.look
  obtain ⟨m, hF⟩ := I.fr
  exact PySem.W.notIn_K hF I.ok.mod.kin J d.at_ d.fn (in_run (g := fun b => !b) (dx := dx) (fs := fs) d F hr hb hx I rx h)

def rSubO (C : Addr) (sp : Sp) (E : XK) : R2 := fun x y H Q => ∃ a dx fs, x = .ref a ∧ H a = some (.ins C dx fs) ∧ sp [.ref a, y] H Q E
theorem pe_subO {a b : Expr} {ta tb : TE} {pos : Pos} (d : Dun X.K C "__getitem__" f) (F : FnOk X.prog X.w X.K X.mg X.base CX k f fd ps sp) (hr : Room (k + 1) X.A) (hb' : Binds X.K fd ps []) (hx : Passes CX X E)
    (ha : PE X a ta) (hb : PE X b tb) (hs : ∀ x y, subscripted b true x y = runValue (.builtin "lifetime.subscript" ⟨[x, y], []⟩)) :
    PE X (.Subscript a b pos) (tOp (rSubO C sp E) ta tb) := by
  refine ⟨fun pins s σ H Q I h => ?_⟩
  refine Subscript_ (binT ha hb I h fun v u s2 x y H2 I2 rx ry q => ?_)
  obtain ⟨a', dx, fs, rfl, ha', h⟩ := q
  cases rx
  obtain ⟨mA, J, _⟩ := ins_get I2.hok ha'
  obtain ⟨od, J, _⟩ := J.look
  obtain ⟨m, hF⟩ := I2.fr
  refine PySem.W.sub_K hF I2.ok.mod.kin J d.at_ d.fi d.fn ?_ (hs _ _)
  have hl : ([Value.ref a', u] ++ []).length = ps.length := by rw [← F.len _ _ _ _ h] <;> rfl
  refine wpAny_call (codeAny_mono (F.run X.A.in1 X.stack s2 H2 ⟨[.ref a', u], []⟩ [.ref a', u] [.ref a', y] Q E hr.in1 I2.env0.in1 (hb' _ [.ref a', u] I2.kIn hl) (.cons rfl (.cons ry .nil)) h) fun r s' hq => ?_)
  cases r with
  | error e => exact hx pins σ H2 s2 e s' I2 hq
  | ok fl =>
    cases fl with
    | ret w => exact I2.after hq
    | next => exact False.elim hq
    | brk => exact False.elim hq
    | cont => exact False.elim hq
end
end Rs
set_option Elab.async false
set_option linter.all false
set_option maxRecDepth 100000
set_option maxHeartbeats 2000000
/-! {elt for x in it if ..}: a set comprehension over any kind of set that knows how to begin and to add. -/
namespace Rs
open PySem PySem.Spec PyProof.Rows L2
/-- the object of an empty set, as the machine lays it -/
abbrev set0 (w : World) : Obj := { cls := .type "set", dict := none, data := .set #[] 0 (.fresh 0 0 (!w.params.followText "set-order")) }
/-- what a comprehension over sets asks: Z the abstract empty set, ad what adding asks -/
def tScG (Z : Addr → HO) (ad : V → List V → Hp → VK → Prop) (wi : TI) (g : TG) (tt : TT) (te : TE) (vs : List Nat) : TE := fun σ H Q => wi σ H fun J H1 => ∀ D, H1 D = none → ∃ W : Nat → Nat → Hp → Prop, (∃ m, W 0 m (upd H1 D (Z D))) ∧ ∀ i m H, W i m H →
  (J.stop i H ∧ Q (.ref D) H) ∨ (J.go i H ∧ ∃ Nx : Hp → Prop, (∀ H', Nx H' → ∃ m', m' < m ∧ W (i + 1) m' H') ∧ ∀ x H', J.yld i H x H' → g x (wipe σ vs) H' fun σ2 H2 => wipe σ2 vs = wipe σ vs ∧ tt σ2 H2 fun b H3 =>
    if b = true then te σ2 H3 fun y H4 => ad (.ref D) [y] H4 fun _ H5 => Nx H5 else Nx H3)
section
variable {X : Cx} {Z : Addr → HO} {ad : V → List V → Hp → VK → Prop}
theorem scg_core {pins : List (Addr × Obj)} {s : Shared} {σ : L2.St} {H : Hp} {Q : VK} {elt tg iter : Expr} {ifs : List Expr} {scope : Scope} {own : List (PySem.Str × Nat)} {pos pos' : Pos} {wi : TI} {g : TG} {tt : TT} {te : TE} {use : Option (Value → Sem Unit)} {Qf : Value → Shared → Prop}
    (hZ : ∀ (H : Hp) (h : Heap), ObjOk X.prog X.w H (h.push (set0 X.w)) h.objs.size (Z h.objs.size))
    (had : ∀ (s : Shared) (H : Hp) (e : Env) (fp : List Addr), MtR (X.blk s H scope e fp) "set.add" ad)
    (hc : X.calm = true) (hN : X.N.Nodup) (I : Inv X pins σ H s) (hi : PI X tg iter wi) (ok : BlkOk X.N X.env.scope scope own)
    (hg : ∀ (s : Shared) (H : Hp) (C : Addr) (cl : List (PySem.Str × Addr)) (fp : List Addr), PG (X.blk s H scope (compEnvC scope cl C X.env) fp) tg g)
    (ht : ∀ (s : Shared) (H : Hp) (C : Addr) (cl : List (PySem.Str × Addr)) (fp : List Addr), PTs (X.blk s H scope (compEnvC scope cl C X.env) fp) ifs tt)
    (he : ∀ (s : Shared) (H : Hp) (C : Addr) (cl : List (PySem.Str × Addr)) (fp : List Addr), PE (X.blk s H scope (compEnvC scope cl C X.env) fp) elt te)
    (hs : ∀ x, foldedSetIterable iter X.env x = pure x) (h : tScG Z ad wi g tt te (own.map (·.2)) σ H Q)
    (fin : ∀ D C s' m H', Inv X pins σ H' s' → Q (.ref D) H' → s'.heap.Ns C m → FpOk X pins H' C → compPost (model X.prog X.w) X.A X.xe use Qf (.ref D) C (.ok .next) s') :
    wpAny (model X.prog X.w) X.A (comprehension (.SetComp elt [⟨tg, iter, ifs, 0⟩] scope pos) scope X.env pos' (newSet (.type "set")) false (eval iter X.env) use) Qf X.xe s := by
  have outer : ∀ y ∈ scope.names, y.2 = .free → ∃ c, X.env.cells.lookup y.1 = some c := fun y hy e => by
    rcases ok.free y hy e with k | k
    · exact I.ok.has _ (.inl k)
    · exact I.ok.has _ (.inr k)
  refine wpAny_comprehension_free (use := use) rfl hs (closure_ok outer) ok.kind (fun y hy e => by rw [ok.uniq y hy, e])
    (thn (hi.run pins s σ H _ I h) fun xv s1 hx => thn hx fun itv s2 h2 => ?_)
  obtain ⟨it, fp, tn, J, H2, e, I2, T, st2, f2, q⟩ := h2
  subst e
  refine PpSet.newSet_ok (newEnv_comp ?_)
  obtain ⟨D, hD⟩ : ∃ D, s2.heap.objs.size = D := ⟨_, rfl⟩
  have hfree : H2 D = none := I2.hok.fresh (Nat.le_of_eq hD)
  obtain ⟨W, ⟨m0, w0⟩, turn⟩ := q D hfree
  -- the set is laid
  obtain ⟨s3, hs3⟩ : ∃ s3 : Shared, { s2 with heap := s2.heap.push (set0 X.w) } = s3 := ⟨_, rfl⟩
  have hh3 : s3.heap = s2.heap.push (set0 X.w) := by rw [← hs3]
  have I3 : Inv X pins σ (upd H2 D (Z D)) s3 := by
    rw [← hs3, ← hD]
    exact I2.laid (t' := s2.toks) (fun b o e => Heap.get?_push_of_some _ e) (Nat.le_refl _) (hZ _ _)
  have low : ∀ b ∈ fp, b < s2.heap.objs.size := fun b hb => let ⟨_, e, _⟩ := T.obj _ _ st2 b hb; Heap.lt_size e
  have f3 : ∀ b ∈ fp, FpOk X pins (upd H2 D (Z D)) b ∧ b < s3.heap.objs.size := fun b hb => by
    have hlt := low b hb
    have hne : b ≠ D := by rw [← hD]; exact Nat.ne_of_lt hlt
    exact ⟨⟨by rw [upd_ne hne]; exact (f2 b hb).1, (f2 b hb).2⟩, by rw [hh3, Heap.size_push]; exact Nat.lt_succ_of_lt hlt⟩
  have st3 : tn 0 s3.heap := T.keep _ _ _ st2 fun b _ o e => by rw [hh3]; exact Heap.get?_push_of_some _ e
  have I4 := block_start I3 ok hN f3
  have pg := hg s3 (upd H2 D (Z D)) s3.heap.objs.size (cellsFrom (s3.heap.objs.size + 1) scope.names (cloFrom X.env.cells scope.names [])) fp
  have pt := ht s3 (upd H2 D (Z D)) s3.heap.objs.size (cellsFrom (s3.heap.objs.size + 1) scope.names (cloFrom X.env.cells scope.names [])) fp
  have pe := he s3 (upd H2 D (Z D)) s3.heap.objs.size (cellsFrom (s3.heap.objs.size + 1) scope.names (cloFrom X.env.cells scope.names [])) fp
  rw [hs3]
  show codeAny _ _ (.compStart (.SetComp elt [⟨tg, iter, ifs, 0⟩] scope pos) 0 (.ref it) (.ref s2.heap.objs.size) (compEnvC scope (cellsFrom (s3.heap.objs.size + 1) scope.names (cloFrom X.env.cells scope.names [])) s3.heap.objs.size X.env)) (compPost (model X.prog X.w) X.A X.xe use Qf (.ref s2.heap.objs.size) s3.heap.objs.size) { s3 with heap := pushCells (s3.heap.push { cls := .type "dict", data := .dict #[] }) scope.names }
  rw [hD]
  have nfp : ∀ b ∈ fp, (upd H2 D (Z D)) b = none := fun b hb => (f3 b hb).1.1
  generalize hce : compEnvC scope (cellsFrom (s3.heap.objs.size + 1) scope.names (cloFrom X.env.cells scope.names [])) s3.heap.objs.size X.env = ce at I4 pg pt pe ⊢
  have cL : ce.locals = s3.heap.objs.size := by subst hce; rfl
  generalize hH3 : upd H2 D (Z D) = H3 at I3 I4 pg pt pe w0 nfp f3
  generalize hs4 : ({ s3 with heap := pushCells (s3.heap.push { cls := .type "dict", data := .dict #[] }) scope.names } : Shared) = s4 at I4 ⊢
  have st4 : tn 0 s4.heap := T.keep _ _ _ st3 fun b _ o e => by rw [← hs4]; exact pushCells_keeps _ _ _ _ (Heap.get?_push_of_some _ e)
  have stand : ∀ {σ' : L2.St} {H' : Hp} {s' : Shared}, Inv (X.blk s3 H3 scope ce fp) [] σ' H' s' → (∀ b ∈ fp, H' b = none) → ∀ b ∈ fp, FpOk (X.blk s3 H3 scope ce fp) [] H' b := fun {σ' H' s'} J' hn b hb =>
    ⟨hn b hb, (J'.ok.exf b hb).1, J'.ok.exfs b hb, .inl hb, fun x c e => (J'.ok.exf b hb).2 x c e, fun p hp => absurd (show p ∈ ([] : List (Addr × Obj)) ++ [] from hp) (by simp)⟩
  have loop : codeAny (model X.prog X.w) X.A (.compLoop (.SetComp elt [⟨tg, iter, ifs, 0⟩] scope pos) 0 (.ref it) (.ref D) ce) (compPost (model X.prog X.w) X.A X.xe use Qf (.ref D) s3.heap.objs.size) s4 := by
    refine PpSet.compLoopS_any (fun n s' => ∃ i H', Inv (X.blk s3 H3 scope ce fp) [] (wipe σ (own.map (·.2))) H' s' ∧ tn i s'.heap ∧ (∀ b ∈ fp, H' b = none) ∧ W i n H') ?_ m0 ⟨0, H3, I4, st4, nfp, w0⟩
    rintro n s5 ⟨i, H5, I5, st5, n5, w5⟩
    rcases turn i n H5 w5 with ⟨stop, qq⟩ | ⟨go, Nx, hNx, step⟩
    · refine thnF (T.done (X.blk s3 H3 scope ce fp) rfl rfl rfl hc i [] s5 _ H5 (fun _ _ => False) I5 (stand I5 n5) st5 stop) fun r s6 ⟨hr, I6⟩ => ?_
      subst hr
      have I7 : Inv X pins σ H5 s6 := I3.call' (ch := fp) I6.os I6.base I6.hok I6.bare fun b hb => ⟨(f3 b hb).1.2.2.2.1, (f3 b hb).1.2.1, (f3 b hb).1.2.2.2.2.1, (f3 b hb).1.2.2.2.2.2⟩
      have nC : H5 s3.heap.objs.size = none := cL ▸ (show H5 ce.locals = none from I6.free)
      obtain ⟨m, hn, _⟩ := I6.loc
      exact fin D s3.heap.objs.size s6 m H5 I7 qq (cL ▸ (show s6.heap.Ns ce.locals m from hn)) (I3.fpOk (Nat.le_refl _) nC)
    · refine thnF (T.item (X.blk s3 H3 scope ce fp) rfl rfl rfl hc i [] s5 _ H5 (fun _ _ => False) I5 (stand I5 n5) st5 go) fun r s6 ⟨u, hr, h6⟩ => ?_
      subst hr
      refine thnF h6 fun _ s7 ⟨x, H7, I7, r7, y7, st7, n7⟩ => ?_
      have I7' := I7.pinned (stand I7 n7) (T.obj _ _ st7)
      refine thnF (pg.run _ s7 _ H7 x u _ I7' r7 (step x H7 y7)) fun _ s8 ⟨σ8, H8, I8, hw8, q8⟩ => ?_
      refine thnF (pt.run _ s8 σ8 H8 _ I8 q8) fun b s9 ⟨H9, I9, q9⟩ => ?_
      have next : ∀ {s' : Shared} {H' : Hp}, Inv (X.blk s3 H3 scope ce fp) ([] ++ pinsAt fp s7.heap) σ8 H' s' → Nx H' → ∃ m, m < n ∧ ∃ i H', Inv (X.blk s3 H3 scope ce fp) [] (wipe σ (own.map (·.2))) H' s' ∧ tn i s'.heap ∧ (∀ b ∈ fp, H' b = none) ∧ W i m H' := fun {s' H'} J' nx => by
        obtain ⟨m', hm, w'⟩ := hNx H' nx
        have pin' : ∀ b ∈ fp, ∀ o, s7.heap.get? b = some o → s'.heap.get? b = some o ∧ H' b = none := fun b hb o e =>
          let z := J'.pin (b, o) (List.mem_append_right _ (List.mem_append_right _ (mem_pinsAt hb e)))
          ⟨z.1, z.2.1⟩
        have hl : (wipe σ (own.map (·.2))).length = σ8.length := by rw [← hw8, wipe_length]
        refine ⟨m', hm, i + 1, H', (J'.unpinned (pins := [])).weak hl (fun j v e => ?_), T.keep _ _ _ st7 fun b hb o e => (pin' b hb o e).1, fun b hb => ?_, w'⟩
        · rw [← hw8] at e
          exact (wipe_some e).1
        · obtain ⟨o, e, _⟩ := T.obj _ _ st7 b hb
          exact (pin' b hb o e).2
      dsimp only at q9
      by_cases hb : b = true
      · rw [if_pos hb] at q9 ⊢
        refine thnF (pe.run _ s9 σ8 H9 _ I9 q9) fun z s10 ⟨yv, H10, I10, r10, q10⟩ => ?_
        exact thnF (had s3 H3 ce fp _ s10 σ8 H10 (.ref D) [yv] (.ref D) [z] _ I10 rfl (.cons r10 .nil) q10) fun _ s11 ⟨_, H11, I11, _, nx⟩ => next I11 nx
      · rw [if_neg hb] at q9 ⊢
        exact next I9 q9
  exact PpSet.codeAny_compStart_set loop (T.self X.A 0 _ _ _ st4 loop)
/-- as a value -/
theorem pe_scg {elt tg iter : Expr} {ifs : List Expr} {scope : Scope} {own : List (PySem.Str × Nat)} {pos : Pos} {wi : TI} {g : TG} {tt : TT} {te : TE}
    (hZ : ∀ (H : Hp) (h : Heap), ObjOk X.prog X.w H (h.push (set0 X.w)) h.objs.size (Z h.objs.size))
    (had : ∀ (s : Shared) (H : Hp) (e : Env) (fp : List Addr), MtR (X.blk s H scope e fp) "set.add" ad)
    (hc : X.calm = true) (hN : X.N.Nodup) (hi : PI X tg iter wi) (ok : BlkOk X.N X.env.scope scope own)
    (hg : ∀ (s : Shared) (H : Hp) (C : Addr) (cl : List (PySem.Str × Addr)) (fp : List Addr), PG (X.blk s H scope (compEnvC scope cl C X.env) fp) tg g)
    (ht : ∀ (s : Shared) (H : Hp) (C : Addr) (cl : List (PySem.Str × Addr)) (fp : List Addr), PTs (X.blk s H scope (compEnvC scope cl C X.env) fp) ifs tt)
    (he : ∀ (s : Shared) (H : Hp) (C : Addr) (cl : List (PySem.Str × Addr)) (fp : List Addr), PE (X.blk s H scope (compEnvC scope cl C X.env) fp) elt te)
    (hs : ∀ x, foldedSetIterable iter X.env x = pure x := by intro _; rfl) :
    PE X (.SetComp elt [⟨tg, iter, ifs, 0⟩] scope pos) (tScG Z ad wi g tt te (own.map (·.2))) := by
  refine ⟨fun pins s σ H Q I h => ?_⟩
  rw [PpSet.eval_SetComp]
  refine scg_core hZ had hc hN I hi ok hg ht he hs h fun D C s' m H' I' q hn f => ⟨m, hn, fun h'' sb => ?_⟩
  obtain ⟨f0, f1, f2, f3, f4, f5⟩ := f
  exact ⟨.ref D, H', I'.turned (t' := s'.toks) (fun b o hb e => (sb.2 b hb).trans e) f0 f1 f3 f4 f5, rfl, q⟩
end
/-- its reading over anything that goes by a Walk -/
theorem setK_lay {P : Program} {w : World} (H : Hp) (h : Heap) : ObjOk P w H (h.push (set0 w)) h.objs.size (SetK P w h.objs.size (fun _ => false) 0) :=
  setK_new ⟨_, #[], 0, _, Heap.get?_push_size _ rfl, ⟨rfl, rfl, rfl⟩, rfl, (fun e he => by simp at he), (fun k => by simp), (by decide), (by rfl), rfl⟩
end Rs
set_option Elab.async false
set_option linter.all false
set_option maxRecDepth 100000
set_option maxHeartbeats 2000000
/-! Sets of tuples whose items are ints and texts: search and adding, fewer than 64 elements. -/
namespace Rs
open PySem PySem.Spec PyProof.Rows L2
/-- the tuple at b has the items k -/
abbrev TIs (P : Program) (w : World) (h : Heap) (k : List Key) (b : Addr) : Prop := IsTupleKey (mixKind P w) h k b
abbrev tkh (P : Program) (w : World) (k : List Key) : Int := tupleKeyHash (mixKind P w) k
section
variable {P : Program} {w : World} {A : Around} {E : Value → Shared → Prop} {s : Shared}
theorem items_key {k : List Key} {vs : List Value} (h : PySem.ItemsAre (mixKind P w) k vs) : ∀ v ∈ vs, (∃ i t, v = Value.int i t) ∨ ∃ x t, v = Value.str x t := by
  induction h with
  | nil => intro v hv; cases hv
  | cons h1 _ ih =>
    intro v hv
    rcases List.mem_cons.mp hv with rfl | hv
    · rcases keyIs_shape h1 with ⟨i, t, _, e⟩ | ⟨x, t, _, e⟩
      · exact .inl ⟨i, t, e⟩
      · exact .inr ⟨x, t, e⟩
    · exact ih v hv
theorem cls_key {v : Value} (n : Nat) (h : (∃ i t, v = Value.int i t) ∨ ∃ x t, v = Value.str x t) : ofAClassStatement n v = pure false := by
  rcases h with ⟨i, t, rfl⟩ | ⟨x, t, rfl⟩ <;> cases n <;> rfl
theorem hbv_key {v : Value} (n : Nat) (h : (∃ i t, v = Value.int i t) ∨ ∃ x t, v = Value.str x t) : ∃ b, hashByValue n v = pure b := by
  rcases h with ⟨i, t, rfl⟩ | ⟨x, t, rfl⟩ <;> cases n <;> exact ⟨_, rfl⟩
theorem cls_tup {k : List Key} {b : Addr} {Q : Bool → Shared → Prop} (hk : TIs P w s.heap k b) (h : Q false s) : wpAny (model P w) A (ofAClassStatement 8 (.ref b)) Q E s := by
  have hT := hk.typeIs
  obtain ⟨o, items, n, ho, _, hd, hi⟩ := hk
  unfold ofAClassStatement
  refine wpAny_bind (wpAny_typeOf hT ?_)
  have et : (("tuple" : String) == "tuple") = true := by decide
  simp only [et, if_true, Bool.not_true, Bool.false_eq_true, if_false]
  show wpAny _ _ (seqItems? (.ref b) >>= _) _ _ s
  refine wpAny_bind (wpAny_seqItems ho hd (wpAny_bind ?_))
  show wpAny _ _ (forIn items _ _) _ _ s
  rw [← Array.forIn_toList]
  refine wpAny_forIn_list _ (fun rest r s' => r.1 = none ∧ s' = s ∧ ∀ v ∈ rest, (∃ i t, v = Value.int i t) ∨ ∃ x t, v = Value.str x t) _ ?_ ?_ _ _ ⟨rfl, rfl, items_key hi⟩
  · rintro v rest r s' ⟨hr, rfl, hall⟩
    rw [cls_key _ (hall v List.mem_cons_self)]
    refine wpAny_bind (wpAny_pure ?_)
    simp only [Bool.false_eq_true, if_false]
    exact wpAny_pure ⟨rfl, rfl, fun u hu' => hall u (List.mem_cons_of_mem _ hu')⟩
  · rintro ⟨r1, r2⟩ s' ⟨hr, rfl, _⟩
    cases hr
    exact wpAny_pure h
theorem hbv_tup {k : List Key} {b : Addr} {Q : Bool → Shared → Prop} (hk : TIs P w s.heap k b) (h : ∀ c, Q c s) : wpAny (model P w) A (hashByValue 8 (.ref b)) Q E s := by
  have hT := hk.typeIs
  obtain ⟨o, items, n, ho, _, hd, hi⟩ := hk
  unfold hashByValue
  refine wpAny_bind (wpAny_specialOf hT F.slot_tuple_hash.lookup ?_)
  show wpAny _ _ (seqItems? (.ref b) >>= _) _ _ s
  refine wpAny_bind (wpAny_seqItems ho hd (wpAny_bind ?_))
  show wpAny _ _ (forIn items _ _) _ _ s
  rw [← Array.forIn_toList]
  refine wpAny_forIn_list _ (fun rest r s' => r.1 = none ∧ s' = s ∧ ∀ v ∈ rest, (∃ i t, v = Value.int i t) ∨ ∃ x t, v = Value.str x t) _ ?_ ?_ _ _ ⟨rfl, rfl, items_key hi⟩
  · rintro v rest r s' ⟨hr, rfl, hall⟩
    obtain ⟨c, e⟩ := hbv_key (v := v) 7 (hall v List.mem_cons_self)
    rw [e]
    refine wpAny_bind (wpAny_pure ?_)
    cases c with
    | true =>
      simp only [Bool.not_true, Bool.false_eq_true, if_false]
      exact wpAny_pure ⟨rfl, rfl, fun u hu' => hall u (List.mem_cons_of_mem _ hu')⟩
    | false =>
      simp only [Bool.not_false, if_true]
      exact wpAny_pure (wpAny_pure (h false))
  · rintro ⟨r1, r2⟩ s' ⟨hr, rfl, _⟩
    cases hr
    exact wpAny_pure (h true)
/-- a search among such tuples is seen by nobody -/
theorem quiet_tups {k : List Key} {b : Addr} {Q : Bool → Shared → Prop} (hk : TIs P w s.heap k b) {ys : List Value} (hy : ∀ y ∈ ys, ∃ k' c, y = Value.ref c ∧ TIs P w s.heap k' c) (h : Q false s) :
    wpAny (model P w) A (searchCouldBeSeen (.ref b) ys) Q E s := by
  unfold searchCouldBeSeen
  refine wpAny_bind (wpAny_forIn_list _ (fun rest r s' => r.1 = none ∧ s' = s ∧ ∀ y ∈ rest, ∃ k' c, y = Value.ref c ∧ TIs P w s.heap k' c) _ ?_ ?_ _ _ ⟨rfl, rfl, hy⟩)
  · rintro v rest r s' ⟨_, rfl, hall⟩
    obtain ⟨k', c, rfl, hc⟩ := hall v List.mem_cons_self
    have more : ∀ y ∈ rest, ∃ k' c, y = Value.ref c ∧ TIs P w s'.heap k' c := fun u hu' => hall u (List.mem_cons_of_mem _ hu')
    dsimp only
    refine wpAny_ite_split (fun _ => wpAny_pure ⟨rfl, rfl, more⟩) fun _ => ?_
    refine wpAny_bind (wpAny_eqIsQuiet_tuple hk ?_)
    simp only [Bool.not_true, Bool.false_eq_true, if_false]
    refine wpAny_bind (wpAny_eqIsQuiet_tuple hc ?_)
    simp only [Bool.not_true, Bool.false_eq_true, if_false]
    refine wpAny_bind (cls_tup hk ?_)
    simp only [Bool.false_eq_true, if_false]
    refine wpAny_bind (cls_tup hc ?_)
    simp only [Bool.false_eq_true, if_false]
    exact wpAny_pure ⟨rfl, rfl, more⟩
  · rintro ⟨r1, r2⟩ s' ⟨hr, rfl, _⟩
    cases hr
    exact wpAny_pure h

abbrev rowT (P : Program) (w : World) (p : Addr × List Key) : Int × Value := (tkh P w p.2, Value.ref p.1)
/-- the set at a holds the tuples L (their addresses and items), in the table's order -/
structure TSet (P : Program) (w : World) (h : Heap) (a : Addr) (L : List (Addr × List Key)) (es : Array (Int × Value)) (ep : Nat) (t : SetTable) : Prop where
  ob : ∃ o, h.get? a = some o ∧ o.ExactSet ∧ o.data = .set es ep t
  rows : es.toList = L.map (rowT P w)
  tab : TabOk t (L.map fun p => tkh P w p.2)
  nd : (L.map (·.2)).Nodup
  tup : ∀ p ∈ L, TIs P w h p.2 p.1
  room : L.length * 5 < t.mask * 3
  few : L.length < 64
variable {a : Addr} {L : List (Addr × List Key)} {es : Array (Int × Value)} {ep : Nat} {t : SetTable}
theorem rows_size (h : es.toList = L.map (rowT P w)) : es.size = L.length := by
  rw [← Array.length_toList, h, List.length_map]
theorem rows_get (h : es.toList = L.map (rowT P w)) {i : Nat} {p : Addr × List Key} (hp : L[i]? = some p) : es[i]? = some (rowT P w p) := by
  rw [← Array.getElem?_toList, h, List.getElem?_map, hp] <;> rfl
theorem fits_of (hp : t.place.size = es.size) (hd : t.dummies = #[]) (hm : es.size ≤ t.mask) : t.fits es.size = true := by
  unfold SetTable.fits SetTable.fill
  simp [hd, hp, hm]
theorem TSet.fits (R : TSet P w s.heap a L es ep t) : t.fits es.size = true := by
  have h1 := R.tab.sz
  rw [List.length_map] at h1
  have h2 := rows_size R.rows
  have h3 := R.room
  exact fits_of (by omega) R.tab.dm (by omega)
theorem TSet.stays (R : TSet P w s.heap a L es ep t) : ¬ t.gaveWay = true := by
  unfold SetTable.gaveWay
  rw [mask_odd R.tab.mok]
  decide
/-- the probe that stands at the c-th step of the way of h -/
abbrev at' (m : Nat) (h : Int) (c : Nat) : SetTable.Probe := nth m (runAt m (SetTable.bits h % (m + 1)) (SetTable.bits h)) c
theorem at'_clean (m : Nat) (h : Int) (c : Nat) : (at' m h c).dummy = none := by
  have key : ∀ (n : Nat) (p : SetTable.Probe), p.dummy = none → (nth m p n).dummy = none := by
    intro n
    induction n with
    | zero => exact fun p h => h
    | succ n ih =>
      refine fun p h => ih (adv m p) ?_
      unfold adv
      split <;> exact h
  exact key c _ rfl
theorem at'_add (m : Nat) (h : Int) (c q : Nat) : nth m (at' m h c) q = at' m h (c + q) := (nth_add m c _ q).symm
theorem tset_find (R : TSet P w s.heap a L es ep t) {x : Addr} {k : List Key} (hx : TIs P w s.heap k x) (hu : A.units < cLine) {K : Nat} (hKf : K < 10 * SetTable.turns t.mask)
    (hK : way t.mask (tkh P w k) K ∉ t.place.toList) (hKb : ∀ c, c < K → way t.mask (tkh P w k) c ∈ t.place.toList) {Q : SetFound → Shared → Prop}
    (hin : k ∈ L.map (·.2) → Q (.there none) s) (hout : k ∉ L.map (·.2) → Q (.free (way t.mask (tkh P w k) K) false) s) :
    ∀ (f c : Nat) (from_ : Option SetTable.Probe), from_.getD (t.probeStart (tkh P w k)) = at' t.mask (tkh P w k) c → c ≤ K → K - c < f →
      (∀ (i : Nat) p, L[i]? = some p → p.2 = k → ∃ c', c ≤ c' ∧ c' < K ∧ t.place.toList[i]? = some (way t.mask (tkh P w k) c')) →
      wpAny (model P w) A (setSearchFrom a (.ref x) (tkh P w k) true f from_) Q E s := by
  intro f
  induction f with
  | zero => exact fun c from_ _ _ hf _ => absurd hf (Nat.not_lt_zero _)
  | succ f ih =>
    intro c from_ hst hc hf ahead
    generalize hm : tkh P w k = hh at *
    obtain ⟨o, ho, hex, hd⟩ := R.ob
    rw [setSearchFrom_succ]
    refine wpAny_bind (wpAny_setState_of ho hd R.fits ?_)
    dsimp only
    refine wp_if_neg R.stays ?_
    have jat : ∀ q, (nth t.mask (at' t.mask hh c) q).j = way t.mask hh (c + q) := fun q => congrArg SetTable.Probe.j (at'_add t.mask hh c q)
    have spec := go_spec t R.tab.ris R.tab.dm (fun i => (es[i]?.map (·.1)).getD 0) hh (10 * SetTable.turns t.mask) (K - c) _ (at'_clean t.mask hh c) (by omega)
      (fun q hq => by rw [jat]; exact hKb (c + q) (by omega)) (by rw [jat, Nat.add_sub_cancel' hc]; exact hK)
    have hashAt : ∀ (i : Nat) p, L[i]? = some p → (fun i => (es[i]?.map (·.1)).getD 0) i = tkh P w p.2 := fun i p hp => by
      show (es[i]?.map (·.1)).getD 0 = _
      rw [rows_get R.rows hp] <;> rfl
    have prb : t.probe (fun i => (es[i]?.map (·.1)).getD 0) hh (from_.getD (t.probeStart hh)) = SetTable.probe.go t (fun i => (es[i]?.map (·.1)).getD 0) hh (10 * SetTable.turns t.mask) (at' t.mask hh c) := by
      rw [hst] <;> rfl
    rcases spec with ⟨q, i, hq, hi, _, hno, hpr⟩ | ⟨hno, hpr⟩
    · rw [prb, hpr]
      dsimp only
      rw [jat, at'_add]
      rw [jat] at hi
      have hil : i < L.length := by
        have h1 : i < t.place.toList.length := (List.getElem?_eq_some_iff.mp hi).1
        have h2 := R.tab.sz
        rw [List.length_map] at h2
        rw [Array.length_toList] at h1
        omega
      obtain ⟨p, hp⟩ : ∃ p, L[i]? = some p := ⟨_, List.getElem?_eq_getElem hil⟩
      have hmem : p ∈ L := List.mem_of_getElem? hp
      have rest : wpAny (model P w) A (searchRest a (.ref x) hh true f es t (way t.mask hh (c + q)) i (at' t.mask hh (c + (q + 1)))) Q E s := by
        unfold searchRest
        rw [rows_get R.rows hp]
        dsimp only
        refine wpAny_bind (wpAny_holding (wpAny_eqBool_tuple hu (R.tup p hmem) hx ?_))
        refine wpAny_bind (wpAny_setState_of ho hd R.fits ?_)
        dsimp only
        by_cases hkk : p.2 = k
        · exact wp_if_pos (by simp [hkk]) (wpAny_pure (hin (List.mem_map.mpr ⟨p, hmem, hkk⟩)))
        · refine wp_if_neg (by simp [hkk]) ?_
          rw [sameMem]
          have hsl : t.slot (way t.mask hh (c + q)) = .live i := slot_live R.tab.ris hi
          simp only [if_true, hsl, rows_get R.rows hp]
          refine wpAny_bind (wpAny_isSame_ref_self (wpAny_bind (wpAny_pure ?_)))
          simp only [if_true]
          refine wp_if_neg (by simp [hkk]) ?_
          refine ih (c + (q + 1)) _ rfl (by omega) (by omega) fun i0 p0 h0 hk0 => ?_
          obtain ⟨c', a1, a2, a3⟩ := ahead i0 p0 h0 hk0
          refine ⟨c', ?_, a2, a3⟩
          rcases Nat.lt_trichotomy c' (c + q) with z | z | z
          · refine absurd ?_ (hno (c' - c) i0 (by omega) (by rw [jat, Nat.add_sub_cancel' a1]; exact a3))
            exact (hashAt i0 p0 h0).trans ((congrArg (tkh P w) hk0).trans hm)
          · rw [z] at a3
            have s0 := slot_live R.tab.ris a3
            rw [hsl] at s0
            injection s0 with s0
            rw [← s0, hp] at h0
            exact absurd ((congrArg Prod.snd (Option.some.inj h0)).trans hk0) hkk
          · omega
      refine wpAny_ite_split (fun _ => ?_) fun _ => rest
      refine wpAny_bind (quiet_tups hx (fun y hy => ?_) ?_)
      · obtain ⟨e, he, rfl⟩ := List.mem_map.mp hy
        have he2 : e ∈ es.toList := by simpa using (Array.mem_filter.mp (Array.mem_toList_iff.mp he)).1
        rw [R.rows] at he2
        obtain ⟨p2, hp2, rfl⟩ := List.mem_map.mp he2
        exact ⟨p2.2, p2.1, rfl, R.tup p2 hp2⟩
      · exact wp_if_neg (by decide) rest
    · rw [prb, hpr]
      dsimp only
      rw [jat, Nat.add_sub_cancel' hc]
      refine wpAny_pure (hout fun hmm => ?_)
      obtain ⟨p0, h0, hk0⟩ := List.mem_map.mp hmm
      obtain ⟨i0, hi0⟩ := List.getElem?_of_mem h0
      obtain ⟨c', a1, a2, a3⟩ := ahead i0 p0 hi0 hk0
      refine absurd ?_ (hno (c' - c) i0 (by omega) (by rw [jat, Nat.add_sub_cancel' a1]; exact a3))
      exact (hashAt i0 p0 hi0).trans ((congrArg (tkh P w) hk0).trans hm)

theorem tset_search (R : TSet P w s.heap a L es ep t) {x : Addr} {k : List Key} (hx : TIs P w s.heap k x) (hu : A.units < cLine) {Q : SetFound → Shared → Prop}
    (hin : k ∈ L.map (·.2) → Q (.there none) s)
    (hout : ∀ K, k ∉ L.map (·.2) → way t.mask (tkh P w k) K ∉ t.place.toList → (∀ c, c < K → way t.mask (tkh P w k) c ∈ t.place.toList) → Q (.free (way t.mask (tkh P w k) K) false) s) :
    wpAny (model P w) A (setSearch a (.ref x) (tkh P w k) true) Q E s := by
  have hroom := R.room
  have hsz := R.tab.sz
  rw [List.length_map] at hsz
  obtain ⟨K, hKf, hK, hKb⟩ := R.tab.first (by rw [List.length_map]; omega) (tkh P w k)
  have hbig : K < 100000 := by
    have : 10 * SetTable.turns t.mask ≤ 1420 := by
      unfold SetTable.turns
      rcases R.tab.mok with e | e | e <;> omega
    omega
  refine tset_find R hx hu hKf hK hKb hin (fun hn => hout K hn hK hKb) 100000 0 none rfl (Nat.zero_le _) (by omega) fun i p hp hk => ?_
  have hil : i < t.place.toList.length := by
    have h1 : i < L.length := (List.getElem?_eq_some_iff.mp hp).1
    rw [Array.length_toList]
    omega
  have hj := List.getElem?_eq_getElem hil
  obtain ⟨c, hc, e⟩ := R.tab.before (h := tkh P w k) hK (by rw [List.getElem?_map, hp, ← hk] <;> rfl) hj
  exact ⟨c, Nat.zero_le _, hc, by rw [hj, e]⟩
theorem tis_apart {h h' : Heap} {k : List Key} {b : Addr} {o : Obj} (hb : TIs P w h k b) (ho : h.get? a = some o) (hd : o.data = .set es ep t) (hs : Heap.SameBut a h h') : TIs P w h' k b := by
  obtain ⟨o', items, n, ho', hc, hd', hi⟩ := hb
  refine ⟨o', items, n, (hs.2 b ?_).trans ho', hc, hd', hi⟩
  rintro rfl
  cases Option.some.inj (ho'.symm.trans ho)
  rw [hd] at hd'
  exact nomatch hd'
theorem pick_range {α : Type} (l : List α) : (List.range l.length).filterMap (fun i => l[i]?) = l := by
  induction l with
  | nil => rfl
  | cons x l ih =>
    rw [List.length_cons, List.range_succ_eq_map, List.filterMap_cons_some (b := x) (by rfl), List.filterMap_map]
    exact congrArg (x :: ·) ih
theorem pick_rows (hr : es.toList = L.map (rowT P w)) : ∀ l : List Nat, (∀ i ∈ l, i < L.length) →
    l.filterMap (fun i => es[i]?) = (l.filterMap fun i => L[i]?).map (rowT P w) ∧ (l.filterMap fun i => L[i]?).map (fun p => tkh P w p.2) = l.map fun i => (es.map (·.1)).getD i 0
  | [], _ => ⟨rfl, rfl⟩
  | i :: l, hl => by
    have hi := hl i List.mem_cons_self
    obtain ⟨e1, e2⟩ := pick_rows hr l fun j hj => hl j (List.mem_cons_of_mem _ hj)
    have g := rows_get hr (List.getElem?_eq_getElem hi)
    have g2 : (es.map (·.1)).getD i 0 = tkh P w (L[i]).2 := by
      have e5 : (es.map (·.1))[i]? = some (tkh P w (L[i]).2) := by rw [Array.getElem?_map, g] <;> rfl
      simp [Array.getD_eq_getD_getElem?, e5]
    rw [List.filterMap_cons_some g, List.filterMap_cons_some (List.getElem?_eq_getElem hi), List.map_cons, List.map_cons, List.map_cons, e1, e2, g2]
    exact ⟨rfl, rfl⟩
theorem tset_relay {o : Obj} (ho : s.heap.get? a = some o) (hex : o.ExactSet) (hd : o.data = .set es ep t) (hrows : es.toList = L.map (rowT P w)) (hsz : t.place.size = es.size) (hdm : t.dummies = #[]) (hfl : es.size ≤ t.mask)
    (nd : (L.map (·.2)).Nodup) (tup : ∀ p ∈ L, TIs P w s.heap p.2 p.1) (few : L.length < 64) {wanted M : Nat}
    (hw : SetTable.sizeAbove wanted - 1 = M) (hM : MaskOk M) (hw2 : SetTable.sizeAbove wanted ≤ 128) (hn : L.length * 5 < M * 3) {Q : Unit → Shared → Prop}
    (hQ : ∀ h' L' es' ep' t', Heap.SameBut a s.heap h' → TSet P w h' a L' es' ep' t' → L'.Perm L → Q () { s with heap := h' }) : wpAny (model P w) A (setRelay a wanted) Q E s := by
  have hsl := rows_size hrows
  obtain ⟨t', order, e, hp, T, em, el, ep', ed⟩ := relaid_ok t (hs := es.map (·.1)) (wanted := wanted) hw hM (by rw [Array.size_map, hsl]; omega)
  rw [Array.size_map, hsl] at hp
  obtain ⟨r1, r3⟩ := pick_rows hrows order.toList fun i hi => List.mem_range.mp (hp.mem_iff.mp hi)
  have r2 : (order.toList.filterMap fun i => L[i]?).Perm L := by
    have h1 := hp.filterMap (fun i => L[i]?)
    rwa [pick_range] at h1
  rw [← r3] at T
  generalize order.toList.filterMap (fun i => L[i]?) = L2 at *
  have r0 : (order.filterMap (es[·]?)).toList = L2.map (rowT P w) := by rw [Array.toList_filterMap]; exact r1
  have hs2 : (order.filterMap (es[·]?)).size = es.size := by rw [rows_size r0, r2.length_eq, hsl]
  rw [setRelay_eq]
  refine wpAny_bind (wpAny_setState_of ho hd (fits_of hsz hdm hfl) ?_)
  dsimp only
  refine wp_if_neg (by rw [sizeLine_eq]; omega) ?_
  rw [e]
  dsimp only
  refine wpAny_bind (wp_if_neg (by rw [hs2]; simp) (wpAny_pure ?_))
  dsimp only
  refine wpAny_storeSet_of ho hd ?_ (by rw [hs2, hsl, sizeLine_eq]; omega)
  have sb : Heap.SameBut a s.heap (s.heap.update a (Obj.putSet (order.filterMap (es[·]?)) t')) := Heap.SameBut.update ..
  refine hQ _ L2 (order.filterMap (es[·]?)) (ep + 1) t' sb ⟨⟨_, store_at ho hd, ⟨hex.1, hex.2.1, hex.2.2⟩, rfl⟩, r0, T, (r2.map (·.2)).nodup_iff.mpr nd, fun p hpm => tis_apart (tup p (r2.mem_iff.mp hpm)) ho hd sb, ?_, by rw [r2.length_eq]; exact few⟩ r2
  rw [r2.length_eq, em]
  exact hn
theorem tset_add (R : TSet P w s.heap a L es ep t) {x : Addr} {k : List Key} (hx : TIs P w s.heap k x) (hu : A.units < cLine) (hfew : L.length + 1 < 64) {Q : Bool → Shared → Prop}
    (hQ : ∀ b h' L' es' ep' t', Heap.SameBut a s.heap h' → TSet P w h' a L' es' ep' t' → (k ∈ L.map (·.2) → L' = L) → (k ∉ L.map (·.2) → L'.Perm ((x, k) :: L)) → Q b { s with heap := h' }) :
    wpAny (model P w) A (setAddHashed a (.ref x) (tkh P w k)) Q E s := by
  obtain ⟨o, ho, hex, hd⟩ := R.ob
  have hsl := rows_size R.rows
  have hroom := R.room
  unfold setAddHashed
  refine wpAny_holding ?_
  rw [show (100000 : Nat) = 99999 + 1 from rfl, setAddHashedIn_succ]
  refine wpAny_bind (wpAny_setState_of ho hd R.fits ?_)
  dsimp only
  refine wp_if_neg (by simp [byScan, Value.scannable]) ?_
  refine wpAny_bind (tset_search R hx hu (fun hm => wpAny_pure (hQ false s.heap L es ep t (Heap.SameBut.refl a s.heap) R (fun _ => rfl) fun z => absurd hm z)) fun K hm hK hb => ?_)
  dsimp only
  refine wpAny_bind (wpAny_setState_of ho hd R.fits ?_)
  dsimp only
  obtain ⟨q1, q2, q3, q4, q5, q6, q7, q8, q9⟩ := R.tab.put hK hb
  generalize hpt : t.put (way t.mask (tkh P w k) K) = pt at q1 q3 q4 q5 q6 q7 q8 q9 ⊢
  obtain ⟨t1, p⟩ := pt
  dsimp only at q1 q3 q4 q5 q6 q7 q8 q9 ⊢
  generalize hpp : SetTable.below t.place (way t.mask (tkh P w k) K) = p' at q1 q2 q3
  subst q1
  rw [List.length_map] at q9
  have hin : (SetTable.insertAt es p (tkh P w k, Value.ref x)).toList = (L.take p ++ (x, k) :: L.drop p).map (rowT P w) := by
    rw [SetTable.toList_insertAt, R.rows, List.map_append, List.map_cons, List.map_take, List.map_drop]
  have pm : (L.take p ++ (x, k) :: L.drop p).Perm ((x, k) :: L) := put_perm L p (x, k)
  have hhs : (L.map fun p => tkh P w p.2).take p ++ tkh P w k :: (L.map fun p => tkh P w p.2).drop p = (L.take p ++ (x, k) :: L.drop p).map (fun p => tkh P w p.2) := by
    rw [List.map_append, List.map_cons, List.map_take, List.map_drop]
  rw [hhs] at q3
  generalize SetTable.insertAt es p (tkh P w k, Value.ref x) = es1 at hin ⊢
  generalize L.take p ++ (x, k) :: L.drop p = L1 at pm q3 hin
  have hlen : L1.length = L.length + 1 := pm.length_eq
  have hes : es1.size = L.length + 1 := by rw [rows_size hin, hlen]
  have nd1 : (L1.map (·.2)).Nodup := (pm.map (·.2)).nodup_iff.mpr (List.nodup_cons.mpr ⟨hm, R.nd⟩)
  -- whatever the table is marked with, the same goes on
  have tail : ∀ t2 : SetTable, TabOk t2 (L1.map fun p => tkh P w p.2) → t2.mask = t.mask → t2.fill = L.length + 1 →
      wpAny (model P w) A (do storeSet a es1 t2; if (!false && t2.tooFull) = true then do { let _ ← setRelay a (SetTable.grown (es.size + 1)); pure true } else pure true) Q E s := by
    intro t2 T2 em ef
    refine wpAny_bind (wpAny_storeSet_of ho hd ?_ (by rw [hes, sizeLine_eq]; omega))
    have sb : Heap.SameBut a s.heap (s.heap.update a (Obj.putSet es1 t2)) := Heap.SameBut.update ..
    have ho1 := store_at (es' := es1) (t' := t2) ho hd
    generalize s.heap.update a (Obj.putSet es1 t2) = h1 at sb ho1 ⊢
    have tup1 : ∀ p ∈ L1, TIs P w h1 p.2 p.1 := fun p hp => by
      rcases List.mem_cons.mp (pm.mem_iff.mp hp) with e | hp
      · rw [e]; exact tis_apart hx ho hd sb
      · exact tis_apart (R.tup p hp) ho hd sb
    by_cases hf : t2.tooFull = true
    · have hfull : (L.length + 1) * 5 ≥ t2.mask * 3 := by
        have h := hf
        unfold SetTable.tooFull at h
        rw [decide_eq_true_eq, ef] at h
        exact h
      have two : (t.mask = 7 ∧ L.length = 4) ∨ (t.mask = 31 ∧ L.length = 18) := by
        rw [em] at hfull
        rcases R.tab.mok with e | e | e
        · left; rw [e] at hfull hroom; exact ⟨e, by omega⟩
        · right; rw [e] at hfull hroom; exact ⟨e, by omega⟩
        · exfalso; rw [e] at hfull; omega
      refine wp_if_pos (by simp [hf]) (wpAny_bind ?_)
      have sz2 : t2.place.size = es1.size := by rw [T2.sz, List.length_map, hlen, hes]
      have go : ∀ M, SetTable.sizeAbove (SetTable.grown (L.length + 1)) - 1 = M → MaskOk M → SetTable.sizeAbove (SetTable.grown (L.length + 1)) ≤ 128 → (L.length + 1) * 5 < M * 3 →
          wpAny (model P w) A (setRelay a (SetTable.grown (es.size + 1))) (fun _ s' => wpAny (model P w) A (pure true) Q E s') E { s with heap := h1 } := fun M g1 g2 g3 g4 => by
        rw [hsl]
        refine tset_relay (s := { s with heap := h1 }) ho1 ⟨hex.1, hex.2.1, hex.2.2⟩ rfl hin sz2 T2.dm (by rw [hes, em]; rcases two with ⟨e, e2⟩ | ⟨e, e2⟩ <;> omega) nd1 tup1 (by rw [hlen]; exact hfew) g1 g2 g3 (by rw [hlen]; exact g4) ?_
        intro h2 L2 es2 ep2 t3 sb2 R2 pm2
        exact wpAny_pure (hQ true h2 L2 es2 ep2 t3 (sb.trans sb2) R2 (fun z => absurd z hm) fun _ => pm2.trans pm)
      rcases two with ⟨_, e2⟩ | ⟨_, e2⟩
      · exact go 31 (by rw [e2, size_20]) (.inr (.inl rfl)) (by rw [e2, size_20]; decide) (by omega)
      · exact go 127 (by rw [e2, size_76]) (.inr (.inr rfl)) (by rw [e2, size_76]; decide) (by omega)
    · refine wp_if_neg (by simp [hf]) ?_
      refine wpAny_pure (hQ true h1 L1 es1 (ep + 1) t2 sb ⟨⟨_, ho1, ⟨hex.1, hex.2.1, hex.2.2⟩, rfl⟩, hin, T2, nd1, tup1, ?_, by rw [hlen]; exact hfew⟩ (fun z => absurd z hm) fun _ => pm)
      have h := hf
      unfold SetTable.tooFull at h
      rw [decide_eq_true_eq, ef] at h
      rw [hlen]
      omega
  have tail1 := tail t1 q3 q4 q9
  have tail2 := tail { t1 with plain := false } ⟨q3.ris, q3.dm, q3.sz, q3.mok, q3.bd, q3.reach⟩ q4 q9
  refine wpAny_ite_split (fun _ => wpAny_bind (hbv_tup hx fun c => ?_)) fun _ => wpAny_bind (wpAny_pure ?_)
  · cases c with
    | true => exact tail1
    | false => exact tail2
  · exact tail1
end
end Rs
set_option Elab.async false
set_option linter.all false
set_option maxRecDepth 100000
set_option maxHeartbeats 2000000
/-! Sets of tuples as objects of the abstract heap: empty, adding, len; len of sets of texts. -/
namespace Rs
open PySem PySem.Spec PyProof.Rows L2
structure TSet0 (P : Program) (w : World) (h : Heap) (a : Addr) (L : List (Addr × List Key)) : Prop where
  ex : ∃ (es : Array (Int × Value)) (ep : Nat) (t : SetTable), (∃ o, h.get? a = some o ∧ o.ExactSet ∧ o.data = .set es ep t) ∧ es.toList = L.map (rowT P w) ∧ TabOk t (L.map fun p => tkh P w p.2) ∧ (L.map (·.2)).Nodup ∧
    L.length * 5 < t.mask * 3 ∧ L.length < 64
def SetT (P : Program) (w : World) (a : Addr) (L : List (Addr × List Key)) : HO := .ext fun h => TSet0 P w h a L
section
variable {P : Program} {w : World} {h h' : Heap} {a : Addr} {L : List (Addr × List Key)}
theorem TSet.zero {es : Array (Int × Value)} {ep : Nat} {t : SetTable} (R : TSet P w h a L es ep t) : TSet0 P w h a L := ⟨es, ep, t, R.ob, R.rows, R.tab, R.nd, R.room, R.few⟩
theorem TSet0.full (R : TSet0 P w h a L) (ht : ∀ p ∈ L, TIs P w h p.2 p.1) : ∃ es ep t, TSet P w h a L es ep t := by
  obtain ⟨es, ep, t, h1, h2, h3, h4, h7, h8⟩ := R.ex
  exact ⟨es, ep, t, h1, h2, h3, h4, ht, h7, h8⟩
theorem setT_new {H : Hp} (R : TSet0 P w h a L) : ObjOk P w H h a (SetT P w a L) := by
  obtain ⟨es, ep, t, ⟨o, ho, _⟩, _⟩ := R.ex
  refine ⟨R, ⟨o, ho⟩, fun h1 h2 p k => ?_⟩
  obtain ⟨es', ep', t', ⟨o', ho', r'⟩, q'⟩ := TSet0.ex p
  exact ⟨es', ep', t', ⟨o', k o' ho', r'⟩, q'⟩
theorem tab0 (f m : Nat) (l : Bool) (hm : (SetTable.fresh f m l).mask = 7) (hp : (SetTable.fresh f m l).place = #[]) (hd : (SetTable.fresh f m l).dummies = #[]) : TabOk (SetTable.fresh f m l) [] where
  ris := by rw [hp]; exact (by first | exact List.Pairwise.nil | (intro i j x y h1; simp at h1) | simp [Ris])
  dm := hd
  sz := by rw [hp]; rfl
  mok := .inl hm
  bd := by rw [hp]; intro x hx; simp at hx
  reach := by intro i h j e; simp at e
theorem setT_lay (H : Hp) (h : Heap) : ObjOk P w H (h.push (set0 w)) h.objs.size (SetT P w h.objs.size []) :=
  setT_new ⟨_, _, _, ⟨_, Heap.get?_push_size _ rfl, ⟨rfl, rfl, rfl⟩, rfl⟩, rfl, tab0 _ _ _ rfl rfl rfl, List.nodup_nil, (by show 0 * 5 < 7 * 3; decide), (by decide)⟩
end
section
variable {X : Cx}
theorem items_keys {P : Program} {w : World} : ∀ {k : List Key} {us : List Value}, Vals (k.map kV) us → PySem.ItemsAre (mixKind P w) k us
  | [], _, .nil => .nil
  | n :: k, _, .cons r t => .cons (kV_is r) (items_keys t)
theorem inv_tis {pins : List (Addr × Obj)} {σ : L2.St} {H : Hp} {s : Shared} {b : Addr} {k : List Key} (I : L2.Inv X pins σ H s) (h : SqT X.K H b (k.map kV)) : TIs X.prog X.w s.heap k b := by
  obtain ⟨its, r, ⟨o, ho, hc, n, hd⟩, _⟩ := I.tuple h
  exact ⟨o, its.toArray, n, ho, hc, hd, by simpa using items_keys r⟩
theorem setT_get {pins : List (Addr × Obj)} {σ : L2.St} {H : Hp} {s : Shared} {a : Addr} {L : List (Addr × List Key)} (I : L2.Inv X pins σ H s) (ha : H a = some (SetT X.prog X.w a L)) (ht : ∀ p ∈ L, SqT X.K H p.1 (p.2.map kV)) :
    ∃ es ep t, TSet X.prog X.w s.heap a L es ep t := (show TSet0 X.prog X.w s.heap a L from (I.hok a _ ha).1).full fun p hp => inv_tis I (ht p hp)
/-- adding a tuple of keys -/
def rAddT (K : PySem.W.Frag) (P : Program) (w : World) : V → List V → Hp → VK → Prop := fun x xs H Q => ∃ (a b : Addr) (k : List Key) (L : List (Addr × List Key)), x = V.ref a ∧ xs = [.ref b] ∧ H a = some (SetT P w a L) ∧ SqT K H b (k.map kV) ∧
  (∀ p ∈ L, SqT K H p.1 (p.2.map kV)) ∧ L.length + 1 < 64 ∧ ∀ L', (k ∈ L.map (·.2) → L' = L) → (k ∉ L.map (·.2) → L'.Perm ((b, k) :: L)) → Q .non (upd H a (SetT P w a L'))
theorem mt_addT (hu : X.A.units + 1 < cLine) : MtR X "set.add" (rAddT X.K X.prog X.w) := by
  intro pins s σ H x xs v us Q I rx rxs h
  obtain ⟨a, b, k, L, rfl, rfl, ha, hb, hL, few, q⟩ := h
  cases rx
  cases rxs with
  | cons ry rt =>
    cases rt
    cases ry
    obtain ⟨es, ep, t, R⟩ := setT_get I ha hL
    obtain ⟨o, ho, hex, hd⟩ := R.ob
    have hT : s.TypeIs (.ref a) "set" := ⟨o, ho, hex.1⟩
    refine wpAny_call_entry F.slot_set_add hT F.entry_set_add ?_ (F.args_set_add_2 _ _)
    unfold Builtin.«set.add» Builtin.Frozenset.oneOther
    simp only [List.isEmpty_nil, bind_assoc]
    unfold Builtin.Frozenset.addrOf setAdd
    refine wpAny_bind (wpAny_pure ?_)
    refine wpAny_bind (wpAny_pure (wpAny_bind (wpAny_holding ?_)))
    have hx := inv_tis I hb
    refine wpAny_bind (wpAny_pyHash_tuple (by show X.A.in1.units < cLine; exact hu) hx ?_)
    refine tset_add (s := { s with toks := s.toks + (k.length + 1) }) R hx (by show X.A.in1.units < cLine; exact hu) few fun b' h' L' es' ep' t' sb R' e1 e2 => ?_
    refine wpAny_pure ⟨Value.none, rfl, ?_⟩
    have he : ∃ u, h'.get? a = some u := let ⟨o, ho, _⟩ := R'.ob; ⟨o, ho⟩
    exact ⟨.non, upd H a (SetT X.prog X.w a L'), I.write (e := a) (t' := s.toks + (k.length + 1)) (by rw [ha]; trivial) (.inl rfl) (fun b u hb hu => (sb.2 b hb).trans hu) he (setT_new R'.zero), rfl, q L' e1 e2⟩
/-- len of such sets -/
def rLenSet (P : Program) (w : World) : List V → Hp → VK → Prop := fun xs H Q => ∃ a n, xs = [.ref a] ∧ ((∃ L, H a = some (SetT P w a L) ∧ n = L.length) ∨ ∃ S, H a = some (SetK P w a S n)) ∧ Q (.int (n : Nat)) H
theorem cr_lenSet : CallR X (.builtin "len") (rLenSet X.prog X.w) := by
  intro pins s σ H xs us Q I r h
  obtain ⟨a, n, rfl, hor, q⟩ := h
  rw [Vals.ref1 r]
  rcases hor with ⟨L, ha, rfl⟩ | ⟨S, ha⟩
  · obtain ⟨es, ep, t, ⟨o, ho, hex, hd⟩, hr, T, nd, room, few⟩ := (show TSet0 X.prog X.w s.heap a L from (I.hok a _ ha).1).ex
    have hz := rows_size hr
    have hs := T.sz
    rw [List.length_map] at hs
    refine call_len_set ho hex hd (fits_of (by omega) T.dm (by omega)) (by omega) ⟨.int (L.length : Nat), H, I.tok _, ⟨_, by rw [hz]⟩, q⟩
  · obtain ⟨o, es, ep, t, ho, hex, hd, _, _, hb, hf, rfl⟩ := setK_get I ha
    have : (scanBound : Int) < 2 ^ 63 := by decide
    refine call_len_set ho hex hd hf (by omega) ⟨.int (es.size : Nat), H, I.tok _, ⟨_, rfl⟩, q⟩
end
end Rs
set_option Elab.async false
set_option linter.all false
/-! Plain lists: sorting by a strict total order, texts and rows of texts in order. -/
namespace Rs
section
variable {α : Type} (lt : α → α → Bool)
/-- a strict total order, by Bool -/
structure Tot : Prop where
  irr : ∀ x, lt x x = false
  tr : ∀ x y z, lt x y = true → lt y z = true → lt x z = true
  tri : ∀ x y, lt x y = false → lt y x = false → x = y
def ins (x : α) : List α → List α
  | [] => [x]
  | y :: l => if lt y x = true then y :: ins x l else x :: y :: l
def isort : List α → List α
  | [] => []
  | x :: l => ins lt x (isort l)
abbrev Up (l : List α) : Prop := l.Pairwise fun x y => lt y x = false
variable {lt}
theorem ins_perm (x : α) : ∀ l, (ins lt x l).Perm (x :: l)
  | [] => List.Perm.refl _
  | y :: l => by
    unfold ins
    split
    · exact ((ins_perm x l).cons y).trans (List.Perm.swap x y l)
    · exact List.Perm.refl _
theorem isort_perm : ∀ l, (isort lt l).Perm l
  | [] => List.Perm.refl _
  | x :: l => (ins_perm x _).trans ((isort_perm l).cons x)
theorem Tot.asym (O : Tot lt) {x y : α} (h : lt x y = true) : lt y x = false := by
  cases e : lt y x with
  | false => rfl
  | true => have := O.tr x y x h e; rw [O.irr] at this; cases this
theorem Tot.le (O : Tot lt) {x y z : α} (h1 : lt y x = false) (h2 : lt z y = false) : lt z x = false := by
  cases e : lt z x with
  | false => rfl
  | true =>
    cases e2 : lt x y with
    | true => rw [O.tr z x y e e2] at h2; cases h2
    | false => rw [O.tri x y e2 h1, h2] at e; cases e
theorem ins_up (O : Tot lt) (x : α) : ∀ l, Up lt l → Up lt (ins lt x l)
  | [], _ => List.pairwise_singleton _ _
  | y :: l, h => by
    obtain ⟨hy, hl⟩ := List.pairwise_cons.mp h
    unfold ins
    split
    · next e =>
      refine List.pairwise_cons.mpr ⟨fun z hz => ?_, ins_up O x l hl⟩
      rcases List.mem_cons.mp ((ins_perm x l).mem_iff.mp hz) with rfl | hz
      · exact O.asym e
      · exact hy z hz
    · next e =>
      have e' : lt y x = false := by simpa using e
      refine List.pairwise_cons.mpr ⟨fun z hz => ?_, h⟩
      rcases List.mem_cons.mp hz with rfl | hz
      · exact e'
      · exact O.le e' (hy z hz)
theorem isort_up (O : Tot lt) : ∀ l, Up lt (isort lt l)
  | [] => List.Pairwise.nil
  | x :: l => ins_up O x _ (isort_up O l)
theorem up_uniq (O : Tot lt) : ∀ {l m : List α}, Up lt l → Up lt m → l.Perm m → l = m
  | [], m, _, _, p => (List.nil_perm.mp p).symm
  | x :: l, [], _, _, p => (List.perm_nil.mp p)
  | x :: l, y :: m, hl, hm, p => by
    obtain ⟨hx, hl'⟩ := List.pairwise_cons.mp hl
    obtain ⟨hy, hm'⟩ := List.pairwise_cons.mp hm
    have e : x = y := by
      have h1 : x ∈ y :: m := p.mem_iff.mp List.mem_cons_self
      have h2 : y ∈ x :: l := p.mem_iff.mpr List.mem_cons_self
      rcases List.mem_cons.mp h1 with h1 | h1
      · exact h1
      · rcases List.mem_cons.mp h2 with h2 | h2
        · exact h2.symm
        · exact O.tri x y (hy x h1) (hx y h2)
    subst e
    rw [up_uniq O hl' hm' (List.Perm.cons_inv p)]
theorem isort_of (O : Tot lt) {l m : List α} (h : Up lt l) (p : l.Perm m) : l = isort lt m := up_uniq O h (isort_up O m) (p.trans (isort_perm m).symm)
theorem isort_congr (O : Tot lt) {l m : List α} (p : l.Perm m) : isort lt l = isort lt m := isort_of O (isort_up O l) ((isort_perm l).trans p)
theorem mem_isort {x : α} {l : List α} : x ∈ isort lt l ↔ x ∈ l := (isort_perm l).mem_iff
theorem length_isort (l : List α) : (isort lt l).length = l.length := (isort_perm l).length_eq
theorem nodup_isort {l : List α} : (isort lt l).Nodup ↔ l.Nodup := (isort_perm l).nodup_iff
/-- by a key -/
theorem up_map {β : Type} {f : β → α} {l : List β} : Up (fun x y => lt (f x) (f y)) l ↔ Up lt (l.map f) := by
  unfold Up
  rw [List.pairwise_map]
end
open PySem
/-- lists by their first unlike element -/
def lex {α : Type} [DecidableEq α] (lt : α → α → Bool) : List α → List α → Bool
  | [], [] => false
  | [], _ :: _ => true
  | _ :: _, [] => false
  | x :: l, y :: m => if x = y then lex lt l m else lt x y
theorem lex_tot {α : Type} [DecidableEq α] {lt : α → α → Bool} (O : Tot lt) : Tot (lex lt) := by
  refine ⟨fun x => ?_, fun x => ?_, fun x => ?_⟩
  · induction x with
    | nil => rfl
    | cons a l ih => simp [lex, ih]
  · induction x with
    | nil =>
      intro y z h1 h2
      cases y with
      | nil => cases h1
      | cons b m =>
        cases z with
        | nil => cases h2
        | cons c n => rfl
    | cons a l ih =>
      intro y z h1 h2
      cases y with
      | nil => cases h1
      | cons b m =>
        cases z with
        | nil => cases h2
        | cons c n =>
          unfold lex at h1 h2 ⊢
          by_cases e1 : a = b
          · subst e1
            by_cases e2 : a = c
            · subst e2
              rw [if_pos rfl] at *
              exact ih m n h1 h2
            · rw [if_pos rfl] at h1
              rw [if_neg e2] at h2 ⊢
              exact h2
          · rw [if_neg e1] at h1
            by_cases e2 : b = c
            · subst e2
              rw [if_neg e1]
              exact h1
            · rw [if_neg e2] at h2
              have h3 := O.tr a b c h1 h2
              by_cases e3 : a = c
              · subst e3; rw [O.irr] at h3; cases h3
              · rw [if_neg e3]; exact h3
  · induction x with
    | nil =>
      intro y h1 h2
      cases y with
      | nil => rfl
      | cons b m => cases h1
    | cons a l ih =>
      intro y h1 h2
      cases y with
      | nil => cases h2
      | cons b m =>
        unfold lex at h1 h2
        by_cases e : a = b
        · subst e
          rw [if_pos rfl] at h1 h2
          rw [ih m h1 h2]
        · rw [if_neg e] at h1
          rw [if_neg (Ne.symm e)] at h2
          exact absurd (O.tri a b h1 h2) e
abbrev natLt (a b : Nat) : Bool := decide (a < b)
theorem natLt_tot : Tot natLt := ⟨fun x => by simp [natLt], fun x y z h1 h2 => by simp [natLt] at *; omega, fun x y h1 h2 => by simp [natLt] at *; omega⟩
/-- texts in order -/
def strLt (a b : Str) : Bool := lex natLt a.cps.toList b.cps.toList
theorem str_ext {a b : Str} (h : a.cps.toList = b.cps.toList) : a = b := by
  cases a; cases b; congr; exact Array.ext' h
theorem strLt_tot : Tot strLt := by
  have O := lex_tot natLt_tot
  exact ⟨fun x => O.irr _, fun x y z => O.tr _ _ _, fun x y h1 h2 => str_ext (O.tri _ _ h1 h2)⟩
theorem lex_nat (a b : List Nat) : lex natLt a b = decide (a < b) := by
  induction a generalizing b with
  | nil => cases b <;> simp [lex]
  | cons x l ih =>
    cases b with
    | nil => simp [lex]
    | cons y m =>
      unfold lex
      by_cases e : x = y
      · subst e; simp [ih]
      · rw [if_neg e]
        simp [natLt, List.cons_lt_cons_iff, e]
theorem strLt_eq (a b : Str) : strLt a b = decide (a.cps.toList < b.cps.toList) := lex_nat _ _
abbrev rowLt : List Str → List Str → Bool := lex strLt
theorem rowLt_tot : Tot rowLt := lex_tot strLt_tot
end Rs
set_option Elab.async false
set_option linter.all false
set_option maxRecDepth 100000
set_option maxHeartbeats 2000000
/-! sorted(..) of texts and of tuples of texts, any number of them: of a list, a tuple, a dict's keys. -/
namespace Rs
open PySem PySem.Spec PyProof.Rows L2 SrtO
section
variable {prog : Program} {w : World} {A : Around} {E : Value → Shared → Prop} {s : Shared}
def txtOf : Value → Str
  | .str x _ => x
  | _ => ⟨#[]⟩
theorem swo_of {α β : Type} {lt : α → α → Bool} (O : Tot lt) (f : β → α) : Swo fun x y => lt (f x) (f y) :=
  ⟨fun x y h => O.asym h, fun x y z h1 h2 => O.le h1 h2⟩
/-- texts are sortable -/
theorem sortable_txt {a : Addr} {vs : List Value} {ss : List Str} (h2 : 2 ≤ vs.length) (hS : StrsAre vs ss) : SortableO prog w A s a vs fun v u => strLt (txtOf v) (txtOf u) := by
  intro h' keep
  refine ⟨oneType', fun Q E hq => ?_, fun p q hp hq => ?_⟩
  · match vs, h2, hS with
    | v1 :: v2 :: r, _, hS =>
      rw [keyKind_strs hS]
      exact wpAny_pure hq
  · have st : ∀ (us : List Value) (ts : List Str), StrsAre us ts → ∀ v ∈ us, ∃ x t, v = Value.str x t := by
      intro us ts h
      induction h with
      | nil => intro v hv; cases hv
      | cons x t _ ih =>
        intro v hv
        rcases List.mem_cons.mp hv with rfl | hv
        · exact ⟨_, _, rfl⟩
        · exact ih v hv
    obtain ⟨x, t, ex⟩ := st _ _ hS _ hp
    obtain ⟨y, u, ey⟩ := st _ _ hS _ hq
    show wpAny _ _ (keyLt' oneType' p.1 q.1) (fun r s' => s' = _ ∧ r = strLt (txtOf p.1) (txtOf q.1)) _ _
    rw [ex, ey]
    exact PySem.W.kas_lt_str ⟨rfl, (strLt_eq x y).symm⟩
/-- a tuple of texts -/
def IsRow (h : Heap) (v : Value) (k : List Str) : Prop := ∃ a o its n, v = .ref a ∧ h.get? a = some o ∧ o.cls = .type "tuple" ∧ o.data = .seq its n ∧ StrsAre its.toList k
theorem IsRow.keeps {h h' : Heap} {v : Value} {k : List Str} (r : IsRow h v k) (kp : ∀ b o, h.get? b = some o → o.cls = .type "tuple" → h'.get? b = some o) : IsRow h' v k := by
  obtain ⟨a, o, its, n, e, ho, hc, hd, hS⟩ := r
  exact ⟨a, o, its, n, e, kp a o ho hc, hc, hd, hS⟩
theorem rows_lex : ∀ {xs ys : List Value} {k j : List Str} {b : Bool} {i : Nat} {Q : Bool → Shared → Prop}, StrsAre xs k → StrsAre ys j → (b = true → i = 0 ∨ True) → Q (rowLt k j) s →
    PySem.W.KatLex prog w A b (decide (xs.length < ys.length)) Q (xs.zip ys) i s
  | [], [], _, _, _, _, _, .nil, .nil, _, q => q
  | [], _ :: _, _, _, _, _, _, .nil, .cons _ _ _, _, q => q
  | _ :: _, [], _, _, _, _, _, .cons _ _ _, .nil, _, q => q
  | _ :: xs, _ :: ys, _ :: k, _ :: j, b, i, Q, .cons x t hx, .cons y u hy, hb, q => by
    refine PySem.W.kat_cons (wpAny_eqBool_str ?_)
    refine PySem.W.kat_go (fun e => ?_) (fun e => ?_)
    · have e' : x = y := by simpa using e
      refine PySem.W.kat_yes ?_
      have hl : decide ((Value.str x t :: xs).length < (Value.str y u :: ys).length) = decide (xs.length < ys.length) := by simp
      rw [hl]
      refine rows_lex hx hy (fun _ => .inr trivial) ?_
      unfold rowLt lex at q
      rw [if_pos e'] at q
      exact q
    · have e' : ¬ x = y := by simpa using e
      unfold rowLt lex at q
      rw [if_neg e', strLt_eq] at q
      refine PySem.W.kat_no ?_
      cases hbi : (b && i == 0) with
      | false => exact PySem.W.kat_one _ _ (PySem.P.lt_str q)
      | true => exact oneLt_str q
theorem firsts_rows {h : Heap} : ∀ {vs : List Value}, (∀ v ∈ vs, ∃ k, IsRow h v k ∧ k ≠ []) → ∃ fs : List Value, PySem.W.KatTups h vs fs ∧ fs.length = vs.length ∧ ∀ f ∈ fs, ∃ x t, f = Value.str x t
  | [], _ => ⟨[], trivial, rfl, fun f hf => (by cases hf)⟩
  | v :: vs, hp => by
    obtain ⟨fs, h1, h2, h3⟩ := firsts_rows fun u hu => hp u (List.mem_cons_of_mem _ hu)
    obtain ⟨k, ⟨a, o, its, n, rfl, ho, hc, hd, hS⟩, hk⟩ := hp v List.mem_cons_self
    have e : ∃ x t, its[0]? = some (Value.str x t) := by
      rw [← Array.getElem?_toList]
      generalize its.toList = l at hS
      cases hS with
      | nil => exact absurd rfl hk
      | cons x t _ => exact ⟨x, t, rfl⟩
    obtain ⟨x, t, e⟩ := e
    refine ⟨_ :: fs, PySem.W.KatTups.cons ho hc hd e h1, by simp [h2], fun f hf => ?_⟩
    rcases List.mem_cons.mp hf with rfl | hf
    · exact ⟨x, t, rfl⟩
    · exact h3 f hf
theorem sortable_rows {a : Addr} {vs : List Value} {k : Value → List Str} (h2 : 2 ≤ vs.length) (hp : ∀ v ∈ vs, IsRow s.heap v (k v) ∧ k v ≠ []) (ha : ∀ o, s.heap.get? a = some o → o.cls ≠ .type "tuple") :
    SortableO prog w A s a vs fun v u => rowLt (k v) (k u) := by
  intro h' keep
  have hp' : ∀ v ∈ vs, IsRow h' v (k v) ∧ k v ≠ [] := fun v hm => ⟨(hp v hm).1.keeps fun b o e c => keep b o (fun z => by subst z; exact ha o e c) e, (hp v hm).2⟩
  obtain ⟨fs, h1, hl, h3⟩ := firsts_rows fun v hm => ⟨_, hp' v hm⟩
  refine ⟨tuples' true, fun Q E hq => ?_, fun p q hm hm' => ?_⟩
  · refine PySem.W.kat_kind (T := .type "str") h1 (by omega) (fun f hm => ?_) (by rfl) ?_
    · obtain ⟨x, t, rfl⟩ := h3 f hm
      exact PySem.W.Looks.now
    · have e : (Value.type "str" != Value.type "tuple") = true := by first | decide +kernel | rfl | decide
      rw [e]
      exact hq
  · obtain ⟨a1, o1, i1, n1, e1, ho1, _, hd1, s1⟩ := (hp' _ hm).1
    obtain ⟨a2, o2, i2, n2, e2, ho2, _, hd2, s2⟩ := (hp' _ hm').1
    show wpAny (model prog w) A (keyLt' (tuples' true) p.1 q.1) (fun r s' => s' = _ ∧ r = rowLt (k p.1) (k q.1)) (fun _ _ => False) _
    generalize k p.1 = kp at s1
    generalize k q.1 = kq at s2
    rw [e1, e2]
    refine PySem.W.kat_lt (s := { s with heap := h' }) ho1 hd1 ho2 hd2 ?_
    rw [← Array.length_toList, ← Array.length_toList]
    exact rows_lex s1 s2 (fun _ => .inr trivial) ⟨rfl, rfl⟩
end
section
variable {X : Cx} {pins : List (Addr × Obj)} {σ : L2.St} {H : Hp} {s : Shared}
/-- the machine's way: a new list of what was gathered, sorted in place -/
theorem sort_tail {vs : List Value} {ltv : Value → Value → Bool} {Q : VK} {E : Value → Shared → Prop} (I : L2.Inv X pins σ H s) (O : Swo ltv) (hz : vs.length ≤ sizeLine)
    (hS : 2 ≤ vs.length → ∀ (h₁ : Heap) (a : Addr), h₁.get? a = some (seqObj "list" vs.toArray 0) → (∀ b o, s.heap.get? b = some o → b ≠ a ∧ h₁.get? b = some o) → SortableO X.prog X.w X.A.in1.in1 { s with heap := h₁ } a vs ltv)
    (q : ∀ out p, Srtd ltv out → out.Perm vs → H p = none → ∃ ys, Vals ys out ∧ Q (.ref p) (upd H p (.lst ys))) :
    wpAny (model X.prog X.w) X.A.in1 (do let l ← newList vs; let _ ← holding [l] (call (.builtin "list.sort") [l] []); ret l) (fun fin s' => ∃ v, fin = .done (.ret v) ∧ EP X pins σ Q v s') E s := by
  refine wpAny_bind (wpAny_newList ?_ hz)
  have hoL : (s.heap.push (seqObj "list" vs.toArray 0)).get? s.heap.objs.size = some (seqObj "list" vs.toArray 0) := Heap.get?_push_size _ rfl
  show wpAny _ _ _ _ _ { s with heap := s.heap.push (seqObj "list" vs.toArray 0) }
  refine wpAny_bind (wpAny_holding (wpAny_call_entry slot_list_sort ⟨_, hoL, rfl⟩ entry_list_sort
    (list_sort_ord O (s := { s with heap := s.heap.push (seqObj "list" vs.toArray 0) }) hoL hz (fun h2 => hS h2 _ _ hoL fun b o e => ⟨Nat.ne_of_lt (Heap.lt_size e), Heap.get?_push_of_some _ e⟩) fun out hs hb => ⟨_, rfl, ?_⟩)
    (args_list_sort _)))
  obtain ⟨ys, rv, q⟩ := q out s.heap.objs.size hs hb.perm (I.hok.fresh (Nat.le_refl _))
  obtain ⟨e', he'⟩ := sortedHeap_at (vs := vs) (out := out.toArray) hoL
  have hlen : ys.length ≤ sizeLine := by rw [rv.length, hb.perm.length_eq]; exact hz
  refine wpAny_pure ⟨_, rfl, .ref s.heap.objs.size, upd H s.heap.objs.size (.lst ys), I.laid (t' := s.toks) (fun b u e => ?_) (Nat.le_refl _)
    (show ObjOk X.prog X.w _ _ _ (.lst ys) from ⟨hlen, out, e', rv, he'⟩), rfl, q⟩
  have hb : b < s.heap.objs.size := Heap.lt_size e
  rw [sortedHeap_old (Nat.ne_of_lt hb) (by rw [size_push']; exact Nat.lt_succ_of_lt hb)]
  exact Heap.get?_push_of_some _ e
/-- what is gathered from an argument of sorted: its values, the heap kept -/
def Gath (X : Cx) (u : Value) (xs : List V) (s : Shared) : Prop :=
  ∀ (Q : List Value → Shared → Prop) (E : Value → Shared → Prop), (∀ vs h' tk, (∀ b o, s.heap.get? b = some o → h'.get? b = some o) → Vals xs vs → Q vs { s with heap := h', toks := tk }) → wpAny (model X.prog X.w) X.A.in1 (collect u) Q E s
theorem gath_seq {p : Addr} {xs : List V} (I : L2.Inv X pins σ H s) (h : SqL X.K H p xs ∨ SqT X.K H p xs) : Gath X (.ref p) xs s := by
  intro Q E q
  rcases h with h | h
  · obtain ⟨its, r, pl, hz⟩ := I.list h
    obtain ⟨o, ho, hc, n, hd⟩ := pl.isList
    refine wpAny_collect_seq p (.inl rfl) ho hc hd (fun h' k => ?_) (by simpa [← r.length] using hz)
    exact q _ h' s.toks k (by simpa using r)
  · obtain ⟨its, r, pl, hz⟩ := I.tuple h
    obtain ⟨o, ho, hc, n, hd⟩ := pl
    refine wpAny_collect_seq p (.inr rfl) ho hc hd (fun h' k => ?_) (by simpa [← r.length] using hz)
    exact q _ h' s.toks k (by simpa using r)
theorem gath_dK {d : Addr} {kvs : List (Key × V)} (hc : X.calm = true) (I : L2.Inv X pins σ H s) (h : Rd H d (.dK kvs)) : Gath X (.ref d) (kvs.map fun p => kV p.1) s := by
  intro Q E q
  obtain ⟨z, lo, vs, rel, dd⟩ := dk_rd I.hok h
  obtain ⟨ep, hat⟩ := dd.dictAt
  have hl : vs.length = kvs.length := by
    have e := congrArg List.length rel.keys
    simpa using e.symm
  refine PySem.W.kdu_collect (A := X.A.in1) (PySem.W.kdl_dict (knd := mixKind X.prog X.w) (kvs := vs) (ep := ep) lo) (I.ok.hd hc) hat (by omega) fun h' tk acc hk hacc => ?_
  have ek : (kvs.map fun kv => kV kv.1) = vs.map fun p => kV p.1 := by
    have e := congrArg (List.map kV) rel.keys
    rw [List.map_map, List.map_map] at e
    exact e
  rw [ek] at q
  exact q acc.toList h' tk hk (keys_at (by rw [Array.length_toList, hacc.1]) fun j v e => hacc.2 j v (by rw [← Array.getElem?_toList]; exact e))
theorem gath_dT {d : Addr} {kvs : List (List Key × V)} (hc : X.calm = true) (I : L2.Inv X pins σ H s) (h : Rd H d (.dT kvs)) : ∃ bs, IsKeys H kvs bs ∧ Gath X (.ref d) (bs.map V.ref) s := by
  obtain ⟨z, hs, ks, pr, o, es, ep, ho, hx, hdt, he, hn⟩ := (show ObjOk X.prog X.w H s.heap d (.dT kvs) from h.ok I.hok)
  have l1 : es.size = ks.length := size_of_entries he
  have l2 : kvs.length = ks.length := Paired.length pr
  refine ⟨_, isKeys_of pr, fun Q E q => ?_⟩
  refine PySem.W.kdu_collect (A := X.A.in1) (kdl_raw hs hx hdt) (I.ok.hd hc) ho (by omega) fun h' tk acc hk hacc => ?_
  refine q acc.toList h' tk hk ?_
  have ea : acc.toList = (ks.map fun x => x.2.1).map Value.ref := by
    have hl : acc.toList.length = ks.length := by rw [Array.length_toList, hacc.1]; exact l1
    apply List.ext_getElem?
    intro j
    rw [List.getElem?_map, List.getElem?_map]
    cases hj : acc.toList[j]? with
    | none =>
      have h1 := List.getElem?_eq_none_iff.mp hj
      rw [List.getElem?_eq_none (by omega)] <;> rfl
    | some v =>
      obtain ⟨en, hen, hv⟩ := hacc.2 j v (by rw [← Array.getElem?_toList]; exact hj)
      have qe := entry_at he j
      rw [hen] at qe
      cases hb : ks[j]? with
      | none => rw [hb] at qe; exact nomatch (show some en = none from qe)
      | some b =>
        rw [hb] at qe
        rw [hv, show en = entryOfKey (tupleKind (mixKind X.prog X.w)) b from Option.some.inj qe] <;> rfl
  rw [ea]
  exact vals_refs _
theorem strs_vals : ∀ {ss : List Str} {vs : List Value}, Vals (ss.map V.str) vs → StrsAre vs ss
  | [], _, .nil => .nil
  | x :: ss, _, .cons r t => by
    obtain ⟨k, rfl⟩ := r
    exact .cons _ _ (strs_vals t)
theorem vals_txt : ∀ {vs : List Value}, (∀ v ∈ vs, ∃ x t, v = Value.str x t) → Vals ((vs.map txtOf).map V.str) vs
  | [], _ => .nil
  | v :: vs, h => by
    obtain ⟨x, t, rfl⟩ := h v List.mem_cons_self
    exact .cons ⟨t, rfl⟩ (vals_txt fun u hu => h u (List.mem_cons_of_mem _ hu))
theorem txt_vals : ∀ {ss : List Str} {vs : List Value}, Vals (ss.map V.str) vs → vs.map txtOf = ss ∧ ∀ v ∈ vs, ∃ x t, v = Value.str x t
  | [], _, .nil => ⟨rfl, fun v hv => (by cases hv)⟩
  | x :: ss, _, .cons r t => by
    obtain ⟨k, rfl⟩ := r
    obtain ⟨e, h⟩ := txt_vals t
    refine ⟨by rw [List.map_cons, e] <;> rfl, fun v hv => ?_⟩
    rcases List.mem_cons.mp hv with rfl | hv
    · exact ⟨_, _, rfl⟩
    · exact h v hv
/-- where the texts come from -/
def TxtSrc (K : PySem.W.Frag) (H : Hp) (p : Addr) (ss : List Str) : Prop :=
  (SqL K H p (ss.map V.str) ∨ SqT K H p (ss.map V.str)) ∨ ∃ kvs, Rd H p (.dK kvs) ∧ kvs.map (·.1) = ss.map Sum.inr
def rSortS (K : PySem.W.Frag) : List V → Hp → VK → Prop := fun vs H Q => ∃ (p : Addr) (ss : List Str), vs = [.ref p] ∧ TxtSrc K H p ss ∧ ss.length ≤ sizeLine ∧ ∀ l, H l = none → Q (.ref l) (upd H l (.lst ((isort strLt ss).map V.str)))
theorem cr_sortS (hc : X.calm = true) : CallR X (.builtin "sorted") (rSortS X.K) := by
  intro pins s σ H xs us Q I r h
  obtain ⟨p, ss, rfl, src, hz, q⟩ := h
  rw [Vals.ref1 r]
  have G : Gath X (.ref p) (ss.map V.str) s := by
    rcases src with h | ⟨kvs, hd, e⟩
    · exact gath_seq I h
    · have g := gath_dK hc I hd
      have e2 : (kvs.map fun p => kV p.1) = ss.map V.str := by
        have := congrArg (List.map kV) e
        rw [List.map_map, List.map_map] at this
        exact this
      rwa [e2] at g
  refine Calls.call_function_entry kind_sorted plain_sorted entry_sorted (args_sorted1 _) ?_
  unfold Builtin.«sorted»
  refine wpAny_bind (m := checkCount "sorted" 1 1 _) (wpAny_pure ?_)
  refine wpAny_bind (G _ _ fun vs h' tk kp rv => ?_)
  obtain ⟨ev, hall⟩ := txt_vals rv
  have hl : vs.length = ss.length := by rw [← ev, List.length_map]
  refine sort_tail (I.kept (t' := tk) kp) (swo_of strLt_tot txtOf) (by omega) (fun h2 h₁ a _ _ => sortable_txt h2 (strs_vals rv)) fun out l hs hp hn => ?_
  refine ⟨(out.map txtOf).map V.str, vals_txt fun v hv => hall v (hp.mem_iff.mp hv), ?_⟩
  rw [isort_of strLt_tot (up_map.mp hs) (ev ▸ hp.map txtOf)]
  exact q l hn
/-- the rows' own texts -/
def RowAt (K : PySem.W.Frag) (H : Hp) (b : Addr) (k : List Str) : Prop := SqT K H b (k.map V.str)
theorem row_is {b : Addr} {k : List Str} (I : L2.Inv X pins σ H s) (h : RowAt X.K H b k) : IsRow s.heap (.ref b) k := by
  obtain ⟨its, r, ⟨o, ho, hc, n, hd⟩, _⟩ := I.tuple h
  exact ⟨b, o, its.toArray, n, rfl, ho, hc, hd, by simpa using strs_vals r⟩
def RowSrc (K : PySem.W.Frag) (H : Hp) (p : Addr) (bs : List Addr) : Prop :=
  SqL K H p (bs.map V.ref) ∨ SqT K H p (bs.map V.ref)
def refOf : Value → Addr
  | .ref a => a
  | _ => 0
theorem vals_ref : ∀ {bs : List Addr} {vs : List Value}, Vals (bs.map V.ref) vs → vs = bs.map Value.ref
  | [], _, .nil => rfl
  | b :: bs, _, .cons r t => by
    cases r
    rw [vals_ref t] <;> rfl
theorem refOf_map (bs : List Addr) : (bs.map Value.ref).map refOf = bs := by
  rw [List.map_map]
  exact List.map_id'' (fun _ => rfl) bs
/-- rows of texts, sorted: the same tuples in order -/
theorem sort_rows {u : Value} {bs : List Addr} {key : Addr → List Str} {Q : VK} (I : L2.Inv X pins σ H s) (G : Gath X u (bs.map V.ref) s) (hz : bs.length ≤ sizeLine) (hk : ∀ b ∈ bs, RowAt X.K H b (key b) ∧ key b ≠ [])
    (q : ∀ (l : Addr) (cs : List Addr), H l = none → cs.Perm bs → cs.map key = isort rowLt (bs.map key) → Q (.ref l) (upd H l (.lst (cs.map V.ref)))) : wpAny (model X.prog X.w) X.A (call (.builtin "sorted") [u]) (EP X pins σ Q) X.xe s := by
  refine Calls.call_function_entry kind_sorted plain_sorted entry_sorted (args_sorted1 _) ?_
  unfold Builtin.«sorted»
  refine wpAny_bind (m := checkCount "sorted" 1 1 _) (wpAny_pure ?_)
  refine wpAny_bind (G _ _ fun vs h' tk kp rv => ?_)
  cases vals_ref rv
  have I1 := I.kept (t' := tk) kp
  refine sort_tail I1 (swo_of rowLt_tot fun v => key (refOf v)) (by rw [List.length_map]; exact hz) (fun h2 h₁ a ha kk => ?_) fun out l hs hp hn => ?_
  · refine sortable_rows (s := { s with heap := h₁, toks := tk }) (k := fun v => key (refOf v)) h2 (fun v hv => ?_) fun o e => ?_
    · obtain ⟨b, hb, rfl⟩ := List.mem_map.mp hv
      exact ⟨(row_is I1 (hk b hb).1).keeps fun c o e _ => (kk c o e).2, (hk b hb).2⟩
    · have e' : some o = some (seqObj "list" (bs.map Value.ref).toArray 0) := e.symm.trans ha
      cases e'
      intro c
      exact absurd (Value.type.inj c) (by decide)
  · have hr : ∃ cs : List Addr, out = cs.map Value.ref := by
      refine ⟨out.map refOf, ?_⟩
      rw [List.map_map]
      have all : ∀ v ∈ out, v = (Value.ref ∘ refOf) v := fun v hv => by
        obtain ⟨b, _, rfl⟩ := List.mem_map.mp (hp.mem_iff.mp hv)
        rfl
      exact (List.map_id out).symm.trans (List.map_congr_left all)
    obtain ⟨cs, rfl⟩ := hr
    have hp' : cs.Perm bs := by
      have := hp.map refOf
      rwa [refOf_map, refOf_map] at this
    refine ⟨cs.map V.ref, vals_refs _, q l cs hn hp' ?_⟩
    have hu : Up rowLt (cs.map key) := by
      have := up_map.mp hs
      rw [List.map_map] at this
      exact this
    exact isort_of rowLt_tot hu (hp'.map key)
def rSortR (K : PySem.W.Frag) : List V → Hp → VK → Prop := fun vs H Q => ∃ (p : Addr) (bs : List Addr) (key : Addr → List Str), vs = [.ref p] ∧ RowSrc K H p bs ∧ bs.length ≤ sizeLine ∧ (∀ b ∈ bs, RowAt K H b (key b) ∧ key b ≠ []) ∧
  ∀ (l : Addr) (cs : List Addr), H l = none → cs.Perm bs → cs.map key = isort rowLt (bs.map key) → Q (.ref l) (upd H l (.lst (cs.map V.ref)))
theorem cr_sortR : CallR X (.builtin "sorted") (rSortR X.K) := by
  intro pins s σ H xs us Q I r h
  obtain ⟨p, bs, key, rfl, src, hz, hk, q⟩ := h
  rw [Vals.ref1 r]
  exact sort_rows I (gath_seq I src) hz hk q
/-- the same of a dict's keys -/
def rSortDT (K : PySem.W.Frag) : List V → Hp → VK → Prop := fun vs H Q => ∃ (d : Addr) (kvs : List (List Key × V)) (ks : List (List Str)), vs = [.ref d] ∧ Rd H d (.dT kvs) ∧ kvs.map (·.1) = ks.map (·.map Sum.inr) ∧ (∀ k ∈ ks, k ≠ []) ∧ kvs.length ≤ sizeLine ∧
  ∀ (l : Addr) (cs : List Addr), H l = none → Paired (fun (k : List PySem.Str) b => H b = some (.tup (k.map V.str))) (isort rowLt ks) cs → Q (.ref l) (upd H l (.lst (cs.map V.ref)))
def txtV : V → Str
  | .str x => x
  | _ => ⟨#[]⟩
def rowKey (H : Hp) (b : Addr) : List Str := match H b with
  | some (.tup xs) => xs.map txtV
  | _ => []
theorem rowKey_of {b : Addr} {k : List Str} (h : H b = some (.tup (k.map V.str))) : rowKey H b = k := by
  unfold rowKey
  rw [h]
  show (k.map V.str).map txtV = k
  rw [List.map_map]
  exact List.map_id'' (fun _ => rfl) k
theorem keys_rows : ∀ {kvs : List (List Key × V)} {ks : List (List Str)} {bs : List Addr}, IsKeys H kvs bs → kvs.map (·.1) = ks.map (·.map Sum.inr) → bs.map (rowKey H) = ks ∧ ∀ b ∈ bs, H b = some (.tup ((rowKey H b).map V.str)) := by
  intro kvs ks bs h
  unfold IsKeys at h
  induction h generalizing ks with
  | nil =>
    intro e
    cases ks with
    | nil => exact ⟨rfl, fun b hb => by cases hb⟩
    | cons k ks => cases e
  | @cons p b kvs bs h1 _ ih =>
    intro e
    cases ks with
    | nil => cases e
    | cons k ks =>
      obtain ⟨e1, e2⟩ := List.cons.inj e
      obtain ⟨i1, i2⟩ := ih e2
      have hb : H b = some (.tup (k.map V.str)) := by
        have e1' : p.1 = k.map Sum.inr := e1
        rw [h1, e1', List.map_map] <;> rfl
      have hk := rowKey_of hb
      refine ⟨by rw [List.map_cons, hk, i1], fun c hc => ?_⟩
      rcases List.mem_cons.mp hc with rfl | hc
      · rw [hk]; exact hb
      · exact i2 c hc
theorem paired_map {α β : Type} {R : α → β → Prop} {f : β → α} : ∀ {cs : List β}, (∀ c ∈ cs, R (f c) c) → Paired R (cs.map f) cs
  | [], _ => .nil
  | c :: cs, h => .cons (h c List.mem_cons_self) (paired_map fun x hx => h x (List.mem_cons_of_mem _ hx))
theorem cr_sortDT (hc : X.calm = true) : CallR X (.builtin "sorted") (rSortDT X.K) := by
  intro pins s σ H xs us Q I r h
  obtain ⟨d, kvs, ks, rfl, hd, e, ne, hz, q⟩ := h
  rw [Vals.ref1 r]
  obtain ⟨bs, ik, G⟩ := gath_dT hc I hd
  obtain ⟨e1, e2⟩ := keys_rows ik e
  have hl : bs.length = kvs.length := by
    have := congrArg List.length e1
    have := congrArg List.length e
    simp at *
    omega
  refine sort_rows (key := rowKey H) I G (by omega) (fun b hb => ⟨.inl (.inl (e2 b hb)), ne _ (e1 ▸ List.mem_map.mpr ⟨b, hb, rfl⟩)⟩) fun l cs hn hp hk => q l cs hn ?_
  rw [e1] at hk
  rw [← hk]
  exact paired_map fun c hc => e2 c (hp.mem_iff.mp hc)
/-- rows of texts by their texts alone -/
def rSortQ (K : PySem.W.Frag) : List V → Hp → VK → Prop := fun vs H Q => ∃ (p : Addr) (bs : List Addr) (ks : List (List Str)), vs = [.ref p] ∧ RowSrc K H p bs ∧ bs.length ≤ sizeLine ∧ Paired (fun k b => RowAt K H b k) ks bs ∧ (∀ k ∈ ks, k ≠ []) ∧
  ∀ (l : Addr) (cs : List Addr), H l = none → Paired (fun k b => RowAt K H b k) (isort rowLt ks) cs → Q (.ref l) (upd H l (.lst (cs.map V.ref)))
open Classical in
noncomputable def keyAt (K : PySem.W.Frag) (H : Hp) (b : Addr) : List Str := if h : ∃ k, RowAt K H b k then h.choose else []
theorem keyAt_of {b : Addr} {k : List Str} (I : L2.Inv X pins σ H s) (h : RowAt X.K H b k) : keyAt X.K H b = k := by
  have hex : ∃ k, RowAt X.K H b k := ⟨k, h⟩
  have h1 : RowAt X.K H b (keyAt X.K H b) := by
    unfold keyAt
    rw [dif_pos hex]
    exact hex.choose_spec
  have e := I.tuple_inj h1 h
  have : ∀ a b : List Str, a.map V.str = b.map V.str → a = b := by
    intro a
    induction a with
    | nil => intro b e; cases b with
      | nil => rfl
      | cons _ _ => cases e
    | cons x a ih => intro b e; cases b with
      | nil => cases e
      | cons y b =>
        obtain ⟨e1, e2⟩ := List.cons.inj e
        rw [V.str.inj e1, ih b e2]
  exact this _ _ e
theorem cr_sortQ : CallR X (.builtin "sorted") (rSortQ X.K) := by
  intro pins s σ H xs us Q I r h
  obtain ⟨p, bs, ks, rfl, src, hz, hk, ne, q⟩ := h
  rw [Vals.ref1 r]
  have both : ∀ {ks : List (List Str)} {bs : List Addr}, Paired (fun k b => RowAt X.K H b k) ks bs → bs.map (keyAt X.K H) = ks ∧ ∀ b ∈ bs, RowAt X.K H b (keyAt X.K H b) := by
    intro ks bs h
    induction h with
    | nil => exact ⟨rfl, fun b hb => by cases hb⟩
    | @cons k b ks bs h1 _ ih =>
      have e := keyAt_of I h1
      refine ⟨by rw [List.map_cons, e, ih.1], fun c hc => ?_⟩
      rcases List.mem_cons.mp hc with rfl | hc
      · rw [e]; exact h1
      · exact ih.2 c hc
  obtain ⟨e1, e2⟩ := both hk
  refine sort_rows (key := keyAt X.K H) I (gath_seq I src) hz (fun b hb => ⟨e2 b hb, ne _ (e1 ▸ List.mem_map.mpr ⟨b, hb, rfl⟩)⟩) fun l cs hn hp hkk => q l cs hn ?_
  rw [e1] at hkk
  rw [← hkk]
  exact paired_map fun c hc => e2 c (hp.mem_iff.mp hc)
end
end Rs
set_option Elab.async false
set_option linter.all false
set_option maxRecDepth 100000
set_option maxHeartbeats 2000000
/-! isinstance of a caught error that has fields of its own. -/
namespace Rs
open PySem PySem.Spec PySem.W PySem.Calls PyProof.Rows
section
variable {prog : Program} {w : World} {A : Around} {E : Value → Shared → Prop} {s : Shared} {K : Frag} {x D : Addr} {ox : Obj} {od : Option Obj}
theorem findObj_any {C : Addr} {name : Str} {a g : Value} (hc : (clsIn K C).isSome = true) (ha : findIn K (.ref C) name = some (some a)) (hg : specialIn K a "__get__" = some (some g)) (ht : takesIn K a = some true) : findObj K C od name = some (.bind g a) := by
  cases od with
  | none => exact findObj_dataN hc ha hg ht
  | some o => exact findObj_data hc ha hg ht
theorem class_of_exc {Q : Option Value → Shared → Prop} (C : L2.ExcC K D) (X : K.In s.heap) (I : PySem.W.InstAt s.heap x ox D od) (h : Q (some (.ref D)) { s with toks := s.toks + 1 }) : wpAny (model prog w) A (getAttr? (.ref x) "__class__") Q E s := by
  have hf : findObj K D od "__class__" = some (.bind (.builtin "getset_descriptor.__get__") (.builtin "object.__class__")) := findObj_any (by obtain ⟨cd, hc, _⟩ := any_some C.hd; rw [hc]; rfl) C.ha C.hn C.ht
  obtain ⟨hp, g, d, t, os⟩ := s
  have T0 := I.type (M := model prog w)
  have T1 := looks_findIn (M := model prog w) X C.hg
  have T2 := looks_findIn (M := model prog w) X C.hk
  have T3 := looks_find (M := model prog w) X I hf
  have sub : Looks (model prog w) hp (isInstance (.ref x) (.type "BaseException")) true := T0.andThen (looks_subIn X C.hs)
  have ne : (Value.builtin "BaseException.__getattribute__" == Value.builtin "object.__getattribute__") = false := by decide +kernel
  unfold getAttr? getAttrBy? getAttrBy
  refine wpAny_bind (wpAny_mkText (wpAny_bind (wpAny_attempt (wpAny_holding (wpAny_bind (T0.at (wpAny_bind (T1.at ?_))))))))
  show wpAny _ _ (if (onTheHeap (Value.ref D) && Value.builtin "BaseException.__getattribute__" == Value.builtin "object.__getattribute__") = true then _ else _) _ _ _
  rw [if_neg (by rw [ne]; simp)]
  unfold getAttrByItsOwn hookBefore
  refine wpAny_bind ?_
  rw [if_pos (show onTheHeap (Value.ref D) = true from rfl)]
  refine T2.at (wpAny_bind (wpAny_attempt (wpAny_holding ?_)))
  unfold callGetattribute
  rw [if_neg (by show ¬ (false && onTheHeap (Value.builtin "BaseException.__getattribute__")) = true; exact Bool.false_ne_true)]
  unfold boundAndCalled
  rw [PySem.F.excAttr_ValueError.ga.bind (.ref x)]
  refine wpAny_bind (wpAny_pure ?_)
  show wpAny _ _ (call (.builtin "BaseException.__getattribute__") [.ref x, .str "__class__" t]) _ _ _
  refine wpAny_call (codeAny_call_builtin PySem.F.excAttr_ValueError.ga.plain PySem.F.entry_bexc_ga ?_)
  refine @check_slot (model prog w) _ _ ⟨hp, g, d, t + 1, os⟩ "BaseException.__getattribute__" "BaseException" "__getattribute__" (.ref x) [.str "__class__" t] [] _ (by decide +kernel) (by decide +kernel) sub (PySem.F.args_bexc_ga (.ref x) (.str "__class__" t)) ?_
  unfold Builtin.«object.__getattribute__»
  refine wpAny_bind (wpAny_of_eq (a := ((Value.ref x : Value), [Value.str "__class__" t])) (by first | rfl | (simp only [slotArgs]; rfl)) ?_)
  refine wpAny_bind (wpAny_pure (wpAny_bind (T0.at (wpAny_bind (T3.at ?_)))))
  show wpAny _ _ (holding [Value.builtin "object.__class__"] (call (.builtin "getset_descriptor.__get__") [.builtin "object.__class__", .ref x, .ref D]) >>= ret) _ _ _
  refine wpAny_bind (wpAny_holding (wpAny_call (class_get (s := ⟨hp, g, d, t + 1, os⟩) X I C.hm ?_)))
  refine wpAny_pure ?_
  show wpAny _ _ (handedOut (.ref D)) _ _ _
  rw [handedOut_of (v := .ref D) rfl]
  exact wpAny_pure (wpAny_pure h)
theorem kit_exc (C : L2.ExcC K D) : KitX K (.ref x) (.ref D) (fun h => PySem.W.InstAt h x ox D od) where
  ty := fun _ _ _ I => I.type
  it := fun _ _ X _ => by
    obtain ⟨cdD, hcD, _⟩ := any_some C.hd
    unfold clsIn at hcD
    split at hcD
    · rename_i c' d' cd' sl' ho
      intro A' Q' E' s' k q
      unfold isType loadHead
      exact wpAny_bind (wpAny_loadPart (k _ _ (X _ _ ho)) (wpAny_pure q))
    · cases hcD
  ne := fun h tp dd its n sl X htp => by
    obtain ⟨cdD, hcD, _⟩ := any_some C.hd
    refine Bool.eq_false_iff.mpr fun q => ?_
    have e : D = tp := Value.ref.inj (beq_iff_eq.mp q)
    subst e
    unfold clsIn at hcD
    split at hcD
    · rename_i c' d' cd' sl' ho
      cases (X _ _ ho).symm.trans htp
    · cases hcD
  ca := fun X I k => class_of_exc C X I k
end
open L2
/-- isinstance(e, c), e the exception in hand, its fields at d (or none) -/
def rIsX (K : PySem.W.Frag) (D a : Addr) (d : Option Addr) : List V → Hp → VK → Prop := fun xs H Q => ∃ (c : V) (cv : Value) (b : Bool), xs = [.ref a, c] ∧ (∀ u, L2.RelV c u → u = cv) ∧ PySem.W.kitOne K (.ref D) cv = some b ∧ (∀ dd, d = some dd → ∃ fs, H dd = some (.xd fs)) ∧ Q (.bl b) H
theorem call_isX {X : Cx} {a D : Addr} {d : Option Addr} {oe : Obj} {pn : List (Addr × Obj)} (C : ExcC X.K D) (hz : Zc (.ref D) d oe) (hf : ∃ vs, oe.data = .fields vs) : CallR (X.suite a ((a, oe) :: pn)) (.builtin "isinstance") (rIsX X.K D a d) := by
  intro pins s σ H xs us Q I r h
  obtain ⟨c, cv, b, rfl, hcv, e, hd, q⟩ := h
  cases r with
  | cons rx rr =>
    cases rr with
    | cons rt rr =>
      cases rr
      cases rx
      cases hcv _ rt
      obtain ⟨hget, _⟩ := I.pin (a, oe) (List.mem_append.mpr (.inl List.mem_cons_self))
      obtain ⟨vs, hv⟩ := hf
      have J : ∃ od, PySem.W.InstAt s.heap a oe D od := by
        obtain ⟨oc, odi, oda, osl⟩ := oe
        obtain ⟨h1, h2⟩ := hz
        dsimp only at h1 h2 hv
        subst h1 h2 hv
        cases odi with
        | none => exact ⟨none, hget, rfl, rfl, trivial⟩
        | some dd =>
          obtain ⟨fs, ho⟩ := hd dd rfl
          obtain ⟨mA, ⟨od, _, _, hod, _⟩, _⟩ := I.hok dd _ ho
          exact ⟨some od, hget, rfl, rfl, hod⟩
      obtain ⟨od, J⟩ := J
      exact PySem.W.kia_one (kit_exc C) I.kIn J e (fun z => nomatch z) fun tk => ⟨.bl b, H, I.kept (t' := tk) fun _ _ z => z, rfl, q⟩
end Rs
set_option Elab.async false
set_option linter.all false
set_option maxRecDepth 100000
set_option maxHeartbeats 2000000
/-! The head's facts: any tests of the written part, and defs at any address. -/
namespace Rs
open PySem PySem.Spec PySem.W PyProof.Rows L2
abbrev Tst := Frag → Bool
def obsR (fa : List Tst) (fn : List He5.DefA) (K : Frag) : He.AlD := ((fa.all fun f => f K) && fn.all fun d => d.ok K, fn.map fun d => He5.fnA K (d.at_ K))
def valR (fn : List He5.DefA) : He.AlD := (true, fn.map He5.DefA.val)
def SaysR (fa : List Tst) (fn : List He5.DefA) (K : Frag) : Prop := obsR fa fn K = valR fn
def obsRG (n : Nat) (fa : List Tst) (fn : List He5.DefA) (g : Addr → Option Obj) : He.AlD := obsR fa fn (He.frG g (He5.asA g n))
def hookR (n : Nat) (fa : List Tst) (fn : List He5.DefA) : PySem.W.Hook where
  α := He.AlD
  obs := fun s => obsRG n fa fn s.heap.get?
  val := fun _ => valR fn
  says := fun _ h => ∃ K : Frag, K.In h ∧ SaysR fa fn K
  of := fun _ _ e => ⟨_, He.frG_in, e⟩
  keeps := fun _ _ _ ⟨K, hK, c⟩ k => ⟨K, Frag.In.keeps hK k, c⟩
theorem obsRG_eq {n : Nat} {fa : List Tst} {fn : List He5.DefA} {g : Addr → Option Obj} {s : Shared} (h : ∀ a, g a = s.heap.get? a) : obsRG n fa fn g = (hookR n fa fn).obs s := by
  have e : g = s.heap.get? := funext h
  rw [e] <;> rfl
section
variable {fa : List Tst} {fn : List He5.DefA} {K : Frag}
theorem SaysR.fact (c : SaysR fa fn K) (i : Nat) {f : Tst} (h : fa[i]? = some f := by rfl) : f K = true := by
  have c1 := (He.ba (show ((fa.all fun f => f K) && fn.all fun d => d.ok K) = true from congrArg (fun z : He.AlD => z.1) c)).1
  exact List.all_eq_true.mp c1 f (List.mem_of_getElem? h)
theorem SaysR.def_ (c : SaysR fa fn K) (i : Nat) {d : He5.DefA} (h : fn[i]? = some d := by rfl) : ∃ fd, L2.FunD K d.name d.qual d.params d.body d.scope (d.dvs K) (d.kws K) (d.at_ K) fd := by
  have c2 := (He.ba (show ((fa.all fun f => f K) && fn.all fun d => d.ok K) = true from congrArg (fun z : He.AlD => z.1) c)).2
  have e : fn.map (fun d => He5.fnA K (d.at_ K)) = fn.map He5.DefA.val := congrArg (fun z : He.AlD => z.2) c
  have e2 : (fn.map fun d => He5.fnA K (d.at_ K))[i]? = (fn.map He5.DefA.val)[i]? := by rw [e]
  rw [List.getElem?_map, List.getElem?_map, h] at e2
  exact He5.DefA.funD (Option.some.inj e2) (List.all_eq_true.mp c2 d (List.mem_of_getElem? h))
end
/-! ### tests -/
/-- the getter of a property -/
def propAt (K : Frag) (C : Addr) (f : PySem.Str) : Addr := match recIn K (He.ma K C f) "property" with
  | some (.ref g :: _) => g
  | _ => 0
/-- and its setter -/
def setrAt (K : Frag) (C : Addr) (f : PySem.Str) : Addr := match recIn K (He.ma K C f) "property" with
  | some (_ :: .ref g :: _) => g
  | _ => 0
def tProp? (x f : PySem.Str) : Tst := fun K => He.eqO (findIn K (.ref (He.ga K x)) f) (some (some (.ref (He.ma K (He.ga K x) f)))) && (He.eqO (specialIn K (.ref (He.ma K (He.ga K x) f)) "__get__") (some (some (.builtin "property.__get__"))) &&
  (decide (takesIn K (.ref (He.ma K (He.ga K x) f)) = some true) && (match recIn K (He.ma K (He.ga K x) f) "property" with
    | some (.ref g :: _) => true
    | _ => false)))
theorem prop_ok {K : Frag} {x f : PySem.Str} (c : tProp? x f K = true) : PropOf K (He.ga K x) f (He.ma K (He.ga K x) f) (propAt K (He.ga K x) f) := by
  obtain ⟨c1, c⟩ := He.ba c
  obtain ⟨c2, c⟩ := He.ba c
  obtain ⟨c3, c4⟩ := He.ba c
  refine ⟨He.eqO_ok c1, He.eqO_ok c2, of_decide_eq_true c3, ?_⟩
  unfold propAt
  generalize recIn K (He.ma K (He.ga K x) f) "property" = r at c4 ⊢
  match r, c4 with
  | some (.ref g :: rest), _ => exact ⟨rest, rfl⟩
def tDun (x m : PySem.Str) : Tst := fun K => He.eqO (findIn K (.ref (He.ga K x)) m) (some (some (.ref (He.ma K (He.ga K x) m)))) && (isFn K (.ref (He.ma K (He.ga K x) m)) && fnIn K (He.ma K (He.ga K x) m))
theorem dun_ok {K : Frag} {x m : PySem.Str} (c : tDun x m K = true) : Dun K (He.ga K x) m (He.ma K (He.ga K x) m) := by
  obtain ⟨c1, c⟩ := He.ba c
  obtain ⟨c2, c3⟩ := He.ba c
  exact ⟨He.eqO_ok c1, c2, c3⟩
/-- an own error class over ValueError -/
def clsVE (K : Frag) (C : Addr) : Bool := match K.lookup C with
  | some ⟨.type "type", _, .cls cd, sl⟩ => (match cd.mro, sl.toList with
    | .ref C' :: bm, [_, _, _, _, some (.builtin n), _] => decide (C' = C) && (decide (n = "ValueError.__new__") && (!cd.hasDel && (cd.hasDict && PySem.HandSPX.refsVE bm)))
    | _, _ => false)
  | _ => false
theorem clsVE_ok {K : Frag} {C : Addr} (c : clsVE K C = true) : ∃ nm q N bs bm sn sub ab col dd k0 k1 k2 k3 k5, K.lookup C = some (excClassObj nm q C N bs bm true sn sub ab col dd k0 k1 k2 k3 k5 "ValueError.__new__") ∧ PySem.HandSPX.refsVE bm = true := by
  unfold clsVE at c
  split at c
  · rename_i dd cd sl ho
    split at c
    · rename_i C' bm k0 k1 k2 k3 n k5 hm hs
      obtain ⟨c1, c⟩ := He.ba c
      obtain ⟨c2, c⟩ := He.ba c
      obtain ⟨c3, c⟩ := He.ba c
      obtain ⟨c4, c5⟩ := He.ba c
      replace c1 := of_decide_eq_true c1
      replace c2 := of_decide_eq_true c2
      replace c3 : cd.hasDel = false := by simpa using c3
      obtain ⟨nm, bs, mro, ns, qn, hd, sn, sub, ab, col, del⟩ := cd
      dsimp only at hm c3 c4
      subst c1 c2 hm c3 c4
      have hsl : sl = #[k0, k1, k2, k3, some (.builtin "ValueError.__new__"), k5] := by
        obtain ⟨l⟩ := sl
        simp only at hs
        rw [hs]
      subst hsl
      exact ⟨nm, qn, ns, bs, bm, sn, sub, ab, col, dd, k0, k1, k2, k3, k5, ho, c5⟩
    · cases c
  · cases c
def tOex (x : PySem.Str) : Tst := fun K => clsVE K (He.ga K x) && (He.eqO (findIn K (.ref (He.ga K x)) "__setattr__") (some (some (.builtin "object.__setattr__"))) && (decide (subIn K (.ref (He.ga K x)) (.type "BaseException") = some true) &&
  (decide (typeIn K (.ref (He.ga K x)) = some (.type "type")) && keepIn K (.ref (He.ga K x)))))
theorem oex_ok {K : Frag} {x : PySem.Str} (c : tOex x K = true) : OexC K (He.ga K x) := by
  obtain ⟨c1, c⟩ := He.ba c
  obtain ⟨c2, c⟩ := He.ba c
  obtain ⟨c3, c⟩ := He.ba c
  obtain ⟨c4, c5⟩ := He.ba c
  exact ⟨clsVE_ok c1, He.eqO_ok c2, of_decide_eq_true c3, of_decide_eq_true c4, c5⟩
def tExc (x : PySem.Str) : Tst := fun K => He.eqO (findIn K (.ref (He.ga K x)) "__getattribute__") (some (some (.builtin "BaseException.__getattribute__"))) && (He.eqO (findIn K (.ref (He.ga K x)) "__getattr__") (some none) &&
  (decide (subIn K (.ref (He.ga K x)) (.type "BaseException") = some true) && (hasDictIn K (He.ga K x) && (He.eqO (findIn K (.ref (He.ga K x)) "__class__") (some (some (.builtin "object.__class__"))) &&
  (He.eqO (specialIn K (.builtin "object.__class__") "__get__") (some (some (.builtin "getset_descriptor.__get__"))) && (decide (takesIn K (.builtin "object.__class__") = some true) && decide (mroIn K (He.ga K x) (.type "object") = some true)))))))
theorem exc_ok {K : Frag} {x : PySem.Str} (c : tExc x K = true) : ExcC K (He.ga K x) := by
  obtain ⟨c1, c⟩ := He.ba c
  obtain ⟨c2, c⟩ := He.ba c
  obtain ⟨c3, c⟩ := He.ba c
  obtain ⟨c4, c⟩ := He.ba c
  obtain ⟨c5, c⟩ := He.ba c
  obtain ⟨c6, c⟩ := He.ba c
  obtain ⟨c7, c8⟩ := He.ba c
  exact ⟨He.eqO_ok c1, He.eqO_ok c2, of_decide_eq_true c3, c4, He.eqO_ok c5, He.eqO_ok c6, of_decide_eq_true c7, of_decide_eq_true c8⟩
theorem xf_ok {K : Frag} {x : PySem.Str} (c : tExc x K = true) : XfC K (He.ga K x) := by
  have e := exc_ok c
  exact ⟨e.hg, e.hk, e.hs, e.hd⟩
/-- isinstance, except: one class against another -/
def tKit (x y : PySem.Str) (b : Bool) : Tst := fun K => decide (kitOne K (.ref (He.ga K x)) (.ref (He.ga K y)) = some b)
def tExm (x y : PySem.Str) (b : Bool) : Tst := fun K => decide (exmOne K (.ref (He.ga K x)) (.ref (He.ga K y)) = some b)
/-- an own __init__ of an error -/
def tIni (x : PySem.Str) : Tst := fun K => He.eqO (findIn K (.ref (He.ga K x)) "__init__") (some (some (.ref (He.ma K (He.ga K x) "__init__")))) && decide (typeIn K (.ref (He.ma K (He.ga K x) "__init__")) = some (.type "function"))
theorem ini_ok {K : Frag} {x : PySem.Str} (c : tIni x K = true) : findIn K (.ref (He.ga K x)) "__init__" = some (some (.ref (He.ma K (He.ga K x) "__init__"))) ∧ typeIn K (.ref (He.ma K (He.ga K x) "__init__")) = some (.type "function") := by
  obtain ⟨c1, c2⟩ := He.ba c
  exact ⟨He.eqO_ok c1, of_decide_eq_true c2⟩
/-- a global that is a tuple of texts -/
def tTupS (x : PySem.Str) (ss : List PySem.Str) : Tst := fun K => match nsIn K mainGlobals x with
  | some (some (.ref a)) => (match K.lookup a with
    | some ⟨.type "tuple", _, .seq its _, _⟩ => decide (its.toList.map (fun v => match v with | .str y _ => some y | _ => none) = ss.map some)
    | _ => false)
  | _ => false
/-- a def, as a global or in a class -/
abbrev dfG (x : PySem.Str) (st : Stmt) : He5.DefA := ⟨fun K => He.ga K x, x, x, defArgs st, defBody st, defScope st, [], []⟩
abbrev dfM (c m q : PySem.Str) (st : Stmt) : He5.DefA := ⟨fun K => He.ma K (He.ga K c) m, m, q, defArgs st, defBody st, defScope st, [], []⟩
abbrev dfP (c m q : PySem.Str) (st : Stmt) : He5.DefA := ⟨fun K => propAt K (He.ga K c) m, m, q, defArgs st, defBody st, defScope st, [], []⟩
abbrev dfW (c m q : PySem.Str) (st : Stmt) : He5.DefA := ⟨fun K => setrAt K (He.ga K c) m, m, q, defArgs st, defBody st, defScope st, [], []⟩
abbrev fF (f : He.Fa) : Tst := fun K => f.ok K
end Rs
set_option Elab.async false
set_option linter.all false
set_option maxRecDepth 100000
set_option maxHeartbeats 2000000
/-! Calls of defs by what is known of them, uniformly: W is what the place wishes of an error. -/
namespace Rs
open PySem PySem.Spec PyProof.Rows L2
theorem tTupS_ok {K : PySem.W.Frag} {h : Heap} {mg : PySem.Str → Option Value} (X : K.In h) (G : h.Ns mainGlobals mg) {x : PySem.Str} {ss : List PySem.Str} (c : tTupS x ss K = true) (hz : ss.length ≤ 1000 := by decide) :
    ∃ a, mg x = some (.ref a) ∧ ∀ H, SqT K H a (ss.map V.str) := by
  unfold tTupS at c
  split at c
  · rename_i a e
    split at c
    · rename_i dd its n sl ho
      replace c := of_decide_eq_true c
      refine ⟨a, PySem.W.mg_of X G e, fun H => .inr ⟨_, its, n, ho, rfl, rfl, ?_, ?_⟩⟩
      · have := congrArg List.length c
        simp at this
        rw [sizeLine_eq]
        omega
      · generalize its.toList = l at c
        induction l generalizing ss with
        | nil =>
          cases ss with
          | nil => exact .nil
          | cons s ss => cases c
        | cons v l ih =>
          cases ss with
          | nil => cases c
          | cons s ss =>
            obtain ⟨c1, c2⟩ := List.cons.inj c
            refine .cons ?_ (ih (by simp at hz; omega) c2)
            clear c c2 ih
            cases v with
            | str y t =>
              cases Option.some.inj c1
              exact ⟨_, rfl⟩
            | _ => cases c1
    · cases c
  · cases c
theorem PE.slots {X : Cx} {e : Expr} {t : L2.St → TE} (h : ∀ σ, PE X e (t σ)) : PE X e (fun σ H Q => t σ σ H Q) := ⟨fun pins s σ H Q I hw => (h σ).run pins s σ H Q I hw⟩
abbrev at_ (W : WX) (σ : L2.St) : XK := fun cls d H => W cls d σ H
abbrev W0 : WX := fun _ _ _ _ => False
section
variable (P : Program) (w : World) (K : PySem.W.Frag) (mg : PySem.Str → Option Value) (base : Heap)
/-- a def of the module under the name x -/
structure Cal (k : Nat) (x : PySem.Str) (ps : List PySem.Str) (sp : Sp) : Prop where
  ex : ∃ f fd, FnOk P w K mg base (L2.CX P w) k f fd ps sp ∧ mg x = some (.ref f) ∧ PySem.W.keepIn K (.ref f) = true ∧ L2.Binds K fd ps []
/-- a method m of the class at C -/
structure CalM (k : Nat) (C : Addr) (m : PySem.Str) (ps : List PySem.Str) (sp : Sp) : Prop where
  ex : ∃ f fd, FnOk P w K mg base (L2.CX P w) k f fd ps sp ∧ Meth K C m f ∧ L2.Binds K fd ps []
/-- the making of an instance of the class x at C -/
structure CalI (k : Nat) (C : Addr) (x : PySem.Str) (ps : List PySem.Str) (sp : Sp) : Prop where
  ex : ∃ f fd, FnOk P w K mg base (L2.CX P w) k f fd ps sp ∧ Mk K C f ∧ mg x = some (.ref C) ∧ L2.Binds K fd ps []
/-- a property f of the class at C -/
structure CalP (k : Nat) (C : Addr) (f : PySem.Str) (sp : Sp) : Prop where
  ex : ∃ p g fd, FnOk P w K mg base (L2.CX P w) k g fd ["self"] sp ∧ PropOf K C f p g ∧ L2.Binds K fd ["self"] []
/-- a special method of the class at C -/
structure CalD (k : Nat) (C : Addr) (m : PySem.Str) (ps : List PySem.Str) (sp : Sp) : Prop where
  ex : ∃ f fd, FnOk P w K mg base (L2.CX P w) k f fd ps sp ∧ Dun K C m f ∧ L2.Binds K fd ps []
/-- an own error class x at C, with its __init__ -/
structure CalE (k : Nat) (C : Addr) (x : PySem.Str) (ps : List PySem.Str) (sp : Sp) : Prop where
  ex : ∃ f fd, FnOk P w K mg base (L2.CX P w) k f fd ps sp ∧ OexC K C ∧ PySem.W.findIn K (.ref C) "__init__" = some (some (.ref f)) ∧ PySem.W.typeIn K (.ref f) = some (.type "function") ∧ mg x = some (.ref C) ∧ L2.Binds K fd ps []
end
section
variable {X : Cx} {k : Nat} {C : Addr} {x m : PySem.Str} {ps : List PySem.Str} {sp : Sp} {W : WX} {p pos apos : Pos} {e o : Expr} {es : List Expr} {ta : TE} {t : TA}
theorem pass_at (tk : Takes X W) (σ : L2.St) : PassesAt (L2.CX X.prog X.w) X σ (at_ W σ) := passAt tk σ
def tCalW (sp : Sp) (W : WX) (t : TA) : TE := fun σ H Q => t σ H fun vs H1 => sp vs H1 Q (at_ W σ)
theorem pe_cal (c : Cal X.prog X.w X.K X.mg X.base k x ps sp) (hr : Room k X.A) (tk : Takes X W) (ha : PA X (e :: es) t) (hg : Gl X x := by rfl)
    (hdb : (x == ("__debug__" : PySem.Str)) = false := by decide) (he : starEach (e :: es) X.env = (false, eval e X.env) :: starEach es X.env := by rfl) (hpl : (backTo pos (starEach es X.env)).any (·.1) = false := by rfl) :
    PE X (.Call (.Name x p) (e :: es) [] pos) (tCalW sp W t) := by
  obtain ⟨f, fd, F, hm, hk, hb⟩ := c.ex
  exact pe_callS (E := at_ W) F hr hg hm hk hb (fun σ => pass_at tk σ) ha hdb he hpl
/-- o.m(e, ..) -/
def tMethW (C : Addr) (m : PySem.Str) (sp : Sp) (W : WX) (ta : TE) (t : TA) : TE := fun σ H Q => ta σ H fun x H1 => ∃ a dx fs, x = .ref a ∧ H1 a = some (.ins C dx fs) ∧ fs.lookup m = none ∧ t σ H1 fun vs H2 => sp (.ref a :: vs) H2 Q (at_ W σ)
theorem pe_calm {pl : Sem Bool} (c : CalM X.prog X.w X.K X.mg X.base k C m ps sp) (cl : Cls X.K C) (hr : Room k X.A) (tk : Takes X W) (he : PE X o ta) (ha : PA X (e :: es) t)
    (hst : starEach (e :: es) X.env = (false, eval e X.env) :: starEach es X.env := by rfl) (hpl : (backTo pos (starEach es X.env)).any (·.1) = false := by rfl)
    (ht : eval (.Call (.Attribute o m apos) (e :: es) [] pos) X.env = (do
      let ov ← eval o X.env
      standAt apos.atName
      let (f, first) ← holding [ov] (getMethod ov m pl)
      callWith pos f first (backTo pos (starEach (e :: es) X.env)) (backToKw pos (keywordEach [] X.env))) := by rfl) :
    PE X (.Call (.Attribute o m apos) (e :: es) [] pos) (tMethW C m sp W ta t) := by
  obtain ⟨f, fd, F, hm, hb⟩ := c.ex
  refine ⟨fun pins s σ H Q I h => ?_⟩
  refine PySem.W.methodCall_KW (pl := pl) (thn (he.run pins s σ H _ I h) fun u s1 ⟨x, H1, I1, rx, a, dx, fs, ex, ea, l, q⟩ => ?_) ht
  subst ex
  obtain rfl : u = Value.ref a := rx
  refine getmeth_ok I1 ea cl hm l (PySem.W.callWith_K (first := [.ref a]) (h₀ := X.base) I.ok.mod.kin hm.kp (thn (ha.run pos pins s1 σ H1 _ I1 q) fun us s2 ⟨vs, H2, I2, r, q2⟩ => ⟨I2.kIn, ?_⟩) hst hpl)
  exact run_fnS (us := .ref a :: us) (vs := .ref a :: vs) (E := at_ W) F hr hb (pass_at tk σ) I2 (.cons rfl r) q2
theorem pe_calm0 {pl : Sem Bool} (c : CalM X.prog X.w X.K X.mg X.base k C m ps sp) (cl : Cls X.K C) (hr : Room k X.A) (tk : Takes X W) (he : PE X o ta)
    (ht : eval (.Call (.Attribute o m apos) [] [] pos) X.env = (do
      let ov ← eval o X.env
      standAt apos.atName
      let (f, first) ← holding [ov] (getMethod ov m pl)
      callWith pos f first (backTo pos (starEach [] X.env)) (backToKw pos (keywordEach [] X.env))) := by rfl) :
    PE X (.Call (.Attribute o m apos) [] [] pos) (tMethW C m sp W ta tNil) := by
  obtain ⟨f, fd, F, hm, hb⟩ := c.ex
  refine ⟨fun pins s σ H Q I h => ?_⟩
  refine PySem.W.methodCall_KW (pl := pl) (thn (he.run pins s σ H _ I h) fun u s1 ⟨x, H1, I1, rx, a, dx, fs, ex, ea, l, q⟩ => ?_) ht
  subst ex
  obtain rfl : u = Value.ref a := rx
  exact getmeth_ok I1 ea cl hm l (PySem.W.callWith_K0 (first := [.ref a]) I1.kIn hm.kp (run_fnS (us := [.ref a]) (vs := [.ref a]) (E := at_ W) F hr hb (pass_at tk σ) I1 (.cons rfl .nil) q))
/-- C(e, ..) -/
def tMakeW (C : Addr) (sp : Sp) (W : WX) (t : TA) : TE := fun σ H Q => t σ H fun vs H1 => ∀ x dx, H1 x = none → H1 dx = none → dx ≠ x → sp (.ref x :: vs) (upd (upd H1 dx (.own x)) x (.ins C dx [])) (fun v H2 => v = .non ∧ Q (.ref x) H2) (at_ W σ)
theorem run_mkS {pins : List (Addr × Obj)} {σ : L2.St} {H : Hp} {s : Shared} {Q : VK} {us : List Value} {vs : List V} {f : Addr} {fd : FuncData} (M : Mk X.K C f) (F : FnOk X.prog X.w X.K X.mg X.base (L2.CX X.prog X.w) k f fd ps sp) (hr : Room (k + 1) X.A) (hb : L2.Binds X.K fd ps [])
    (tk : Takes X W) (I : L2.Inv X pins σ H s) (r : Vals vs us)
    (h : ∀ x dx, H x = none → H dx = none → dx ≠ x → sp (.ref x :: vs) (upd (upd H dx (.own x)) x (.ins C dx [])) (fun v H2 => v = .non ∧ Q (.ref x) H2) (at_ W σ)) :
    wpAny (model X.prog X.w) X.A (call (.ref C) us) (EP X pins σ Q) X.xe s := by
  have hq := h (s.heap.objs.size + 1) s.heap.objs.size (I.hok.fresh (Nat.le_succ _)) (I.hok.fresh (Nat.le_refl _)) (Nat.ne_of_lt (Nat.lt_succ_self _))
  have I2 := L2.Inv.made (C := C) I
  have r2 : Vals (V.ref (s.heap.objs.size + 1) :: vs) (Value.ref (s.heap.objs.size + 1) :: us) := .cons rfl r
  have hl : (Value.ref (s.heap.objs.size + 1) :: us ++ []).length = ps.length := by
    rw [← F.len _ _ _ _ hq, List.append_nil]
    exact r2.length.symm
  have hb' := hb _ (Value.ref (s.heap.objs.size + 1) :: us) I2.kIn hl
  rw [List.append_nil] at hb'
  refine wpAny_call (make_map (f := f) I.kIn M.makes M.init (beq_iff_eq.mp M.fn) (codeAny_mono (F.run _ X.stack _ _ ⟨Value.ref (s.heap.objs.size + 1) :: us, []⟩ _ _ _ _ (hr.make C us []) (I2.env0.make C us []) hb' r2 hq) fun r s' hq' => ?_))
  cases r with
  | error e => exact pass_at tk σ pins _ _ e s' I2 hq'
  | ok fl =>
    cases fl with
    | ret u =>
      obtain ⟨v, H', I3, rv, ev, q3⟩ := I2.after hq'
      subst ev
      exact ⟨rv, ⟨V.ref (s.heap.objs.size + 1), H', I3, rfl, q3⟩⟩
    | next => exact False.elim hq'
    | brk => exact False.elim hq'
    | cont => exact False.elim hq'
theorem pe_cali (c : CalI X.prog X.w X.K X.mg X.base k C x ps sp) (hr : Room (k + 1) X.A) (tk : Takes X W) (ha : PA X (e :: es) t) (hg : Gl X x := by rfl)
    (hdb : (x == ("__debug__" : PySem.Str)) = false := by decide) (he : starEach (e :: es) X.env = (false, eval e X.env) :: starEach es X.env := by rfl) (hpl : (backTo pos (starEach es X.env)).any (·.1) = false := by rfl) :
    PE X (.Call (.Name x p) (e :: es) [] pos) (tMakeW C sp W t) := by
  obtain ⟨f, fd, F, M, hm, hb⟩ := c.ex
  refine ⟨fun pins s σ H Q I h => ?_⟩
  refine wpAny_Call_Name_kw (ld_glob I hg hm ?_ hdb)
  exact PySem.W.callWith_K (h₀ := X.base) I.ok.mod.kin M.kp (thn (ha.run pos pins s σ H _ I h) fun us s1 ⟨vs, H1, I1, r, q⟩ => ⟨I1.kIn, run_mkS M F hr hb tk I1 r q⟩) he hpl
/-- e.f, a property -/
theorem pe_calp {f : PySem.Str} (c : CalP X.prog X.w X.K X.mg X.base k C f sp) (cl : Cls X.K C) (hr : Room (k + 1) X.A) (he : PE X e ta) (hab : attributeBase e f X.env (eval e X.env) = eval e X.env := by rfl) :
    PE X (.Attribute e f pos) (tProp C sp [] E0 ta) := by
  obtain ⟨p, g, fd, F, hp, hb⟩ := c.ex
  exact pe_prop he cl hp F hr hb .nil passL hab
theorem op_calin (c : CalD X.prog X.w X.K X.mg X.base k C "__contains__" ps sp) (hr : Room k X.A) : OpR X (compareOp .In) (rInO C sp E0 false) := by
  obtain ⟨f, fd, F, d, hb⟩ := c.ex
  exact op_inO d F hr hb passL
theorem op_calnot (c : CalD X.prog X.w X.K X.mg X.base k C "__contains__" ps sp) (hr : Room k X.A) : OpR X (compareOp .NotIn) (rInO C sp E0 true) := by
  obtain ⟨f, fd, F, d, hb⟩ := c.ex
  exact op_notInO d F hr hb passL
theorem pe_calsub {a b : Expr} {ta tb : TE} (c : CalD X.prog X.w X.K X.mg X.base k C "__getitem__" ps sp) (hr : Room (k + 1) X.A) (ha : PE X a ta) (hb : PE X b tb)
    (hs : ∀ x y, subscripted b true x y = runValue (.builtin "lifetime.subscript" ⟨[x, y], []⟩) := by intro _ _; rfl) : PE X (.Subscript a b pos) (tOp (rSubO C sp E0) ta tb) := by
  obtain ⟨f, fd, F, d, hb'⟩ := c.ex
  exact pe_subO d F hr hb' passL ha hb hs
/-- o(e, ..), o an instance with its own __call__ -/
def tCallOW (C : Addr) (sp : Sp) (W : WX) (tf : TE) (t : TA) : TE := fun σ H Q => tf σ H fun y H1 => ∃ a, y = V.ref a ∧ t σ H1 fun vs H2 => (∃ dx fs, H2 a = some (.ins C dx fs)) ∧ sp (V.ref a :: vs) H2 Q (at_ W σ)
theorem pe_calo {fe : Expr} {tf : TE} (c : CalD X.prog X.w X.K X.mg X.base k C "__call__" ps sp) (hr : Room k X.A) (tk : Takes X W) (hf : PE X fe tf) (ha : PA X (e :: es) t)
    (ht : eval (.Call fe (e :: es) [] pos) X.env = (do callWith pos (← eval fe X.env) [] (backTo pos (starEach (e :: es) X.env)) (backToKw pos (keywordEach [] X.env))) := by rfl)
    (he : starEach (e :: es) X.env = (false, eval e X.env) :: starEach es X.env := by rfl) (hpl : (backTo pos (starEach es X.env)).any (·.1) = false := by rfl) : PE X (.Call fe (e :: es) [] pos) (tCallOW C sp W tf t) := by
  obtain ⟨g, fd, F, d, hb⟩ := c.ex
  refine ⟨fun pins s σ H Q I h => ?_⟩
  refine Call_ (thn (hf.run pins s σ H _ I h) fun u s1 ⟨y, H1, I1, ry, a, ey, q⟩ => ?_) ht
  subst ey
  obtain rfl : u = Value.ref a := ry
  refine StX.callO_with (thn (ha.run pos pins s1 σ H1 _ I1 q) fun us s2 ⟨vs, H2, I2, r, ⟨dx, fs, hi⟩, q2⟩ => ?_) he hpl
  obtain ⟨ox, od, J, hd⟩ := StX.insC_at I2 (.inr ⟨dx, fs, hi⟩)
  have r2 : Vals (V.ref a :: vs) (Value.ref a :: us) := .cons rfl r
  have hl : (Value.ref a :: us ++ []).length = ps.length := by
    rw [← F.len _ _ _ _ q2, List.append_nil]
    exact r2.length.symm
  have hb' := hb s2 (Value.ref a :: us) I2.kIn hl
  rw [List.append_nil] at hb'
  refine ⟨⟨C, ox, od, J, hd⟩, wpAny_call (PySem.W.kco_code I2.kIn J hd d.at_ d.fn d.fi (codeAny_mono (F.run X.A X.stack s2 H2 ⟨Value.ref a :: us, []⟩ _ _ Q (at_ W σ) hr I2.env0 hb' r2 q2) fun r s' hq => ?_))⟩
  cases r with
  | error e => exact pass_at tk σ pins H2 s2 e s' I2 hq
  | ok fl =>
    cases fl with
    | ret u => exact I2.after hq
    | next => exact False.elim hq
    | brk => exact False.elim hq
    | cont => exact False.elim hq
/-- raise C(e, ..) -/
theorem ps_cale (c : CalE X.prog X.w X.K X.mg X.base k C x ps sp) (hr : Room (k + 1) X.A) (tk : Takes X W) (ha : PA X (e :: es) t) (hc : X.calm = true := by rfl) (hg : Gl X x := by rfl)
    (hdb : (x == ("__debug__" : PySem.Str)) = false := by decide) (he : starEach (e :: es) X.env = (false, eval e X.env) :: starEach es X.env := by rfl) (hpl : (backTo pos (starEach es X.env)).any (·.1) = false := by rfl) :
    PS X (.Raise (some (.Call (.Name x p) (e :: es) [] pos)) none apos) (fun _ σ H => tMkO C sp [] t σ H fun cls d H' => W cls d σ H') := by
  obtain ⟨f, fd, F, T, iC, tI, hm, hb⟩ := c.ex
  exact ps_raise hc tk (pmk_oex T iC tI F hr hb .nil passL hg hm ha hdb he hpl)
end
/-! ### heaps that grow -/
theorem Same.new {H : Hp} {p : Addr} {o : HO} (h : H p = none) : Same H (upd H p o) := fun a u e => by
  rw [upd_ne (ne_of_none e h)]
  exact e
theorem Same.tq {K : PySem.W.Frag} {H H' : Hp} {a : Addr} {xs : List V} (e : Same H H') (h : SqT K H a xs) : SqT K H' a xs :=
  h.elim (fun h => .inl (h.elim (fun h => .inl (e _ _ h)) fun ⟨o, h⟩ => .inr ⟨o, e _ _ h⟩)) fun h => .inr h
/-! ### sorts of things -/
def sorts : List String := ["NoneType", "bool", "int", "str", "list", "tuple", "dict"]
abbrev Srt (K : PySem.W.Frag) (H : Hp) (v : V) (n : String) : Prop := TyX K H v (.type n) ∧ n ∈ sorts
theorem kit_b {K : PySem.W.Frag} (a : String) (ha : a ∈ sorts) (n : String) (hn : n ∈ ["int", "bool", "str", "list", "tuple", "dict"]) : PySem.W.kitOne K (.type a) (.type n) = some (decide (a = n) || (decide (a = "bool") && decide (n = "int"))) := by
  refine kit_ty ?_
  have : ∀ a ∈ sorts, ∀ n ∈ ["int", "bool", "str", "list", "tuple", "dict"], kitB a n = some (decide (a = n) || (decide (a = "bool") && decide (n = "int"))) := by decide +kernel
  exact this a ha n hn
theorem Srt.same {K : PySem.W.Frag} {H H' : Hp} {v : V} {n : String} (e : Same H H') (h : Srt K H v n) : Srt K H' v n := by
  refine ⟨?_, h.2⟩
  cases h.1 with
  | base b =>
    refine .base ?_
    cases b with
    | non => exact .non
    | bl y => exact .bl y
    | int i => exact .int i
    | str y => exact .str y
    | flt y => exact .flt y
    | lst ea => exact .lst (e _ _ ea)
    | frz ea => exact .frz (e _ _ ea)
    | tup ea => exact .tup (e _ _ ea)
    | dK ea => exact .dK (e _ _ ea)
    | dT ea => exact .dT (e _ _ ea)
  | byt b => exact .byt b
  | set ea => exact .set (e _ _ ea)
  | kList a c => exact .kList a c
  | kTuple a c => exact .kTuple a c
  | kDict a c => exact .kDict a c
  | fTuple ea => exact .fTuple (e _ _ ea)
  | fDict ea => exact .fDict (e _ _ ea)
theorem list_tuple_b {K : PySem.W.Frag} (n : String) (hn : n ∈ sorts) : PySem.W.kitAny K (.type n) [.type "list", .type "tuple"] = some (decide (n = "list") || decide (n = "tuple")) := by
  refine kitAny_cons (b := decide (n = "list")) (by have := kit_b (K := K) n hn "list" (by decide); simpa using this) (fun e => ?_) (fun e => by simp [e])
  refine kitAny_cons (b := decide (n = "tuple")) (by have := kit_b (K := K) n hn "tuple" (by decide); simpa using this) (fun e2 => ?_) (fun e2 => by simp [e2])
  rw [e, e2]
  rfl
theorem srt_str {K : PySem.W.Frag} {H : Hp} (x : PySem.Str) : Srt K H (.str x) "str" := ⟨.base (.str x), by decide⟩
theorem srt_non {K : PySem.W.Frag} {H : Hp} : Srt K H .non "NoneType" := ⟨.base .non, by decide⟩
theorem srt_bl {K : PySem.W.Frag} {H : Hp} (b : Bool) : Srt K H (.bl b) "bool" := ⟨.base (.bl b), by decide⟩
theorem srt_int {K : PySem.W.Frag} {H : Hp} (i : Int) : Srt K H (.int i) "int" := ⟨.base (.int i), by decide⟩
theorem srt_lst {K : PySem.W.Frag} {H : Hp} {a : Addr} {xs : List V} (h : H a = some (.lst xs)) : Srt K H (.ref a) "list" := ⟨.base (.lst h), by decide⟩
theorem srt_tup {K : PySem.W.Frag} {H : Hp} {a : Addr} {xs : List V} (h : H a = some (.tup xs)) : Srt K H (.ref a) "tuple" := ⟨.base (.tup h), by decide⟩
theorem srt_dK {K : PySem.W.Frag} {H : Hp} {a : Addr} {xs : List (Key × V)} (h : H a = some (.dK xs)) : Srt K H (.ref a) "dict" := ⟨.base (.dK h), by decide⟩
theorem srt_dT {K : PySem.W.Frag} {H : Hp} {a : Addr} {xs : List (List Key × V)} (h : H a = some (.dT xs)) : Srt K H (.ref a) "dict" := ⟨.base (.dT h), by decide⟩
theorem srt_tq {K : PySem.W.Frag} {H : Hp} {a : Addr} {xs : List V} (h : SqT K H a xs) : Srt K H (.ref a) "tuple" := by
  rcases h with (h | ⟨o, h⟩) | ⟨o, its, n, hk, hc, _⟩
  · exact srt_tup h
  · exact ⟨.fTuple h, by decide⟩
  · exact ⟨.kTuple hk hc, by decide⟩
theorem srt_lq {K : PySem.W.Frag} {H : Hp} {a : Addr} {xs : List V} (h : SqL K H a xs) : Srt K H (.ref a) "list" := by
  rcases h with (h | ⟨o, h⟩) | ⟨o, its, n, hk, hc, _⟩
  · exact srt_lst h
  · exact ⟨.base (.frz h), by decide⟩
  · exact ⟨.kList hk hc, by decide⟩
theorem srt_is_str {K : PySem.W.Frag} {H : Hp} {v : V} (h : Srt K H v "str") : ∃ z, v = .str z := by
  obtain ⟨ty, _⟩ := h
  generalize ht : Value.type "str" = t at ty
  cases ty with
  | base b => cases b <;> first | exact ⟨_, rfl⟩ | exact absurd (Value.type.inj ht) (by decide) | cases ht
  | _ => exact absurd (Value.type.inj ht) (by decide)
theorem all_range {α : Type} [Inhabited α] (l : List α) {n : Nat} (hn : n = l.length) (p : α → Bool) (d : α := default) : l.all p = (List.range n).all (id ∘ fun i => p (l.getD i d)) := by
  subst hn
  induction l with
  | nil => rfl
  | cons x l ih =>
    rw [List.length_cons, List.range_succ_eq_map, List.all_cons, List.all_cons, List.all_map, ih]
    rfl
section
variable {P : Program} {w : World} {K : PySem.W.Frag} {mg : PySem.Str → Option Value} {base : Heap}
theorem cal_of {x : PySem.Str} {st : Stmt} {f : Addr} {fd : FuncData} {ps : List PySem.Str} {k : Nat} {sp : Sp} (F : FunD K x x (defArgs st) (defBody st) (defScope st) [] [] f fd) (g : mg x = some (.ref f)) (hb : L2.Binds K fd ps []) (ok : FnOk P w K mg base (L2.CX P w) k f fd ps sp) :
    Cal P w K mg base k x ps sp := ⟨f, fd, ok, g, F.kp, hb⟩
/-- what a test of any thing says, leaving what stands -/
def spTest (R : PySem.W.Frag → Hp → V → Bool → Prop) (K : PySem.W.Frag) : Sp := fun vs H Q _ => ∃ v b, vs = [v] ∧ R K H v b ∧ ∀ H', Same H H' → Q (.bl b) H'
end
/-- isinstance of a thing whose sort is known -/
theorem isi_of {K : PySem.W.Frag} {H : Hp} {v : V} {n m : String} {Q : VK} (h : Srt K H v n) (hm : m ∈ ["int", "bool", "str", "list", "tuple", "dict"]) (q : Q (.bl (decide (n = m) || (decide (n = "bool") && decide (m = "int")))) H) : rIsi K [v, .ty m] H Q :=
  ⟨v, .ty m, _, _, _, rfl, .ty _, h.1, kit_b n h.2 m hm, q⟩
/-! ### comprehensions that only make things -/
theorem range_map_succ {α : Type} (f : Nat → α) (i : Nat) : (List.range (i + 1)).map f = (List.range i).map f ++ [f i] := by
  rw [List.range_succ, List.map_append] <;> rfl
/-- what the machine asks of a comprehension's loop -/
abbrev LcW (J : It) (g : TG) (tt : TT) (te : TE) (vs : List Nat) (σ : L2.St) (D : Addr) (H0 : Hp) (Qd : Hp → Prop) : Prop :=
  ∃ W : Nat → Nat → Hp → Prop, (∃ m, W 0 m H0) ∧ ∀ i m H, W i m H →
      (J.stop i H ∧ Qd H) ∨ (J.go i H ∧ ∃ Nx : Hp → Prop, (∀ H', Nx H' → ∃ m', m' < m ∧ W (i + 1) m' H') ∧ ∀ x H', J.yld i H x H' → g x (wipe σ vs) H' fun σ2 H2 => wipe σ2 vs = wipe σ vs ∧ tt σ2 H2 fun b H3 =>
        if b = true then te σ2 H3 fun y H4 => ∃ acc, H4 D = some (.lst acc) ∧ acc.length < sizeLine ∧ Nx (upd H4 D (.lst (acc ++ [y]))) else Nx H3)
theorem lc_map {J : It} {n : Nat} {G : Hp → Prop} {Y : Nat → Hp → V → Hp → Prop} (w : Walk J n G Y) {g : TG} {te : TE} {vs : List Nat} {σ : L2.St} {H1 : Hp} {D : Addr} {Qd : Hp → Prop} (hD : H1 D = none) (f : Nat → V) (hn : n ≤ sizeLine)
    (hG : ∀ H, Same H1 H → G H)
    (turn : ∀ i x H H', i < n → Same H1 H → Y i H x H' → Same H H' ∧ ∀ Kt : V → Hp → Prop, (∀ H4, Same H' H4 → Kt (f i) H4) → g x (wipe σ vs) H' fun σ2 H2 => wipe σ2 vs = wipe σ vs ∧ te σ2 H2 Kt)
    (mono : ∀ (σ : L2.St) (H : Hp) (x : V) (A B : L2.St → Hp → Prop), (∀ σ H, A σ H → B σ H) → g x σ H A → g x σ H B := by intro σ H x A B h z; exact h _ _ z)
    (hd : ∀ H, Same H1 H → H D = some (.lst ((List.range n).map f)) → Qd H) : LcW J g tYes te vs σ D (upd H1 D (.lst [])) Qd := by
  refine lc_it w (fun i H => Same H1 H ∧ H D = some (.lst ((List.range i).map f))) ⟨Same.new hD, upd_same⟩ (fun i H _ p => hG H p.1) (fun i x H H' hi p y => ?_) (fun H p => hd H p.1 p.2)
  obtain ⟨sy, t⟩ := turn i x H H' hi p.1 y
  refine mono _ _ _ _ _ (fun σ2 H2 z => ⟨z.1, ?_⟩) (t (fun y H4 => ∃ acc, H4 D = some (.lst acc) ∧ acc.length < sizeLine ∧ (Same H1 (upd H4 D (.lst (acc ++ [y]))) ∧ (upd H4 D (.lst (acc ++ [y]))) D = some (.lst ((List.range (i + 1)).map f)))) fun H4 s4 => ?_)
  · exact z.2
  · refine ⟨_, s4 _ _ (sy _ _ p.2), by simp; omega, ?_, ?_⟩
    · intro a o e
      rw [upd_ne (ne_of_none e hD)]
      exact s4 _ _ (sy _ _ (p.1 _ _ e))
    · rw [upd_same, range_map_succ]
/-! ### what a test of a sort says -/
theorem sort_is {n m : String} (hn : n ∈ sorts) (hm : m ∈ ["bool", "str", "list", "tuple", "dict"]) : (decide (n = m) || (decide (n = "bool") && decide (m = "int"))) = decide (n = m) := by
  have : ∀ m ∈ ["bool", "str", "list", "tuple", "dict"], decide (m = "int") = false := by decide
  rw [this m hm, Bool.and_false, Bool.or_false]
theorem isi_is {K : PySem.W.Frag} {H : Hp} {v : V} {n m : String} {Q : VK} (h : Srt K H v n) (hm : m ∈ ["bool", "str", "list", "tuple", "dict"]) (q : Q (.bl (decide (n = m))) H) : rIsi K [v, .ty m] H Q := by
  refine isi_of h (List.mem_cons_of_mem _ hm) ?_
  rw [sort_is h.2 hm]
  exact q
theorem srt_str_eq {K : PySem.W.Frag} {H : Hp} {z : PySem.Str} {n : String} (h : Srt K H (.str z) n) : n = "str" := by
  cases h.1 with
  | base b => cases b; rfl
theorem str_beq (a b : PySem.Str) : (a == b) = decide (b = a) := by
  by_cases e : b = a
  · subst e; simp
  · rw [decide_eq_false e]
    exact beq_eq_false_iff_ne.mpr (Ne.symm e)
/-- a local that holds a def of the module -/
theorem pe_calL {X : Cx} {k i : Nat} {y x : PySem.Str} {f : Addr} {ps : List PySem.Str} {sp : Sp} {p pos : Pos} {e : Expr} {es : List Expr} {t : TA} (c : Cal X.prog X.w X.K X.mg X.base k y ps sp) (g : X.mg y = some (.ref f)) (hr : Room k X.A) (hN : X.N[i]? = some x) (hv : Vis X.env.scope x) (ha : PA X (e :: es) t)
    (hdb : (x == ("__debug__" : PySem.Str)) = false := by decide) (hcd : (x == ("__classdict__" : PySem.Str)) = false := by decide)
    (he : starEach (e :: es) X.env = (false, eval e X.env) :: starEach es X.env := by rfl) (hpl : (backTo pos (starEach es X.env)).any (·.1) = false := by rfl) : PE X (.Call (.Name x p) (e :: es) [] pos) (tCallL i f sp [] E0 t) := by
  obtain ⟨f', fd, F, hm, hk, hb⟩ := c.ex
  cases Option.some.inj (hm.symm.trans g)
  exact pe_callL F hr hN hv hk hb .nil passL ha hdb hcd he hpl
/-! ### readings by their names -/
def rLenQ (K : PySem.W.Frag) : List V → Hp → VK → Prop := fun xs H Q => ∃ p ys, xs = [.ref p] ∧ (SqL K H p ys ∨ SqT K H p ys) ∧ Q (.int ys.length) H
theorem call_lenQ {X : Cx} : CallR X (.builtin "len") (rLenQ X.K) := call_len_seq
def rTupOf (K : PySem.W.Frag) : List V → Hp → VK → Prop := fun xs H Q => ∃ p ys, xs = [V.ref p] ∧ ((SqL K H p ys ∧ ∀ (l : Addr), H l = none → Q (V.ref l) (upd H l (HO.tup ys))) ∨ SqT K H p ys ∧ Q (V.ref p) H)
theorem call_tupOf {X : Cx} : CallR X (.type "tuple") (rTupOf X.K) := call_tuple_of
end Rs
set_option Elab.async false
set_option linter.all false
set_option maxRecDepth 100000
set_option maxHeartbeats 2000000
/-! len({x for x in xs}): how many unlike ones there are. -/
namespace Rs
open PySem PySem.Spec PyProof.Rows L2
section
variable {α : Type} [DecidableEq α]
/-- how many unlike elements -/
def cnt : List α → Nat
  | [] => 0
  | x :: l => (if x ∈ l then 0 else 1) + cnt l
theorem cnt_snoc (x : α) : ∀ l : List α, cnt (l ++ [x]) = cnt l + if x ∈ l then 0 else 1
  | [] => by simp [cnt]
  | y :: l => by
    rw [List.cons_append, cnt, cnt, cnt_snoc x l]
    by_cases hx : x ∈ l
    · have h1 : (y ∈ l ++ [x]) ↔ y ∈ l := by
        simp only [List.mem_append, List.mem_singleton]
        exact ⟨fun h => h.elim id fun e => e ▸ hx, .inl⟩
      simp only [h1, hx, List.mem_cons, or_true, if_true]
      omega
    · by_cases hy : y = x
      · subst hy
        simp [hx]
        omega
      · have h1 : (y ∈ l ++ [x]) ↔ y ∈ l := by
          simp only [List.mem_append, List.mem_singleton, hy, or_false]
        have h2 : ¬ x ∈ y :: l := by simp [hx, Ne.symm hy]
        simp only [h1, hx, h2, if_false]
        omega
theorem cnt_le : ∀ l : List α, cnt l ≤ l.length
  | [] => Nat.le_refl _
  | x :: l => by
    have := cnt_le l
    rw [cnt, List.length_cons]
    split <;> omega
theorem cnt_all : ∀ l : List α, cnt l = l.length ↔ l.Nodup
  | [] => by simp [cnt]
  | x :: l => by
    have := cnt_le l
    rw [cnt, List.length_cons, List.nodup_cons, ← cnt_all l]
    by_cases h : x ∈ l
    · simp only [h, if_true, not_true, false_and, iff_false]
      omega
    · simp only [h, if_false, not_false_eq_true, true_and]
      omega
theorem cnt_take {l : List α} {i : Nat} {x : α} (h : l[i]? = some x) : cnt (l.take (i + 1)) = cnt (l.take i) + if x ∈ l.take i then 0 else 1 := by
  rw [take_next h, cnt_snoc]
end
/-- the loop of a set comprehension -/
abbrev ScW (J : It) (Z : Addr → HO) (ad : V → List V → Hp → VK → Prop) (g : TG) (tt : TT) (te : TE) (vs : List Nat) (σ : L2.St) (D : Addr) (H0 : Hp) (Qd : Hp → Prop) : Prop :=
  ∃ W : Nat → Nat → Hp → Prop, (∃ m, W 0 m H0) ∧ ∀ i m H, W i m H →
      (J.stop i H ∧ Qd H) ∨ (J.go i H ∧ ∃ Nx : Hp → Prop, (∀ H', Nx H' → ∃ m', m' < m ∧ W (i + 1) m' H') ∧ ∀ x H', J.yld i H x H' → g x (wipe σ vs) H' fun σ2 H2 => wipe σ2 vs = wipe σ vs ∧ tt σ2 H2 fun b H3 =>
        if b = true then te σ2 H3 fun y H4 => ad (.ref D) [y] H4 fun _ H5 => Nx H5 else Nx H3)
theorem sc_it {J : It} {n : Nat} {G : Hp → Prop} {Y : Nat → Hp → V → Hp → Prop} (w : Walk J n G Y) {Z : Addr → HO} {ad : V → List V → Hp → VK → Prop} {g : TG} {tt : TT} {te : TE} {vs : List Nat} {σ : L2.St} {D : Addr} {H0 : Hp} {Qd : Hp → Prop} (Pv : Nat → Hp → Prop) (h0 : Pv 0 H0) (hG : ∀ i H, i ≤ n → Pv i H → G H)
    (hs : ∀ i x H H', i < n → Pv i H → Y i H x H' → g x (wipe σ vs) H' fun σ2 H2 => wipe σ2 vs = wipe σ vs ∧ tt σ2 H2 fun b H3 =>
      if b = true then te σ2 H3 fun y H4 => ad (.ref D) [y] H4 fun _ H5 => Pv (i + 1) H5 else Pv (i + 1) H3) (hd : ∀ H, Pv n H → Qd H) : ScW J Z ad g tt te vs σ D H0 Qd := by
  refine ⟨fun i m H => m = n - i ∧ i ≤ n ∧ Pv i H, ⟨n, by simp, Nat.zero_le _, h0⟩, ?_⟩
  rintro i m H ⟨rfl, hi, p⟩
  have q := hG i H hi p
  by_cases hlt : i < n
  · exact .inr ⟨w.goes i H hlt q, Pv (i + 1), fun H' p' => ⟨n - (i + 1), by omega, rfl, hlt, p'⟩, fun x H' y => hs i x H H' hlt p (w.yields i H x H' hlt q y)⟩
  · have e : i = n := by omega
    subst e
    exact .inl ⟨w.stops H q, hd H p⟩
section
variable {P : Program} {w : World} {K : PySem.W.Frag}
abbrev Zk (P : Program) (w : World) : Addr → HO := fun D => SetK P w D (fun _ => false) 0
abbrev Zt (P : Program) (w : World) : Addr → HO := fun D => SetT P w D []
theorem walk_lm {α : Type} {a : Addr} {f : α → V} {ss : List α} : Walk (Itl K a) ss.length (fun H => SqL K H a (ss.map f)) (YAt (ss.map f)) := by
  have := walk_list (K := K) (a := a) (xs := ss.map f)
  rwa [List.length_map] at this
theorem walk_tm {α : Type} {a : Addr} {f : α → V} {ss : List α} : Walk (Itt K a) ss.length (fun H => SqT K H a (ss.map f)) (YAt (ss.map f)) := by
  have := walk_tup (K := K) (a := a) (xs := ss.map f)
  rwa [List.length_map] at this
def inTx (l : List PySem.Str) : Key → Bool
  | .inr z => decide (z ∈ l)
  | .inl _ => false
/-- the texts of a row, each as it is -/
theorem sc_txts {J : It} {ss : List PySem.Str} {G : Hp → Prop} (wk : Walk J ss.length G (YAt (ss.map V.str))) {j : Nat} {σ : L2.St} {H1 : Hp} {D : Addr} {Qd : Hp → Prop} (hD : H1 D = none) (hG : ∀ H, Same H1 H → G H) (hj : j < σ.length) (hn : ss.length + 1 < scanBound)
    (hd : ∀ H S, Same H1 H → H D = some (SetK P w D S (cnt ss)) → Qd H) : ScW J (Zk P w) (rSAddK P w) (gName j) tYes (tVar j) [j] σ D (upd H1 D (Zk P w D)) Qd := by
  refine sc_it wk (fun i H => Same H1 H ∧ H D = some (SetK P w D (inTx (ss.take i)) (cnt (ss.take i)))) ⟨Same.new hD, ?_⟩ (fun i H _ p => hG H p.1) (fun i x H H' hi p y => ?_) (fun H p => hd H _ p.1 (by have := p.2; rw [List.take_length] at this; exact this))
  · rw [upd_same]
    have : (fun _ => false) = inTx (ss.take 0) := by funext k; cases k <;> simp [inTx]
    show some (SetK P w D _ _) = _
    rw [this]
    rfl
  · obtain ⟨rfl, hx⟩ := y
    rw [List.getElem?_map] at hx
    obtain ⟨z, hz⟩ : ∃ z, ss[i]? = some z := ⟨_, List.getElem?_eq_getElem hi⟩
    rw [hz] at hx
    cases Option.some.inj hx
    refine ⟨by simp [wipe, List.set_set], ?_⟩
    refine ⟨.str z, ?_, D, Sum.inr z, _, _, rfl, rfl, p.2, ?_, ?_, ?_⟩
    · rw [List.getElem?_set_self (by rw [wipe_length]; exact hj)]
    · have := cnt_le (ss.take i)
      have := List.length_take_le i ss
      omega
    · intro a o e
      rw [upd_ne (ne_of_none e hD)]
      exact p.1 _ _ e
    · rw [upd_same]
      congr 1
      have e1 : (fun j : Key => inTx (ss.take i) j || decide (j = (Sum.inr z : Key))) = inTx (ss.take (i + 1)) := by
        funext k
        rw [take_next hz]
        cases k with
        | inl a => simp [inTx]
        | inr a => simp [inTx, List.mem_append, Bool.decide_or]
      have e2 : (if inTx (ss.take i) (Sum.inr z) = true then cnt (ss.take i) else cnt (ss.take i) + 1) = cnt (ss.take (i + 1)) := by
        rw [cnt_take hz]
        by_cases h : z ∈ ss.take i
        · simp [inTx, h]
        · simp [inTx, h]
      show SetK P w D _ _ = SetK P w D _ _
      rw [e1, e2]
theorem map_inj {α β : Type} {f : α → β} (hf : ∀ x y, f x = f y → x = y) : ∀ {l m : List α}, l.map f = m.map f → l = m
  | [], [], _ => rfl
  | [], _ :: _, e => nomatch e
  | _ :: _, [], e => nomatch e
  | x :: l, y :: m, e => by
    obtain ⟨e1, e2⟩ := List.cons.inj e
    rw [hf x y e1, map_inj hf e2]
/-- the rows of a row -/
theorem sc_rows {J : It} {bs : List Addr} {ks : List (List PySem.Str)} {G : Hp → Prop} (wk : Walk J bs.length G (YAt (bs.map V.ref))) {j : Nat} {σ : L2.St} {H1 : Hp} {D : Addr} {Qd : Hp → Prop} (hD : H1 D = none) (hG : ∀ H, Same H1 H → G H) (hj : j < σ.length) (hn : bs.length < 63)
    (hk : Paired (fun k b => RowAt K H1 b k) ks bs)
    (hd : ∀ H L, Same H1 H → H D = some (SetT P w D L) → L.length = cnt ks → Qd H) : ScW J (Zt P w) (rAddT K P w) (gName j) tYes (tVar j) [j] σ D (upd H1 D (Zt P w D)) Qd := by
  have hlen : ks.length = bs.length := Paired.length hk
  have at_ : ∀ {ks : List (List PySem.Str)} {bs : List Addr}, Paired (fun k b => RowAt K H1 b k) ks bs → ∀ (i : Nat) (b : Addr), bs[i]? = some b → ∃ k, ks[i]? = some k ∧ RowAt K H1 b k := by
    intro ks bs h
    induction h with
    | nil => intro i b e; simp at e
    | cons h1 _ ih =>
      intro i b e
      cases i with
      | zero => simp at e; subst e; exact ⟨_, rfl, h1⟩
      | succ i => simp at e; obtain ⟨k, e1, e2⟩ := ih i b e; exact ⟨k, by simpa using e1, e2⟩
  let toK : List PySem.Str → List Key := fun k => k.map Sum.inr
  have inj : ∀ a b : List PySem.Str, toK a = toK b → a = b := fun a b e => map_inj (fun x y h => Sum.inr.inj h) e
  have kvmap : ∀ k : List PySem.Str, (toK k).map kV = k.map V.str := fun k => by simp [toK, kV, Function.comp_def]
  refine sc_it wk (fun i H => Same H1 H ∧ ∃ L : List (Addr × List Key), H D = some (SetT P w D L) ∧ L.length = cnt (ks.take i) ∧ (∀ p ∈ L, SqT K H1 p.1 (p.2.map kV)) ∧ ∀ k, k ∈ L.map (·.2) ↔ k ∈ (ks.take i).map toK)
    ⟨Same.new hD, [], upd_same, by simp [cnt], fun p hp => by simp at hp, by simp⟩ (fun i H _ p => hG H p.1) (fun i x H H' hi p y => ?_) (fun H p => ?_)
  · obtain ⟨rfl, hx⟩ := y
    rw [List.getElem?_map] at hx
    obtain ⟨b, hb⟩ : ∃ b, bs[i]? = some b := ⟨_, List.getElem?_eq_getElem hi⟩
    rw [hb] at hx
    cases Option.some.inj hx
    obtain ⟨s1, L, hL, hl, hq, hm⟩ := p
    obtain ⟨k, ek, hr⟩ := at_ hk i b hb
    refine ⟨by simp [wipe, List.set_set], ?_⟩
    have hle := cnt_le (ks.take i)
    have hle2 := List.length_take_le i ks
    refine ⟨.ref b, List.getElem?_set_self (by rw [wipe_length]; exact hj), D, b, toK k, L, rfl, rfl, hL, ?_, fun p hp => Same.tq s1 (hq p hp), by omega, fun L' h1 h2 => ⟨?_, L', upd_same, ?_, ?_, ?_⟩⟩
    · rw [kvmap]
      exact Same.tq s1 hr
    · intro a o e
      rw [upd_ne (ne_of_none e hD)]
      exact s1 _ _ e
    · rw [cnt_take ek]
      by_cases h : k ∈ ks.take i
      · rw [h1 ((hm _).mpr (List.mem_map.mpr ⟨k, h, rfl⟩)), hl, if_pos h, Nat.add_zero]
      · rw [(h2 fun z => h (by obtain ⟨k', h', e'⟩ := List.mem_map.mp ((hm _).mp z); exact inj _ _ e' ▸ h')).length_eq, List.length_cons, hl, if_neg h]
    · intro p hp
      by_cases h : k ∈ ks.take i
      · rw [h1 ((hm _).mpr (List.mem_map.mpr ⟨k, h, rfl⟩))] at hp
        exact hq p hp
      · rcases List.mem_cons.mp ((h2 fun z => h (by obtain ⟨k', h', e'⟩ := List.mem_map.mp ((hm _).mp z); exact inj _ _ e' ▸ h')).mem_iff.mp hp) with rfl | hp
        · rw [kvmap]; exact hr
        · exact hq p hp
    · intro k2
      rw [take_next ek, List.map_append, List.mem_append, ← hm k2]
      by_cases h : k ∈ ks.take i
      · rw [h1 ((hm _).mpr (List.mem_map.mpr ⟨k, h, rfl⟩))]
        refine ⟨.inl, fun z => z.elim id fun z => ?_⟩
        rw [List.map_cons, List.map_nil, List.mem_singleton] at z
        rw [z]
        exact (hm _).mpr (List.mem_map.mpr ⟨k, h, rfl⟩)
      · rw [((h2 fun z => h (by obtain ⟨k', h', e'⟩ := List.mem_map.mp ((hm _).mp z); exact inj _ _ e' ▸ h')).map (·.2)).mem_iff]
        simp only [List.map_cons, List.map_nil, List.mem_cons, List.not_mem_nil, or_false]
        exact Or.comm
  · obtain ⟨s1, L, hL, hl, _⟩ := p
    rw [← hlen, List.take_length] at hl
    exact hd H L s1 hL hl
end
end Rs
set_option Elab.async false
set_option linter.all false
set_option maxRecDepth 100000
set_option maxHeartbeats 2000000
/-! d.values() of a dict whose keys are tuples. -/
namespace Rs
open PySem PySem.Spec PyProof.Rows L2
def Itdt (d : Addr) (o : Obj) (kvs : List (List Key × V)) : It :=
  ⟨fun i H => H d = some (.frz o (.dT kvs)) ∧ i < kvs.length, fun i H x H' => H' = H ∧ ∃ k, kvs[i]? = some (k, x), fun i H => H d = some (.frz o (.dT kvs)) ∧ kvs.length ≤ i⟩
theorem walk_valuesT {d : Addr} {o : Obj} {kvs : List (List Key × V)} : Walk (Itdt d o kvs) kvs.length (fun H => H d = some (.frz o (.dT kvs))) (fun i H x H' => H' = H ∧ ∃ k, kvs[i]? = some (k, x)) :=
  ⟨fun _ _ hi q => ⟨q, hi⟩, fun _ q => ⟨q, Nat.le_refl _⟩, fun _ _ _ _ _ _ y => y⟩
theorem frzT_val {X : Cx} {pins : List (Addr × Obj)} {σ : L2.St} {H : Hp} {s : Shared} {d : Addr} {o : Obj} {kvs : List (List Key × V)} (I : L2.Inv X pins σ H s) (h : H d = some (.frz o (.dT kvs))) :
    (d == sysModules) = false ∧ ∃ (es : Array DictEntry) (ep : Nat), o.data = .dict es ep ∧ s.heap.DictRaw d es ep ∧ es.size = kvs.length ∧
      ∀ (i : Nat) (k : List Key) (v : V), kvs[i]? = some (k, v) → ∃ (en : DictEntry), es[i]? = some en ∧ RelV v en.val := by
  obtain ⟨hd, z, hs, xs, pr, o', es, ep, ho, hx, hdt, he, _⟩ := I.hok d _ h
  rw [hd] at ho
  cases ho
  refine ⟨hs, es, ep, hdt, ⟨o, hd, hx, hdt⟩, ?_, fun i k v e => ?_⟩
  · have l1 : es.size = xs.length := size_of_entries he
    have l2 : kvs.length = xs.length := Paired.length pr
    omega
  · obtain ⟨b, hb, e1, e2, e3⟩ := L2.paired_get pr e
    have q := entry_at he i
    rw [hb] at q
    exact ⟨_, q, e3⟩
theorem turn_valsT {P : Program} {w : World} {K : PySem.W.Frag} {tg : Expr} {d : Addr} {o : Obj} {es : Array DictEntry} {ep : Nat} {kvs : List (List Key × V)} (it : Addr) (hod : o.data = .dict es ep) : Turn P w K tg (Itdt d o kvs) [it] it (fun i h => h.IsValIter it d i kvs.length ep) where
  mem := by simp
  obj := fun i h st b hb => by
    cases (show b = it by simpa using hb)
    obtain ⟨oi, e, c, dd⟩ := st
    exact ⟨oi, e, fun v z => by rw [dd] at z; cases z⟩
  keep := fun i h h' st k => st.at fun oi e => k it (by simp) oi e
  item := by
    intro X hP hw hK hc i pins s σ H E I hf st hg
    subst hP hw hK
    obtain ⟨hd, hi⟩ := hg
    obtain ⟨f0, f1, f2, f3, f4, f5⟩ := hf it (by simp)
    obtain ⟨hs, es', ep', hdt, raw, hsz, ent⟩ := frzT_val I hd
    obtain ⟨rfl, rfl⟩ := dict_ep hod hdt
    obtain ⟨⟨k, v⟩, hkv⟩ : ∃ p, kvs[i]? = some p := ⟨kvs[i], List.getElem?_eq_getElem hi⟩
    obtain ⟨en, hen, hv⟩ := ent i k v hkv
    rw [← hsz] at st
    refine wpAny_pyNext_values_item_raw st raw (by omega) fun h' st' sb => ?_
    have I1 : L2.Inv X pins σ H { s with heap := h' } := I.turned (t' := s.toks) (fun b ob hb e => (sb.2 b hb).trans e) f0 f1 f3 f4 f5
    obtain ⟨oi, e, c, dd⟩ := id st'
    have hval : es'[i].val = en.val := by
      rw [Array.getElem?_eq_getElem (by omega)] at hen
      rw [Option.some.inj hen]
    refine ⟨_, rfl, go_of (s := { s with heap := h' }) e c dd (by decide) ⟨v, H, I1, by rw [hval]; exact hv, ⟨rfl, k, hkv⟩, by rw [← hsz]; exact st', fun b hb => (hf b hb).1⟩⟩
  done := by
    intro X hP hw hK hc i pins s σ H E I hf st hg
    subst hP hw hK
    obtain ⟨hd, hi⟩ := hg
    obtain ⟨f0, f1, f2, f3, f4, f5⟩ := hf it (by simp)
    obtain ⟨hs, es', ep', hdt, raw, hsz, ent⟩ := frzT_val I hd
    obtain ⟨rfl, rfl⟩ := dict_ep hod hdt
    rw [← hsz] at st
    exact wpAny_pyNext_values_end_raw (I.ok.hd hc) st raw (by omega) fun h' eb => ⟨rfl, I.turned (t' := s.toks) (fun b ob hb e => eb b ob hb e) f0 f1 f3 f4 f5⟩
  self := fun A i s Q E st h => wpAny_pyIter_valiter st h
def iValsT (td : TE) : TI := fun σ H R => td σ H fun x H1 => ∃ d o kvs, x = .ref d ∧ H1 d = some (.frz o (.dT kvs)) ∧ R (Itdt d o kvs) H1
theorem pi_valuesT {X : Cx} {tg e : Expr} {td : TE} {apos cpos : Pos} (he : PE X e td) (hbase : attributeBase e "values" X.env (eval e X.env) = eval e X.env := by rfl) (hline : (apos.endLine == cpos.line) = true := by rfl) : PI X tg (.Call (.Attribute e "values" apos) [] [] cpos) (iValsT td) := by
  refine ⟨fun pins s σ H R I h => ?_⟩
  refine wpAny_Call_method (T := "dict") (id := "dict.values") hbase rfl hline F.plainAttrs_dict F.slot_dict_values F.type_dict_values (thn (he.run pins s σ H _ I h) fun u s1 ⟨x, H1, I1, rx, d, o, kvs, ex, hd, q⟩ => ?_)
  subst ex
  obtain rfl : u = Value.ref d := rx
  obtain ⟨hs, es, ep, hdt, raw, hsz, ent⟩ := frzT_val I1 hd
  obtain ⟨o', ho', hx', hd'⟩ := id raw
  refine ⟨raw.typeIs, fun a e => by cases e; exact ⟨o', ho', hx'.2.1⟩, ?_⟩
  have I2 : L2.Inv X pins σ H1 { s1 with heap := s1.heap.push { cls := .type "dict_values", data := .fields #[.ref d] } } := I1.kept (t' := s1.toks) fun b ob q => Heap.get?_push_of_some _ q
  have fin : wpAny (model X.prog X.w) X.A (pyIter (.ref s1.heap.objs.size)) (PIE X pins σ tg R) X.xe { s1 with heap := s1.heap.push { cls := .type "dict_values", data := .fields #[.ref d] } } := by
    refine wpAny_pyIter_values_raw (d := d) ⟨_, Heap.get?_push_size _ rfl, rfl, rfl⟩ (raw.at fun ob e => Heap.get?_push_of_some _ e) (pi_one (tk := s1.toks) I2 _ (turn_valsT _ hdt) ⟨_, Heap.get?_push_size _ rfl, rfl, ?_⟩ q)
    rw [hsz] <;> rfl
  show wpAny _ _ (callWith cpos (.builtin "dict.values") [.ref d] [] []) _ X.xe s1
  exact method_meetsIn F.slot_dict_values F.entry_dict_values rfl (PySem.evalArgs_none ⟨rfl, raw.typeIs, F.args_dict_values_1 _, _, meets_dict_values_raw d hs, ⟨es, ep, raw⟩, fin⟩)
end Rs
set_option Elab.async false
set_option linter.all false
set_option maxRecDepth 100000
set_option maxHeartbeats 2000000
/-! for x in row, the row a list or a tuple. -/
namespace Rs
open PySem PySem.Spec PyProof.Rows L2
def iSeq (K : PySem.W.Frag) (tl : TE) : TI := fun σ H R => tl σ H fun x H1 => ∃ a, x = .ref a ∧ (((∃ xs, SqL K H1 a xs) ∧ R (Itl K a) H1) ∨ ((∃ xs, SqT K H1 a xs) ∧ R (Itt K a) H1))
theorem pi_seq {X : Cx} {tg l : Expr} {tl : TE} (hl : PE X l tl) : PI X tg l (iSeq X.K tl) := by
  refine ⟨fun pins s σ H R I h => thn (hl.run pins s σ H _ I h) fun v s1 ⟨x, H1, I1, r1, a, e, hor⟩ => ?_⟩
  subst e
  cases r1
  have fresh : ∀ b ∈ [s1.heap.objs.size], FpOk X pins H1 b := fun b hb => by
    cases (show b = s1.heap.objs.size by simpa using hb)
    exact I1.fpOk (Nat.le_refl _) (I1.hok.fresh (Nat.le_refl _))
  rcases hor with ⟨⟨xs, hq⟩, q⟩ | ⟨⟨xs, hq⟩, q⟩
  · obtain ⟨its, rv, p, hz⟩ := I1.list hq
    exact wpAny_pyIter_list p.isList ⟨s1.heap.objs.size, [s1.heap.objs.size], _, _, H1, rfl, I1.kept (t' := s1.toks) fun b o e => Heap.get?_push_of_some _ e, turn_list a _, ⟨_, Heap.get?_push_size _ rfl, rfl, rfl⟩, fresh, q⟩
  · obtain ⟨its, rv, p, hz⟩ := I1.tuple hq
    exact wpAny_pyIter_tuple (show s1.heap.IsTuple a its.toArray from p) ⟨s1.heap.objs.size, [s1.heap.objs.size], _, _, H1, rfl, I1.kept (t' := s1.toks) fun b o e => Heap.get?_push_of_some _ e, turn_tuple a _, ⟨_, Heap.get?_push_size _ rfl, rfl, rfl⟩, fresh, q⟩
end Rs
set_option Elab.async false
set_option linter.all false
set_option maxRecDepth 100000
set_option maxHeartbeats 2000000
/-! for i, x in enumerate(row), the row a list or a tuple. -/
namespace Rs
open PySem PySem.Spec PyProof.Rows L2
open Sem (wp)
open AutoSeq1 (wpAny_loadPart')
theorem meets_enumT (l : Addr) (items : Array Value) (n : Nat) (dct : Option Addr) (sl : Array (Option Value)) :
    Meets (Builtin.«enumerate.__new__» ⟨[.type "enumerate", .ref l], []⟩) (fun _ R s => s.heap.get? l = some { cls := .type "tuple", dict := dct, data := .seq items n, slots := sl } ∧
      R (.ok (.ret (.ref (s.heap.push { cls := .type "tuple_iterator", data := .fields #[.ref l, .int 0 0] }).objs.size)))
        { s with heap := (s.heap.push { cls := .type "tuple_iterator", data := .fields #[.ref l, .int 0 0] }).push { cls := .type "enumerate", data := .fields #[.none, .bool false, .ref s.heap.objs.size, rawInt 0, .none, .none] } }) :=
  .of_wp fun prog w A R s h => by
    obtain ⟨hp, g, d, tk, os⟩ := s; obtain ⟨hl, h⟩ := h
    have hsub := sub_enumerate
    have hL : Heap.IsTuple (Shared.heap ⟨hp, g, d, tk, os⟩) l items := ⟨_, hl, rfl, n, rfl⟩
    wp_walk using wpAny_loadPart' hl
    refine wpAny_stack_any fun st => wpAny_pure ?_
    split
    · rename_i c _ _ _ _ _
      cases (c == Value.type "enumerate")
      · wp_walk using wpAny_loadPart' hl, wpAny_pyIter_tuple hL
        exact ⟨_, rfl, h⟩
      · wp_walk using wpAny_loadPart' hl, wpAny_pyIter_tuple hL
        exact ⟨_, rfl, h⟩
    · wp_walk using wpAny_loadPart' hl, wpAny_pyIter_tuple hL
      exact ⟨_, rfl, h⟩
section
variable {prog : Program} {w : World} {A : Around} {E : Value → Shared → Prop} {s : Shared}
theorem call_enumT {l : Addr} {items : Array Value} {Q : Value → Shared → Prop} (hL : s.heap.IsTuple l items)
    (h : ∀ h', IsEnum h' (s.heap.objs.size + 1) s.heap.objs.size 0 .none → h'.IsTupleIter s.heap.objs.size l 0 → h'.objs.size = s.heap.objs.size + 2 →
      (∀ b o, s.heap.get? b = some o → h'.get? b = some o) → Q (.ref (s.heap.objs.size + 1)) { s with heap := h' }) :
    wpAny (model prog w) A (call (.type "enumerate") [.ref l]) Q E s := by
  obtain ⟨⟨c, dct, dt, sl⟩, hl, hc, n, hd⟩ := hL
  replace hc : c = .type "tuple" := hc
  replace hd : dt = .seq items n := hd
  subst hc hd
  refine callType_new F.called_enumerate (by decide) (F.typeCall_enumerate_1 _) (F.newCall_enumerate_1 _) (fun obj => F.args_object_init_2 obj _) F.entry_enumerate_new
    (meets_enumT l items n dct sl) ⟨hl, ?_⟩
  have hz : (s.heap.push { cls := .type "tuple_iterator", data := .fields #[.ref l, .int 0 0] }).objs.size = s.heap.objs.size + 1 := Heap.size_push ..
  show _ ∧ _
  rw [hz]
  have he : IsEnum ((s.heap.push { cls := .type "tuple_iterator", data := .fields #[.ref l, .int 0 0] }).push
      { cls := .type "enumerate", data := .fields #[.none, .bool false, .ref s.heap.objs.size, rawInt 0, .none, .none] }) (s.heap.objs.size + 1) s.heap.objs.size 0 .none := by
    have := Heap.get?_push_size (s.heap.push { cls := .type "tuple_iterator", data := .fields #[.ref l, .int 0 0] })
      (o := { cls := .type "enumerate", data := .fields #[.none, .bool false, .ref s.heap.objs.size, rawInt 0, .none, .none] }) rfl
    rw [hz] at this; exact this
  refine ⟨⟨_, he, rfl⟩, h _ he ⟨_, Heap.get?_push_of_some _ (Heap.get?_push_size _ rfl), rfl, rfl⟩ (by rw [Heap.size_push, hz]) fun b o x => Heap.get?_push_of_some _ (Heap.get?_push_of_some _ x)⟩
end
/-- the tuple at a, each item in a new pair -/
def Itet (K : PySem.W.Frag) (a : Addr) : It :=
  ⟨fun i H => ∃ (xs : List V) (x : V), SqT K H a xs ∧ xs[i]? = some x, fun i H v H' => ∃ T x, v = .ref T ∧ H T = none ∧ H' = upd H T (.tup [.int (i : Nat), x]) ∧ ∀ xs, SqT K H a xs → xs[i]? = some x, fun i H => ∃ xs : List V, SqT K H a xs ∧ xs.length = i⟩
theorem turn_enumT {P : Program} {w : World} {K : PySem.W.Frag} {elts : List Expr} {kk : Nat} {tpos : Pos} (a e it : Addr) :
    Turn P w K (.Tuple elts kk tpos) (Itet K a) [e, it] e (fun i h => (∃ old, IsEnum h e it ((i : Nat) : Int) old) ∧ h.IsTupleIter it a i ∧ e ≠ it) where
  mem := by simp
  obj := fun i h st b hb => by
    obtain ⟨⟨old, he⟩, ⟨o, ho, hc, hd⟩, _⟩ := st
    have e' : b = e ∨ b = it := by simpa using hb
    rcases e' with z | z
    · rw [z]; exact ⟨_, he, fun v q => nomatch q⟩
    · rw [z]; exact ⟨o, ho, fun v q => by rw [hd] at q; cases q⟩
  keep := fun i h h' st k => let ⟨⟨old, he⟩, hi, hne⟩ := st; ⟨⟨old, k e (by simp) _ he⟩, hi.at fun o q => k it (by simp) o q, hne⟩
  item := by
    intro X hP hw hK hc i pins s σ H E I hf st hg
    subst hP hw hK
    obtain ⟨⟨old, he⟩, hit, hne⟩ := st
    obtain ⟨xs, x, hq, hx⟩ := hg
    obtain ⟨its, rv, p, hz⟩ := I.tuple hq
    obtain ⟨u, hu, ru⟩ := rv.get hx
    have p' : s.heap.IsTuple a its.toArray := p
    have hel : e < s.heap.objs.size := Heap.lt_size he
    have hil : it < s.heap.objs.size := by obtain ⟨_, q, _⟩ := hit; exact Heap.lt_size q
    have nia : a ≠ it := by
      rintro rfl
      obtain ⟨o1, q1, c1, _⟩ := hit
      obtain ⟨o2, q2, c2, _⟩ := p'
      rw [q1] at q2
      cases Option.some.inj q2
      rw [c1] at c2
      exact absurd (Value.type.inj c2) (by decide)
    have nea : a ≠ e := by
      rintro rfl
      obtain ⟨o2, q2, c2, _⟩ := p'
      have he' : s.heap.get? a = some _ := he
      rw [he'] at q2
      cases Option.some.inj q2
      exact absurd (Value.type.inj c2) (by decide)
    have hlt : i < its.toArray.size := by have := (List.getElem?_eq_some_iff.mp hu).1; simpa using this
    have hh : X.A.in1.handled = none := I.ok.hd hc
    have D : Draws X.prog X.w X.A.in1 it [it, a] its.toArray.size (fun i v => its.toArray[i]? = some v) (fun i h => h.IsTupleIter it a i ∧ h.IsTuple a its.toArray) := Draws.tuple hh it a nia its.toArray
    refine wpAny_pyNext_enum_itemD D he ⟨hit, p'⟩ hlt hne (by simp; exact ⟨hne, nea.symm⟩) fun y h' tk hy ho hit' hT hsz hk => ?_
    have ey : u = y := by
      have : its[i]? = some y := by simpa using hy
      rw [hu] at this
      exact Option.some.inj this
    subst ey
    refine ⟨_, rfl, wpAny_letOwnedTupleGo_enum (s := { s with heap := h', toks := tk + 1 }) ho fun h'' he' sb => ?_⟩
    have hT2 : h''.get? s.heap.objs.size = some { cls := .type "tuple", data := .seq #[.int i tk, u] } := (sb.2 _ (Nat.ne_of_gt hel)).trans hT
    have new : ObjOk X.prog X.w (upd H s.heap.objs.size (.tup [.int (i : Nat), x])) h'' s.heap.objs.size (.tup [.int (i : Nat), x]) :=
      ⟨by show 2 ≤ sizeLine; decide, [.int i tk, u], .cons ⟨_, rfl⟩ (.cons ru .nil), ⟨_, hT2, rfl, _, rfl⟩⟩
    have I1 : Inv X pins σ (upd H s.heap.objs.size (.tup [.int (i : Nat), x])) { s with heap := h'', toks := tk + 1 } :=
      I.turnedNew (ch := [e, it]) (fun b ob hb q => (sb.2 b (fun z => hb (by simp [z]))).trans (hk b ob (fun z => hb (by simp [z])) (fun z => hb (by simp [z])) q)) hf (Nat.le_refl _) new
    refine ⟨.ref s.heap.objs.size, _, I1, rfl, ⟨_, x, rfl, I.hok.fresh (Nat.le_refl _), rfl, fun ys hy => by rw [I.tuple_inj hy hq]; exact hx⟩, ⟨⟨u, ?_⟩, hit'.1.at fun o q => (sb.2 it (Ne.symm hne)).trans q, hne⟩, fun b hb => ?_⟩
    · have e1 : ((i + 1 : Nat) : Int) = (i : Int) + 1 := by omega
      rw [e1]; exact he'
    · have hb' : b < s.heap.objs.size := by
        have e' : b = e ∨ b = it := by simpa using hb
        rcases e' with z | z
        · rw [z]; exact hel
        · rw [z]; exact hil
      rw [upd_ne (Nat.ne_of_lt hb')]
      exact (hf b hb).1
  done := by
    intro X hP hw hK hc i pins s σ H E I hf st hg
    subst hP hw hK
    obtain ⟨⟨old, he⟩, hit, hne⟩ := st
    obtain ⟨xs, hq, hx⟩ := hg
    obtain ⟨its, rv, p, hz⟩ := I.tuple hq
    have p' : s.heap.IsTuple a its.toArray := p
    have nia : a ≠ it := by
      rintro rfl
      obtain ⟨o1, q1, c1, _⟩ := hit
      obtain ⟨o2, q2, c2, _⟩ := p'
      rw [q1] at q2
      cases Option.some.inj q2
      rw [c1] at c2
      exact absurd (Value.type.inj c2) (by decide)
    obtain ⟨f0, f1, f2, f3, f4, f5⟩ := hf it (by simp)
    have hl := rv.length
    have ei : i = its.toArray.size := by simp; omega
    have hh : X.A.in1.handled = none := I.ok.hd hc
    have D : Draws X.prog X.w X.A.in1 it [it, a] its.toArray.size (fun i v => its.toArray[i]? = some v) (fun i h => h.IsTupleIter it a i ∧ h.IsTuple a its.toArray) := Draws.tuple hh it a nia its.toArray
    subst ei
    exact wpAny_pyNext_enum_endD D he ⟨hit, p'⟩ fun h' eb => ⟨rfl, I.turned (t' := s.toks) (fun b o hb q => eb b o hb q) f0 f1 f3 f4 f5⟩
  self := fun A i s Q E st h => let ⟨⟨_, he⟩, _⟩ := st; wpAny_pyIter_enum he h
theorem walk_enumT {K : PySem.W.Frag} {a : Addr} {xs : List V} : Walk (Itet K a) xs.length (fun H => SqT K H a xs) (YPair (fun i => some (.int (i : Nat))) (fun i => xs[i]?)) := by
  refine ⟨fun i _ hi q => ⟨xs, xs[i], q, by simp [hi]⟩, fun _ q => ⟨xs, q, rfl⟩, fun i H v H' _ q y => ?_⟩
  obtain ⟨T, x, h1, h2, h3, h4⟩ := y
  exact ⟨T, .int (i : Nat), x, h1, h2, h3, rfl, h4 xs q⟩
def iEnumQ (K : PySem.W.Frag) (ta : TA) : TI := fun σ H R => ta σ H fun vs H1 => ∃ a, vs = [.ref a] ∧ (((∃ xs, SqL K H1 a xs) ∧ R (Ite K a) H1) ∨ ((∃ xs, SqT K H1 a xs) ∧ R (Itet K a) H1))
theorem pi_enumQ {X : Cx} {e : Expr} {ta : TA} {p pos tpos : Pos} {elts : List Expr} {kk : Nat} (hg : Gl X "enumerate") (hm : X.mg "enumerate" = none) (ha : PA X [e] ta) (hs : starEach [e] X.env = [(false, eval e X.env)] := by rfl) :
    PI X (.Tuple elts kk tpos) (.Call (.Name "enumerate" p) [e] [] pos) (iEnumQ X.K ta) := by
  refine ⟨fun pins s σ H R I h => ?_⟩
  refine Call_ (ld_blt I hg hm boot_enumerate (PyProof.Rows.callWith_type1 (thn (ha.run pos pins s σ H _ I h) fun us s1 ⟨vs, H1, I1, r1, q1⟩ => ?_) hs rfl))
  obtain ⟨a, ex, q⟩ := q1
  subst ex
  cases r1 with
  | cons r rr =>
    cases rr
    cases r
    have fp : ∀ b ∈ [s1.heap.objs.size + 1, s1.heap.objs.size], FpOk X pins H1 b := fun b hb => by
      have e' : b = s1.heap.objs.size + 1 ∨ b = s1.heap.objs.size := by simpa using hb
      have hle : s1.heap.objs.size ≤ b := by
        rcases e' with z | z
        · rw [z]; exact Nat.le_add_right _ _
        · rw [z]; exact Nat.le_refl _
      exact I1.fpOk hle (I1.hok.fresh hle)
    rcases q with ⟨⟨xs, hq⟩, q⟩ | ⟨⟨xs, hq⟩, q⟩
    · obtain ⟨its, rv, p', hz⟩ := I1.list hq
      refine call_enumerate_list p'.isList fun h' he hit hsz hk => wpAny_pyIter_enum he ?_
      have I2 : Inv X pins σ H1 { s1 with heap := h' } := I1.kept (t' := s1.toks) hk
      exact ⟨s1.heap.objs.size + 1, [s1.heap.objs.size + 1, s1.heap.objs.size], _, _, H1, rfl, I2, turn_enum a (s1.heap.objs.size + 1) s1.heap.objs.size, ⟨⟨.none, he⟩, hit, Nat.succ_ne_self _⟩, fp, q⟩
    · obtain ⟨its, rv, p', hz⟩ := I1.tuple hq
      refine call_enumT (show s1.heap.IsTuple a its.toArray from p') fun h' he hit hsz hk => wpAny_pyIter_enum he ?_
      have I2 : Inv X pins σ H1 { s1 with heap := h' } := I1.kept (t' := s1.toks) hk
      exact ⟨s1.heap.objs.size + 1, [s1.heap.objs.size + 1, s1.heap.objs.size], _, _, H1, rfl, I2, turn_enumT a (s1.heap.objs.size + 1) s1.heap.objs.size, ⟨⟨.none, he⟩, hit, Nat.succ_ne_self _⟩, fp, q⟩
end Rs
set_option Elab.async false
set_option linter.all false
set_option maxRecDepth 100000
set_option maxHeartbeats 2000000
/-! A dict display whose keys are tuples: the pairs are made from the left, then stored one by one. -/
namespace Rs
open PySem PySem.Spec PyProof.Rows L2
def putsT (p : Addr) : List (V × V) → Hp → (Hp → Prop) → Prop
  | [], H, Q => Q H
  | (k, v) :: r, H, Q => ∃ kvs ks b, H p = some (.dT kvs) ∧ k = .ref b ∧ H b = some (.tup (ks.map kV)) ∧ kvs.length < sizeLine ∧ putsT p r (upd H p (.dT (putK kvs ks v))) Q
def tDispT (trs : List (TE × TE)) : TE := fun σ H Q => ∀ p, H p = none → tPairs trs σ (upd H p (.dT [])) fun ps H2 => putsT p ps H2 (Q (.ref p))
section
variable {X : Cx} {pins : List (Addr × Obj)} {σ : L2.St} {a : Addr} {A : Around} {E : Value → Shared → Prop}
theorem d_storeAllT (hu : A.units < cLine) (Q : Hp → Prop) (R : PUnit → Shared → Prop) (hR : ∀ H s, L2.Inv X pins σ H s → Q H → R PUnit.unit s) : ∀ (ps : List (V × V)) (ws : List (Value × Value)) (H : Hp) (s : Shared), L2.Inv X pins σ H s → VV ps ws → putsT a ps H Q →
    wpAny (model X.prog X.w) A (storeAll a ws) R E s
  | [], ws, H, s, I, r, h => by
    cases r
    unfold storeAll
    rw [List.forIn_nil]
    exact wpAny_pure (hR H s I h)
  | (k, v) :: ps, ws, H, s, I, r, h => by
    cases r with
    | @cons _ q _ qs h0 t =>
      obtain ⟨u, u2⟩ := q
      obtain ⟨kvs, ks, b, e, ey, eb, l, h⟩ := h
      obtain ⟨ry, rv⟩ := h0
      subst ey
      cases (show u = Value.ref b from ry)
      obtain ⟨z, hd, xs, rel, dd⟩ := dt_of I.hok e
      have hz : xs.length ≤ sizeLine := by rw [← Paired.length rel]; exact z
      have hl : (putK kvs ks v).length ≤ sizeLine := by have := length_putK kvs ks v; omega
      unfold storeAll
      rw [List.forIn_cons]
      refine wpAny_bind (wpAny_bind (wpAny_dictSet_heap (hsz := hz) (show (tupleKind (mixKind X.prog X.w)).room A from hu) (key_of I.hok eb) dd fun h' dd' hs => wpAny_pure ?_))
      refine d_storeAllT hu Q R hR ps qs _ _ ?_ t h
      obtain ⟨q, es, ep, hq, h2, h3, h4, _, h5⟩ := dd'
      refine d_write I (by rw [e]; exact True.intro) hs ⟨q, hq⟩ ⟨hl, hd, _, (rel.put ks eb rv).keeps fun c ys ec => ?_, q, es, ep, hq, h2, h3, h4, h5⟩
      rw [upd_ne (ne_of ec e (fun z => nomatch z))]
      exact ec
end
theorem pe_dispT {X : Cx} {pos : Pos} {keys : List (Option Expr)} {values : List Expr} {trs : List (TE × TE)} (hu : X.A.units < cLine) (h : PPs X pos keys values trs) (hall : keys.all (·.isSome) = true) (hl : keys.length = values.length) (h0 : keys ≠ [])
    (h15 : keys.length ≤ 15) : PE X (.Dict keys values pos) (tDispT trs) := by
  refine ⟨fun pins s σ H Q I q => ?_⟩
  have hn := I.hok.fresh (Nat.le_refl s.heap.objs.size)
  have I1 := I.laid (a := s.heap.objs.size) (o := .dT []) (h' := s.heap.push { cls := .type "dict", data := .dict #[] }) (t' := s.toks) (fun _ _ q => Heap.get?_push_of_some _ q) (Nat.le_refl _) (dt_empty s.heap I.big)
  refine wpAny_Dict_any hall hl h0 h15 (thn (h.run pins _ σ _ _ I1 (q _ hn)) fun ws s2 ⟨ps, H2, I2, rel, q2⟩ => ?_)
  exact d_storeAllT hu (Q (.ref s.heap.objs.size)) _ (fun H3 s3 I3 q3 => ⟨.ref s.heap.objs.size, H3, I3, rfl, q3⟩) ps ws H2 s2 I2 rel q2
end Rs
set_option Elab.async false
set_option linter.all false
set_option maxRecDepth 100000
set_option maxHeartbeats 0
namespace Rs
open PySem PySem.Spec PyProof.Rows L2
def top (i : Nat) : Stmt := PySem.Challenge.pw_rightstate_k91_picks_and_what_is_told_of.main.body.getD i (.Pass ⟨0, 0, 0, 0⟩)
abbrev s_BadKind_init : Stmt := inClass (top 3) 0
abbrev s_BadHistory_init : Stmt := inClass (top 4) 0
abbrev s_BadChoices_init : Stmt := inClass (top 5) 0
abbrev s_NoMethod_init : Stmt := inClass (top 6) 0
abbrev s_Met_init : Stmt := inClass (top 7) 0
abbrev s_Barred_init : Stmt := inClass (top 8) 0
abbrev s_Waiting_init : Stmt := inClass (top 9) 0
abbrev s_NoState_init : Stmt := inClass (top 10) 0
abbrev s_is_integer : Stmt := top 16
abbrev s_is_row : Stmt := top 17
abbrev s_is_text_of : Stmt := top 18
abbrev s_is_name : Stmt := top 19
abbrev s_is_error : Stmt := top 20
abbrev s_is_word : Stmt := top 21
abbrev s_are_unlike : Stmt := top 22
abbrev s_is_pair : Stmt := top 27
abbrev s_is_key : Stmt := top 28
abbrev s_are_ends : Stmt := top 29
abbrev s_are_outcomes : Stmt := top 30
abbrev s_are_moves : Stmt := top 31
abbrev s_Kind_init : Stmt := inClass (top 32) 0
abbrev s_Kind_name : Stmt := inClass (top 32) 1
abbrev s_Kind_start : Stmt := inClass (top 32) 2
abbrev s_Kind_ends : Stmt := inClass (top 32) 3
abbrev s_Kind_states : Stmt := inClass (top 32) 4
abbrev s_Kind_methods : Stmt := inClass (top 32) 5
abbrev s_Kind_moves : Stmt := inClass (top 32) 6
abbrev s_Kind_getitem : Stmt := inClass (top 32) 8
abbrev s_Kind_contains : Stmt := inClass (top 32) 9
abbrev s_Kind_iter : Stmt := inClass (top 32) 10
abbrev s_Kind_eq : Stmt := inClass (top 32) 11
abbrev s_look_choices : Stmt := top 34
abbrev s_Live_init : Stmt := inClass (top 36) 0
abbrev s_Live_call : Stmt := inClass (top 36) 1
abbrev s_Live_contains : Stmt := inClass (top 36) 2
abbrev s_Live_len : Stmt := inClass (top 36) 3
abbrev s_Live_state : Stmt := inClass (top 36) 4
abbrev s_Live_state_set : Stmt := inClass (top 36) 5
abbrev s_Live_left : Stmt := inClass (top 36) 6
abbrev s_Live_told : Stmt := inClass (top 36) 8
abbrev s_Live_enter : Stmt := inClass (top 36) 9
abbrev s_Live_exit : Stmt := inClass (top 36) 10
abbrev s_l_cell_at : Stmt := top 38
abbrev s_l_source_of : Stmt := top 39
abbrev s_l_next : Stmt := top 40
abbrev s_l_one : Stmt := top 41
abbrev s_l_mixed : Stmt := top 42
abbrev s_l_bad : Stmt := top 43
abbrev s_l_right : Stmt := top 44
abbrev s_law : Stmt := top 45
def faT0 : List Tst := [fF (.free "isinstance"), fF (.free "int"), fF (.free "bool"), fF (.free "list"), fF (.free "tuple"), fF (.free "str"), fF (.free "all"), fF (.free "len"), fF (.free "dict"), fF (.free "sorted"), fF (.free "property"), fF (.free "TypeError"), fF (.free "enumerate"), fF (.free "range"), fF (.free "max"), fF (.str "SMALL" "abcdefghijklmnopqrstuvwxyz"), fF (.str "LARGE" "ABCDEFGHIJKLMNOPQRSTUVWXYZ"), fF (.int "MOST_SIGNS" 8), tTupS "ANSWERS" ["yes", "no"], fF (.int "MOST_STATES" 60)]
def faT1 : List Tst := [fF (.int "MOST_METHODS" 8), fF (.int "MOST_OUTCOMES" 8), fF (.glo "RightError"), tOex "RightError", tExc "RightError", fF (.glo "BadKind"), tOex "BadKind", tExc "BadKind", tIni "BadKind", fF (.noat "BadKind" "part"), fF (.glo "BadHistory"), tOex "BadHistory", tExc "BadHistory", tIni "BadHistory", fF (.noat "BadHistory" "index"), fF (.glo "BadChoices"), tOex "BadChoices", tExc "BadChoices", tIni "BadChoices", fF (.noat "BadChoices" "index")]
def faT2 : List Tst := [fF (.glo "NoMethod"), tOex "NoMethod", tExc "NoMethod", tIni "NoMethod", fF (.noat "NoMethod" "index"), fF (.glo "Met"), tOex "Met", tExc "Met", tIni "Met", fF (.noat "Met" "error"), fF (.glo "Barred"), tOex "Barred", tExc "Barred", tIni "Barred", fF (.noat "Barred" "state"), fF (.noat "Barred" "method"), fF (.glo "Waiting"), tOex "Waiting", tExc "Waiting", tIni "Waiting"]
def faT3 : List Tst := [fF (.noat "Waiting" "method"), fF (.glo "NoState"), tOex "NoState", tExc "NoState", tIni "NoState", fF (.noat "NoState" "state"), fF (.glo "Kind"), fF (.cls "Kind"), fF (.mkr "Kind"), fF (.noat "Kind" "called"), fF (.noat "Kind" "begin"), fF (.noat "Kind" "last"), fF (.noat "Kind" "table"), tProp? "Kind" "name", tProp? "Kind" "start", tProp? "Kind" "ends", fF (.meth "Kind" "states"), fF (.meth "Kind" "methods"), fF (.meth "Kind" "moves"), tDun "Kind" "__getitem__"]
def faT4 : List Tst := [tDun "Kind" "__contains__", tDun "Kind" "__iter__", tDun "Kind" "__eq__", fF (.glo "Live"), fF (.cls "Live"), fF (.mkr "Live"), fF (.noat "Live" "own_kind"), fF (.noat "Live" "now"), fF (.noat "Live" "picks"), fF (.noat "Live" "picked"), fF (.noat "Live" "said"), fF (.noat "Live" "inside"), tDun "Live" "__call__", tDun "Live" "__contains__", tDun "Live" "__len__", tProp? "Live" "state", tProp? "Live" "left", fF (.meth "Live" "told"), tDun "Live" "__enter__", tDun "Live" "__exit__"]
def faT5 : List Tst := [tKit "BadChoices" "BadHistory" false, tKit "BadChoices" "NoMethod" false, tKit "BadChoices" "BadChoices" true, tExm "BadChoices" "RightError" true, tExm "Met" "RightError" true, fF (.glo "is_integer"), fF (.glo "is_row"), fF (.glo "is_text_of"), fF (.glo "is_name"), fF (.glo "is_error"), fF (.glo "is_word"), fF (.glo "are_unlike"), fF (.glo "is_pair"), fF (.glo "is_key"), fF (.glo "are_ends"), fF (.glo "are_outcomes"), fF (.glo "are_moves"), fF (.glo "look_choices"), fF (.glo "_law_cell_at"), fF (.glo "_law_source_of")]
def faT6 : List Tst := [fF (.glo "_law_next"), fF (.glo "_law_one"), fF (.glo "_law_mixed"), fF (.glo "_law_bad"), fF (.glo "_law_right"), fF (.glo "law")]
def faT : List Tst := faT0 ++ faT1 ++ faT2 ++ faT3 ++ faT4 ++ faT5 ++ faT6
def fnT0 : List He5.DefA := [dfM "BadKind" "__init__" "BadKind.__init__" s_BadKind_init, dfM "BadHistory" "__init__" "BadHistory.__init__" s_BadHistory_init, dfM "BadChoices" "__init__" "BadChoices.__init__" s_BadChoices_init, dfM "NoMethod" "__init__" "NoMethod.__init__" s_NoMethod_init, dfM "Met" "__init__" "Met.__init__" s_Met_init, dfM "Barred" "__init__" "Barred.__init__" s_Barred_init, dfM "Waiting" "__init__" "Waiting.__init__" s_Waiting_init, dfM "NoState" "__init__" "NoState.__init__" s_NoState_init, dfG "is_integer" s_is_integer, dfG "is_row" s_is_row, dfG "is_text_of" s_is_text_of, dfG "is_name" s_is_name, dfG "is_error" s_is_error, dfG "is_word" s_is_word, dfG "are_unlike" s_are_unlike, dfG "is_pair" s_is_pair, dfG "is_key" s_is_key, dfG "are_ends" s_are_ends, dfG "are_outcomes" s_are_outcomes, dfG "are_moves" s_are_moves]
def fnT1 : List He5.DefA := [dfM "Kind" "__init__" "Kind.__init__" s_Kind_init, dfP "Kind" "name" "Kind.name" s_Kind_name, dfP "Kind" "start" "Kind.start" s_Kind_start, dfP "Kind" "ends" "Kind.ends" s_Kind_ends, dfM "Kind" "states" "Kind.states" s_Kind_states, dfM "Kind" "methods" "Kind.methods" s_Kind_methods, dfM "Kind" "moves" "Kind.moves" s_Kind_moves, dfM "Kind" "__getitem__" "Kind.__getitem__" s_Kind_getitem, dfM "Kind" "__contains__" "Kind.__contains__" s_Kind_contains, dfM "Kind" "__iter__" "Kind.__iter__" s_Kind_iter, dfM "Kind" "__eq__" "Kind.__eq__" s_Kind_eq, dfG "look_choices" s_look_choices, { dfM "Live" "__init__" "Live.__init__" s_Live_init with dfl := [.adr (He.dflAt ("Live", some "__init__") 0)] }, dfM "Live" "__call__" "Live.__call__" s_Live_call, dfM "Live" "__contains__" "Live.__contains__" s_Live_contains, dfM "Live" "__len__" "Live.__len__" s_Live_len, dfP "Live" "state" "Live.state" s_Live_state, dfW "Live" "state" "Live.state" s_Live_state_set, dfP "Live" "left" "Live.left" s_Live_left, dfM "Live" "told" "Live.told" s_Live_told]
def fnT2 : List He5.DefA := [dfM "Live" "__enter__" "Live.__enter__" s_Live_enter, dfM "Live" "__exit__" "Live.__exit__" s_Live_exit, dfG "_law_cell_at" s_l_cell_at, dfG "_law_source_of" s_l_source_of, dfG "_law_next" s_l_next, dfG "_law_one" s_l_one, dfG "_law_mixed" s_l_mixed, dfG "_law_bad" s_l_bad, dfG "_law_right" s_l_right, dfG "law" s_law]
def fnT : List He5.DefA := fnT0 ++ fnT1 ++ fnT2
abbrev RT : PySem.W.OpenRow := PySem.W.OpenLaw.row PySem.Challenge.rw_rightstate_k91_picks_and_what_is_told_of
abbrev hkT : PySem.W.Hook := hookR 5 faT fnT
def obT (s : PySem.W.SharedT) : He.AlD := obsRG 5 faT fnT (HandSHeadRun.getT s)
theorem obT_eq (s : PySem.W.SharedT) : obT s = hkT.obs s.abs := obsRG_eq (HandSHeadRun.getT_eq s)
def nmT0 : List PySem.Str := ["_wall", "__name__", "RightError", "BadKind", "BadHistory", "BadChoices", "NoMethod", "Met", "Barred", "Waiting", "NoState", "SMALL", "LARGE", "MOST_SIGNS", "ANSWERS", "is_integer", "is_row", "is_text_of", "is_name", "is_error", "is_word", "are_unlike", "MOST_STATES", "MOST_METHODS", "MOST_OUTCOMES", "is_pair", "is_key", "are_ends", "are_outcomes", "are_moves"]
def nmT1 : List PySem.Str := ["Kind", "look_choices", "Live", "_law_cell_at", "_law_source_of", "_law_next", "_law_one", "_law_mixed", "_law_bad", "_law_right"]
def looseT : List PySem.Str := nmT0 ++ nmT1
abbrev lawAt : Nat := 45
structure Txt (K : PySem.W.Frag) (mg : PySem.Str → Option Value) : Prop where
  c : SaysR faT fnT K
  h : ∃ h : Heap, K.In h ∧ h.Ns mainGlobals mg
section
variable {K : PySem.W.Frag} {mg : PySem.Str → Option Value}
theorem Txt.b_isinstance (T : Txt K mg) : mg "isinstance" = none := let ⟨h, X, G⟩ := T.h; He.free_ok X G (T.c.fact 0)
theorem Txt.b_int (T : Txt K mg) : mg "int" = none := let ⟨h, X, G⟩ := T.h; He.free_ok X G (T.c.fact 1)
theorem Txt.b_bool (T : Txt K mg) : mg "bool" = none := let ⟨h, X, G⟩ := T.h; He.free_ok X G (T.c.fact 2)
theorem Txt.b_list (T : Txt K mg) : mg "list" = none := let ⟨h, X, G⟩ := T.h; He.free_ok X G (T.c.fact 3)
theorem Txt.b_tuple (T : Txt K mg) : mg "tuple" = none := let ⟨h, X, G⟩ := T.h; He.free_ok X G (T.c.fact 4)
theorem Txt.b_str (T : Txt K mg) : mg "str" = none := let ⟨h, X, G⟩ := T.h; He.free_ok X G (T.c.fact 5)
theorem Txt.b_all (T : Txt K mg) : mg "all" = none := let ⟨h, X, G⟩ := T.h; He.free_ok X G (T.c.fact 6)
theorem Txt.b_len (T : Txt K mg) : mg "len" = none := let ⟨h, X, G⟩ := T.h; He.free_ok X G (T.c.fact 7)
theorem Txt.b_dict (T : Txt K mg) : mg "dict" = none := let ⟨h, X, G⟩ := T.h; He.free_ok X G (T.c.fact 8)
theorem Txt.b_sorted (T : Txt K mg) : mg "sorted" = none := let ⟨h, X, G⟩ := T.h; He.free_ok X G (T.c.fact 9)
theorem Txt.b_property (T : Txt K mg) : mg "property" = none := let ⟨h, X, G⟩ := T.h; He.free_ok X G (T.c.fact 10)
theorem Txt.b_TypeError (T : Txt K mg) : mg "TypeError" = none := let ⟨h, X, G⟩ := T.h; He.free_ok X G (T.c.fact 11)
theorem Txt.b_enumerate (T : Txt K mg) : mg "enumerate" = none := let ⟨h, X, G⟩ := T.h; He.free_ok X G (T.c.fact 12)
theorem Txt.b_range (T : Txt K mg) : mg "range" = none := let ⟨h, X, G⟩ := T.h; He.free_ok X G (T.c.fact 13)
theorem Txt.b_max (T : Txt K mg) : mg "max" = none := let ⟨h, X, G⟩ := T.h; He.free_ok X G (T.c.fact 14)
theorem Txt.c_SMALL (T : Txt K mg) : ∃ t, mg "SMALL" = some (.str "abcdefghijklmnopqrstuvwxyz" t) := let ⟨h, X, G⟩ := T.h; He.str_ok X G (T.c.fact 15)
theorem Txt.c_LARGE (T : Txt K mg) : ∃ t, mg "LARGE" = some (.str "ABCDEFGHIJKLMNOPQRSTUVWXYZ" t) := let ⟨h, X, G⟩ := T.h; He.str_ok X G (T.c.fact 16)
theorem Txt.c_MOST_SIGNS (T : Txt K mg) : ∃ t, mg "MOST_SIGNS" = some (.int 8 t) := let ⟨h, X, G⟩ := T.h; He.int_ok X G (T.c.fact 17)
theorem Txt.c_ANSWERS (T : Txt K mg) : ∃ a, mg "ANSWERS" = some (.ref a) ∧ ∀ H, SqT K H a ((["yes", "no"] : List PySem.Str).map V.str) := let ⟨h, X, G⟩ := T.h; tTupS_ok X G (T.c.fact 18)
theorem Txt.c_MOST_STATES (T : Txt K mg) : ∃ t, mg "MOST_STATES" = some (.int 60 t) := let ⟨h, X, G⟩ := T.h; He.int_ok X G (T.c.fact 19)
theorem Txt.c_MOST_METHODS (T : Txt K mg) : ∃ t, mg "MOST_METHODS" = some (.int 8 t) := let ⟨h, X, G⟩ := T.h; He.int_ok X G (T.c.fact 20)
theorem Txt.c_MOST_OUTCOMES (T : Txt K mg) : ∃ t, mg "MOST_OUTCOMES" = some (.int 8 t) := let ⟨h, X, G⟩ := T.h; He.int_ok X G (T.c.fact 21)
theorem Txt.g_RightError (T : Txt K mg) : mg "RightError" = some (.ref (He.ga K "RightError")) := let ⟨h, X, G⟩ := T.h; He.glo_ok X G (T.c.fact 22)
theorem Txt.oex_RightError (T : Txt K mg) : OexC K (He.ga K "RightError") := oex_ok (T.c.fact 23)
theorem Txt.exc_RightError (T : Txt K mg) : tExc "RightError" K = true := (T.c.fact 24)
theorem Txt.g_BadKind (T : Txt K mg) : mg "BadKind" = some (.ref (He.ga K "BadKind")) := let ⟨h, X, G⟩ := T.h; He.glo_ok X G (T.c.fact 25)
theorem Txt.oex_BadKind (T : Txt K mg) : OexC K (He.ga K "BadKind") := oex_ok (T.c.fact 26)
theorem Txt.exc_BadKind (T : Txt K mg) : tExc "BadKind" K = true := (T.c.fact 27)
theorem Txt.ini_BadKind (T : Txt K mg) : tIni "BadKind" K = true := (T.c.fact 28)
theorem Txt.no_BadKind_part (T : Txt K mg) : NoAttr K (He.ga K "BadKind") "part" := He.noat_ok (T.c.fact 29)
theorem Txt.g_BadHistory (T : Txt K mg) : mg "BadHistory" = some (.ref (He.ga K "BadHistory")) := let ⟨h, X, G⟩ := T.h; He.glo_ok X G (T.c.fact 30)
theorem Txt.oex_BadHistory (T : Txt K mg) : OexC K (He.ga K "BadHistory") := oex_ok (T.c.fact 31)
theorem Txt.exc_BadHistory (T : Txt K mg) : tExc "BadHistory" K = true := (T.c.fact 32)
theorem Txt.ini_BadHistory (T : Txt K mg) : tIni "BadHistory" K = true := (T.c.fact 33)
theorem Txt.no_BadHistory_index (T : Txt K mg) : NoAttr K (He.ga K "BadHistory") "index" := He.noat_ok (T.c.fact 34)
theorem Txt.g_BadChoices (T : Txt K mg) : mg "BadChoices" = some (.ref (He.ga K "BadChoices")) := let ⟨h, X, G⟩ := T.h; He.glo_ok X G (T.c.fact 35)
theorem Txt.oex_BadChoices (T : Txt K mg) : OexC K (He.ga K "BadChoices") := oex_ok (T.c.fact 36)
theorem Txt.exc_BadChoices (T : Txt K mg) : tExc "BadChoices" K = true := (T.c.fact 37)
theorem Txt.ini_BadChoices (T : Txt K mg) : tIni "BadChoices" K = true := (T.c.fact 38)
theorem Txt.no_BadChoices_index (T : Txt K mg) : NoAttr K (He.ga K "BadChoices") "index" := He.noat_ok (T.c.fact 39)
theorem Txt.g_NoMethod (T : Txt K mg) : mg "NoMethod" = some (.ref (He.ga K "NoMethod")) := let ⟨h, X, G⟩ := T.h; He.glo_ok X G (T.c.fact 40)
theorem Txt.oex_NoMethod (T : Txt K mg) : OexC K (He.ga K "NoMethod") := oex_ok (T.c.fact 41)
theorem Txt.exc_NoMethod (T : Txt K mg) : tExc "NoMethod" K = true := (T.c.fact 42)
theorem Txt.ini_NoMethod (T : Txt K mg) : tIni "NoMethod" K = true := (T.c.fact 43)
theorem Txt.no_NoMethod_index (T : Txt K mg) : NoAttr K (He.ga K "NoMethod") "index" := He.noat_ok (T.c.fact 44)
theorem Txt.g_Met (T : Txt K mg) : mg "Met" = some (.ref (He.ga K "Met")) := let ⟨h, X, G⟩ := T.h; He.glo_ok X G (T.c.fact 45)
theorem Txt.oex_Met (T : Txt K mg) : OexC K (He.ga K "Met") := oex_ok (T.c.fact 46)
theorem Txt.exc_Met (T : Txt K mg) : tExc "Met" K = true := (T.c.fact 47)
theorem Txt.ini_Met (T : Txt K mg) : tIni "Met" K = true := (T.c.fact 48)
theorem Txt.no_Met_error (T : Txt K mg) : NoAttr K (He.ga K "Met") "error" := He.noat_ok (T.c.fact 49)
theorem Txt.g_Barred (T : Txt K mg) : mg "Barred" = some (.ref (He.ga K "Barred")) := let ⟨h, X, G⟩ := T.h; He.glo_ok X G (T.c.fact 50)
theorem Txt.oex_Barred (T : Txt K mg) : OexC K (He.ga K "Barred") := oex_ok (T.c.fact 51)
theorem Txt.exc_Barred (T : Txt K mg) : tExc "Barred" K = true := (T.c.fact 52)
theorem Txt.ini_Barred (T : Txt K mg) : tIni "Barred" K = true := (T.c.fact 53)
theorem Txt.no_Barred_state (T : Txt K mg) : NoAttr K (He.ga K "Barred") "state" := He.noat_ok (T.c.fact 54)
theorem Txt.no_Barred_method (T : Txt K mg) : NoAttr K (He.ga K "Barred") "method" := He.noat_ok (T.c.fact 55)
theorem Txt.g_Waiting (T : Txt K mg) : mg "Waiting" = some (.ref (He.ga K "Waiting")) := let ⟨h, X, G⟩ := T.h; He.glo_ok X G (T.c.fact 56)
theorem Txt.oex_Waiting (T : Txt K mg) : OexC K (He.ga K "Waiting") := oex_ok (T.c.fact 57)
theorem Txt.exc_Waiting (T : Txt K mg) : tExc "Waiting" K = true := (T.c.fact 58)
theorem Txt.ini_Waiting (T : Txt K mg) : tIni "Waiting" K = true := (T.c.fact 59)
theorem Txt.no_Waiting_method (T : Txt K mg) : NoAttr K (He.ga K "Waiting") "method" := He.noat_ok (T.c.fact 60)
theorem Txt.g_NoState (T : Txt K mg) : mg "NoState" = some (.ref (He.ga K "NoState")) := let ⟨h, X, G⟩ := T.h; He.glo_ok X G (T.c.fact 61)
theorem Txt.oex_NoState (T : Txt K mg) : OexC K (He.ga K "NoState") := oex_ok (T.c.fact 62)
theorem Txt.exc_NoState (T : Txt K mg) : tExc "NoState" K = true := (T.c.fact 63)
theorem Txt.ini_NoState (T : Txt K mg) : tIni "NoState" K = true := (T.c.fact 64)
theorem Txt.no_NoState_state (T : Txt K mg) : NoAttr K (He.ga K "NoState") "state" := He.noat_ok (T.c.fact 65)
theorem Txt.g_Kind (T : Txt K mg) : mg "Kind" = some (.ref (He.ga K "Kind")) := let ⟨h, X, G⟩ := T.h; He.glo_ok X G (T.c.fact 66)
theorem Txt.cl_Kind (T : Txt K mg) : Cls K (He.ga K "Kind") := He.cls_ok (T.c.fact 67)
theorem Txt.mk_Kind (T : Txt K mg) : Mk K (He.ga K "Kind") (He.ma K (He.ga K "Kind") "__init__") := He.mkr_ok (T.c.fact 68)
theorem Txt.no_Kind_called (T : Txt K mg) : NoAttr K (He.ga K "Kind") "called" := He.noat_ok (T.c.fact 69)
theorem Txt.no_Kind_begin (T : Txt K mg) : NoAttr K (He.ga K "Kind") "begin" := He.noat_ok (T.c.fact 70)
theorem Txt.no_Kind_last (T : Txt K mg) : NoAttr K (He.ga K "Kind") "last" := He.noat_ok (T.c.fact 71)
theorem Txt.no_Kind_table (T : Txt K mg) : NoAttr K (He.ga K "Kind") "table" := He.noat_ok (T.c.fact 72)
theorem Txt.pr_Kind_name (T : Txt K mg) : PropOf K (He.ga K "Kind") "name" (He.ma K (He.ga K "Kind") "name") (propAt K (He.ga K "Kind") "name") := prop_ok (T.c.fact 73)
theorem Txt.pr_Kind_start (T : Txt K mg) : PropOf K (He.ga K "Kind") "start" (He.ma K (He.ga K "Kind") "start") (propAt K (He.ga K "Kind") "start") := prop_ok (T.c.fact 74)
theorem Txt.pr_Kind_ends (T : Txt K mg) : PropOf K (He.ga K "Kind") "ends" (He.ma K (He.ga K "Kind") "ends") (propAt K (He.ga K "Kind") "ends") := prop_ok (T.c.fact 75)
theorem Txt.me_Kind_states (T : Txt K mg) : Meth K (He.ga K "Kind") "states" (He.ma K (He.ga K "Kind") "states") := He.meth_ok (T.c.fact 76)
theorem Txt.me_Kind_methods (T : Txt K mg) : Meth K (He.ga K "Kind") "methods" (He.ma K (He.ga K "Kind") "methods") := He.meth_ok (T.c.fact 77)
theorem Txt.me_Kind_moves (T : Txt K mg) : Meth K (He.ga K "Kind") "moves" (He.ma K (He.ga K "Kind") "moves") := He.meth_ok (T.c.fact 78)
theorem Txt.du_Kind_getitem (T : Txt K mg) : Dun K (He.ga K "Kind") "__getitem__" (He.ma K (He.ga K "Kind") "__getitem__") := dun_ok (T.c.fact 79)
theorem Txt.du_Kind_contains (T : Txt K mg) : Dun K (He.ga K "Kind") "__contains__" (He.ma K (He.ga K "Kind") "__contains__") := dun_ok (T.c.fact 80)
theorem Txt.du_Kind_iter (T : Txt K mg) : Dun K (He.ga K "Kind") "__iter__" (He.ma K (He.ga K "Kind") "__iter__") := dun_ok (T.c.fact 81)
theorem Txt.du_Kind_eq (T : Txt K mg) : Dun K (He.ga K "Kind") "__eq__" (He.ma K (He.ga K "Kind") "__eq__") := dun_ok (T.c.fact 82)
theorem Txt.g_Live (T : Txt K mg) : mg "Live" = some (.ref (He.ga K "Live")) := let ⟨h, X, G⟩ := T.h; He.glo_ok X G (T.c.fact 83)
theorem Txt.cl_Live (T : Txt K mg) : Cls K (He.ga K "Live") := He.cls_ok (T.c.fact 84)
theorem Txt.mk_Live (T : Txt K mg) : Mk K (He.ga K "Live") (He.ma K (He.ga K "Live") "__init__") := He.mkr_ok (T.c.fact 85)
theorem Txt.no_Live_own_kind (T : Txt K mg) : NoAttr K (He.ga K "Live") "own_kind" := He.noat_ok (T.c.fact 86)
theorem Txt.no_Live_now (T : Txt K mg) : NoAttr K (He.ga K "Live") "now" := He.noat_ok (T.c.fact 87)
theorem Txt.no_Live_picks (T : Txt K mg) : NoAttr K (He.ga K "Live") "picks" := He.noat_ok (T.c.fact 88)
theorem Txt.no_Live_picked (T : Txt K mg) : NoAttr K (He.ga K "Live") "picked" := He.noat_ok (T.c.fact 89)
theorem Txt.no_Live_said (T : Txt K mg) : NoAttr K (He.ga K "Live") "said" := He.noat_ok (T.c.fact 90)
theorem Txt.no_Live_inside (T : Txt K mg) : NoAttr K (He.ga K "Live") "inside" := He.noat_ok (T.c.fact 91)
theorem Txt.du_Live_call (T : Txt K mg) : Dun K (He.ga K "Live") "__call__" (He.ma K (He.ga K "Live") "__call__") := dun_ok (T.c.fact 92)
theorem Txt.du_Live_contains (T : Txt K mg) : Dun K (He.ga K "Live") "__contains__" (He.ma K (He.ga K "Live") "__contains__") := dun_ok (T.c.fact 93)
theorem Txt.du_Live_len (T : Txt K mg) : Dun K (He.ga K "Live") "__len__" (He.ma K (He.ga K "Live") "__len__") := dun_ok (T.c.fact 94)
theorem Txt.pr_Live_state (T : Txt K mg) : PropOf K (He.ga K "Live") "state" (He.ma K (He.ga K "Live") "state") (propAt K (He.ga K "Live") "state") := prop_ok (T.c.fact 95)
theorem Txt.pr_Live_left (T : Txt K mg) : PropOf K (He.ga K "Live") "left" (He.ma K (He.ga K "Live") "left") (propAt K (He.ga K "Live") "left") := prop_ok (T.c.fact 96)
theorem Txt.me_Live_told (T : Txt K mg) : Meth K (He.ga K "Live") "told" (He.ma K (He.ga K "Live") "told") := He.meth_ok (T.c.fact 97)
theorem Txt.du_Live_enter (T : Txt K mg) : Dun K (He.ga K "Live") "__enter__" (He.ma K (He.ga K "Live") "__enter__") := dun_ok (T.c.fact 98)
theorem Txt.du_Live_exit (T : Txt K mg) : Dun K (He.ga K "Live") "__exit__" (He.ma K (He.ga K "Live") "__exit__") := dun_ok (T.c.fact 99)
theorem Txt.kit_BadChoices_BadHistory (T : Txt K mg) : PySem.W.kitOne K (.ref (He.ga K "BadChoices")) (.ref (He.ga K "BadHistory")) = some false := of_decide_eq_true (T.c.fact 100)
theorem Txt.kit_BadChoices_NoMethod (T : Txt K mg) : PySem.W.kitOne K (.ref (He.ga K "BadChoices")) (.ref (He.ga K "NoMethod")) = some false := of_decide_eq_true (T.c.fact 101)
theorem Txt.kit_BadChoices_BadChoices (T : Txt K mg) : PySem.W.kitOne K (.ref (He.ga K "BadChoices")) (.ref (He.ga K "BadChoices")) = some true := of_decide_eq_true (T.c.fact 102)
theorem Txt.exm_BadChoices_RightError (T : Txt K mg) : PySem.W.exmOne K (.ref (He.ga K "BadChoices")) (.ref (He.ga K "RightError")) = some true := of_decide_eq_true (T.c.fact 103)
theorem Txt.exm_Met_RightError (T : Txt K mg) : PySem.W.exmOne K (.ref (He.ga K "Met")) (.ref (He.ga K "RightError")) = some true := of_decide_eq_true (T.c.fact 104)
theorem Txt.g_is_integer (T : Txt K mg) : mg "is_integer" = some (.ref (He.ga K "is_integer")) := let ⟨h, X, G⟩ := T.h; He.glo_ok X G (T.c.fact 105)
theorem Txt.g_is_row (T : Txt K mg) : mg "is_row" = some (.ref (He.ga K "is_row")) := let ⟨h, X, G⟩ := T.h; He.glo_ok X G (T.c.fact 106)
theorem Txt.g_is_text_of (T : Txt K mg) : mg "is_text_of" = some (.ref (He.ga K "is_text_of")) := let ⟨h, X, G⟩ := T.h; He.glo_ok X G (T.c.fact 107)
theorem Txt.g_is_name (T : Txt K mg) : mg "is_name" = some (.ref (He.ga K "is_name")) := let ⟨h, X, G⟩ := T.h; He.glo_ok X G (T.c.fact 108)
theorem Txt.g_is_error (T : Txt K mg) : mg "is_error" = some (.ref (He.ga K "is_error")) := let ⟨h, X, G⟩ := T.h; He.glo_ok X G (T.c.fact 109)
theorem Txt.g_is_word (T : Txt K mg) : mg "is_word" = some (.ref (He.ga K "is_word")) := let ⟨h, X, G⟩ := T.h; He.glo_ok X G (T.c.fact 110)
theorem Txt.g_are_unlike (T : Txt K mg) : mg "are_unlike" = some (.ref (He.ga K "are_unlike")) := let ⟨h, X, G⟩ := T.h; He.glo_ok X G (T.c.fact 111)
theorem Txt.g_is_pair (T : Txt K mg) : mg "is_pair" = some (.ref (He.ga K "is_pair")) := let ⟨h, X, G⟩ := T.h; He.glo_ok X G (T.c.fact 112)
theorem Txt.g_is_key (T : Txt K mg) : mg "is_key" = some (.ref (He.ga K "is_key")) := let ⟨h, X, G⟩ := T.h; He.glo_ok X G (T.c.fact 113)
theorem Txt.g_are_ends (T : Txt K mg) : mg "are_ends" = some (.ref (He.ga K "are_ends")) := let ⟨h, X, G⟩ := T.h; He.glo_ok X G (T.c.fact 114)
theorem Txt.g_are_outcomes (T : Txt K mg) : mg "are_outcomes" = some (.ref (He.ga K "are_outcomes")) := let ⟨h, X, G⟩ := T.h; He.glo_ok X G (T.c.fact 115)
theorem Txt.g_are_moves (T : Txt K mg) : mg "are_moves" = some (.ref (He.ga K "are_moves")) := let ⟨h, X, G⟩ := T.h; He.glo_ok X G (T.c.fact 116)
theorem Txt.g_look_choices (T : Txt K mg) : mg "look_choices" = some (.ref (He.ga K "look_choices")) := let ⟨h, X, G⟩ := T.h; He.glo_ok X G (T.c.fact 117)
theorem Txt.g_law_cell_at (T : Txt K mg) : mg "_law_cell_at" = some (.ref (He.ga K "_law_cell_at")) := let ⟨h, X, G⟩ := T.h; He.glo_ok X G (T.c.fact 118)
theorem Txt.g_law_source_of (T : Txt K mg) : mg "_law_source_of" = some (.ref (He.ga K "_law_source_of")) := let ⟨h, X, G⟩ := T.h; He.glo_ok X G (T.c.fact 119)
theorem Txt.g_law_next (T : Txt K mg) : mg "_law_next" = some (.ref (He.ga K "_law_next")) := let ⟨h, X, G⟩ := T.h; He.glo_ok X G (T.c.fact 120)
theorem Txt.g_law_one (T : Txt K mg) : mg "_law_one" = some (.ref (He.ga K "_law_one")) := let ⟨h, X, G⟩ := T.h; He.glo_ok X G (T.c.fact 121)
theorem Txt.g_law_mixed (T : Txt K mg) : mg "_law_mixed" = some (.ref (He.ga K "_law_mixed")) := let ⟨h, X, G⟩ := T.h; He.glo_ok X G (T.c.fact 122)
theorem Txt.g_law_bad (T : Txt K mg) : mg "_law_bad" = some (.ref (He.ga K "_law_bad")) := let ⟨h, X, G⟩ := T.h; He.glo_ok X G (T.c.fact 123)
theorem Txt.g_law_right (T : Txt K mg) : mg "_law_right" = some (.ref (He.ga K "_law_right")) := let ⟨h, X, G⟩ := T.h; He.glo_ok X G (T.c.fact 124)
theorem Txt.g_law (T : Txt K mg) : mg "law" = some (.ref (He.ga K "law")) := let ⟨h, X, G⟩ := T.h; He.glo_ok X G (T.c.fact 125)
theorem Txt.d_BadKind_init (T : Txt K mg) : ∃ fd, FunD K "__init__" "BadKind.__init__" (defArgs s_BadKind_init) (defBody s_BadKind_init) (defScope s_BadKind_init) [] [] (He.ma K (He.ga K "BadKind") "__init__") fd := T.c.def_ 0
theorem Txt.d_BadHistory_init (T : Txt K mg) : ∃ fd, FunD K "__init__" "BadHistory.__init__" (defArgs s_BadHistory_init) (defBody s_BadHistory_init) (defScope s_BadHistory_init) [] [] (He.ma K (He.ga K "BadHistory") "__init__") fd := T.c.def_ 1
theorem Txt.d_BadChoices_init (T : Txt K mg) : ∃ fd, FunD K "__init__" "BadChoices.__init__" (defArgs s_BadChoices_init) (defBody s_BadChoices_init) (defScope s_BadChoices_init) [] [] (He.ma K (He.ga K "BadChoices") "__init__") fd := T.c.def_ 2
theorem Txt.d_NoMethod_init (T : Txt K mg) : ∃ fd, FunD K "__init__" "NoMethod.__init__" (defArgs s_NoMethod_init) (defBody s_NoMethod_init) (defScope s_NoMethod_init) [] [] (He.ma K (He.ga K "NoMethod") "__init__") fd := T.c.def_ 3
theorem Txt.d_Met_init (T : Txt K mg) : ∃ fd, FunD K "__init__" "Met.__init__" (defArgs s_Met_init) (defBody s_Met_init) (defScope s_Met_init) [] [] (He.ma K (He.ga K "Met") "__init__") fd := T.c.def_ 4
theorem Txt.d_Barred_init (T : Txt K mg) : ∃ fd, FunD K "__init__" "Barred.__init__" (defArgs s_Barred_init) (defBody s_Barred_init) (defScope s_Barred_init) [] [] (He.ma K (He.ga K "Barred") "__init__") fd := T.c.def_ 5
theorem Txt.d_Waiting_init (T : Txt K mg) : ∃ fd, FunD K "__init__" "Waiting.__init__" (defArgs s_Waiting_init) (defBody s_Waiting_init) (defScope s_Waiting_init) [] [] (He.ma K (He.ga K "Waiting") "__init__") fd := T.c.def_ 6
theorem Txt.d_NoState_init (T : Txt K mg) : ∃ fd, FunD K "__init__" "NoState.__init__" (defArgs s_NoState_init) (defBody s_NoState_init) (defScope s_NoState_init) [] [] (He.ma K (He.ga K "NoState") "__init__") fd := T.c.def_ 7
theorem Txt.d_is_integer (T : Txt K mg) : ∃ fd, FunD K "is_integer" "is_integer" (defArgs s_is_integer) (defBody s_is_integer) (defScope s_is_integer) [] [] (He.ga K "is_integer") fd := T.c.def_ 8
theorem Txt.d_is_row (T : Txt K mg) : ∃ fd, FunD K "is_row" "is_row" (defArgs s_is_row) (defBody s_is_row) (defScope s_is_row) [] [] (He.ga K "is_row") fd := T.c.def_ 9
theorem Txt.d_is_text_of (T : Txt K mg) : ∃ fd, FunD K "is_text_of" "is_text_of" (defArgs s_is_text_of) (defBody s_is_text_of) (defScope s_is_text_of) [] [] (He.ga K "is_text_of") fd := T.c.def_ 10
theorem Txt.d_is_name (T : Txt K mg) : ∃ fd, FunD K "is_name" "is_name" (defArgs s_is_name) (defBody s_is_name) (defScope s_is_name) [] [] (He.ga K "is_name") fd := T.c.def_ 11
theorem Txt.d_is_error (T : Txt K mg) : ∃ fd, FunD K "is_error" "is_error" (defArgs s_is_error) (defBody s_is_error) (defScope s_is_error) [] [] (He.ga K "is_error") fd := T.c.def_ 12
theorem Txt.d_is_word (T : Txt K mg) : ∃ fd, FunD K "is_word" "is_word" (defArgs s_is_word) (defBody s_is_word) (defScope s_is_word) [] [] (He.ga K "is_word") fd := T.c.def_ 13
theorem Txt.d_are_unlike (T : Txt K mg) : ∃ fd, FunD K "are_unlike" "are_unlike" (defArgs s_are_unlike) (defBody s_are_unlike) (defScope s_are_unlike) [] [] (He.ga K "are_unlike") fd := T.c.def_ 14
theorem Txt.d_is_pair (T : Txt K mg) : ∃ fd, FunD K "is_pair" "is_pair" (defArgs s_is_pair) (defBody s_is_pair) (defScope s_is_pair) [] [] (He.ga K "is_pair") fd := T.c.def_ 15
theorem Txt.d_is_key (T : Txt K mg) : ∃ fd, FunD K "is_key" "is_key" (defArgs s_is_key) (defBody s_is_key) (defScope s_is_key) [] [] (He.ga K "is_key") fd := T.c.def_ 16
theorem Txt.d_are_ends (T : Txt K mg) : ∃ fd, FunD K "are_ends" "are_ends" (defArgs s_are_ends) (defBody s_are_ends) (defScope s_are_ends) [] [] (He.ga K "are_ends") fd := T.c.def_ 17
theorem Txt.d_are_outcomes (T : Txt K mg) : ∃ fd, FunD K "are_outcomes" "are_outcomes" (defArgs s_are_outcomes) (defBody s_are_outcomes) (defScope s_are_outcomes) [] [] (He.ga K "are_outcomes") fd := T.c.def_ 18
theorem Txt.d_are_moves (T : Txt K mg) : ∃ fd, FunD K "are_moves" "are_moves" (defArgs s_are_moves) (defBody s_are_moves) (defScope s_are_moves) [] [] (He.ga K "are_moves") fd := T.c.def_ 19
theorem Txt.d_Kind_init (T : Txt K mg) : ∃ fd, FunD K "__init__" "Kind.__init__" (defArgs s_Kind_init) (defBody s_Kind_init) (defScope s_Kind_init) [] [] (He.ma K (He.ga K "Kind") "__init__") fd := T.c.def_ 20
theorem Txt.d_Kind_name (T : Txt K mg) : ∃ fd, FunD K "name" "Kind.name" (defArgs s_Kind_name) (defBody s_Kind_name) (defScope s_Kind_name) [] [] (propAt K (He.ga K "Kind") "name") fd := T.c.def_ 21
theorem Txt.d_Kind_start (T : Txt K mg) : ∃ fd, FunD K "start" "Kind.start" (defArgs s_Kind_start) (defBody s_Kind_start) (defScope s_Kind_start) [] [] (propAt K (He.ga K "Kind") "start") fd := T.c.def_ 22
theorem Txt.d_Kind_ends (T : Txt K mg) : ∃ fd, FunD K "ends" "Kind.ends" (defArgs s_Kind_ends) (defBody s_Kind_ends) (defScope s_Kind_ends) [] [] (propAt K (He.ga K "Kind") "ends") fd := T.c.def_ 23
theorem Txt.d_Kind_states (T : Txt K mg) : ∃ fd, FunD K "states" "Kind.states" (defArgs s_Kind_states) (defBody s_Kind_states) (defScope s_Kind_states) [] [] (He.ma K (He.ga K "Kind") "states") fd := T.c.def_ 24
theorem Txt.d_Kind_methods (T : Txt K mg) : ∃ fd, FunD K "methods" "Kind.methods" (defArgs s_Kind_methods) (defBody s_Kind_methods) (defScope s_Kind_methods) [] [] (He.ma K (He.ga K "Kind") "methods") fd := T.c.def_ 25
theorem Txt.d_Kind_moves (T : Txt K mg) : ∃ fd, FunD K "moves" "Kind.moves" (defArgs s_Kind_moves) (defBody s_Kind_moves) (defScope s_Kind_moves) [] [] (He.ma K (He.ga K "Kind") "moves") fd := T.c.def_ 26
theorem Txt.d_Kind_getitem (T : Txt K mg) : ∃ fd, FunD K "__getitem__" "Kind.__getitem__" (defArgs s_Kind_getitem) (defBody s_Kind_getitem) (defScope s_Kind_getitem) [] [] (He.ma K (He.ga K "Kind") "__getitem__") fd := T.c.def_ 27
theorem Txt.d_Kind_contains (T : Txt K mg) : ∃ fd, FunD K "__contains__" "Kind.__contains__" (defArgs s_Kind_contains) (defBody s_Kind_contains) (defScope s_Kind_contains) [] [] (He.ma K (He.ga K "Kind") "__contains__") fd := T.c.def_ 28
theorem Txt.d_Kind_iter (T : Txt K mg) : ∃ fd, FunD K "__iter__" "Kind.__iter__" (defArgs s_Kind_iter) (defBody s_Kind_iter) (defScope s_Kind_iter) [] [] (He.ma K (He.ga K "Kind") "__iter__") fd := T.c.def_ 29
theorem Txt.d_Kind_eq (T : Txt K mg) : ∃ fd, FunD K "__eq__" "Kind.__eq__" (defArgs s_Kind_eq) (defBody s_Kind_eq) (defScope s_Kind_eq) [] [] (He.ma K (He.ga K "Kind") "__eq__") fd := T.c.def_ 30
theorem Txt.d_look_choices (T : Txt K mg) : ∃ fd, FunD K "look_choices" "look_choices" (defArgs s_look_choices) (defBody s_look_choices) (defScope s_look_choices) [] [] (He.ga K "look_choices") fd := T.c.def_ 31
theorem Txt.d_Live_init (T : Txt K mg) : ∃ fd, FunD K "__init__" "Live.__init__" (defArgs s_Live_init) (defBody s_Live_init) (defScope s_Live_init) ([(He.Dv.adr (He.dflAt ("Live", some "__init__") 0))].map (He.Dv.v K)) [] (He.ma K (He.ga K "Live") "__init__") fd := T.c.def_ 32
theorem Txt.d_Live_call (T : Txt K mg) : ∃ fd, FunD K "__call__" "Live.__call__" (defArgs s_Live_call) (defBody s_Live_call) (defScope s_Live_call) [] [] (He.ma K (He.ga K "Live") "__call__") fd := T.c.def_ 33
theorem Txt.d_Live_contains (T : Txt K mg) : ∃ fd, FunD K "__contains__" "Live.__contains__" (defArgs s_Live_contains) (defBody s_Live_contains) (defScope s_Live_contains) [] [] (He.ma K (He.ga K "Live") "__contains__") fd := T.c.def_ 34
theorem Txt.d_Live_len (T : Txt K mg) : ∃ fd, FunD K "__len__" "Live.__len__" (defArgs s_Live_len) (defBody s_Live_len) (defScope s_Live_len) [] [] (He.ma K (He.ga K "Live") "__len__") fd := T.c.def_ 35
theorem Txt.d_Live_state (T : Txt K mg) : ∃ fd, FunD K "state" "Live.state" (defArgs s_Live_state) (defBody s_Live_state) (defScope s_Live_state) [] [] (propAt K (He.ga K "Live") "state") fd := T.c.def_ 36
theorem Txt.d_Live_state_set (T : Txt K mg) : ∃ fd, FunD K "state" "Live.state" (defArgs s_Live_state_set) (defBody s_Live_state_set) (defScope s_Live_state_set) [] [] (setrAt K (He.ga K "Live") "state") fd := T.c.def_ 37
theorem Txt.d_Live_left (T : Txt K mg) : ∃ fd, FunD K "left" "Live.left" (defArgs s_Live_left) (defBody s_Live_left) (defScope s_Live_left) [] [] (propAt K (He.ga K "Live") "left") fd := T.c.def_ 38
theorem Txt.d_Live_told (T : Txt K mg) : ∃ fd, FunD K "told" "Live.told" (defArgs s_Live_told) (defBody s_Live_told) (defScope s_Live_told) [] [] (He.ma K (He.ga K "Live") "told") fd := T.c.def_ 39
theorem Txt.d_Live_enter (T : Txt K mg) : ∃ fd, FunD K "__enter__" "Live.__enter__" (defArgs s_Live_enter) (defBody s_Live_enter) (defScope s_Live_enter) [] [] (He.ma K (He.ga K "Live") "__enter__") fd := T.c.def_ 40
theorem Txt.d_Live_exit (T : Txt K mg) : ∃ fd, FunD K "__exit__" "Live.__exit__" (defArgs s_Live_exit) (defBody s_Live_exit) (defScope s_Live_exit) [] [] (He.ma K (He.ga K "Live") "__exit__") fd := T.c.def_ 41
theorem Txt.d_l_cell_at (T : Txt K mg) : ∃ fd, FunD K "_law_cell_at" "_law_cell_at" (defArgs s_l_cell_at) (defBody s_l_cell_at) (defScope s_l_cell_at) [] [] (He.ga K "_law_cell_at") fd := T.c.def_ 42
theorem Txt.d_l_source_of (T : Txt K mg) : ∃ fd, FunD K "_law_source_of" "_law_source_of" (defArgs s_l_source_of) (defBody s_l_source_of) (defScope s_l_source_of) [] [] (He.ga K "_law_source_of") fd := T.c.def_ 43
theorem Txt.d_l_next (T : Txt K mg) : ∃ fd, FunD K "_law_next" "_law_next" (defArgs s_l_next) (defBody s_l_next) (defScope s_l_next) [] [] (He.ga K "_law_next") fd := T.c.def_ 44
theorem Txt.d_l_one (T : Txt K mg) : ∃ fd, FunD K "_law_one" "_law_one" (defArgs s_l_one) (defBody s_l_one) (defScope s_l_one) [] [] (He.ga K "_law_one") fd := T.c.def_ 45
theorem Txt.d_l_mixed (T : Txt K mg) : ∃ fd, FunD K "_law_mixed" "_law_mixed" (defArgs s_l_mixed) (defBody s_l_mixed) (defScope s_l_mixed) [] [] (He.ga K "_law_mixed") fd := T.c.def_ 46
theorem Txt.d_l_bad (T : Txt K mg) : ∃ fd, FunD K "_law_bad" "_law_bad" (defArgs s_l_bad) (defBody s_l_bad) (defScope s_l_bad) [] [] (He.ga K "_law_bad") fd := T.c.def_ 47
theorem Txt.d_l_right (T : Txt K mg) : ∃ fd, FunD K "_law_right" "_law_right" (defArgs s_l_right) (defBody s_l_right) (defScope s_l_right) [] [] (He.ga K "_law_right") fd := T.c.def_ 48
theorem Txt.d_law (T : Txt K mg) : ∃ fd, FunD K "law" "law" (defArgs s_law) (defBody s_law) (defScope s_law) [] [] (He.ga K "law") fd := T.c.def_ 49
end
theorem sc_BadKind_init : FnScope ["self", "part"] ["self", "part"] (defScope s_BadKind_init) := ⟨rfl, rfl, rfl, by decide +kernel, rfl, by decide +kernel, by decide +kernel⟩
theorem sc_BadHistory_init : FnScope ["self", "index"] ["self", "index"] (defScope s_BadHistory_init) := ⟨rfl, rfl, rfl, by decide +kernel, rfl, by decide +kernel, by decide +kernel⟩
theorem sc_BadChoices_init : FnScope ["self", "index"] ["self", "index"] (defScope s_BadChoices_init) := ⟨rfl, rfl, rfl, by decide +kernel, rfl, by decide +kernel, by decide +kernel⟩
theorem sc_NoMethod_init : FnScope ["self", "index"] ["self", "index"] (defScope s_NoMethod_init) := ⟨rfl, rfl, rfl, by decide +kernel, rfl, by decide +kernel, by decide +kernel⟩
theorem sc_Met_init : FnScope ["self", "error"] ["self", "error"] (defScope s_Met_init) := ⟨rfl, rfl, rfl, by decide +kernel, rfl, by decide +kernel, by decide +kernel⟩
theorem sc_Barred_init : FnScope ["self", "state", "method"] ["self", "state", "method"] (defScope s_Barred_init) := ⟨rfl, rfl, rfl, by decide +kernel, rfl, by decide +kernel, by decide +kernel⟩
theorem sc_Waiting_init : FnScope ["self", "method"] ["self", "method"] (defScope s_Waiting_init) := ⟨rfl, rfl, rfl, by decide +kernel, rfl, by decide +kernel, by decide +kernel⟩
theorem sc_NoState_init : FnScope ["self", "state"] ["self", "state"] (defScope s_NoState_init) := ⟨rfl, rfl, rfl, by decide +kernel, rfl, by decide +kernel, by decide +kernel⟩
theorem sc_is_integer : FnScope ["thing"] ["thing"] (defScope s_is_integer) := ⟨rfl, rfl, rfl, by decide +kernel, rfl, by decide +kernel, by decide +kernel⟩
theorem sc_is_row : FnScope ["thing"] ["thing"] (defScope s_is_row) := ⟨rfl, rfl, rfl, by decide +kernel, rfl, by decide +kernel, by decide +kernel⟩
theorem sc_is_text_of : FnScope ["thing", "signs", "sign"] ["thing", "signs"] (defScope s_is_text_of) := ⟨rfl, rfl, rfl, by decide +kernel, rfl, by decide +kernel, by decide +kernel⟩
theorem sc_is_name : FnScope ["thing"] ["thing"] (defScope s_is_name) := ⟨rfl, rfl, rfl, by decide +kernel, rfl, by decide +kernel, by decide +kernel⟩
theorem sc_is_error : FnScope ["thing"] ["thing"] (defScope s_is_error) := ⟨rfl, rfl, rfl, by decide +kernel, rfl, by decide +kernel, by decide +kernel⟩
theorem sc_is_word : FnScope ["thing"] ["thing"] (defScope s_is_word) := ⟨rfl, rfl, rfl, by decide +kernel, rfl, by decide +kernel, by decide +kernel⟩
theorem sc_are_unlike : FnScope ["some", "one"] ["some"] (defScope s_are_unlike) := ⟨rfl, rfl, rfl, by decide +kernel, rfl, by decide +kernel, by decide +kernel⟩
theorem sc_is_pair : FnScope ["thing", "first", "second"] ["thing", "first", "second"] (defScope s_is_pair) := ⟨rfl, rfl, rfl, by decide +kernel, rfl, by decide +kernel, by decide +kernel⟩
theorem sc_is_key : FnScope ["thing"] ["thing"] (defScope s_is_key) := ⟨rfl, rfl, rfl, by decide +kernel, rfl, by decide +kernel, by decide +kernel⟩
theorem sc_are_ends : FnScope ["thing", "one"] ["thing"] (defScope s_are_ends) := ⟨rfl, rfl, rfl, by decide +kernel, rfl, by decide +kernel, by decide +kernel⟩
theorem sc_are_outcomes : FnScope ["thing", "one"] ["thing"] (defScope s_are_outcomes) := ⟨rfl, rfl, rfl, by decide +kernel, rfl, by decide +kernel, by decide +kernel⟩
theorem sc_are_moves : FnScope ["thing", "at"] ["thing"] (defScope s_are_moves) := ⟨rfl, rfl, rfl, by decide +kernel, rfl, by decide +kernel, by decide +kernel⟩
theorem sc_Kind_init : FnScope ["self", "name", "start", "ends", "moves", "at", "one"] ["self", "name", "start", "ends", "moves"] (defScope s_Kind_init) := ⟨rfl, rfl, rfl, by decide +kernel, rfl, by decide +kernel, by decide +kernel⟩
theorem sc_Kind_name : FnScope ["self"] ["self"] (defScope s_Kind_name) := ⟨rfl, rfl, rfl, by decide +kernel, rfl, by decide +kernel, by decide +kernel⟩
theorem sc_Kind_start : FnScope ["self"] ["self"] (defScope s_Kind_start) := ⟨rfl, rfl, rfl, by decide +kernel, rfl, by decide +kernel, by decide +kernel⟩
theorem sc_Kind_ends : FnScope ["self"] ["self"] (defScope s_Kind_ends) := ⟨rfl, rfl, rfl, by decide +kernel, rfl, by decide +kernel, by decide +kernel⟩
theorem sc_Kind_states : FnScope ["self", "found", "one", "state", "method", "outcomes", "word"] ["self"] (defScope s_Kind_states) := ⟨rfl, rfl, rfl, by decide +kernel, rfl, by decide +kernel, by decide +kernel⟩
theorem sc_Kind_methods : FnScope ["self", "state", "method"] ["self"] (defScope s_Kind_methods) := ⟨rfl, rfl, rfl, by decide +kernel, rfl, by decide +kernel, by decide +kernel⟩
theorem sc_Kind_moves : FnScope ["self", "at"] ["self"] (defScope s_Kind_moves) := ⟨rfl, rfl, rfl, by decide +kernel, rfl, by decide +kernel, by decide +kernel⟩
theorem sc_Kind_getitem : FnScope ["self", "at"] ["self", "at"] (defScope s_Kind_getitem) := ⟨rfl, rfl, rfl, by decide +kernel, rfl, by decide +kernel, by decide +kernel⟩
theorem sc_Kind_contains : FnScope ["self", "at"] ["self", "at"] (defScope s_Kind_contains) := ⟨rfl, rfl, rfl, by decide +kernel, rfl, by decide +kernel, by decide +kernel⟩
theorem sc_Kind_iter : FnScope ["self"] ["self"] (defScope s_Kind_iter) := ⟨rfl, rfl, rfl, by decide +kernel, rfl, by decide +kernel, by decide +kernel⟩
theorem sc_Kind_eq : FnScope ["self", "other"] ["self", "other"] (defScope s_Kind_eq) := ⟨rfl, rfl, rfl, by decide +kernel, rfl, by decide +kernel, by decide +kernel⟩
theorem sc_look_choices : FnScope ["choices", "index", "one"] ["choices"] (defScope s_look_choices) := ⟨rfl, rfl, rfl, by decide +kernel, rfl, by decide +kernel, by decide +kernel⟩
theorem sc_Live_init : FnScope ["self", "kind", "picks"] ["self", "kind", "picks"] (defScope s_Live_init) := ⟨rfl, rfl, rfl, by decide +kernel, rfl, by decide +kernel, by decide +kernel⟩
theorem sc_Live_call : FnScope ["self", "method", "found", "option", "word", "later"] ["self", "method"] (defScope s_Live_call) := ⟨rfl, rfl, rfl, by decide +kernel, rfl, by decide +kernel, by decide +kernel⟩
theorem sc_Live_contains : FnScope ["self", "method"] ["self", "method"] (defScope s_Live_contains) := ⟨rfl, rfl, rfl, by decide +kernel, rfl, by decide +kernel, by decide +kernel⟩
theorem sc_Live_len : FnScope ["self"] ["self"] (defScope s_Live_len) := ⟨rfl, rfl, rfl, by decide +kernel, rfl, by decide +kernel, by decide +kernel⟩
theorem sc_Live_state : FnScope ["self"] ["self"] (defScope s_Live_state) := ⟨rfl, rfl, rfl, by decide +kernel, rfl, by decide +kernel, by decide +kernel⟩
theorem sc_Live_state_set : FnScope ["self", "state"] ["self", "state"] (defScope s_Live_state_set) := ⟨rfl, rfl, rfl, by decide +kernel, rfl, by decide +kernel, by decide +kernel⟩
theorem sc_Live_left : FnScope ["self"] ["self"] (defScope s_Live_left) := ⟨rfl, rfl, rfl, by decide +kernel, rfl, by decide +kernel, by decide +kernel⟩
theorem sc_Live_told : FnScope ["self"] ["self"] (defScope s_Live_told) := ⟨rfl, rfl, rfl, by decide +kernel, rfl, by decide +kernel, by decide +kernel⟩
theorem sc_Live_enter : FnScope ["self"] ["self"] (defScope s_Live_enter) := ⟨rfl, rfl, rfl, by decide +kernel, rfl, by decide +kernel, by decide +kernel⟩
theorem sc_Live_exit : FnScope ["self", "kind", "value", "trace"] ["self", "kind", "value", "trace"] (defScope s_Live_exit) := ⟨rfl, rfl, rfl, by decide +kernel, rfl, by decide +kernel, by decide +kernel⟩
theorem sc_l_cell_at : FnScope ["_law_script", "_law_k"] ["_law_script", "_law_k"] (defScope s_l_cell_at) := ⟨rfl, rfl, rfl, by decide +kernel, rfl, by decide +kernel, by decide +kernel⟩
theorem sc_l_source_of : FnScope ["_law_cell"] ["_law_cell"] (defScope s_l_source_of) := ⟨rfl, rfl, rfl, by decide +kernel, rfl, by decide +kernel, by decide +kernel⟩
theorem sc_l_next : FnScope ["_law_source", "_law_many", "_law_found", "_law_number"] ["_law_source", "_law_many"] (defScope s_l_next) := ⟨rfl, rfl, rfl, by decide +kernel, rfl, by decide +kernel, by decide +kernel⟩
theorem sc_l_one : FnScope ["_law_source", "_law_some"] ["_law_source", "_law_some"] (defScope s_l_one) := ⟨rfl, rfl, rfl, by decide +kernel, rfl, by decide +kernel, by decide +kernel⟩
theorem sc_l_mixed : FnScope ["_law_source", "_law_some", "_law_left", "_law_found"] ["_law_source", "_law_some"] (defScope s_l_mixed) := ⟨rfl, rfl, rfl, by decide +kernel, rfl, by decide +kernel, by decide +kernel⟩
theorem sc_l_bad : FnScope ["_law_kind", "_law_picks", "e"] ["_law_kind", "_law_picks"] (defScope s_l_bad) := ⟨rfl, rfl, rfl, by decide +kernel, rfl, by decide +kernel, by decide +kernel⟩
theorem sc_l_right : FnScope ["_law_source", "_law_many", "_law_start", "_law_words", "_law_word", "_law_kind", "_law_turn", "_law_picks", "_law_live", "_law_due", "_law_at", "_law_answer", "_law_odd", "_law_some", "_law_row", "_law_great"] ["_law_source"] (defScope s_l_right) := ⟨rfl, rfl, rfl, by decide +kernel, rfl, by decide +kernel, by decide +kernel⟩
theorem sc_law : FnScope ["_law_script", "_law_cell", "_law_source", "_law_turn"] ["_law_script"] (defScope s_law) := ⟨rfl, rfl, rfl, by decide +kernel, rfl, by decide +kernel, by decide +kernel⟩
end Rs
set_option Elab.async false
set_option linter.all false
set_option maxRecDepth 100000
set_option maxHeartbeats 2000000
namespace Rs
open PySem PySem.Spec PyProof.Rows L2
local macro_rules | `(tactic| walk_at "rd") => `(tactic| simp only [L2.tRet, L2.tRetN, L2.tSeq, L2.tNext, L2.tIfS, L2.tAsg, L2.gName, L2.gNil, L2.gCons, L2.tVar, L2.tC, L2.tOp, L2.tUn, L2.tCB, L2.tCons, L2.tNil, L2.tAndV, L2.tOrV, L2.tNotV, L2.tAnd, L2.tOr, L2.tNot, L2.tB, L2.tTest, L2.tIf, L2.tChain, L2.tTup, L2.tLst, L2.tDrop, L2.start, L2.cxOf, L2.Cx.nox, L2.Cx.wish, L2.rI0, L2.rI, L2.tYes, Rs.tCalW, List.getElem?_cons_zero, List.getElem?_cons_succ, Option.some.injEq, exists_eq_left', exists_eq_left, exists_and_left, List.cons.injEq, and_true, true_and, L2.V.bl.injEq, L2.V.int.injEq, L2.V.str.injEq, L2.V.ref.injEq, List.set_cons_zero, List.set_cons_succ, List.map_cons, List.map_nil, List.length_cons, List.length_nil, List.replicate, List.cons_append, List.nil_append, List.append_nil, Nat.reduceSub, Nat.reduceAdd])
section
variable {P : Program} {w : World} {K : PySem.W.Frag} {mg : PySem.Str → Option Value} {base : Heap}
/-! ### is_integer, is_row -/
def sp_is_integer (K : PySem.W.Frag) : Sp := fun vs H Q _ => ∃ v n, vs = [v] ∧ Srt K H v n ∧ Q (.bl (decide (n = "int"))) H
theorem ok_is_integer (T : Txt K mg) : Cal P w K mg base 1 "is_integer" ["thing"] (sp_is_integer K) := by
  obtain ⟨fd, F⟩ := T.d_is_integer
  refine cal_of F T.g_is_integer (F.bindsN fun _ _ _ _ _ _ us hl => match us, hl with | [_], _ => rfl) ?_
  refine F.ok sc_is_integer (fun vs H Q E h => ?_) (fun cdv A outer s H vs Q E hr h => ?_)
  · obtain ⟨v, n, rfl, _⟩ := h
    rfl
  · refine ⟨_, PSs.nox (pss_one (ps_ret (pe_and (pe_callB (r := rIsi K) call_isi rfl T.b_isinstance (by decide +kernel) (pa_cons (pv 0) (pa_cons (pe_bltn (v := .ty "int") rfl T.b_int (by decide +kernel) rfl) pa_nil))) (pe_one (pe_not (pe_callB (r := rIsi K) call_isi rfl T.b_isinstance (by decide +kernel) (pa_cons (pv 0) (pa_cons (pe_bltn (v := .ty "bool") rfl T.b_bool (by decide +kernel) rfl) pa_nil)))))))), ?_⟩
    obtain ⟨v, n, rfl, sr, q⟩ := h
    walk_at "rd"
    refine isi_of sr (by decide) ?_
    walk_at "rd"
    refine ite2 (fun e => ?_) (fun e => ?_)
    · refine isi_of sr (by decide) ?_
      walk_at "rd"
      have : ∀ n ∈ sorts, (decide (n = "int") || (decide (n = "bool") && decide ("int" = "int"))) = true → (!(decide (n = "bool") || (decide (n = "bool") && decide ("bool" = "int")))) = decide (n = "int") := by decide +kernel
      rw [this n sr.2 e]
      exact q
    · have e2 : decide (n = "int") = false := by
        cases h : decide (n = "int") with
        | false => rfl
        | true => simp [h] at e
      rw [e2] at q
      exact q
def isRow (n : String) : Bool := decide (n = "list") || decide (n = "tuple")
def sp_is_row (K : PySem.W.Frag) : Sp := fun vs H Q _ => ∃ v n, vs = [v] ∧ Srt K H v n ∧ ∀ H', Same H H' → Q (.bl (isRow n)) H'
theorem ok_is_row (T : Txt K mg) : Cal P w K mg base 1 "is_row" ["thing"] (sp_is_row K) := by
  obtain ⟨fd, F⟩ := T.d_is_row
  refine cal_of F T.g_is_row (F.bindsN fun _ _ _ _ _ _ us hl => match us, hl with | [_], _ => rfl) ?_
  refine F.ok sc_is_row (fun vs H Q E h => ?_) (fun cdv A outer s H vs Q E hr h => ?_)
  · obtain ⟨v, n, rfl, _⟩ := h
    rfl
  · refine ⟨_, PSs.nox (pss_one (ps_ret (pe_callB call_isiT rfl T.b_isinstance (by decide +kernel) (pa_cons (pv 0) (pa_cons (pe_tup (pa_cons (pe_bltn (v := .ty "list") rfl T.b_list (by decide +kernel) rfl) (pa_cons (pe_bltn (v := .ty "tuple") rfl T.b_tuple (by decide +kernel) rfl) pa_nil))) pa_nil))))), ?_⟩
    obtain ⟨v, n, rfl, sr, q⟩ := h
    walk_at "rd"
    refine ⟨by decide, fun p hp => ?_⟩
    exact ⟨v, p, _, _, _, _, rfl, upd_same, .cons (.ty _) (.cons (.ty _) .nil), (Srt.same (Same.new hp) sr).1, list_tuple_b n sr.2, q _ (Same.new hp)⟩
/-! ### is_text_of -/
def isTx (signs : PySem.Str) : V → Bool
  | .str s => decide (1 ≤ s.length) && (decide (s.length ≤ 8) && s.cps.toList.all fun c => decide (c ∈ signs.cps.toList))
  | _ => false
def sp_is_text_of (K : PySem.W.Frag) : Sp := fun vs H Q _ => ∃ v n signs, vs = [v, .str signs] ∧ Srt K H v n ∧ (∀ s, v = .str s → s.length ≤ sizeLine) ∧ ∀ H', Same H H' → Q (.bl (isTx signs v)) H'
theorem ok_is_text_of (T : Txt K mg) : Cal P w K mg base 1 "is_text_of" ["thing", "signs"] (sp_is_text_of K) := by
  obtain ⟨fd, F⟩ := T.d_is_text_of
  obtain ⟨tk, h_MOST_SIGNS⟩ := T.c_MOST_SIGNS
  refine cal_of F T.g_is_text_of (F.bindsN fun _ _ _ _ _ _ us hl => match us, hl with | [_, _], _ => rfl) ?_
  refine F.ok sc_is_text_of (fun vs H Q E h => ?_) (fun cdv A outer s H vs Q E hr h => ?_)
  · obtain ⟨v, n, sg, rfl, _⟩ := h
    rfl
  · refine ⟨_, PSs.nox (pss_one (ps_ret (pe_and (pe_callB (r := rIsi K) call_isi rfl T.b_isinstance (by decide +kernel) (pa_cons (pv 0) (pa_cons (pe_bltn (v := .ty "str") rfl T.b_str (by decide +kernel) rfl) pa_nil))) (pe_and (pe_chain op_le op_le pe_int (pe_callB call_len rfl T.b_len (by decide +kernel) (pa_cons (pv 0) pa_nil)) (pe_glob (v := .int 8) rfl h_MOST_SIGNS ⟨_, rfl⟩)) (pe_one (pe_callB (cr_all rfl) rfl T.b_all (by decide +kernel) (pa_cons (pe_lc (own := [("sign", 2)]) (g := gName 2) (tt := tYes) rfl sc_is_text_of.nd (pi_str (pv 0)) (blkOk_by (own := [("sign", 2)]) (N := ["thing", "signs", "sign"]) (sc := defScope s_is_text_of) (by decide +kernel)) (fun _ _ _ _ _ => (pg_name (i := 2) sc_is_text_of.nd rfl (Or.inl rfl))) (fun _ _ _ _ _ => pts_nil) (fun _ _ _ _ _ => (pe_cmpR op_in_sign (pv 2) (pv 1) rfl))) pa_nil))))))), ?_⟩
    obtain ⟨v, n, sg, rfl, sr, hl, q⟩ := h
    walk_at "rd"
    refine isi_of sr (by decide) ?_
    walk_at "rd"
    refine ite2 (fun e => ?_) (fun e => ?_)
    · have hs : ∃ z, v = .str z := by
        have : n = "str" := by
          have : ∀ n ∈ sorts, (decide (n = "str") || (decide (n = "bool") && decide ("str" = "int"))) = true → n = "str" := by decide +kernel
          exact this n sr.2 e
        subst this
        exact srt_is_str sr
      obtain ⟨z, rfl⟩ := hs
      have hz := hl z rfl
      refine ⟨z.length, ⟨hz, rfl⟩, ?_⟩
      have len : z.length = z.cps.toList.length := by simp [PySem.Str.length]
      refine ite2 (fun e1 => ?_) (fun e1 => ?_)
      · have e1 : 1 ≤ z.length := by have := of_decide_eq_true e1; omega
        refine ite2 (fun e2 => ?_) (fun e2 => ?_)
        · have e2 : z.length ≤ 8 := by have := of_decide_eq_true e2; omega
          refine ⟨_, rfl, z, rfl, fun D hD => lc_map (walk_str (z := z)) hD (fun i => .bl (decide (z.cps.toList.getD i 0 ∈ sg.cps.toList))) (by rw [sizeLine_eq]; have : z.cps.size = z.length := rfl; omega) (fun _ _ => trivial) (fun i x H2 H3 hi s2 y => ?_) (hd := fun H2 s2 h2 => ?_)⟩
          · obtain ⟨rfl, c, hc, rfl⟩ := y
            refine ⟨Same.refl _, fun Kt hK => ⟨rfl, _, rfl, _, rfl, c, rfl, sg, rfl, ?_⟩⟩
            have : z.cps.toList.getD i 0 = c := by
              rw [List.getD_eq_getElem?_getD, Array.getElem?_toList, hc] <;> rfl
            have hk := hK _ (Same.refl _)
            rw [this] at hk
            exact hk
          · refine ⟨D, (List.range z.cps.size).map (fun i => decide (z.cps.toList.getD i 0 ∈ sg.cps.toList)), rfl, SqL.of (by rw [h2, List.map_map] <;> rfl), ?_⟩
            have := q H2 s2
            have e3 : isTx sg (.str z) = ((List.range z.cps.size).map (fun i => decide (z.cps.toList.getD i 0 ∈ sg.cps.toList))).all id := by
              show (decide (1 ≤ z.length) && (decide (z.length ≤ 8) && z.cps.toList.all fun c => decide (c ∈ sg.cps.toList))) = _
              rw [decide_eq_true e1, decide_eq_true e2, Bool.true_and, Bool.true_and, List.all_map]
              exact all_range z.cps.toList (by simp) _
            rw [e3] at this
            exact this
        · have e2 : ¬ z.length ≤ 8 := by simp at e2; omega
          have := q H (Same.refl H)
          simp only [isTx, decide_eq_false e2, Bool.false_and, Bool.and_false] at this
          exact this
      · have e1 : ¬ 1 ≤ z.length := by simp at e1; omega
        have := q H (Same.refl H)
        simp only [isTx, decide_eq_false e1, Bool.false_and] at this
        exact this
    · have := q H (Same.refl H)
      have e3 : isTx sg v = false := by
        cases v with
        | str z =>
          have : n = "str" := by
            cases sr.1 with
            | base b => cases b; rfl
          subst this
          exact absurd rfl e
        | _ => rfl
      rw [e3] at this
      exact this
end
end Rs
set_option Elab.async false
set_option linter.all false
set_option maxRecDepth 100000
set_option maxHeartbeats 2000000
namespace Rs
open PySem PySem.Spec PyProof.Rows L2
local macro_rules | `(tactic| walk_at "rd") => `(tactic| simp only [L2.tRet, L2.tRetN, L2.tSeq, L2.tNext, L2.tIfS, L2.tAsg, L2.gName, L2.gNil, L2.gCons, L2.tVar, L2.tC, L2.tOp, L2.tUn, L2.tCB, L2.tCons, L2.tNil, L2.tAndV, L2.tOrV, L2.tNotV, L2.tAnd, L2.tOr, L2.tNot, L2.tB, L2.tTest, L2.tIf, L2.tChain, L2.tTup, L2.tLst, L2.tDrop, L2.start, L2.cxOf, L2.Cx.nox, L2.Cx.wish, L2.rI0, L2.rI, L2.tYes, Rs.tCalW, List.getElem?_cons_zero, List.getElem?_cons_succ, Option.some.injEq, exists_eq_left', exists_eq_left, exists_and_left, List.cons.injEq, and_true, true_and, L2.V.bl.injEq, L2.V.int.injEq, L2.V.str.injEq, L2.V.ref.injEq, List.set_cons_zero, List.set_cons_succ, List.map_cons, List.map_nil, List.length_cons, List.length_nil, List.replicate, List.cons_append, List.nil_append, List.append_nil, Nat.reduceSub, Nat.reduceAdd])
section
variable {P : Program} {w : World} {K : PySem.W.Frag} {mg : PySem.Str → Option Value} {base : Heap}
abbrev StrOk (v : V) : Prop := ∀ s, v = .str s → s.length ≤ sizeLine
abbrev smallS : PySem.Str := "abcdefghijklmnopqrstuvwxyz"
abbrev largeS : PySem.Str := "ABCDEFGHIJKLMNOPQRSTUVWXYZ"
abbrev isName (v : V) : Bool := isTx smallS v
abbrev isError (v : V) : Bool := isTx largeS v
def isWord (v : V) : Bool := isError v || (decide (v = .str "yes") || decide (v = .str "no"))
def sp_is_name (K : PySem.W.Frag) : Sp := fun vs H Q _ => ∃ v n, vs = [v] ∧ Srt K H v n ∧ StrOk v ∧ ∀ H', Same H H' → Q (.bl (isName v)) H'
def sp_is_error (K : PySem.W.Frag) : Sp := fun vs H Q _ => ∃ v n, vs = [v] ∧ Srt K H v n ∧ StrOk v ∧ ∀ H', Same H H' → Q (.bl (isError v)) H'
def sp_is_word (K : PySem.W.Frag) : Sp := fun vs H Q _ => ∃ v n, vs = [v] ∧ Srt K H v n ∧ StrOk v ∧ ∀ H', Same H H' → Q (.bl (isWord v)) H'
theorem ok_is_name (T : Txt K mg) : Cal P w K mg base 2 "is_name" ["thing"] (sp_is_name K) := by
  have c_is_text_of := ok_is_text_of (P := P) (w := w) (base := base) T
  obtain ⟨fd, F⟩ := T.d_is_name
  obtain ⟨tk, h_SMALL⟩ := T.c_SMALL
  refine cal_of F T.g_is_name (F.bindsN fun _ _ _ _ _ _ us hl => match us, hl with | [_], _ => rfl) ?_
  refine F.ok sc_is_name (fun vs H Q E h => ?_) (fun cdv A outer s H vs Q E hr h => ?_)
  · obtain ⟨v, n, rfl, _⟩ := h
    rfl
  · refine ⟨_, PSs.nox (pss_one (ps_ret (pe_cal c_is_text_of (hr.mono (by decide)) takes0 (pa_cons (pv 0) (pa_cons (pe_glob (v := .str "abcdefghijklmnopqrstuvwxyz") rfl h_SMALL ⟨_, rfl⟩) pa_nil))))), ?_⟩
    obtain ⟨v, n, rfl, sr, ok, q⟩ := h
    walk_at "rd"
    exact ⟨v, n, _, rfl, sr, ok, q⟩
theorem ok_is_error (T : Txt K mg) : Cal P w K mg base 2 "is_error" ["thing"] (sp_is_error K) := by
  have c_is_text_of := ok_is_text_of (P := P) (w := w) (base := base) T
  obtain ⟨fd, F⟩ := T.d_is_error
  obtain ⟨tk, h_LARGE⟩ := T.c_LARGE
  refine cal_of F T.g_is_error (F.bindsN fun _ _ _ _ _ _ us hl => match us, hl with | [_], _ => rfl) ?_
  refine F.ok sc_is_error (fun vs H Q E h => ?_) (fun cdv A outer s H vs Q E hr h => ?_)
  · obtain ⟨v, n, rfl, _⟩ := h
    rfl
  · refine ⟨_, PSs.nox (pss_one (ps_ret (pe_cal c_is_text_of (hr.mono (by decide)) takes0 (pa_cons (pv 0) (pa_cons (pe_glob (v := .str "ABCDEFGHIJKLMNOPQRSTUVWXYZ") rfl h_LARGE ⟨_, rfl⟩) pa_nil))))), ?_⟩
    obtain ⟨v, n, rfl, sr, ok, q⟩ := h
    walk_at "rd"
    exact ⟨v, n, _, rfl, sr, ok, q⟩
theorem ok_is_word (T : Txt K mg) : Cal P w K mg base 3 "is_word" ["thing"] (sp_is_word K) := by
  have c_is_error := ok_is_error (P := P) (w := w) (base := base) T
  obtain ⟨fd, F⟩ := T.d_is_word
  obtain ⟨a_ANSWERS, h_ANSWERS, tA⟩ := T.c_ANSWERS
  refine cal_of F T.g_is_word (F.bindsN fun _ _ _ _ _ _ us hl => match us, hl with | [_], _ => rfl) ?_
  refine F.ok sc_is_word (fun vs H Q E h => ?_) (fun cdv A outer s H vs Q E hr h => ?_)
  · obtain ⟨v, n, rfl, _⟩ := h
    rfl
  · refine ⟨_, PSs.nox (pss_one (ps_ret (pe_or (pe_cal c_is_error (hr.mono (by decide)) takes0 (pa_cons (pv 0) pa_nil)) (pe_one (pe_and (pe_callB (r := rIsi K) call_isi rfl T.b_isinstance (by decide +kernel) (pa_cons (pv 0) (pa_cons (pe_bltn (v := .ty "str") rfl T.b_str (by decide +kernel) rfl) pa_nil))) (pe_one (pe_cmpR op_in_seq (pv 0) (pe_glob (v := .ref a_ANSWERS) rfl h_ANSWERS rfl) rfl))))))), ?_⟩
    obtain ⟨v, n, rfl, sr, ok, q⟩ := h
    walk_at "rd"
    refine ⟨v, n, rfl, sr, ok, fun H1 s1 => ?_⟩
    walk_at "rd"
    refine ite2 (fun e => ?_) (fun e => ?_)
    · have := q H1 s1
      rw [isWord, e, Bool.true_or] at this
      exact this
    · refine isi_is (Srt.same s1 sr) (by decide) ?_
      walk_at "rd"
      have e' : isError v = false := by simpa using e
      have q1 := q H1 s1
      rw [isWord, e', Bool.false_or] at q1
      refine ite2 (fun e1 => ?_) (fun e1 => ?_)
      · have := of_decide_eq_true e1
        subst this
        obtain ⟨z, rfl⟩ := srt_is_str sr
        refine ⟨a_ANSWERS, _, rfl, .inr (tA H1), rfl, rfl, ?_⟩
        have e2 : inV (.str z) (List.map V.str ["yes", "no"]) = (decide (V.str z = .str "yes") || decide (V.str z = .str "no")) := by
          simp only [inV, List.map_cons, List.map_nil, List.any_cons, List.any_nil, Bool.or_false, eqV, str_beq, V.str.injEq]
        show Q (.bl (inV (.str z) (List.map V.str ["yes", "no"]))) H1
        rw [e2]
        exact q1
      · have e2 : (decide (v = .str "yes") || decide (v = .str "no")) = false := by
          cases v with
          | str z => exact absurd (decide_eq_true (srt_str_eq sr)) e1
          | _ => rfl
        rw [e2] at q1
        exact q1
/-! ### are_unlike -/
theorem unlike_dec {α : Type} [DecidableEq α] (l : List α) : decide (V.int (cnt l : Nat) = V.int (l.length : Nat)) = decide l.Nodup := by
  have h := cnt_all l
  by_cases e : l.Nodup
  · rw [decide_eq_true e, h.mpr e]
    simp
  · rw [decide_eq_false e]
    refine decide_eq_false fun z => e (h.mp ?_)
    have := V.int.inj z
    omega
def sp_are_unlike (K : PySem.W.Frag) : Sp := fun vs H Q _ => ∃ p, vs = [.ref p] ∧
  ((∃ ss : List PySem.Str, (SqL K H p (ss.map V.str) ∨ SqT K H p (ss.map V.str)) ∧ ss.length ≤ 4000 ∧ ∀ H', Same H H' → Q (.bl (decide ss.Nodup)) H') ∨
   (∃ (bs : List Addr) (ks : List (List PySem.Str)), SqL K H p (bs.map V.ref) ∧ bs.length < 60 ∧ Paired (fun k b => RowAt K H b k) ks bs ∧ ∀ H', Same H H' → Q (.bl (decide ks.Nodup)) H'))
theorem ok_are_unlike (T : Txt K mg) : Cal P w K mg base 1 "are_unlike" ["some"] (sp_are_unlike K) := by
  obtain ⟨fd, F⟩ := T.d_are_unlike
  refine cal_of F T.g_are_unlike (F.bindsN fun _ _ _ _ _ _ us hl => match us, hl with | [_], _ => rfl) ?_
  refine F.ok sc_are_unlike (fun vs H Q E h => ?_) (fun cdv A outer s H vs Q E hr h => ?_)
  · obtain ⟨v, rfl, _⟩ := h
    rfl
  · have hu := hu_of hr
    obtain ⟨p, rfl, ⟨ss, hp | hp, hz, q⟩ | ⟨bs, ks, hp, hz, hk, q⟩⟩ := h
    · refine ⟨_, PSs.nox (pss_one (ps_ret (pe_cmpR op_eq (pe_callB cr_lenSet rfl T.b_len (by decide +kernel) (pa_cons (pe_scg (own := [("one", 1)]) (g := gName 1) (tt := tYes) (Z := Zk P w) (ad := rSAddK P w) setK_lay (fun _ _ _ _ => mt_saddK) rfl sc_are_unlike.nd (pi_list (pv 0)) (blkOk_by (own := [("one", 1)]) (N := ["some", "one"]) (sc := defScope s_are_unlike) (by decide +kernel)) (fun _ _ _ _ _ => (pg_name (i := 1) sc_are_unlike.nd rfl (Or.inl rfl))) (fun _ _ _ _ _ => pts_nil) (fun _ _ _ _ _ => (pv 1))) pa_nil)) (pe_callB call_len_seq rfl T.b_len (by decide +kernel) (pa_cons (pv 0) pa_nil)) (nomark _)))), ?_⟩
      walk_at "rd"
      refine ⟨.ref p, rfl, p, rfl, ⟨_, hp⟩, fun D hD => sc_txts (ss := ss) walk_lm hD (fun H2 s2 => Same.seq s2 hp) (by simp) (by show _ < 4096; omega) fun H2 S s2 h2 => ?_⟩
      refine ⟨D, cnt ss, rfl, .inr ⟨S, h2⟩, _, .inl (Same.seq s2 hp), rfl, ?_⟩
      rw [List.length_map, unlike_dec]
      exact q H2 s2
    · refine ⟨_, PSs.nox (pss_one (ps_ret (pe_cmpR op_eq (pe_callB cr_lenSet rfl T.b_len (by decide +kernel) (pa_cons (pe_scg (own := [("one", 1)]) (g := gName 1) (tt := tYes) (Z := Zk P w) (ad := rSAddK P w) setK_lay (fun _ _ _ _ => mt_saddK) rfl sc_are_unlike.nd (pi_tup (pv 0)) (blkOk_by (own := [("one", 1)]) (N := ["some", "one"]) (sc := defScope s_are_unlike) (by decide +kernel)) (fun _ _ _ _ _ => (pg_name (i := 1) sc_are_unlike.nd rfl (Or.inl rfl))) (fun _ _ _ _ _ => pts_nil) (fun _ _ _ _ _ => (pv 1))) pa_nil)) (pe_callB call_len_seq rfl T.b_len (by decide +kernel) (pa_cons (pv 0) pa_nil)) (nomark _)))), ?_⟩
      walk_at "rd"
      refine ⟨.ref p, rfl, p, rfl, ⟨_, hp⟩, fun D hD => sc_txts (ss := ss) walk_tm hD (fun H2 s2 => Same.tq s2 hp) (by simp) (by show _ < 4096; omega) fun H2 S s2 h2 => ?_⟩
      refine ⟨D, cnt ss, rfl, .inr ⟨S, h2⟩, _, .inr (Same.tq s2 hp), rfl, ?_⟩
      rw [List.length_map, unlike_dec]
      exact q H2 s2
    · refine ⟨_, PSs.nox (pss_one (ps_ret (pe_cmpR op_eq (pe_callB cr_lenSet rfl T.b_len (by decide +kernel) (pa_cons (pe_scg (own := [("one", 1)]) (g := gName 1) (tt := tYes) (Z := Zt P w) (ad := rAddT K P w) setT_lay (fun _ _ _ _ => mt_addT (by exact hu)) rfl sc_are_unlike.nd (pi_list (pv 0)) (blkOk_by (own := [("one", 1)]) (N := ["some", "one"]) (sc := defScope s_are_unlike) (by decide +kernel)) (fun _ _ _ _ _ => (pg_name (i := 1) sc_are_unlike.nd rfl (Or.inl rfl))) (fun _ _ _ _ _ => pts_nil) (fun _ _ _ _ _ => (pv 1))) pa_nil)) (pe_callB call_len_seq rfl T.b_len (by decide +kernel) (pa_cons (pv 0) pa_nil)) (nomark _)))), ?_⟩
      walk_at "rd"
      refine ⟨.ref p, rfl, p, rfl, ⟨_, hp⟩, fun D hD => sc_rows (ks := ks) (bs := bs) walk_lm hD (fun H2 s2 => Same.seq s2 hp) (by simp) (by omega) hk fun H2 L s2 h2 hl => ?_⟩
      refine ⟨D, cnt ks, rfl, .inl ⟨L, h2, hl.symm⟩, _, .inl (Same.seq s2 hp), rfl, ?_⟩
      rw [List.length_map, ← Paired.length hk, unlike_dec]
      exact q H2 s2
end
end Rs
set_option Elab.async false
set_option linter.all false
set_option maxRecDepth 100000
set_option maxHeartbeats 2000000
namespace Rs
open PySem PySem.Spec PyProof.Rows L2
local macro_rules | `(tactic| walk_at "rd") => `(tactic| simp only [L2.tRet, L2.tRetN, L2.tSeq, L2.tNext, L2.tIfS, L2.tAsg, L2.gName, L2.gNil, L2.gCons, L2.tVar, L2.tC, L2.tOp, L2.tUn, L2.tCB, L2.tCons, L2.tNil, L2.tAndV, L2.tOrV, L2.tNotV, L2.tAnd, L2.tOr, L2.tNot, L2.tB, L2.tTest, L2.tIf, L2.tChain, L2.tTup, L2.tLst, L2.tDrop, L2.start, L2.cxOf, L2.Cx.nox, L2.Cx.wish, L2.rI0, L2.rI, L2.tYes, Rs.tCalW, List.getElem?_cons_zero, List.getElem?_cons_succ, Option.some.injEq, exists_eq_left', exists_eq_left, exists_and_left, List.cons.injEq, and_true, true_and, L2.V.bl.injEq, L2.V.int.injEq, L2.V.str.injEq, L2.V.ref.injEq, List.set_cons_zero, List.set_cons_succ, List.map_cons, List.map_nil, List.length_cons, List.length_nil, List.replicate, List.cons_append, List.nil_append, List.append_nil, Nat.reduceSub, Nat.reduceAdd])

section
variable {P : Program} {w : World} {K : PySem.W.Frag} {mg : PySem.Str → Option Value} {base : Heap}
/-- a thing of which we know the sort, and, if it is a text, that it fits -/
def Any (K : PySem.W.Frag) (H : Hp) (x : V) : Prop := (∃ m, Srt K H x m) ∧ StrOk x
theorem Any.same {H H' : Hp} {x : V} (e : Same H H') (h : Any K H x) : Any K H' x := ⟨h.1.imp fun _ z => Srt.same e z, h.2⟩
abbrev SqR (K : PySem.W.Frag) (H : Hp) (p : Addr) (xs : List V) : Prop := SqL K H p xs ∨ SqT K H p xs
theorem SqR.same {H H' : Hp} {p : Addr} {xs : List V} (e : Same H H') (h : SqR K H p xs) : SqR K H' p xs := h.elim (fun h => .inl (Same.seq e h)) fun h => .inr (Same.tq e h)
theorem SqR.srt {H : Hp} {p : Addr} {xs : List V} (h : SqR K H p xs) : ∃ n, Srt K H (.ref p) n ∧ isRow n = true := h.elim (fun h => ⟨_, srt_lq h, rfl⟩) fun h => ⟨_, srt_tq h, rfl⟩
/-! ### is_pair, of a row -/
def pairB (p1 p2 : V → Bool) : List V → Bool
  | [a, b] => p1 a && p2 b
  | _ => false
def sp_is_pair (K : PySem.W.Frag) (f1 f2 : Addr) (p1 p2 : V → Bool) : Sp := fun vs H Q _ => ∃ v n, vs = [v, .ref f1, .ref f2] ∧ Srt K H v n ∧ ((isRow n = false ∧ ∀ H', Same H H' → Q (.bl false) H') ∨
  ∃ p xs, v = .ref p ∧ SqR K H p xs ∧ (xs.length = 2 → ∀ x ∈ xs, Any K H x) ∧ ∀ H', Same H H' → Q (.bl (pairB p1 p2 xs)) H')
/-- a test of any thing -/
def spAny (K : PySem.W.Frag) (p : V → Bool) : Sp := fun vs H Q _ => ∃ v n, vs = [v] ∧ Srt K H v n ∧ StrOk v ∧ ∀ H', Same H H' → Q (.bl (p v)) H'
theorem pair_shape {xs : List V} (h : xs.length = 2) : ∃ a b, xs = [a, b] := by
  match xs, h with
  | [a, b], _ => exact ⟨a, b, rfl⟩
theorem pairB_no {p1 p2 : V → Bool} {xs : List V} (h : xs.length ≠ 2) : pairB p1 p2 xs = false := by
  match xs, h with
  | [], _ => rfl
  | [_], _ => rfl
  | [_, _], h => exact absurd rfl h
  | _ :: _ :: _ :: _, _ => rfl
theorem ok_is_pair {k : Nat} {x1 x2 : PySem.Str} {f1 f2 : Addr} {p1 p2 : V → Bool} (T : Txt K mg) (c_1 : Cal P w K mg base 3 x1 ["thing"] (spAny K p1)) (c_2 : Cal P w K mg base 3 x2 ["thing"] (spAny K p2)) (g1 : mg x1 = some (.ref f1)) (g2 : mg x2 = some (.ref f2)) :
    Cal P w K mg base 4 "is_pair" ["thing", "first", "second"] (sp_is_pair K f1 f2 p1 p2) := by
  have c_is_row := ok_is_row (P := P) (w := w) (base := base) T
  obtain ⟨fd, F⟩ := T.d_is_pair
  refine cal_of F T.g_is_pair (F.bindsN fun _ _ _ _ _ _ us hl => match us, hl with | [_, _, _], _ => rfl) ?_
  refine F.ok sc_is_pair (fun vs H Q E h => ?_) (fun cdv A outer s H vs Q E hr h => ?_)
  · obtain ⟨v, n, rfl, _⟩ := h
    rfl
  · obtain ⟨v, n, rfl, sr, ⟨hn, q⟩ | ⟨p, xs, rfl, hp, hx, q⟩⟩ := h
    · refine ⟨_, PSs.nox (pss_one (ps_ret (pe_and (pe_cal c_is_row (hr.mono (by decide)) takes0 (pa_cons (pv 0) pa_nil)) (pe_and (pe_cmpR op_eq (pe_callB call_len_seq rfl T.b_len (by decide +kernel) (pa_cons (pv 0) pa_nil)) pe_int (nomark _)) (pe_and (pe_calL (i := 1) c_1 g1 (hr.mono (by decide)) rfl (.inl rfl) (pa_cons (pe_ix ix_list (pv 0) pe_int (fun _ _ => rfl)) pa_nil)) (pe_one (pe_calL (i := 2) c_2 g2 (hr.mono (by decide)) rfl (.inl rfl) (pa_cons (pe_ix ix_list (pv 0) pe_int (fun _ _ => rfl)) pa_nil)))))))), ?_⟩
      walk_at "rd"
      refine ⟨v, n, rfl, sr, fun H1 s1 => ?_⟩
      walk_at "rd"
      rw [if_neg (by rw [hn]; exact Bool.false_ne_true)]
      exact q H1 s1
    · obtain ⟨n', sr', hn'⟩ := hp.srt
      rcases hp with hp | hp
      · refine ⟨_, PSs.nox (pss_one (ps_ret (pe_and (pe_cal c_is_row (hr.mono (by decide)) takes0 (pa_cons (pv 0) pa_nil)) (pe_and (pe_cmpR op_eq (pe_callB call_len_seq rfl T.b_len (by decide +kernel) (pa_cons (pv 0) pa_nil)) pe_int (nomark _)) (pe_and (pe_calL (i := 1) c_1 g1 (hr.mono (by decide)) rfl (.inl rfl) (pa_cons (pe_ix ix_list (pv 0) pe_int (fun _ _ => rfl)) pa_nil)) (pe_one (pe_calL (i := 2) c_2 g2 (hr.mono (by decide)) rfl (.inl rfl) (pa_cons (pe_ix ix_list (pv 0) pe_int (fun _ _ => rfl)) pa_nil)))))))), ?_⟩
        walk_at "rd"
        refine ⟨_, n', rfl, sr', fun H1 s1 => ?_⟩
        walk_at "rd"
        rw [if_pos hn']
        refine ⟨xs, .inl (Same.seq s1 hp), rfl, _, rfl, ?_⟩
        by_cases hl : xs.length = 2
        · obtain ⟨a, b, rfl⟩ := pair_shape hl
          have ha := hx rfl a List.mem_cons_self
          have hb := hx rfl b (List.mem_cons_of_mem _ List.mem_cons_self)
          obtain ⟨⟨ma, sa⟩, oa⟩ := ha
          obtain ⟨⟨mb, sb⟩, ob⟩ := hb
          rw [if_pos (decide_eq_true (show V.int (([a, b] : List V).length : Nat) = V.int 2 from rfl))]
          refine ⟨rfl, _, rfl, p, [a, b], 0, a, rfl, rfl, Same.seq s1 hp, rfl, a, ma, rfl, Srt.same s1 sa, oa, fun H2 s2 => ⟨_, rfl, ?_⟩⟩
          have q2 := q H2 (s1.trans s2)
          cases e1 : p1 a with
          | false =>
            rw [if_neg (by decide)]
            simp only [pairB, e1, Bool.false_and] at q2
            exact q2
          | true =>
            rw [if_pos rfl]
            refine ⟨rfl, _, rfl, p, [a, b], 1, b, rfl, rfl, Same.seq (s1.trans s2) hp, rfl, b, mb, rfl, Srt.same (s1.trans s2) sb, ob, fun H3 s3 => ?_⟩
            have q3 := q H3 ((s1.trans s2).trans s3)
            simp only [pairB, e1, Bool.true_and] at q3
            exact q3
        · rw [if_neg (by intro z; exact hl (by have := V.int.inj (of_decide_eq_true z); omega))]
          have q1 := q H1 s1
          rw [pairB_no hl] at q1
          exact q1
      · refine ⟨_, PSs.nox (pss_one (ps_ret (pe_and (pe_cal c_is_row (hr.mono (by decide)) takes0 (pa_cons (pv 0) pa_nil)) (pe_and (pe_cmpR op_eq (pe_callB call_len_seq rfl T.b_len (by decide +kernel) (pa_cons (pv 0) pa_nil)) pe_int (nomark _)) (pe_and (pe_calL (i := 1) c_1 g1 (hr.mono (by decide)) rfl (.inl rfl) (pa_cons (pe_ix ix_tup (pv 0) pe_int (fun _ _ => rfl)) pa_nil)) (pe_one (pe_calL (i := 2) c_2 g2 (hr.mono (by decide)) rfl (.inl rfl) (pa_cons (pe_ix ix_tup (pv 0) pe_int (fun _ _ => rfl)) pa_nil)))))))), ?_⟩
        walk_at "rd"
        refine ⟨_, n', rfl, sr', fun H1 s1 => ?_⟩
        walk_at "rd"
        rw [if_pos hn']
        refine ⟨xs, .inr (Same.tq s1 hp), rfl, _, rfl, ?_⟩
        by_cases hl : xs.length = 2
        · obtain ⟨a, b, rfl⟩ := pair_shape hl
          have ha := hx rfl a List.mem_cons_self
          have hb := hx rfl b (List.mem_cons_of_mem _ List.mem_cons_self)
          obtain ⟨⟨ma, sa⟩, oa⟩ := ha
          obtain ⟨⟨mb, sb⟩, ob⟩ := hb
          rw [if_pos (decide_eq_true (show V.int (([a, b] : List V).length : Nat) = V.int 2 from rfl))]
          refine ⟨rfl, _, rfl, p, [a, b], 0, a, rfl, rfl, Same.tq s1 hp, rfl, a, ma, rfl, Srt.same s1 sa, oa, fun H2 s2 => ⟨_, rfl, ?_⟩⟩
          have q2 := q H2 (s1.trans s2)
          cases e1 : p1 a with
          | false =>
            rw [if_neg (by decide)]
            simp only [pairB, e1, Bool.false_and] at q2
            exact q2
          | true =>
            rw [if_pos rfl]
            refine ⟨rfl, _, rfl, p, [a, b], 1, b, rfl, rfl, Same.tq (s1.trans s2) hp, rfl, b, mb, rfl, Srt.same (s1.trans s2) sb, ob, fun H3 s3 => ?_⟩
            have q3 := q H3 ((s1.trans s2).trans s3)
            simp only [pairB, e1, Bool.true_and] at q3
            exact q3
        · rw [if_neg (by intro z; exact hl (by have := V.int.inj (of_decide_eq_true z); omega))]
          have q1 := q H1 s1
          rw [pairB_no hl] at q1
          exact q1
/-! ### is_key -/
def sp_is_key (K : PySem.W.Frag) : Sp := fun vs H Q _ => ∃ v n, vs = [v] ∧ Srt K H v n ∧ ((n ≠ "tuple" ∧ ∀ H', Same H H' → Q (.bl false) H') ∨
  ∃ p xs, v = .ref p ∧ SqT K H p xs ∧ (xs.length = 2 → ∀ x ∈ xs, Any K H x) ∧ ∀ H', Same H H' → Q (.bl (pairB isName isName xs)) H')
theorem ok_is_key (T : Txt K mg) : Cal P w K mg base 3 "is_key" ["thing"] (sp_is_key K) := by
  have c_is_name := ok_is_name (P := P) (w := w) (base := base) T
  obtain ⟨fd, F⟩ := T.d_is_key
  refine cal_of F T.g_is_key (F.bindsN fun _ _ _ _ _ _ us hl => match us, hl with | [_], _ => rfl) ?_
  refine F.ok sc_is_key (fun vs H Q E h => ?_) (fun cdv A outer s H vs Q E hr h => ?_)
  · obtain ⟨v, n, rfl, _⟩ := h
    rfl
  · refine ⟨_, PSs.nox (pss_one (ps_ret (pe_and (pe_callB (r := rIsi K) call_isi rfl T.b_isinstance (by decide +kernel) (pa_cons (pv 0) (pa_cons (pe_bltn (v := .ty "tuple") rfl T.b_tuple (by decide +kernel) rfl) pa_nil))) (pe_and (pe_cmpR op_eq (pe_callB call_len_seq rfl T.b_len (by decide +kernel) (pa_cons (pv 0) pa_nil)) pe_int (nomark _)) (pe_and (pe_cal c_is_name (hr.mono (by decide)) takes0 (pa_cons (pe_ix ix_tup (pv 0) pe_int (fun _ _ => rfl)) pa_nil)) (pe_one (pe_cal c_is_name (hr.mono (by decide)) takes0 (pa_cons (pe_ix ix_tup (pv 0) pe_int (fun _ _ => rfl)) pa_nil)))))))), ?_⟩
    obtain ⟨v, n, rfl, sr, ⟨hn, q⟩ | ⟨p, xs, rfl, hp, hx, q⟩⟩ := h
    · walk_at "rd"
      refine isi_is sr (by decide) ⟨_, rfl, ?_⟩
      rw [if_neg (by simpa using hn)]
      exact q H (Same.refl H)
    · walk_at "rd"
      refine isi_is (srt_tq hp) (by decide) ⟨_, rfl, ?_⟩
      rw [if_pos (by decide)]
      refine ⟨xs, .inr hp, rfl, _, rfl, ?_⟩
      by_cases hl : xs.length = 2
      · obtain ⟨a, b, rfl⟩ := pair_shape hl
        obtain ⟨⟨ma, sa⟩, oa⟩ := hx rfl a List.mem_cons_self
        obtain ⟨⟨mb, sb⟩, ob⟩ := hx rfl b (List.mem_cons_of_mem _ List.mem_cons_self)
        rw [if_pos (decide_eq_true (show V.int (([a, b] : List V).length : Nat) = V.int 2 from rfl))]
        refine ⟨p, [a, b], 0, a, rfl, rfl, hp, rfl, a, ma, rfl, sa, oa, fun H2 s2 => ⟨_, rfl, ?_⟩⟩
        have q2 := q H2 s2
        cases e1 : isName a with
        | false =>
          rw [if_neg (by decide)]
          simp only [pairB, e1, Bool.false_and] at q2
          exact q2
        | true =>
          rw [if_pos rfl]
          refine ⟨p, [a, b], 1, b, rfl, rfl, Same.tq s2 hp, rfl, b, mb, rfl, Srt.same s2 sb, ob, fun H3 s3 => ?_⟩
          have q3 := q H3 (s2.trans s3)
          simp only [pairB, e1, Bool.true_and] at q3
          exact q3
      · rw [if_neg (by intro z; exact hl (by have := V.int.inj (of_decide_eq_true z); omega))]
        have q1 := q H (Same.refl H)
        rw [pairB_no hl] at q1
        exact q1
end
end Rs
set_option Elab.async false
set_option linter.all false
set_option maxRecDepth 100000
set_option maxHeartbeats 2000000
namespace Rs
open PySem PySem.Spec PyProof.Rows L2
local macro_rules | `(tactic| walk_at "rd") => `(tactic| simp only [L2.tRet, L2.tRetN, L2.tSeq, L2.tNext, L2.tIfS, L2.tAsg, L2.gName, L2.gNil, L2.gCons, L2.tVar, L2.tC, L2.tOp, L2.tUn, L2.tCB, L2.tCons, L2.tNil, L2.tAndV, L2.tOrV, L2.tNotV, L2.tAnd, L2.tOr, L2.tNot, L2.tB, L2.tTest, L2.tIf, L2.tChain, L2.tTup, L2.tLst, L2.tDrop, L2.start, L2.cxOf, L2.Cx.nox, L2.Cx.wish, L2.rI0, L2.rI, L2.tYes, Rs.tCalW, List.getElem?_cons_zero, List.getElem?_cons_succ, Option.some.injEq, exists_eq_left', exists_eq_left, exists_and_left, List.cons.injEq, and_true, true_and, L2.V.bl.injEq, L2.V.int.injEq, L2.V.str.injEq, L2.V.ref.injEq, List.set_cons_zero, List.set_cons_succ, List.map_cons, List.map_nil, List.length_cons, List.length_nil, List.replicate, List.cons_append, List.nil_append, List.append_nil, Nat.reduceSub, Nat.reduceAdd])

section
variable {P : Program} {w : World} {K : PySem.W.Frag} {mg : PySem.Str → Option Value} {base : Heap}
theorem lock_same {H H' : Hp} {d : Addr} {u : HO} {od : Obj} (h : H d = some u) (e : Same (upd H d (.frz od u)) H') : Same H (upd H' d u) := fun a o ea => by
  by_cases z : a = d
  · subst z
    rw [h] at ea
    cases ea
    exact upd_same
  · rw [upd_ne z]
    exact e a o (by rw [upd_ne z]; exact ea)
theorem getD_of {α : Type} {l : List α} {i : Nat} {x d : α} (h : l[i]? = some x) : l.getD i d = x := by rw [List.getD_eq_getElem?_getD, h] <;> rfl
theorem all_names (ss : List PySem.Str) (p : V → Bool) : ((List.range ss.length).map fun i => p (.str (ss.getD i default))).all id = ss.all fun x => p (.str x) := by
  rw [List.all_map]
  exact (all_range ss rfl (fun x => p (.str x)) default).symm
/-- a test of each of a row's texts: [p(x) for x in row] -/
theorem lc_txts {J : It} {ss : List PySem.Str} {G : Hp → Prop} (wk : Walk J ss.length G (YAt (ss.map V.str))) {j : Nat} {te : TE} {σ : L2.St} {H1 : Hp} {D : Addr} {Qd : Hp → Prop} (p : V → Bool) (hD : H1 D = none) (hG : ∀ H, Same H1 H → G H) (hn : ss.length ≤ sizeLine)
    (turn : ∀ x H, x ∈ ss → Same H1 H → ∀ Kt : V → Hp → Prop, (∀ H4, Same H H4 → Kt (.bl (p (.str x))) H4) → te ((wipe σ [j]).set j (some (.str x))) H Kt)
    (hd : ∀ H, Same H1 H → H D = some (.lst (((List.range ss.length).map fun i => p (.str (ss.getD i default))).map V.bl)) → Qd H) : LcW J (gName j) tYes te [j] σ D (upd H1 D (.lst [])) Qd := by
  refine lc_map wk hD (fun i => .bl (p (.str (ss.getD i default)))) hn hG (fun i x H H' hi s1 y => ?_) (hd := fun H s1 h => hd H s1 (by rw [h, List.map_map] <;> rfl))
  obtain ⟨rfl, hx⟩ := y
  obtain ⟨z, hz⟩ : ∃ z, ss[i]? = some z := ⟨_, List.getElem?_eq_getElem hi⟩
  rw [List.getElem?_map, hz] at hx
  cases Option.some.inj hx
  refine ⟨Same.refl _, fun Kt hK => ⟨by simp [wipe, List.set_set], ?_⟩⟩
  refine turn z H' (List.mem_of_getElem? hz) s1 Kt fun H4 s4 => ?_
  have := hK H4 s4
  rw [getD_of hz] at this
  exact this
/-! ### are_ends, of a row of texts -/
def sp_are_ends (K : PySem.W.Frag) : Sp := fun vs H Q _ => ∃ (p : Addr) (ss : List PySem.Str), vs = [.ref p] ∧ SqR K H p (ss.map V.str) ∧ ss.length ≤ 4000 ∧ (∀ x ∈ ss, x.length ≤ sizeLine) ∧ ∀ H', Same H H' → Q (.bl ((ss.all fun x => isName (.str x)) && decide ss.Nodup)) H'
theorem ok_are_ends (T : Txt K mg) : Cal P w K mg base 3 "are_ends" ["thing"] (sp_are_ends K) := by
  have c_is_name := ok_is_name (P := P) (w := w) (base := base) T
  have c_is_row := ok_is_row (P := P) (w := w) (base := base) T
  have c_are_unlike := ok_are_unlike (P := P) (w := w) (base := base) T
  obtain ⟨fd, F⟩ := T.d_are_ends
  refine cal_of F T.g_are_ends (F.bindsN fun _ _ _ _ _ _ us hl => match us, hl with | [_], _ => rfl) ?_
  refine F.ok sc_are_ends (fun vs H Q E h => ?_) (fun cdv A outer s H vs Q E hr h => ?_)
  · obtain ⟨p, ss, rfl, _⟩ := h
    rfl
  · obtain ⟨p, ss, rfl, hp, hz, hs, q⟩ := h
    have tail : ∀ H1, Same H H1 → ∀ D H2, Same H1 H2 → H2 D = some (.lst (((List.range ss.length).map fun i => isName (.str (ss.getD i default))).map V.bl)) →
        (rAll K [.ref D] H2 fun x H3 => ∃ c, x = V.bl c ∧ if c = true then sp_are_unlike K [.ref p] H3 Q (at_ W0 [some (.ref p), none]) else Q (.bl false) H3) := by
      intro H1 s1 D H2 s2 h2
      refine ⟨D, _, rfl, SqL.of h2, _, rfl, ?_⟩
      rw [all_names ss isName]
      cases e : ss.all fun x => isName (.str x) with
      | false =>
        rw [if_neg (by decide)]
        have := q H2 (s1.trans s2)
        rw [e, Bool.false_and] at this
        exact this
      | true =>
        rw [if_pos rfl]
        refine ⟨p, rfl, .inl ⟨ss, SqR.same (s1.trans s2) hp, hz, fun H3 s3 => ?_⟩⟩
        have := q H3 ((s1.trans s2).trans s3)
        rw [e, Bool.true_and] at this
        exact this
    have turn : ∀ (H1 : Hp), Same H H1 → ∀ x H2, x ∈ ss → Same H1 H2 → ∀ Kt : V → Hp → Prop, (∀ H4, Same H2 H4 → Kt (.bl (isName (.str x))) H4) → sp_is_name K [.str x] H2 Kt (at_ W0 ((wipe [some (.ref p), none] [1]).set 1 (some (.str x)))) := by
      intro H1 s1 x H2 hx s2 Kt hK
      exact ⟨.str x, _, rfl, srt_str x, fun z e => by cases e; exact hs x hx, hK⟩
    obtain ⟨n', sr', hn'⟩ := hp.srt
    have hz' : ss.length ≤ sizeLine := by rw [sizeLine_eq]; omega
    rcases hp with hp | hp
    · refine ⟨_, PSs.nox (pss_one (ps_ret (pe_and (pe_cal c_is_row (hr.mono (by decide)) takes0 (pa_cons (pv 0) pa_nil)) (pe_and (pe_callB (cr_all rfl) rfl T.b_all (by decide +kernel) (pa_cons (pe_lc (own := [("one", 1)]) (g := gName 1) (tt := tYes) rfl sc_are_ends.nd (pi_list (pv 0)) (blkOk_by (own := [("one", 1)]) (N := ["thing", "one"]) (sc := defScope s_are_ends) (by decide +kernel)) (fun _ _ _ _ _ => (pg_name (i := 1) sc_are_ends.nd rfl (Or.inl rfl))) (fun _ _ _ _ _ => pts_nil) (fun _ _ _ _ _ => (pe_cal c_is_name (hr.mono (by decide)) takes0 (pa_cons (pv 1) pa_nil)))) pa_nil)) (pe_one (pe_cal c_are_unlike (hr.mono (by decide)) takes0 (pa_cons (pv 0) pa_nil))))))), ?_⟩
      walk_at "rd"
      refine ⟨_, n', rfl, sr', fun H1 s1 => ⟨_, rfl, ?_⟩⟩
      rw [if_pos hn']
      refine ⟨_, rfl, p, rfl, ⟨_, Same.seq s1 hp⟩, fun D hD => lc_txts walk_lm isName hD (fun H2 s2 => Same.seq (s1.trans s2) hp) hz' (fun x H2 hx s2 Kt hK => ?_) fun H2 s2 h2 => ?_⟩
      · exact ⟨_, rfl, turn H1 s1 x H2 hx s2 Kt hK⟩
      · exact tail H1 s1 D H2 s2 h2
    · refine ⟨_, PSs.nox (pss_one (ps_ret (pe_and (pe_cal c_is_row (hr.mono (by decide)) takes0 (pa_cons (pv 0) pa_nil)) (pe_and (pe_callB (cr_all rfl) rfl T.b_all (by decide +kernel) (pa_cons (pe_lc (own := [("one", 1)]) (g := gName 1) (tt := tYes) rfl sc_are_ends.nd (pi_tup (pv 0)) (blkOk_by (own := [("one", 1)]) (N := ["thing", "one"]) (sc := defScope s_are_ends) (by decide +kernel)) (fun _ _ _ _ _ => (pg_name (i := 1) sc_are_ends.nd rfl (Or.inl rfl))) (fun _ _ _ _ _ => pts_nil) (fun _ _ _ _ _ => (pe_cal c_is_name (hr.mono (by decide)) takes0 (pa_cons (pv 1) pa_nil)))) pa_nil)) (pe_one (pe_cal c_are_unlike (hr.mono (by decide)) takes0 (pa_cons (pv 0) pa_nil))))))), ?_⟩
      walk_at "rd"
      refine ⟨_, n', rfl, sr', fun H1 s1 => ⟨_, rfl, ?_⟩⟩
      rw [if_pos hn']
      refine ⟨_, rfl, p, rfl, ⟨_, Same.tq s1 hp⟩, fun D hD => lc_txts walk_tm isName hD (fun H2 s2 => Same.tq (s1.trans s2) hp) hz' (fun x H2 hx s2 Kt hK => ?_) fun H2 s2 h2 => ?_⟩
      · exact ⟨_, rfl, turn H1 s1 x H2 hx s2 Kt hK⟩
      · exact tail H1 s1 D H2 s2 h2
end
end Rs
set_option Elab.async false
set_option linter.all false
set_option maxRecDepth 100000
set_option maxHeartbeats 2000000
namespace Rs
open PySem PySem.Spec PyProof.Rows L2
local macro_rules | `(tactic| walk_at "rd") => `(tactic| simp only [L2.tRet, L2.tRetN, L2.tSeq, L2.tNext, L2.tIfS, L2.tAsg, L2.gName, L2.gNil, L2.gCons, L2.tVar, L2.tC, L2.tOp, L2.tUn, L2.tCB, L2.tCons, L2.tNil, L2.tAndV, L2.tOrV, L2.tNotV, L2.tAnd, L2.tOr, L2.tNot, L2.tB, L2.tTest, L2.tIf, L2.tChain, L2.tTup, L2.tLst, L2.tDrop, L2.start, L2.cxOf, L2.Cx.nox, L2.Cx.wish, L2.rI0, L2.rI, L2.tYes, Rs.tCalW, List.getElem?_cons_zero, List.getElem?_cons_succ, Option.some.injEq, exists_eq_left', exists_eq_left, exists_and_left, List.cons.injEq, and_true, true_and, L2.V.bl.injEq, L2.V.int.injEq, L2.V.str.injEq, L2.V.ref.injEq, List.set_cons_zero, List.set_cons_succ, List.map_cons, List.map_nil, List.length_cons, List.length_nil, List.replicate, List.cons_append, List.nil_append, List.append_nil, Nat.reduceSub, Nat.reduceAdd])

section
variable {P : Program} {w : World} {K : PySem.W.Frag} {mg : PySem.Str → Option Value} {base : Heap}
theorem tq_upd {H : Hp} {D b : Addr} {xs ys : List V} {o : HO} (hD : H D = some (.lst ys)) (h : SqT K H b xs) : SqT K (upd H D o) b xs := by
  rcases h with (h | ⟨ob, h⟩) | h
  · exact .inl (.inl (by rw [upd_ne (ne_of h hD (by intro z; cases z))]; exact h))
  · exact .inl (.inr ⟨ob, by rw [upd_ne (ne_of h hD (by intro z; cases z))]; exact h⟩)
  · exact .inr h
theorem Paired.imp {α β : Type} {R S : α → β → Prop} : ∀ {l : List α} {m : List β}, Paired R l m → (∀ a b, R a b → S a b) → Paired S l m
  | _, _, .nil, _ => .nil
  | _, _, .cons h t, f => .cons (f _ _ h) (Paired.imp t f)
theorem Paired.snoc {α β : Type} {R : α → β → Prop} : ∀ {l : List α} {m : List β} {a : α} {b : β}, Paired R l m → R a b → Paired R (l ++ [a]) (m ++ [b])
  | _, _, _, _, .nil, h => .cons h .nil
  | _, _, _, _, .cons h t, h' => .cons h (Paired.snoc t h')
theorem Paired.at {α β : Type} {R : α → β → Prop} : ∀ {l : List α} {m : List β} {i : Nat} {b : β}, Paired R l m → m[i]? = some b → ∃ a, l[i]? = some a ∧ R a b
  | _, _, _, _, .nil, e => by simp at e
  | _, _, 0, _, .cons h _, e => by simp at e; subst e; exact ⟨_, rfl, h⟩
  | _, _, i + 1, _, .cons _ t, e => by
    obtain ⟨a, e1, e2⟩ := Paired.at (i := i) t (by simpa using e)
    exact ⟨a, by simpa using e1, e2⟩
/-! ### are_outcomes, of a row of pairs of texts -/
abbrev PairAt (K : PySem.W.Frag) (H : Hp) (o : PySem.Str × PySem.Str) (b : Addr) : Prop := SqR K H b [.str o.1, .str o.2]
abbrev okOut (o : PySem.Str × PySem.Str) : Bool := isWord (.str o.1) && isName (.str o.2)
def outsB (os : List (PySem.Str × PySem.Str)) : Bool := decide (os.length ≤ 8) && (os.all okOut && decide os.Nodup)
def sp_are_outcomes (K : PySem.W.Frag) : Sp := fun vs H Q _ => ∃ (p : Addr) (bs : List Addr) (os : List (PySem.Str × PySem.Str)), vs = [.ref p] ∧ SqR K H p (bs.map V.ref) ∧ Paired (PairAt K H) os bs ∧ bs.length ≤ 4000 ∧ (∀ o ∈ os, o.1.length ≤ sizeLine ∧ o.2.length ≤ sizeLine) ∧
  ∀ H', Same H H' → Q (.bl (outsB os)) H'
/-- a test of each item of a row -/
theorem lc_tests {J : It} {xs : List V} {G : Hp → Prop} {n : Nat} (wk : Walk J n G (YAt xs)) {j : Nat} {te : TE} {σ : L2.St} {H1 : Hp} {D : Addr} {Qd : Hp → Prop} (f : Nat → Bool) (hD : H1 D = none) (hG : ∀ H, Same H1 H → G H) (hn : n ≤ sizeLine)
    (turn : ∀ (i : Nat) x H, i < n → xs[i]? = some x → Same H1 H → ∀ Kt : V → Hp → Prop, (∀ H4, Same H H4 → Kt (.bl (f i)) H4) → te ((wipe σ [j]).set j (some x)) H Kt)
    (hd : ∀ H, Same H1 H → H D = some (.lst (((List.range n).map f).map V.bl)) → Qd H) : LcW J (gName j) tYes te [j] σ D (upd H1 D (.lst [])) Qd := by
  refine lc_map wk hD (fun i => .bl (f i)) hn hG (fun i x H H' hi s1 y => ?_) (hd := fun H s1 h => hd H s1 (by rw [h, List.map_map] <;> rfl))
  obtain ⟨rfl, hx⟩ := y
  exact ⟨Same.refl _, fun Kt hK => ⟨by simp [wipe, List.set_set], turn i x H' hi hx s1 Kt hK⟩⟩
/-- [tuple(x) for x in row], of pairs of texts -/
theorem lc_tuples {J : It} {bs : List Addr} {os : List (PySem.Str × PySem.Str)} {G : Hp → Prop} (wk : Walk J bs.length G (YAt (bs.map V.ref))) {j : Nat} {σ : L2.St} {H1 : Hp} {D : Addr} {Qd : Hp → Prop} (hD : H1 D = none) (hG : ∀ H, Same H1 H → G H) (hn : bs.length ≤ 4000)
    (hk : Paired (PairAt K H1) os bs) (hj : j < σ.length) (hd : ∀ H cs, Same H1 H → H D = some (.lst (cs.map V.ref)) → Paired (fun k b => RowAt K H b k) (os.map fun o => [o.1, o.2]) cs → Qd H) :
    LcW J (gName j) tYes (tCB (rTupOf K) (tCons (tVar j) tNil)) [j] σ D (upd H1 D (.lst [])) Qd := by
  have hlen : os.length = bs.length := Paired.length hk
  refine lc_it wk (fun i H => Same H1 H ∧ ∃ cs : List Addr, H D = some (.lst (cs.map V.ref)) ∧ cs.length = i ∧ Paired (fun k b => RowAt K H b k) ((os.take i).map fun o => [o.1, o.2]) cs)
    ⟨Same.new hD, [], upd_same, rfl, by rw [List.take_zero]; exact .nil⟩ (fun i H _ p => hG H p.1) (fun i x H H' hi p y => ?_) (fun H p => ?_)
  · obtain ⟨rfl, hx⟩ := y
    obtain ⟨b, hb⟩ : ∃ b, bs[i]? = some b := ⟨_, List.getElem?_eq_getElem hi⟩
    rw [List.getElem?_map, hb] at hx
    cases Option.some.inj hx
    obtain ⟨s1, cs, hc, hl, hp⟩ := p
    obtain ⟨o, eo, ho⟩ := Paired.at hk hb
    refine ⟨by simp [wipe, List.set_set], ?_⟩
    have next : ∀ c H2, Same H' H2 → RowAt K H2 c [o.1, o.2] → ∃ acc, H2 D = some (.lst acc) ∧ acc.length < sizeLine ∧ (Same H1 (upd H2 D (.lst (acc ++ [.ref c]))) ∧ ∃ cs : List Addr, (upd H2 D (.lst (acc ++ [.ref c]))) D = some (.lst (cs.map V.ref)) ∧ cs.length = i + 1 ∧
        Paired (fun k b => RowAt K (upd H2 D (.lst (acc ++ [.ref c]))) b k) ((os.take (i + 1)).map fun o => [o.1, o.2]) cs) := by
      intro c H2 s2 hr
      have hD2 := s2 _ _ hc
      refine ⟨_, hD2, by rw [List.length_map, sizeLine_eq]; omega, fun a u e => by rw [upd_ne (ne_of_none e hD)]; exact s2 _ _ (s1 _ _ e), cs ++ [c], by rw [upd_same, List.map_append] <;> rfl, by simp [hl], ?_⟩
      rw [take_next eo, List.map_append]
      exact Paired.snoc (Paired.imp hp fun k b h => tq_upd hD2 (Same.tq s2 h)) (tq_upd hD2 hr)
    refine ⟨.ref b, List.getElem?_set_self (by rw [wipe_length]; exact hj), b, [.str o.1, .str o.2], rfl, ?_⟩
    rcases ho with ho | ho
    · exact .inl ⟨Same.seq s1 ho, fun l hl => next l _ (Same.new hl) (SqT.of upd_same)⟩
    · exact .inr ⟨Same.tq s1 ho, next b H' (Same.refl _) (Same.tq s1 ho)⟩
  · obtain ⟨s1, cs, hc, hl, hp⟩ := p
    rw [← hlen, List.take_length] at hp
    exact hd H cs s1 hc hp
theorem row_nodup (os : List (PySem.Str × PySem.Str)) : (os.map fun o => [o.1, o.2]).Nodup ↔ os.Nodup := by
  unfold List.Nodup
  rw [List.pairwise_map]
  refine ⟨fun h => h.imp fun hne e => hne (by rw [e]), fun h => h.imp fun hne e => hne ?_⟩
  obtain ⟨e1, e2⟩ := List.cons.inj e
  exact Prod.ext e1 (List.cons.inj e2).1
theorem ok_are_outcomes (T : Txt K mg) : Cal P w K mg base 5 "are_outcomes" ["thing"] (sp_are_outcomes K) := by
  have c_is_name : Cal P w K mg base 3 "is_name" ["thing"] (spAny K isName) := by
    obtain ⟨f, fd, F, r⟩ := (ok_is_name (P := P) (w := w) (base := base) T).ex
    exact ⟨f, fd, F.mono (by decide), r⟩
  have c_is_word : Cal P w K mg base 3 "is_word" ["thing"] (spAny K isWord) := ok_is_word (P := P) (w := w) (base := base) T
  have c_is_row := ok_is_row (P := P) (w := w) (base := base) T
  have c_is_pair := ok_is_pair (k := 0) T c_is_word c_is_name T.g_is_word T.g_is_name
  have c_are_unlike := ok_are_unlike (P := P) (w := w) (base := base) T
  obtain ⟨fd, F⟩ := T.d_are_outcomes
  obtain ⟨tk, h_MOST_OUTCOMES⟩ := T.c_MOST_OUTCOMES
  refine cal_of F T.g_are_outcomes (F.bindsN fun _ _ _ _ _ _ us hl => match us, hl with | [_], _ => rfl) ?_
  refine F.ok sc_are_outcomes (fun vs H Q E h => ?_) (fun cdv A outer s H vs Q E hr h => ?_)
  · obtain ⟨p, bs, os, rfl, _⟩ := h
    rfl
  · obtain ⟨p, bs, os, rfl, hp, hk, hz, hs, q⟩ := h
    obtain ⟨n', sr', hn'⟩ := hp.srt
    have hlen : os.length = bs.length := Paired.length hk
    -- both readings are the same but for how the row is walked
    have last : ∀ H1, Same H H1 → os.length ≤ 8 → outsB os = decide os.Nodup → ∀ {J : It} {G : Hp → Prop}, Walk J bs.length G (YAt (bs.map V.ref)) → (∀ H2, Same H H2 → G H2) → ∀ D, H1 D = none →
        LcW J (gName 1) tYes (tCB (rTupOf K) (tCons (tVar 1) tNil)) [1] [some (.ref p), none] D (upd H1 D (.lst [])) (fun H2 => sp_are_unlike K [.ref D] H2 Q (at_ (fun _ _ _ _ => False) [some (.ref p), none])) := by
      intro H1 s1 h8 eo J G wk hG D hD
      refine lc_tuples wk hD (fun H2 s2 => hG H2 (s1.trans s2)) hz (Paired.imp hk fun o b h => SqR.same s1 h) (by simp) fun H2 cs s2 h2 h3 => ?_
      have hcl : cs.length = bs.length := by rw [← Paired.length h3, List.length_map]; exact hlen
      refine ⟨D, rfl, .inr ⟨cs, _, SqL.of h2, by omega, h3, fun H3 s3 => ?_⟩⟩
      have := q H3 ((s1.trans s2).trans s3)
      rw [eo] at this
      rw [show decide ((os.map fun o => [o.1, o.2]).Nodup) = decide os.Nodup from by simp only [row_nodup]]
      exact this
    have first : ∀ H1, Same H H1 → os.length ≤ 8 → ∀ {J : It} {G : Hp → Prop}, Walk J bs.length G (YAt (bs.map V.ref)) → (∀ H2, Same H H2 → G H2) → ∀ D, H1 D = none → ∀ Qd : Hp → Prop, (∀ H2, Same H1 H2 → H2 D = some (.lst (((List.range bs.length).map fun i => okOut (os.getD i default)).map V.bl)) → Qd H2) →
        LcW J (gName 1) tYes (tCalW (sp_is_pair K (He.ga K "is_word") (He.ga K "is_name") isWord isName) (fun _ _ _ _ => False) (tCons (tVar 1) (tCons (tC (.ref (He.ga K "is_word"))) (tCons (tC (.ref (He.ga K "is_name"))) tNil)))) [1] [some (.ref p), none] D (upd H1 D (.lst [])) Qd := by
      intro H1 s1 h8 J G wk hG D hD Qd hd
      refine lc_tests wk (fun i => okOut (os.getD i default)) hD (fun H2 s2 => hG H2 (s1.trans s2)) (by rw [sizeLine_eq]; omega) (fun i x H2 hi hx s2 Kt hK => ?_) hd
      obtain ⟨b, hb⟩ : ∃ b, bs[i]? = some b := ⟨_, List.getElem?_eq_getElem hi⟩
      rw [List.getElem?_map, hb] at hx
      cases Option.some.inj hx
      obtain ⟨o, eo, ho⟩ := Paired.at hk hb
      rw [getD_of eo] at hK
      have ho' : PairAt K H2 o b := SqR.same (s1.trans s2) ho
      obtain ⟨m, sm, hm⟩ := ho'.srt
      refine ⟨.ref b, rfl, .ref b, m, rfl, sm, .inr ⟨b, _, rfl, ho', fun _ x hx => ?_, hK⟩⟩
      obtain ⟨l1, l2⟩ := hs o (List.mem_of_getElem? eo)
      rcases List.mem_cons.mp hx with rfl | hx
      · exact ⟨⟨_, srt_str _⟩, fun z e => by cases e; exact l1⟩
      · rcases List.mem_cons.mp hx with rfl | hx
        · exact ⟨⟨_, srt_str _⟩, fun z e => by cases e; exact l2⟩
        · cases hx
    have allOut : ((List.range bs.length).map fun i => okOut (os.getD i default)).all id = os.all okOut := by
      rw [List.all_map]
      exact (all_range os hlen.symm okOut default).symm
    rcases hp with hp | hp
    · refine ⟨_, PSs.nox (pss_cons (ps_if (PW.pt (pw_or (pt_not (pt_val (pe_cal c_is_row (hr.mono (by decide)) takes0 (pa_cons (pv 0) pa_nil)))) (pw_or (pt_cmpR op_gt (pe_callB (r := rLenQ K) call_lenQ rfl T.b_len (by decide +kernel) (pa_cons (pv 0) pa_nil)) (pe_glob (v := .int 8) rfl h_MOST_OUTCOMES ⟨_, rfl⟩) (nomark _)) (pw_or1 (pt_not (pt_val (pe_callB (cr_all rfl) rfl T.b_all (by decide +kernel) (pa_cons (pe_lc (own := [("one", 1)]) (g := gName 1) (tt := tYes) rfl sc_are_outcomes.nd (pi_list (pv 0)) (blkOk_by (own := [("one", 1)]) (N := ["thing", "one"]) (sc := defScope s_are_outcomes) (by decide +kernel)) (fun _ _ _ _ _ => (pg_name (i := 1) sc_are_outcomes.nd rfl (Or.inl rfl))) (fun _ _ _ _ _ => pts_nil) (fun _ _ _ _ _ => (pe_cal c_is_pair (hr.mono (by decide)) takes0 (pa_cons (pv 1) (pa_cons (pe_glob (v := .ref (He.ga K "is_word")) rfl T.g_is_word rfl) (pa_cons (pe_glob (v := .ref (He.ga K "is_name")) rfl T.g_is_name rfl) pa_nil)))))) pa_nil)))))))) (pss_one (ps_ret pe_bl)) pss_nil)
      (pss_one (ps_ret (pe_cal c_are_unlike (hr.mono (by decide)) takes0 (pa_cons (pe_lc (own := [("one", 1)]) (g := gName 1) (tt := tYes) rfl sc_are_outcomes.nd (pi_list (pv 0)) (blkOk_by (own := [("one", 1)]) (N := ["thing", "one"]) (sc := defScope s_are_outcomes) (by decide +kernel)) (fun _ _ _ _ _ => (pg_name (i := 1) sc_are_outcomes.nd rfl (Or.inl rfl))) (fun _ _ _ _ _ => pts_nil) (fun _ _ _ _ _ => (pe_callTy (r := rTupOf K) call_tupOf rfl T.b_tuple (by decide +kernel) (pa_cons (pv 1) pa_nil)))) pa_nil))))), ?_⟩
      walk_at "rd"
      refine ⟨_, n', rfl, sr', fun H1 s1 => ⟨_, rfl, ?_⟩⟩
      simp only [hn', Bool.not_true, Bool.false_eq_true, if_false]
      refine ⟨p, _, rfl, .inl (Same.seq s1 hp), _, rfl, ?_⟩
      rw [List.length_map]
      by_cases h8 : os.length ≤ 8
      · rw [if_neg (by simp; omega)]
        refine ⟨_, rfl, p, rfl, ⟨_, Same.seq s1 hp⟩, fun D hD => first H1 s1 h8 walk_lm (fun H2 s2 => Same.seq s2 hp) D hD _ fun H2 s2 h2 => ?_⟩
        refine ⟨D, _, rfl, SqL.of h2, _, rfl, ?_⟩
        rw [allOut]
        cases e : os.all okOut with
        | false =>
          simp only [Bool.not_false, if_true]
          have := q H2 (s1.trans s2)
          rw [outsB, e, Bool.false_and, Bool.and_false] at this
          exact this
        | true =>
          simp only [Bool.not_true, Bool.false_eq_true, if_false]
          exact ⟨_, rfl, p, rfl, ⟨_, Same.seq (s1.trans s2) hp⟩, fun D2 hD2 => last H2 (s1.trans s2) h8 (by rw [outsB, e, decide_eq_true h8, Bool.true_and, Bool.true_and]) walk_lm (fun H3 s3 => Same.seq s3 hp) D2 hD2⟩
      · rw [if_pos (by simp; omega), if_pos trivial]
        have := q H1 s1
        rw [outsB, decide_eq_false h8, Bool.false_and] at this
        exact this
    · refine ⟨_, PSs.nox (pss_cons (ps_if (PW.pt (pw_or (pt_not (pt_val (pe_cal c_is_row (hr.mono (by decide)) takes0 (pa_cons (pv 0) pa_nil)))) (pw_or (pt_cmpR op_gt (pe_callB (r := rLenQ K) call_lenQ rfl T.b_len (by decide +kernel) (pa_cons (pv 0) pa_nil)) (pe_glob (v := .int 8) rfl h_MOST_OUTCOMES ⟨_, rfl⟩) (nomark _)) (pw_or1 (pt_not (pt_val (pe_callB (cr_all rfl) rfl T.b_all (by decide +kernel) (pa_cons (pe_lc (own := [("one", 1)]) (g := gName 1) (tt := tYes) rfl sc_are_outcomes.nd (pi_tup (pv 0)) (blkOk_by (own := [("one", 1)]) (N := ["thing", "one"]) (sc := defScope s_are_outcomes) (by decide +kernel)) (fun _ _ _ _ _ => (pg_name (i := 1) sc_are_outcomes.nd rfl (Or.inl rfl))) (fun _ _ _ _ _ => pts_nil) (fun _ _ _ _ _ => (pe_cal c_is_pair (hr.mono (by decide)) takes0 (pa_cons (pv 1) (pa_cons (pe_glob (v := .ref (He.ga K "is_word")) rfl T.g_is_word rfl) (pa_cons (pe_glob (v := .ref (He.ga K "is_name")) rfl T.g_is_name rfl) pa_nil)))))) pa_nil)))))))) (pss_one (ps_ret pe_bl)) pss_nil)
      (pss_one (ps_ret (pe_cal c_are_unlike (hr.mono (by decide)) takes0 (pa_cons (pe_lc (own := [("one", 1)]) (g := gName 1) (tt := tYes) rfl sc_are_outcomes.nd (pi_tup (pv 0)) (blkOk_by (own := [("one", 1)]) (N := ["thing", "one"]) (sc := defScope s_are_outcomes) (by decide +kernel)) (fun _ _ _ _ _ => (pg_name (i := 1) sc_are_outcomes.nd rfl (Or.inl rfl))) (fun _ _ _ _ _ => pts_nil) (fun _ _ _ _ _ => (pe_callTy (r := rTupOf K) call_tupOf rfl T.b_tuple (by decide +kernel) (pa_cons (pv 1) pa_nil)))) pa_nil))))), ?_⟩
      walk_at "rd"
      refine ⟨_, n', rfl, sr', fun H1 s1 => ⟨_, rfl, ?_⟩⟩
      simp only [hn', Bool.not_true, Bool.false_eq_true, if_false]
      refine ⟨p, _, rfl, .inr (Same.tq s1 hp), _, rfl, ?_⟩
      rw [List.length_map]
      by_cases h8 : os.length ≤ 8
      · rw [if_neg (by simp; omega)]
        refine ⟨_, rfl, p, rfl, ⟨_, Same.tq s1 hp⟩, fun D hD => first H1 s1 h8 walk_tm (fun H2 s2 => Same.tq s2 hp) D hD _ fun H2 s2 h2 => ?_⟩
        refine ⟨D, _, rfl, SqL.of h2, _, rfl, ?_⟩
        rw [allOut]
        cases e : os.all okOut with
        | false =>
          simp only [Bool.not_false, if_true]
          have := q H2 (s1.trans s2)
          rw [outsB, e, Bool.false_and, Bool.and_false] at this
          exact this
        | true =>
          simp only [Bool.not_true, Bool.false_eq_true, if_false]
          exact ⟨_, rfl, p, rfl, ⟨_, Same.tq (s1.trans s2) hp⟩, fun D2 hD2 => last H2 (s1.trans s2) h8 (by rw [outsB, e, decide_eq_true h8, Bool.true_and, Bool.true_and]) walk_tm (fun H3 s3 => Same.tq s3 hp) D2 hD2⟩
      · rw [if_pos (by simp; omega), if_pos trivial]
        have := q H1 s1
        rw [outsB, decide_eq_false h8, Bool.false_and] at this
        exact this
end
end Rs
set_option Elab.async false
set_option linter.all false
set_option maxRecDepth 100000
set_option maxHeartbeats 2000000
namespace Rs
open PySem PySem.Spec PyProof.Rows L2
local macro_rules | `(tactic| walk_at "rd") => `(tactic| simp only [L2.tRet, L2.tRetN, L2.tSeq, L2.tNext, L2.tIfS, L2.tAsg, L2.gName, L2.gNil, L2.gCons, L2.tVar, L2.tC, L2.tOp, L2.tUn, L2.tCB, L2.tCons, L2.tNil, L2.tAndV, L2.tOrV, L2.tNotV, L2.tAnd, L2.tOr, L2.tNot, L2.tB, L2.tTest, L2.tIf, L2.tChain, L2.tTup, L2.tLst, L2.tDrop, L2.start, L2.cxOf, L2.Cx.nox, L2.Cx.wish, L2.rI0, L2.rI, L2.tYes, Rs.tCalW, List.getElem?_cons_zero, List.getElem?_cons_succ, Option.some.injEq, exists_eq_left', exists_eq_left, exists_and_left, List.cons.injEq, and_true, true_and, L2.V.bl.injEq, L2.V.int.injEq, L2.V.str.injEq, L2.V.ref.injEq, List.set_cons_zero, List.set_cons_succ, List.map_cons, List.map_nil, List.length_cons, List.length_nil, List.replicate, List.cons_append, List.nil_append, List.append_nil, Nat.reduceSub, Nat.reduceAdd])

section
variable {P : Program} {w : World} {K : PySem.W.Frag} {mg : PySem.Str → Option Value} {base : Heap}
/-! ### moves -/
abbrev Outs := List (PySem.Str × PySem.Str)
abbrev Mv := (PySem.Str × PySem.Str) × Outs
def MvAt (K : PySem.W.Frag) (H : Hp) (m : Mv) (kv : List Key × V) : Prop := kv.1 = [Sum.inr m.1.1, Sum.inr m.1.2] ∧ ∃ p bs, kv.2 = .ref p ∧ SqR K H p (bs.map V.ref) ∧ Paired (PairAt K H) m.2 bs
def MovesAt (K : PySem.W.Frag) (H : Hp) (d : Addr) (mv : List Mv) : Prop := ∃ kvs, H d = some (.dT kvs) ∧ Paired (MvAt K H) mv kvs ∧ (mv.map (·.1)).Nodup
structure MovesOk (mv : List Mv) : Prop where
  keys : ∀ m ∈ mv, isName (.str m.1.1) = true ∧ isName (.str m.1.2) = true
  outs : ∀ m ∈ mv, outsB m.2 = true
  few : cnt (mv.map (·.1.2)) ≤ 8
  size : mv.length ≤ 4000
theorem name_len {x : PySem.Str} (h : isName (.str x) = true) : x.length ≤ sizeLine := by
  have : x.length ≤ 8 := by
    simp only [isTx, Bool.and_eq_true, decide_eq_true_eq] at h
    exact h.2.1
  rw [sizeLine_eq]; omega
theorem tx_len {x s : PySem.Str} (h : isTx s (.str x) = true) : x.length ≤ 8 := by
  simp only [isTx, Bool.and_eq_true, decide_eq_true_eq] at h
  exact h.2.1
theorem word_len {x : PySem.Str} (h : isWord (.str x) = true) : x.length ≤ sizeLine := by
  unfold isWord at h
  rw [Bool.or_eq_true, Bool.or_eq_true] at h
  rw [sizeLine_eq]
  rcases h with h | h | h
  · have := tx_len h; omega
  · have e : x = "yes" := V.str.inj (of_decide_eq_true h)
    subst e; decide
  · have e : x = "no" := V.str.inj (of_decide_eq_true h)
    subst e; decide
theorem outs_len {os : Outs} (h : outsB os = true) : os.length ≤ 8 ∧ ∀ o ∈ os, o.1.length ≤ sizeLine ∧ o.2.length ≤ sizeLine := by
  simp only [outsB, Bool.and_eq_true, decide_eq_true_eq, List.all_eq_true] at h
  exact ⟨h.1, fun o ho => ⟨word_len (h.2.1 o ho).1, name_len (h.2.1 o ho).2⟩⟩
theorem MvAt.same {H H' : Hp} {m : Mv} {kv : List Key × V} (e : Same H H') (h : MvAt K H m kv) : MvAt K H' m kv := by
  obtain ⟨h1, p, bs, h2, h3, h4⟩ := h
  exact ⟨h1, p, bs, h2, SqR.same e h3, Paired.imp h4 fun o b z => SqR.same e z⟩
/-- what is not d stands also while d is locked -/
theorem sqR_lock {H : Hp} {d p : Addr} {u : HO} {od : Obj} {xs : List V} (hd : H d = some u) (hu : ∀ xs, u ≠ .lst xs ∧ u ≠ .tup xs) (hf : ∀ o v, u ≠ .frz o v) (h : SqR K H p xs) : SqR K (upd H d (.frz od u)) p xs := by
  have ne : ∀ o, H p = some o → (o ≠ u) → p ≠ d := fun o ho hne z => by subst z; rw [hd] at ho; exact hne (Option.some.inj ho).symm
  rcases h with ((h | ⟨o, h⟩) | h) | ((h | ⟨o, h⟩) | h)
  · exact .inl (.inl (.inl (by rw [upd_ne (ne _ h (fun z => (hu _).1 z.symm))]; exact h)))
  · exact .inl (.inl (.inr ⟨o, by rw [upd_ne (ne _ h (fun z => hf _ _ z.symm))]; exact h⟩))
  · exact .inl (.inr h)
  · exact .inr (.inl (.inl (by rw [upd_ne (ne _ h (fun z => (hu _).2 z.symm))]; exact h)))
  · exact .inr (.inl (.inr ⟨o, by rw [upd_ne (ne _ h (fun z => hf _ _ z.symm))]; exact h⟩))
  · exact .inr (.inr h)
theorem mvAt_lock {H : Hp} {d : Addr} {kvs : List (List Key × V)} {od : Obj} {m : Mv} {kv : List Key × V} (hd : H d = some (.dT kvs)) (h : MvAt K H m kv) : MvAt K (upd H d (.frz od (.dT kvs))) m kv := by
  obtain ⟨h1, p, bs, h2, h3, h4⟩ := h
  have hu : ∀ xs, HO.dT kvs ≠ .lst xs ∧ HO.dT kvs ≠ .tup xs := fun xs => ⟨(fun z => by cases z), (fun z => by cases z)⟩
  have hf : ∀ (o : Obj) (v : HO), HO.dT kvs ≠ .frz o v := fun o v z => by cases z
  exact ⟨h1, p, bs, h2, sqR_lock hd hu hf h3, Paired.imp h4 fun o b z => sqR_lock hd hu hf z⟩
def sp_are_moves (K : PySem.W.Frag) : Sp := fun vs H Q _ => ∃ (d : Addr) (mv : List Mv), vs = [.ref d] ∧ MovesAt K H d mv ∧ MovesOk mv ∧ ∀ H', Same H H' → Q (.bl true) H'
theorem valV_at {kvs : List (List Key × V)} {mv : List Mv} {kv : List Key × V} {H : Hp} (hp : Paired (MvAt K H) mv kvs) (nd : (mv.map (·.1)).Nodup) (h : kv ∈ kvs) : valV kvs kv.1 = some kv.2 := by
  unfold valV
  induction hp with
  | nil => cases h
  | @cons m k0 mv kvs h1 ht ih =>
    obtain ⟨n1, n2⟩ := List.nodup_cons.mp nd
    by_cases e : k0.1 = kv.1
    · rw [List.find?_cons_of_pos (by simpa using e)]
      rcases List.mem_cons.mp h with rfl | h
      · rfl
      · exfalso
        obtain ⟨i, hi⟩ := List.getElem?_of_mem h
        obtain ⟨m', em, hm⟩ := Paired.at ht hi
        refine n1 (List.mem_map.mpr ⟨m', List.mem_of_getElem? em, ?_⟩)
        rw [h1.1, hm.1] at e
        obtain ⟨e1, e2⟩ := List.cons.inj e
        obtain ⟨e2, _⟩ := List.cons.inj e2
        exact (Prod.ext (Sum.inr.inj e1) (Sum.inr.inj e2)).symm
    · rw [List.find?_cons_of_neg (by simpa using e)]
      rcases List.mem_cons.mp h with rfl | h
      · exact absurd rfl e
      · exact ih n2 h
theorem same_loc {H H' : Hp} {d : Addr} {u : HO} {od : Obj} (h : Same (upd H d (.frz od u)) H') : H' d = some (.frz od u) := h _ _ upd_same
/-- the methods of a dict's keys, as a set -/
theorem sc_meths {d : Addr} {od : Obj} {kvs : List (List Key × V)} {mv : List Mv} {H0 : Hp} (hp : Paired (MvAt K H0) mv kvs) {j : Nat} {σ : L2.St} {H1 : Hp} {D : Addr} {Qd : Hp → Prop} (hD : H1 D = none) (hG : H1 d = some (.frz od (.dT kvs))) (hj : j < σ.length) (hn : mv.length ≤ 4000)
    (hd : ∀ H S, Same H1 H → H D = some (SetK P w D S (cnt (mv.map (·.1.2)))) → Qd H) : ScW (Itkt d od kvs) (Zk P w) (rSAddK P w) (gName j) tYes (tOp (rIxT K) (tVar j) (tC (.int 1))) [j] σ D (upd H1 D (Zk P w D)) Qd := by
  have hlen : mv.length = kvs.length := Paired.length hp
  have hl2 : (mv.map (·.1.2)).length = kvs.length := by rw [List.length_map]; exact hlen
  refine sc_it walk_keysT (fun i H => Same H1 H ∧ H D = some (SetK P w D (inTx ((mv.map (·.1.2)).take i)) (cnt ((mv.map (·.1.2)).take i)))) ⟨Same.new hD, ?_⟩ (fun i H _ p => p.1 _ _ hG) (fun i x H H' hi p y => ?_) (fun H p => hd H _ p.1 (by have := p.2; rw [← hl2, List.take_length] at this; exact this))
  · rw [upd_same]
    have : (fun _ => false) = inTx ((mv.map (·.1.2)).take 0) := by funext k; cases k <;> simp [inTx]
    show some (SetK P w D _ _) = _
    rw [this]
    rfl
  · obtain ⟨rfl, k, v, b, hk, rfl, hb⟩ := y
    obtain ⟨m, em, h1, _⟩ := Paired.at hp hk
    have hz : (mv.map (·.1.2))[i]? = some m.1.2 := by rw [List.getElem?_map, em] <;> rfl
    rw [show k = [Sum.inr m.1.1, Sum.inr m.1.2] from h1] at hb
    refine ⟨by simp [wipe, List.set_set], ?_⟩
    refine ⟨.ref b, List.getElem?_set_self (by rw [wipe_length]; exact hj), b, [.str m.1.1, .str m.1.2], 1, .str m.1.2, rfl, rfl, SqT.of hb, rfl, D, Sum.inr m.1.2, _, _, rfl, rfl, p.2, ?_, ?_, ?_⟩
    · have := cnt_le ((mv.map (·.1.2)).take i)
      have := List.length_take_le i (mv.map (·.1.2))
      show _ < 4096
      omega
    · intro a o e
      rw [upd_ne (ne_of_none e hD)]
      exact p.1 _ _ e
    · rw [upd_same]
      congr 1
      have e1 : (fun j : Key => inTx ((mv.map (·.1.2)).take i) j || decide (j = (Sum.inr m.1.2 : Key))) = inTx ((mv.map (·.1.2)).take (i + 1)) := by
        funext k
        rw [take_next hz]
        cases k with
        | inl a => simp [inTx]
        | inr a => simp [inTx, List.mem_append, Bool.decide_or]
      have e2 : (if inTx ((mv.map (·.1.2)).take i) (Sum.inr m.1.2) = true then cnt ((mv.map (·.1.2)).take i) else cnt ((mv.map (·.1.2)).take i) + 1) = cnt ((mv.map (·.1.2)).take (i + 1)) := by
        rw [cnt_take hz]
        by_cases h : m.1.2 ∈ (mv.map (·.1.2)).take i
        · rw [if_pos (by simpa [inTx] using h), if_pos h, Nat.add_zero]
        · rw [if_neg (by simpa [inTx] using h), if_neg h]
      show SetK P w D _ _ = SetK P w D _ _
      rw [e1, e2]
theorem ok_are_moves (T : Txt K mg) : Cal P w K mg base 6 "are_moves" ["thing"] (sp_are_moves K) := by
  have c_is_key := ok_is_key (P := P) (w := w) (base := base) T
  have c_are_outcomes := ok_are_outcomes (P := P) (w := w) (base := base) T
  obtain ⟨fd, F⟩ := T.d_are_moves
  obtain ⟨tk, h_MOST_METHODS⟩ := T.c_MOST_METHODS
  refine cal_of F T.g_are_moves (F.bindsN fun _ _ _ _ _ _ us hl => match us, hl with | [_], _ => rfl) ?_
  refine F.ok sc_are_moves (fun vs H Q E h => ?_) (fun cdv A outer s H vs Q E hr h => ?_)
  · obtain ⟨p, mv, rfl, _⟩ := h
    rfl
  · have hu := hu_of hr
    refine ⟨_, PSs.nox (pss_cons (ps_if (pt_not (pt_val (pe_callB (r := rIsi K) call_isi rfl T.b_isinstance (by decide +kernel) (pa_cons (pv 0) (pa_cons (pe_bltn (v := .ty "dict") rfl T.b_dict (by decide +kernel) rfl) pa_nil))))) (pss_one (ps_ret pe_bl)) pss_nil)
      (pss_cons (ps_lock (ps_for PassesOwn.never rfl (pi_keys (pv 0)) (pg_name (i := 1) sc_are_moves.nd rfl (Or.inl rfl)) (pss_one (ps_if (PW.pt (pw_or (pt_not (pt_val (pe_cal c_is_key (hr.mono (by decide)) takes0 (pa_cons (pv 1) pa_nil)))) (pw_or1 (pt_not (pt_val (pe_cal c_are_outcomes (hr.mono (by decide)) takes0 (pa_cons (pe_dget hu (pv 0) (pv 1) (fun _ _ => rfl)) pa_nil))))))) (pss_one (ps_ret pe_bl)) pss_nil))))
      (pss_one (ps_ret (pe_cmpR op_le (pe_callB cr_lenSet rfl T.b_len (by decide +kernel) (pa_cons (pe_lock (pe_scg (own := [("at", 1)]) (g := gName 1) (tt := tYes) (Z := Zk P w) (ad := rSAddK P w) setK_lay (fun _ _ _ _ => mt_saddK) rfl sc_are_moves.nd (pi_keys (pv 0)) (blkOk_by (own := [("at", 1)]) (N := ["thing", "at"]) (sc := defScope s_are_moves) (by decide +kernel)) (fun _ _ _ _ _ => (pg_name (i := 1) sc_are_moves.nd rfl (Or.inl rfl))) (fun _ _ _ _ _ => pts_nil) (fun _ _ _ _ _ => (pe_ix (r := rIxT K) ix_tup (pv 1) pe_int (fun _ _ => rfl))))) pa_nil)) (pe_glob (v := .int 8) rfl h_MOST_METHODS ⟨_, rfl⟩) (nomark _)))))), ?_⟩
    obtain ⟨d, mv, rfl, ⟨kvs, hd, hp, nd⟩, ok, q⟩ := h
    walk_at "rd"
    refine isi_is (srt_dT hd) (by decide) ⟨_, rfl, ?_⟩
    rw [if_neg (by decide)]
    have hp' : ∀ od, Paired (MvAt K (upd H d (.frz od (.dT kvs)))) mv kvs := fun od => Paired.imp hp fun m kv h => mvAt_lock hd h
    refine ⟨d, _, hd, trivial, fun od => ?_⟩
    refine ⟨_, rfl, d, od, rfl, .inr ⟨kvs, same_loc (Same.refl _), ?_⟩⟩
    refine for_it walk_keysT (fun i σ H1 => (∃ v, σ = [some (.ref d), v]) ∧ Same (upd H d (.frz od (.dT kvs))) H1) ⟨⟨none, rfl⟩, Same.refl _⟩ (fun i σ H1 _ p => same_loc p.2) (fun i x σ H1 H2 hi p y => ?_) (fun σ H1 p => ?_)
    · obtain ⟨⟨v0, rfl⟩, s1⟩ := p
      obtain ⟨rfl, k, v, b, hk, rfl, hb⟩ := y
      obtain ⟨m, em, h1, pp, bs, e2, h3, h4⟩ := Paired.at (hp' od) hk
      have hm := List.mem_of_getElem? em
      have e1 : k = [Sum.inr m.1.1, Sum.inr m.1.2] := h1
      have e2' : v = .ref pp := e2
      subst e1 e2'
      obtain ⟨k1, k2⟩ := ok.keys m hm
      have hb' : SqT K H2 b [.str m.1.1, .str m.1.2] := SqT.of hb
      walk_at "rd"
      refine ⟨.ref b, _, rfl, srt_tq hb', .inr ⟨b, _, rfl, hb', fun _ x hx => ?_, fun H3 s3 => ?_⟩⟩
      · rcases List.mem_cons.mp hx with rfl | hx
        · exact ⟨⟨_, srt_str _⟩, fun z e => by cases e; exact name_len k1⟩
        · rcases List.mem_cons.mp hx with rfl | hx
          · exact ⟨⟨_, srt_str _⟩, fun z e => by cases e; exact name_len k2⟩
          · cases hx
      · refine ⟨_, rfl, ?_⟩
        have ep : pairB isName isName [.str m.1.1, .str m.1.2] = true := by simp only [pairB, k1, k2, Bool.and_true]
        rw [if_neg (by rw [ep]; decide)]
        have s13 := s1.trans s3
        refine ⟨.ref d, rfl, .ref b, rfl, d, .ref pp, rfl, .inr ⟨kvs, _, b, .inr ⟨od, same_loc s13⟩, rfl, s3 _ _ hb, ?_⟩, ?_⟩
        · exact (valV_at hp nd (List.mem_of_getElem? hk)).symm
        · obtain ⟨l8, ll⟩ := outs_len (ok.outs m hm)
          refine ⟨pp, bs, m.2, rfl, SqR.same s13 h3, Paired.imp h4 (fun o b z => SqR.same s13 z), ?_, ll, fun H4 s4 => ⟨_, rfl, ?_⟩⟩
          · have := Paired.length h4
            omega
          · rw [if_neg (by rw [ok.outs m hm]; decide)]
            exact ⟨⟨_, rfl⟩, s13.trans s4⟩
    · obtain ⟨⟨v0, rfl⟩, s1⟩ := p
      refine ⟨same_loc s1, ?_⟩
      have s2 := lock_same hd s1
      generalize upd H1 d (.dT kvs) = H2 at s2
      have hd2 := s2 _ _ hd
      walk_at "rd"
      refine ⟨d, _, hd2, trivial, fun od2 => ⟨_, rfl, d, od2, rfl, .inr ⟨kvs, upd_same, fun D hD => sc_meths hp hD upd_same (by simp) ok.size fun H3 S s3 h3 => ?_⟩⟩⟩
      refine ⟨same_loc s3, ?_⟩
      have s4 := lock_same hd2 s3
      have hDd : D ≠ d := by
        rintro rfl
        rw [upd_same] at hD
        cases hD
      refine ⟨D, _, rfl, .inr ⟨S, by rw [upd_ne hDd]; exact h3⟩, _, rfl, ?_⟩
      have e8 : decide ((cnt (mv.map (·.1.2)) : Int) ≤ 8) = true := decide_eq_true (by have := ok.few; omega)
      rw [e8]
      exact q _ (s2.trans s4)
end
end Rs
set_option Elab.async false
set_option linter.all false
set_option maxRecDepth 100000
set_option maxHeartbeats 2000000
namespace Rs
open PySem PySem.Spec PyProof.Rows L2
local macro_rules | `(tactic| walk_at "rd") => `(tactic| simp only [L2.tRet, L2.tRetN, L2.tSeq, L2.tNext, L2.tIfS, L2.tAsg, L2.gName, L2.gNil, L2.gCons, L2.tVar, L2.tC, L2.tOp, L2.tUn, L2.tCB, L2.tCons, L2.tNil, L2.tAndV, L2.tOrV, L2.tNotV, L2.tAnd, L2.tOr, L2.tNot, L2.tB, L2.tTest, L2.tIf, L2.tChain, L2.tTup, L2.tLst, L2.tDrop, L2.tFld, L2.start, L2.cxOf, L2.Cx.nox, L2.Cx.wish, L2.rI0, L2.rI, L2.tYes, Rs.tCalW, List.getElem?_cons_zero, List.getElem?_cons_succ, Option.some.injEq, exists_eq_left', exists_eq_left, exists_and_left, List.cons.injEq, and_true, true_and, L2.V.bl.injEq, L2.V.int.injEq, L2.V.str.injEq, L2.V.ref.injEq, List.set_cons_zero, List.set_cons_succ, List.map_cons, List.map_nil, List.length_cons, List.length_nil, List.replicate, List.cons_append, List.nil_append, List.append_nil, Nat.reduceSub, Nat.reduceAdd])

section
variable {P : Program} {w : World} {K : PySem.W.Frag} {mg : PySem.Str → Option Value} {base : Heap}
/-! ### a kind, as it stands -/
structure KD where
  name : PySem.Str
  start : PySem.Str
  ends : List PySem.Str
  tab : List Mv
abbrev kC (K : PySem.W.Frag) : Addr := He.ga K "Kind"
abbrev kflds (name start : PySem.Str) (e tb : Addr) : List (PySem.Str × V) := [("called", .str name), ("begin", .str start), ("last", .ref e), ("table", .ref tb)]
/-- the outcomes of a move, in a tuple of tuples -/
def OutsAt (K : PySem.W.Frag) (H : Hp) (t : Addr) (os : Outs) : Prop := ∃ cs : List Addr, SqT K H t (cs.map V.ref) ∧ Paired (fun (o : PySem.Str × PySem.Str) b => RowAt K H b [o.1, o.2]) os cs
def TabE (K : PySem.W.Frag) (H : Hp) (m : Mv) (kv : List Key × V) : Prop := kv.1 = [Sum.inr m.1.1, Sum.inr m.1.2] ∧ ∃ t, kv.2 = .ref t ∧ OutsAt K H t m.2
def TabAt (K : PySem.W.Frag) (H : Hp) (tb : Addr) (tab : List Mv) : Prop := ∃ kvs, H tb = some (.dT kvs) ∧ Paired (TabE K H) tab kvs ∧ (tab.map (·.1)).Nodup ∧ tab.length ≤ 4000
def KindAt (K : PySem.W.Frag) (H : Hp) (p : Addr) (kd : KD) : Prop := ∃ dx e tb, H p = some (.ins (kC K) dx (kflds kd.name kd.start e tb)) ∧ SqT K H e (kd.ends.map V.str) ∧ TabAt K H tb kd.tab
theorem OutsAt.same {H H' : Hp} {t : Addr} {os : Outs} (e : Same H H') (h : OutsAt K H t os) : OutsAt K H' t os := let ⟨cs, h1, h2⟩ := h; ⟨cs, Same.tq e h1, Paired.imp h2 fun _ _ z => Same.tq e z⟩
theorem TabE.same {H H' : Hp} {m : Mv} {kv : List Key × V} (e : Same H H') (h : TabE K H m kv) : TabE K H' m kv := let ⟨h1, t, h2, h3⟩ := h; ⟨h1, t, h2, h3.same e⟩
theorem TabAt.same {H H' : Hp} {tb : Addr} {tab : List Mv} (e : Same H H') (h : TabAt K H tb tab) : TabAt K H' tb tab := let ⟨kvs, h1, h2, h3, h4⟩ := h; ⟨kvs, e _ _ h1, Paired.imp h2 fun _ _ z => z.same e, h3, h4⟩
theorem KindAt.same {H H' : Hp} {p : Addr} {kd : KD} (e : Same H H') (h : KindAt K H p kd) : KindAt K H' p kd := let ⟨dx, a, tb, h1, h2, h3⟩ := h; ⟨dx, a, tb, e _ _ h1, Same.tq e h2, h3.same e⟩
/-- the states that are named, in the order in which they are met -/
def statesOf (kd : KD) : List PySem.Str := kd.start :: (kd.ends ++ (kd.tab.map (·.1.1) ++ kd.tab.flatMap fun m => m.2.map (·.2)))
/-- the dict at f has just the texts of l as its keys -/
def Found (H : Hp) (f : Addr) (l : List PySem.Str) : Prop := ∃ (ks : List PySem.Str) (kvs : List (Key × V)), H f = some (.dK kvs) ∧ kvs.map (·.1) = ks.map Sum.inr ∧ ks.Nodup ∧ (∀ x, x ∈ ks ↔ x ∈ l) ∧ ks.length ≤ l.length
theorem putK_keys {kvs : List (Key × V)} {ks : List PySem.Str} {x : PySem.Str} {v : V} (h : kvs.map (·.1) = ks.map Sum.inr) : (putK kvs (Sum.inr x) v).map (·.1) = (if x ∈ ks then ks else ks ++ [x]).map Sum.inr := by
  have hm : (kvs.any fun kv => decide (kv.1 = (Sum.inr x : Key))) = true ↔ x ∈ ks := by
    rw [List.any_eq_true]
    constructor
    · rintro ⟨kv, hkv, e⟩
      have e := of_decide_eq_true e
      have : kv.1 ∈ ks.map Sum.inr := h ▸ List.mem_map.mpr ⟨kv, hkv, rfl⟩
      obtain ⟨y, hy, e2⟩ := List.mem_map.mp this
      rw [e] at e2
      cases Sum.inr.inj e2
      exact hy
    · intro hx
      have : (Sum.inr x : Key) ∈ kvs.map (·.1) := h ▸ List.mem_map.mpr ⟨x, hx, rfl⟩
      obtain ⟨kv, hkv, e⟩ := List.mem_map.mp this
      exact ⟨kv, hkv, decide_eq_true e⟩
  unfold putK
  by_cases hx : x ∈ ks
  · rw [if_pos (hm.mpr hx), if_pos hx, List.map_map, ← h]
    refine List.map_congr_left fun kv _ => ?_
    show (if kv.1 = Sum.inr x then (kv.1, v) else kv).1 = kv.1
    split <;> rfl
  · rw [if_neg fun z => hx (hm.mp z), if_neg hx, List.map_append, List.map_append, h] <;> rfl
theorem found_put {H : Hp} {f : Addr} {l : List PySem.Str} {x : PySem.Str} {v : V} (h : Found H f l) (hz : l.length < sizeLine) : ∃ o, DPut H f (.str x) v (upd H f o) ∧ Found (upd H f o) f (l ++ [x]) := by
  obtain ⟨ks, kvs, h1, h2, h3, h4, h5⟩ := h
  have hl : kvs.length = ks.length := by
    have := congrArg List.length h2
    simpa using this
  refine ⟨_, DPut.k (k := Sum.inr x) h1 (by omega), if x ∈ ks then ks else ks ++ [x], _, upd_same, putK_keys h2, ?_, fun y => ?_, ?_⟩
  · by_cases hx : x ∈ ks
    · rw [if_pos hx]; exact h3
    · rw [if_neg hx]
      exact List.nodup_append.mpr ⟨h3, (by simp), fun a ha b hb e => by rw [List.mem_singleton.mp hb] at e; subst e; exact hx ha⟩
  · rw [List.mem_append, List.mem_singleton, ← h4]
    by_cases hx : x ∈ ks
    · rw [if_pos hx]
      exact ⟨.inl, fun z => z.elim id fun e => e ▸ hx⟩
    · rw [if_neg hx, List.mem_append, List.mem_singleton]
  · by_cases hx : x ∈ ks
    · rw [if_pos hx, List.length_append]; exact Nat.le_add_right_of_le h5
    · rw [if_neg hx, List.length_append, List.length_append]; exact Nat.add_le_add_right h5 _
theorem found_upd {H : Hp} {f a : Addr} {l : List PySem.Str} {o : HO} (h : Found H f l) (ne : f ≠ a) : Found (upd H a o) f l := by
  obtain ⟨ks, kvs, h1, r⟩ := h
  exact ⟨ks, kvs, by rw [upd_ne ne]; exact h1, r⟩
theorem same_upd {H0 H : Hp} {f : Addr} {o : HO} (s : Same H0 H) (h : H0 f = none) : Same H0 (upd H f o) := fun a u e => by
  rw [upd_ne (ne_of_none e h)]
  exact s a u e
def sp_states (K : PySem.W.Frag) : Sp := fun vs H Q _ => ∃ p kd, vs = [.ref p] ∧ KindAt K H p kd ∧ (statesOf kd).length ≤ 100000 ∧ ∀ H' l ys, Same H H' → H l = none → H' l = some (.lst (ys.map V.str)) → Up strLt ys → ys.Nodup → (∀ x, x ∈ ys ↔ x ∈ statesOf kd) → Q (.ref l) H'
theorem ok_states (T : Txt K mg) : CalM P w K mg base 1 (kC K) "states" ["self"] (sp_states K) := by
  obtain ⟨fd, F⟩ := T.d_Kind_states
  refine ⟨_, fd, ?_, T.me_Kind_states, F.bindsN fun _ _ _ _ _ _ us hl => match us, hl with | [_], _ => rfl⟩
  refine F.ok sc_Kind_states (fun vs H Q E h => ?_) (fun cdv A outer s H vs Q E hr h => ?_)
  · obtain ⟨p, kd, rfl, _⟩ := h
    rfl
  · have hu := hu_of hr
    refine ⟨_, PSs.nox (pss_cons (ps_set (i := 1) sc_Kind_states.nd rfl (Or.inl rfl) (pe_disp (pps_cons (pe_fld (pv 0) rfl) pe_bl pps_nil) (by rfl) (by rfl) (fun z => by cases z) (by decide)))
      (pss_cons (ps_for PassesOwn.never rfl (pi_tup (pe_fld (pv 0) rfl)) (pg_name (i := 2) sc_Kind_states.nd rfl (Or.inl rfl))
      (pss_one (ps_dput hu (pv 1) (pv 2) pe_bl rfl)))
      (pss_cons (ps_lock (ps_for PassesOwn.never rfl (pi_keys (pe_fld (pv 0) rfl)) (pg_tup rfl (pgs_cons (pg_name (i := 3) sc_Kind_states.nd rfl (Or.inl rfl)) (pgs_cons (pg_name (i := 4) sc_Kind_states.nd rfl (Or.inl rfl)) pgs_nil))) (pss_one (ps_dput hu (pv 1) (pv 3) pe_bl rfl))))
      (pss_cons (ps_lock (ps_for PassesOwn.never rfl (pi_valuesT (pe_fld (pv 0) rfl)) (pg_name (i := 5) sc_Kind_states.nd rfl (Or.inl rfl)) (pss_one (ps_for PassesOwn.never rfl (pi_tup (pv 5)) (pg_tup rfl (pgs_cons (pg_name (i := 6) sc_Kind_states.nd rfl (Or.inl rfl)) (pgs_cons (pg_name (i := 3) sc_Kind_states.nd rfl (Or.inl rfl)) pgs_nil))) (pss_one (ps_dput hu (pv 1) (pv 3) pe_bl rfl))))))
      (pss_one (ps_ret (pe_callB (cr_sortS rfl) rfl T.b_sorted (by decide +kernel) (pa_cons (pv 1) pa_nil)))))))), ?_⟩
    obtain ⟨p, kd, rfl, ⟨dx, ea, tb, ho, he, ht⟩, hz, q⟩ := h
    walk_at "rd"
    refine fun f hf => ⟨_, rfl, p, kC K, dx, _, _, rfl, by rw [upd_ne (ne_of_none ho hf)]; exact ho, T.cl_Kind, T.no_Kind_begin, rfl, ?_⟩
    refine ⟨upd_same, [(Sum.inr kd.start, .bl true)], rfl, (by show 1 ≤ 15; decide), ?_⟩
    have hz : (statesOf kd).length ≤ 100000 := hz
    have hlen : (statesOf kd).length = 1 + (kd.ends.length + (kd.tab.length + (kd.tab.flatMap fun m => m.2.map (·.2)).length)) := by simp [statesOf]; omega
    have hline : sizeLine = 16777216 := sizeLine_eq
    obtain ⟨kvs, htb, hpt, nd, _⟩ := id ht
    have fd0 : Found (upd (upd H f (.dK [])) f (.dK (mergeK [] [(Sum.inr kd.start, .bl true)]))) f [kd.start] := ⟨[kd.start], _, upd_same, rfl, by simp, fun x => Iff.rfl, Nat.le_refl _⟩
    have sm0 : Same H (upd (upd H f (.dK [])) f (.dK (mergeK [] [(Sum.inr kd.start, .bl true)]))) := same_upd (Same.new hf) hf
    generalize (upd (upd H f (.dK [])) f (.dK (mergeK [] [(Sum.inr kd.start, .bl true)]))) = H1 at fd0 sm0
    have ntf : f ≠ tb := fun z => by subst z; rw [htb] at hf; cases hf
    have ntp : p ≠ tb := ne_of ho htb (by intro z; cases z)
    -- the ends
    refine ⟨_, rfl, p, kC K, dx, _, _, rfl, sm0 _ _ ho, T.cl_Kind, T.no_Kind_last, rfl, ea, rfl, ⟨_, Same.tq sm0 he⟩, for_it walk_tm (fun i σ H2 => (∃ a b c d e, σ = [some (.ref p), some (.ref f), a, b, c, d, e]) ∧ Same H H2 ∧ Found H2 f (kd.start :: kd.ends.take i))
      ⟨⟨_, _, _, _, _, rfl⟩, sm0, by simpa using fd0⟩ (fun i σ H2 _ q => Same.tq q.2.1 he) (fun i x σ H2 H3 hi pv y => ?_) (fun σ H2 pv => ?_)⟩
    · obtain ⟨⟨a, b, c, d, e, rfl⟩, s2, fd2⟩ := pv
      obtain ⟨rfl, hx⟩ := y
      obtain ⟨z, hz1⟩ : ∃ z, kd.ends[i]? = some z := ⟨_, List.getElem?_eq_getElem hi⟩
      rw [List.getElem?_map, hz1] at hx
      cases Option.some.inj hx
      have hi' : (kd.start :: kd.ends.take i).length < sizeLine := by simp; omega
      obtain ⟨o, dp, fd3⟩ := found_put (x := z) (v := .bl true) fd2 hi'
      refine ⟨.ref f, rfl, .str z, rfl, f, _, rfl, dp, ⟨_, _, _, _, _, rfl⟩, same_upd s2 hf, ?_⟩
      rw [take_next hz1]
      exact fd3
    obtain ⟨⟨a, b, c, d, e, rfl⟩, s2, fd2⟩ := pv
    rw [List.take_length] at fd2
    -- the table's keys
    refine ⟨tb, _, s2 _ _ htb, trivial, fun od => ⟨_, rfl, p, kC K, dx, _, _, rfl, by rw [upd_ne ntp]; exact s2 _ _ ho, T.cl_Kind, T.no_Kind_table, rfl, tb, od, rfl, .inr ⟨kvs, upd_same, ?_⟩⟩⟩
    refine for_it walk_keysT (fun i σ H3 => (∃ a b c d e, σ = [some (.ref p), some (.ref f), a, b, c, d, e]) ∧ Same (upd H tb (.frz od (.dT kvs))) H3 ∧ Found H3 f (kd.start :: (kd.ends ++ (kd.tab.take i).map (·.1.1))))
      ⟨⟨_, _, _, _, _, rfl⟩, fun a o e => ?_, by simpa using found_upd fd2 ntf⟩ (fun i σ H2 _ q => same_loc q.2.1) (fun i x σ H2 H3 hi pv y => ?_) (fun σ H3 pv => ?_)
    · by_cases z : a = tb
      · subst z; rw [upd_same] at e; cases e; exact upd_same
      · rw [upd_ne z] at e; rw [upd_ne z]; exact s2 _ _ e
    · obtain ⟨⟨a, b, c, d, e, rfl⟩, s3, fd3⟩ := pv
      obtain ⟨rfl, k, v, b', hk, rfl, hb⟩ := y
      obtain ⟨m, em, h1, _⟩ := Paired.at hpt hk
      have e1 : k = [Sum.inr m.1.1, Sum.inr m.1.2] := h1
      subst e1
      have hi' : (kd.start :: (kd.ends ++ (kd.tab.take i).map (·.1.1))).length < sizeLine := by simp; have := List.length_take_le i kd.tab; omega
      obtain ⟨o, dp, fd4⟩ := found_put (x := m.1.1) (v := .bl true) fd3 hi'
      refine ⟨b', [.str m.1.1, .str m.1.2], rfl, SqT.of hb, rfl, _, _, rfl, _, _, rfl, rfl, .ref f, rfl, .str m.1.1, rfl, f, _, rfl, dp, ⟨_, _, _, _, _, rfl⟩, same_upd s3 (by rw [upd_ne ntf]; exact hf), ?_⟩
      rw [take_next em, List.map_append]
      simpa using fd4
    obtain ⟨⟨a, b, c, d, e, rfl⟩, s3, fd3⟩ := pv
    refine ⟨same_loc s3, ?_⟩
    have s4 := lock_same htb s3
    have fd4 := found_upd (o := .dT kvs) fd3 ntf
    generalize upd H3 tb (.dT kvs) = H4 at s4 fd4
    have hkl : kd.tab.length = kvs.length := Paired.length hpt
    rw [← hkl, List.take_length] at fd4
    -- the outcomes
    refine ⟨tb, _, s4 _ _ htb, trivial, fun od2 => ⟨_, rfl, p, kC K, dx, _, _, rfl, by rw [upd_ne ntp]; exact s4 _ _ ho, T.cl_Kind, T.no_Kind_table, rfl, tb, od2, kvs, rfl, upd_same, ?_⟩⟩
    have hpt2 : Paired (TabE K (upd H tb (.frz od2 (.dT kvs)))) kd.tab kvs := Paired.imp hpt fun m kv h => by
      obtain ⟨h1, t, h2, cs, h3, h4⟩ := h
      have lk : ∀ {b : Addr} {xs : List V}, SqT K H b xs → SqT K (upd H tb (.frz od2 (.dT kvs))) b xs := fun {b xs} z => (sqR_lock htb (fun xs => ⟨(fun z => by cases z), (fun z => by cases z)⟩) (fun o v z => by cases z) (.inr z)).elim (fun y => by
        rcases z with (z | ⟨o, z⟩) | z
        · exact .inl (.inl (by rw [upd_ne (ne_of z htb (by intro q; cases q))]; exact z))
        · exact .inl (.inr ⟨o, by rw [upd_ne (ne_of z htb (by intro q; cases q))]; exact z⟩)
        · exact .inr z) id
      exact ⟨h1, t, h2, cs, lk h3, Paired.imp h4 fun _ _ z => lk z⟩
    refine for_it walk_valuesT (fun i σ H5 => (∃ a b c d e, σ = [some (.ref p), some (.ref f), a, b, c, d, e]) ∧ Same (upd H tb (.frz od2 (.dT kvs))) H5 ∧ Found H5 f (kd.start :: (kd.ends ++ (kd.tab.map (·.1.1) ++ (kd.tab.take i).flatMap fun m => m.2.map (·.2)))))
      ⟨⟨_, _, _, _, _, rfl⟩, fun a o e => ?_, by simpa using found_upd fd4 ntf⟩ (fun i σ H2 _ q => same_loc q.2.1) (fun i x σ H2 H5 hi pv y => ?_) (fun σ H5 pv => ?_)
    · by_cases z : a = tb
      · subst z; rw [upd_same] at e; cases e; exact upd_same
      · rw [upd_ne z] at e; rw [upd_ne z]; exact s4 _ _ e
    · obtain ⟨⟨a, b, c, d, e, rfl⟩, s5, fd5⟩ := pv
      obtain ⟨rfl, k, hk⟩ := y
      obtain ⟨m, em, h1, t, e2, cs, h3, h4⟩ := Paired.at hpt2 hk
      have e2' : x = .ref t := e2
      subst e2'
      have hcs : m.2.length = cs.length := Paired.length h4
      refine ⟨_, rfl, t, rfl, ⟨_, Same.tq s5 h3⟩, for_it walk_tm (fun j σ H6 => (∃ a b c d e, σ = [some (.ref p), some (.ref f), a, b, c, d, e]) ∧ Same (upd H tb (.frz od2 (.dT kvs))) H6 ∧ Found H6 f (kd.start :: (kd.ends ++ (kd.tab.map (·.1.1) ++ ((kd.tab.take i).flatMap (fun m => m.2.map (·.2)) ++ (m.2.take j).map (·.2))))))
        ⟨⟨_, _, _, _, _, rfl⟩, s5, by simpa using fd5⟩ (fun j σ H6 _ q => Same.tq q.2.1 h3) (fun j x σ H6 H7 hj pv y => ?_) (fun σ H6 pv => ?_)⟩
      · obtain ⟨⟨a, b, c, d, e, rfl⟩, s6, fd6⟩ := pv
        obtain ⟨rfl, hx⟩ := y
        obtain ⟨b', hb'⟩ : ∃ b', cs[j]? = some b' := ⟨_, List.getElem?_eq_getElem hj⟩
        rw [List.getElem?_map, hb'] at hx
        cases Option.some.inj hx
        obtain ⟨o, eo, hr⟩ := Paired.at h4 hb'
        have hi' : (kd.start :: (kd.ends ++ (kd.tab.map (·.1.1) ++ ((kd.tab.take i).flatMap (fun m => m.2.map (·.2)) ++ (m.2.take j).map (·.2))))).length < sizeLine := by
          have hsplit : (kd.tab.flatMap fun m => m.2.map (·.2)).length = ((kd.tab.take i).flatMap fun m => m.2.map (·.2)).length + ((kd.tab.drop i).flatMap fun m => m.2.map (·.2)).length := by
            rw [← List.length_append, ← List.flatMap_append, List.take_append_drop]
          have hd' : kd.tab.drop i = m :: kd.tab.drop (i + 1) := by
            obtain ⟨hlt, e⟩ := List.getElem?_eq_some_iff.mp em
            rw [← e]
            exact List.drop_eq_getElem_cons hlt
          rw [hd'] at hsplit
          simp only [List.flatMap_cons, List.length_append, List.length_map] at hsplit
          have := List.length_take_le j m.2
          simp only [List.length_cons, List.length_append, List.length_map]
          have h9 : (m.2.take j).length ≤ m.2.length := by rw [List.length_take]; omega
          omega
        obtain ⟨oo, dp, fd7⟩ := found_put (x := o.2) (v := .bl true) fd6 hi'
        refine ⟨b', [.str o.1, .str o.2], rfl, Same.tq s6 hr, rfl, _, _, rfl, _, _, rfl, rfl, .ref f, rfl, .str o.2, rfl, f, _, rfl, dp, ⟨_, _, _, _, _, rfl⟩, same_upd s6 (by rw [upd_ne ntf]; exact hf), ?_⟩
        rw [take_next eo, List.map_append]
        simpa using fd7
      · obtain ⟨⟨a, b, c, d, e, rfl⟩, s6, fd6⟩ := pv
        rw [← hcs, List.take_length] at fd6
        refine ⟨⟨_, _, _, _, _, rfl⟩, s6, ?_⟩
        rw [take_next em, List.flatMap_append]
        simpa using fd6
    obtain ⟨⟨a, b, c, d, e, rfl⟩, s5, fd5⟩ := pv
    refine ⟨same_loc s5, ?_⟩
    have s6 := lock_same htb s5
    have fd6 := found_upd (o := .dT kvs) fd5 ntf
    generalize upd H5 tb (.dT kvs) = H6 at s6 fd6
    rw [← hkl, List.take_length] at fd6
    obtain ⟨ks, kvs2, g1, g2, g3, g4, g5⟩ := fd6
    -- return sorted(found)
    have hks : ks.length ≤ sizeLine := by
      have : (kd.start :: (kd.ends ++ (kd.tab.map (·.1.1) ++ kd.tab.flatMap fun m => m.2.map (·.2)))).length = (statesOf kd).length := rfl
      omega
    refine ⟨.ref f, rfl, f, ks, rfl, .inr ⟨kvs2, .inl g1, g2⟩, hks, fun l hl => ?_⟩
    refine q _ l (isort strLt ks) (s6.trans (Same.new hl)) (s6.free hl) upd_same (isort_up strLt_tot ks) (nodup_isort.mpr g3) fun x => ?_
    rw [mem_isort, g4]
    exact Iff.rfl
end
end Rs
set_option Elab.async false
set_option linter.all false
set_option maxRecDepth 100000
set_option maxHeartbeats 2000000
namespace Rs
open PySem PySem.Spec PyProof.Rows L2
local macro_rules | `(tactic| walk_at "rd") => `(tactic| simp only [L2.tRet, L2.tRetN, L2.tSeq, L2.tNext, L2.tIfS, L2.tAsg, L2.gName, L2.gNil, L2.gCons, L2.tVar, L2.tC, L2.tOp, L2.tUn, L2.tCB, L2.tCons, L2.tNil, L2.tAndV, L2.tOrV, L2.tNotV, L2.tAnd, L2.tOr, L2.tNot, L2.tB, L2.tTest, L2.tIf, L2.tChain, L2.tTup, L2.tLst, L2.tDrop, L2.tFld, L2.start, L2.cxOf, L2.Cx.nox, L2.Cx.wish, L2.rI0, L2.rI, L2.tYes, Rs.tCalW, List.getElem?_cons_zero, List.getElem?_cons_succ, Option.some.injEq, exists_eq_left', exists_eq_left, exists_and_left, List.cons.injEq, and_true, true_and, L2.V.bl.injEq, L2.V.int.injEq, L2.V.str.injEq, L2.V.ref.injEq, List.set_cons_zero, List.set_cons_succ, List.map_cons, List.map_nil, List.length_cons, List.length_nil, List.replicate, List.cons_append, List.nil_append, List.append_nil, Nat.reduceSub, Nat.reduceAdd])

section
variable {P : Program} {w : World} {K : PySem.W.Frag} {mg : PySem.Str → Option Value} {base : Heap}
theorem kflds_no {m : PySem.Str} {name start : PySem.Str} {e tb : Addr} (h : ([("called" : PySem.Str), "begin", "last", "table"]).all (fun x => decide (m ≠ x)) = true) : (kflds name start e tb).lookup m = none := by
  simp only [List.all_cons, List.all_nil, Bool.and_true, Bool.and_eq_true, decide_eq_true_eq] at h
  obtain ⟨h1, h2, h3, h4⟩ := h
  have q : ∀ {a b : PySem.Str}, a ≠ b → (a == b) = false := fun h => beq_eq_false_iff_ne.mpr h
  simp only [kflds, List.lookup_cons, q h1, q h2, q h3, q h4, List.lookup_nil]
/-! ### start, [], in -/
def sp_start (K : PySem.W.Frag) : Sp := fun vs H Q _ => ∃ p kd, vs = [.ref p] ∧ KindAt K H p kd ∧ Q (.str kd.start) H
theorem ok_start (T : Txt K mg) : CalP P w K mg base 1 (kC K) "start" (sp_start K) := by
  obtain ⟨fd, F⟩ := T.d_Kind_start
  refine ⟨_, _, fd, ?_, T.pr_Kind_start, F.bindsN fun _ _ _ _ _ _ us hl => match us, hl with | [_], _ => rfl⟩
  refine F.ok sc_Kind_start (fun vs H Q E h => ?_) (fun cdv A outer s H vs Q E hr h => ?_)
  · obtain ⟨p, kd, rfl, _⟩ := h
    rfl
  · refine ⟨_, PSs.nox (pss_one (ps_ret (pe_fld (pv 0) rfl))), ?_⟩
    obtain ⟨p, kd, rfl, ⟨dx, ea, tb, ho, he, ht⟩, q⟩ := h
    exact ⟨_, rfl, p, kC K, dx, _, _, rfl, ho, T.cl_Kind, T.no_Kind_begin, rfl, q⟩
/-- what a pair of texts is looked up as -/
def look (tab : List Mv) (k : PySem.Str × PySem.Str) : Option Outs := (tab.find? fun m => decide (m.1 = k)).map (·.2)
/-- the key is a tuple of two texts -/
def sp_getitem (K : PySem.W.Frag) : Sp := fun vs H Q _ => ∃ p kd b x y, vs = [.ref p, .ref b] ∧ KindAt K H p kd ∧ H b = some (.tup [.str x, .str y]) ∧ x.length ≤ sizeLine ∧ y.length ≤ sizeLine ∧
  ∀ H', Same H H' → match (if isName (.str x) = true ∧ isName (.str y) = true then look kd.tab (x, y) else none) with
    | none => Q .non H'
    | some os => ∀ t, OutsAt K H' t os → Q (.ref t) H'
theorem tab_look {H : Hp} {tab : List Mv} {kvs : List (List Key × V)} (hp : Paired (TabE K H) tab kvs) (x y : PySem.Str) :
    match look tab (x, y) with
    | none => valV kvs [Sum.inr x, Sum.inr y] = none
    | some os => ∃ t, valV kvs [Sum.inr x, Sum.inr y] = some (.ref t) ∧ OutsAt K H t os := by
  unfold look valV
  induction hp with
  | nil => exact rfl
  | @cons m kv tab kvs h1 _ ih =>
    by_cases e : m.1 = (x, y)
    · have e2 : kv.1 = [Sum.inr x, Sum.inr y] := by rw [h1.1, e]
      rw [List.find?_cons_of_pos (by simpa using e), List.find?_cons_of_pos (by simpa using e2)]
      obtain ⟨_, t, e3, h3⟩ := h1
      exact ⟨t, by rw [← e3] <;> rfl, h3⟩
    · have e2 : kv.1 ≠ [Sum.inr x, Sum.inr y] := fun z => e (by
        rw [h1.1] at z
        obtain ⟨z1, z2⟩ := List.cons.inj z
        exact Prod.ext (Sum.inr.inj z1) (Sum.inr.inj (List.cons.inj z2).1))
      rw [List.find?_cons_of_neg (by simpa using e), List.find?_cons_of_neg (by simpa using e2)]
      exact ih
theorem any2 {H : Hp} {x y : PySem.Str} (lx : x.length ≤ sizeLine) (ly : y.length ≤ sizeLine) : ∀ v ∈ [V.str x, V.str y], Any K H v := fun v hv => by
  rcases List.mem_cons.mp hv with rfl | hv
  · exact ⟨⟨_, srt_str _⟩, fun z e => by cases e; exact lx⟩
  · rcases List.mem_cons.mp hv with rfl | hv
    · exact ⟨⟨_, srt_str _⟩, fun z e => by cases e; exact ly⟩
    · cases hv
theorem ok_getitem (T : Txt K mg) : CalD P w K mg base 4 (kC K) "__getitem__" ["self", "at"] (sp_getitem K) := by
  have c_is_key := ok_is_key (P := P) (w := w) (base := base) T
  obtain ⟨fd, F⟩ := T.d_Kind_getitem
  refine ⟨_, fd, ?_, T.du_Kind_getitem, F.bindsN fun _ _ _ _ _ _ us hl => match us, hl with | [_, _], _ => rfl⟩
  refine F.ok sc_Kind_getitem (fun vs H Q E h => ?_) (fun cdv A outer s H vs Q E hr h => ?_)
  · obtain ⟨p, kd, b, x, y, rfl, _⟩ := h
    rfl
  · have hu := hu_of hr
    refine ⟨_, PSs.nox (pss_one (ps_ret (pe_ifExp (pt_val (pe_cal c_is_key (hr.mono (by decide)) takes0 (pa_cons (pv 1) pa_nil))) (pe_dget1 hu (pe_fld (pv 0) rfl) (pv 1) ⟨rfl, rfl, rfl, rfl⟩) pe_non))), ?_⟩
    obtain ⟨p, kd, b, x, y, rfl, ⟨dx, ea, tb, ho, he, ht⟩, hb, lx, ly, q⟩ := h
    walk_at "rd"
    refine ⟨.ref b, _, rfl, srt_tup hb, .inr ⟨b, _, rfl, SqT.of hb, fun _ => any2 lx ly, fun H1 s1 => ⟨_, rfl, ?_⟩⟩⟩
    have q1 := q H1 s1
    obtain ⟨kvs, htb, hpt, nd, _⟩ := id ht
    by_cases hk : isName (.str x) = true ∧ isName (.str y) = true
    · rw [if_pos (by simp only [pairB, hk.1, hk.2, Bool.and_true])]
      rw [if_pos hk] at q1
      refine ⟨_, rfl, p, kC K, dx, _, _, rfl, s1 _ _ ho, T.cl_Kind, T.no_Kind_table, rfl, tb, rfl, .inr ⟨kvs, .inl (s1 _ _ htb)⟩, _, rfl, _, .inr ⟨kvs, [Sum.inr x, Sum.inr y], b, .inl (s1 _ _ htb), rfl, s1 _ _ hb, rfl⟩, ?_⟩
      have tl := tab_look hpt x y
      cases e : look kd.tab (x, y) with
      | none =>
        rw [e] at tl q1
        rw [show valV kvs [Sum.inr x, Sum.inr y] = none from tl]
        exact q1
      | some os =>
        rw [e] at tl q1
        obtain ⟨t, e1, e2⟩ := tl
        rw [e1]
        exact q1 t (e2.same s1)
    · rw [if_neg (by simp only [pairB, Bool.and_eq_true]; exact hk)]
      rw [if_neg hk] at q1
      exact q1
/-! the key a tuple of two texts, or anything else that is no text -/
def sp_contains (K : PySem.W.Frag) : Sp := fun vs H Q _ => ∃ p kd b x y, vs = [.ref p, .ref b] ∧ KindAt K H p kd ∧ H b = some (.tup [.str x, .str y]) ∧ x.length ≤ sizeLine ∧ y.length ≤ sizeLine ∧
  ∀ H', Same H H' → Q (.bl ((isName (.str x) && isName (.str y)) && (look kd.tab (x, y)).isSome)) H'
theorem ok_contains (T : Txt K mg) : CalD P w K mg base 4 (kC K) "__contains__" ["self", "at"] (sp_contains K) := by
  have c_is_key := ok_is_key (P := P) (w := w) (base := base) T
  obtain ⟨fd, F⟩ := T.d_Kind_contains
  refine ⟨_, fd, ?_, T.du_Kind_contains, F.bindsN fun _ _ _ _ _ _ us hl => match us, hl with | [_, _], _ => rfl⟩
  refine F.ok sc_Kind_contains (fun vs H Q E h => ?_) (fun cdv A outer s H vs Q E hr h => ?_)
  · obtain ⟨p, kd, b, x, y, rfl, _⟩ := h
    rfl
  · have hu := hu_of hr
    refine ⟨_, PSs.nox (pss_one (ps_ret (pe_and (pe_cal c_is_key (hr.mono (by decide)) takes0 (pa_cons (pv 1) pa_nil)) (pe_one (pe_cmp (pc_din hu (pv 1) (pe_fld (pv 0) rfl)) rfl))))), ?_⟩
    obtain ⟨p, kd, b, x, y, rfl, ⟨dx, ea, tb, ho, he, ht⟩, hb, lx, ly, q⟩ := h
    walk_at "rd"
    refine ⟨.ref b, _, rfl, srt_tup hb, .inr ⟨b, _, rfl, SqT.of hb, fun _ => any2 lx ly, fun H1 s1 => ⟨_, rfl, ?_⟩⟩⟩
    have q1 := q H1 s1
    obtain ⟨kvs, htb, hpt, nd, _⟩ := id ht
    cases hk : (isName (.str x) && isName (.str y)) with
    | true =>
      rw [if_pos (by simpa only [pairB] using hk)]
      rw [hk, Bool.true_and] at q1
      refine ⟨_, rfl, _, rfl, p, kC K, dx, _, _, rfl, s1 _ _ ho, T.cl_Kind, T.no_Kind_table, rfl, tb, _, rfl, .inr ⟨kvs, [Sum.inr x, Sum.inr y], b, .inl (s1 _ _ htb), rfl, s1 _ _ hb, rfl⟩, ?_⟩
      have tl := tab_look hpt x y
      cases e : look kd.tab (x, y) with
      | none =>
        rw [e] at tl q1
        rw [show valV kvs [Sum.inr x, Sum.inr y] = none from tl]
        exact q1
      | some os =>
        rw [e] at tl q1
        obtain ⟨t, e1, e2⟩ := tl
        rw [e1]
        exact q1
    | false =>
      rw [if_neg (by simp only [pairB, hk]; decide)]
      rw [hk, Bool.false_and] at q1
      exact q1
end
end Rs
set_option Elab.async false
set_option linter.all false
set_option maxRecDepth 100000
set_option maxHeartbeats 2000000
namespace Rs
open PySem PySem.Spec PyProof.Rows L2
local macro_rules | `(tactic| walk_at "rd") => `(tactic| simp only [L2.tRet, L2.tRetN, L2.tSeq, L2.tNext, L2.tIfS, L2.tAsg, L2.gName, L2.gNil, L2.gCons, L2.tVar, L2.tC, L2.tOp, L2.tUn, L2.tCB, L2.tCons, L2.tNil, L2.tAndV, L2.tOrV, L2.tNotV, L2.tAnd, L2.tOr, L2.tNot, L2.tB, L2.tTest, L2.tIf, L2.tChain, L2.tTup, L2.tLst, L2.tDrop, L2.tFld, L2.sFld, L2.start, L2.cxOf, L2.Cx.nox, L2.Cx.wish, L2.rI0, L2.rI, L2.tYes, Rs.tCalW, List.getElem?_cons_zero, List.getElem?_cons_succ, Option.some.injEq, exists_eq_left', exists_eq_left, exists_and_left, List.cons.injEq, and_true, true_and, L2.V.bl.injEq, L2.V.int.injEq, L2.V.str.injEq, L2.V.ref.injEq, List.set_cons_zero, List.set_cons_succ, List.map_cons, List.map_nil, List.length_cons, List.length_nil, List.replicate, List.cons_append, List.nil_append, List.append_nil, Nat.reduceSub, Nat.reduceAdd])

section
variable {P : Program} {w : World} {K : PySem.W.Frag} {mg : PySem.Str → Option Value} {base : Heap}
/-! ### what stands but for one -/
def SameX (x : Addr) (H H' : Hp) : Prop := ∀ a u, a ≠ x → H a = some u → H' a = some u
theorem SameX.of {x : Addr} {H H' : Hp} (h : Same H H') : SameX x H H' := fun a u _ e => h a u e
theorem SameX.trans {x : Addr} {H H' H'' : Hp} (h : SameX x H H') (h' : SameX x H' H'') : SameX x H H'' := fun a u n e => h' a u n (h a u n e)
theorem SameX.upd {x : Addr} {H H' : Hp} {o : HO} (h : SameX x H H') : SameX x H (upd H' x o) := fun a u n e => by rw [upd_ne n]; exact h a u n e
theorem SameX.self {x : Addr} {H : Hp} {o : HO} : SameX x H (L2.upd H x o) := fun a u n e => by rw [upd_ne n]; exact e
theorem SameX.same {x : Addr} {H0 H H' : Hp} (h : SameX x H H') (s : Same H0 H) (n : H0 x = none) : Same H0 H' := fun a u e => h a u (ne_of_none e n) (s a u e)
def isTupO : HO → Bool
  | .tup _ => true
  | .frz _ _ => true
  | .lst _ => true
  | _ => false
theorem SameX.tq {x : Addr} {H H' : Hp} {o : HO} {a : Addr} {xs : List V} (h : SameX x H H') (hx : H x = some o) (ho : isTupO o = false) (q : SqT K H a xs) : SqT K H' a xs := by
  have ne : ∀ u, H a = some u → isTupO u = true → a ≠ x := fun u hu hh z => by subst z; rw [hx] at hu; cases Option.some.inj hu; rw [ho] at hh; cases hh
  rcases q with (q | ⟨ob, q⟩) | q
  · exact .inl (.inl (h _ _ (ne _ q rfl) q))
  · exact .inl (.inr ⟨ob, h _ _ (ne _ q rfl) q⟩)
  · exact .inr q
theorem SameX.lq {x : Addr} {H H' : Hp} {o : HO} {a : Addr} {xs : List V} (h : SameX x H H') (hx : H x = some o) (ho : isTupO o = false) (q : SqL K H a xs) : SqL K H' a xs := by
  have ne : ∀ u, H a = some u → isTupO u = true → a ≠ x := fun u hu hh z => by subst z; rw [hx] at hu; cases Option.some.inj hu; rw [ho] at hh; cases hh
  rcases q with (q | ⟨ob, q⟩) | q
  · exact .inl (.inl (h _ _ (ne _ q rfl) q))
  · exact .inl (.inr ⟨ob, h _ _ (ne _ q rfl) q⟩)
  · exact .inr q
theorem SameX.rq {x : Addr} {H H' : Hp} {o : HO} {a : Addr} {xs : List V} (h : SameX x H H') (hx : H x = some o) (ho : isTupO o = false) (q : SqR K H a xs) : SqR K H' a xs := q.elim (fun q => .inl (h.lq hx ho q)) fun q => .inr (h.tq hx ho q)
theorem SameX.outs {x : Addr} {H H' : Hp} {o : HO} {t : Addr} {os : Outs} (h : SameX x H H') (hx : H x = some o) (ho : isTupO o = false) (q : OutsAt K H t os) : OutsAt K H' t os :=
  let ⟨cs, h1, h2⟩ := q; ⟨cs, h.tq hx ho h1, Paired.imp h2 fun _ _ z => h.tq hx ho z⟩
theorem SameX.tab {x : Addr} {H H' : Hp} {o : HO} {m : Mv} {kv : List Key × V} (h : SameX x H H') (hx : H x = some o) (ho : isTupO o = false) (q : TabE K H m kv) : TabE K H' m kv :=
  let ⟨h1, t, h2, h3⟩ := q; ⟨h1, t, h2, h.outs hx ho h3⟩
theorem SameX.mv {x : Addr} {H H' : Hp} {o : HO} {m : Mv} {kv : List Key × V} (h : SameX x H H') (hx : H x = some o) (ho : isTupO o = false) (q : MvAt K H m kv) : MvAt K H' m kv :=
  let ⟨h1, p, bs, h2, h3, h4⟩ := q; ⟨h1, p, bs, h2, h.rq hx ho h3, Paired.imp h4 fun _ _ z => h.rq hx ho z⟩
/-! ### outcomes and moves in order -/
abbrev row2 (o : PySem.Str × PySem.Str) : List PySem.Str := [o.1, o.2]
def un2 (r : List PySem.Str) : PySem.Str × PySem.Str := (r.getD 0 "", r.getD 1 "")
theorem un2_row2 (o : PySem.Str × PySem.Str) : un2 (row2 o) = o := rfl
def sortOuts (os : Outs) : Outs := (isort rowLt (os.map row2)).map un2
def sortTab (mv : List Mv) : List Mv := (isort rowLt (mv.map fun m => row2 m.1)).map fun k => (un2 k, sortOuts ((look mv (un2 k)).getD []))
theorem row_sorted {os : List (PySem.Str × PySem.Str)} {k : List PySem.Str} (h : k ∈ isort rowLt (os.map row2)) : row2 (un2 k) = k ∧ un2 k ∈ os := by
  obtain ⟨o, ho, rfl⟩ := List.mem_map.mp (mem_isort.mp h)
  exact ⟨rfl, ho⟩
theorem Paired.mapL {α β γ : Type} {R : α → β → Prop} {S : γ → β → Prop} {f : α → γ} : ∀ {l : List α} {m : List β}, Paired R l m → (∀ a ∈ l, ∀ b, R a b → S (f a) b) → Paired S (l.map f) m
  | _, _, .nil, _ => .nil
  | _, _, .cons h t, g => .cons (g _ List.mem_cons_self _ h) (Paired.mapL t fun a ha b => g a (List.mem_cons_of_mem _ ha) b)
theorem look_mem {mv : List Mv} {m : Mv} (nd : (mv.map (·.1)).Nodup) (h : m ∈ mv) : look mv m.1 = some m.2 := by
  unfold look
  induction mv with
  | nil => cases h
  | cons n mv ih =>
    obtain ⟨n1, n2⟩ := List.nodup_cons.mp nd
    rcases List.mem_cons.mp h with rfl | h
    · rw [List.find?_cons_of_pos (by simp)] <;> rfl
    · rw [List.find?_cons_of_neg (by
        simp only [decide_eq_true_eq]
        exact fun e => n1 (List.mem_map.mpr ⟨m, h, e.symm⟩))]
      exact ih n2 h
theorem putK_new {α : Type} [DecidableEq α] {kvs : List (α × V)} {k : α} {v : V} (h : k ∉ kvs.map (·.1)) : putK kvs k v = kvs ++ [(k, v)] := by
  unfold putK
  rw [if_neg]
  intro e
  obtain ⟨p, hp, e⟩ := List.any_eq_true.mp e
  exact h (List.mem_map.mpr ⟨p, hp, of_decide_eq_true e⟩)
theorem paired_keys {H : Hp} : ∀ {mv : List Mv} {kvs : List (List Key × V)}, Paired (MvAt K H) mv kvs → kvs.map (·.1) = (mv.map fun m => row2 m.1).map (·.map Sum.inr)
  | _, _, .nil => rfl
  | _, _, .cons h t => by rw [List.map_cons, List.map_cons, List.map_cons, paired_keys t, h.1] <;> rfl
theorem Paired.atL {α β : Type} {R : α → β → Prop} : ∀ {l : List α} {m : List β} {i : Nat} {a : α}, Paired R l m → l[i]? = some a → ∃ b, m[i]? = some b ∧ R a b
  | _, _, _, _, .nil, e => by simp at e
  | _, _, 0, _, .cons h _, e => by simp at e; subst e; exact ⟨_, rfl, h⟩
  | _, _, i + 1, _, .cons _ t, e => by
    obtain ⟨a, e1, e2⟩ := Paired.atL (i := i) t (by simpa using e)
    exact ⟨a, by simpa using e1, e2⟩
theorem sortTab_keys (mv : List Mv) : ((sortTab mv).map (·.1)).Perm (mv.map (·.1)) := by
  have h := (isort_perm (lt := rowLt) (mv.map fun m => row2 m.1)).map un2
  rw [sortTab, List.map_map]
  rw [List.map_map] at h
  exact h
theorem sortTab_nodup {mv : List Mv} (nd : (mv.map (·.1)).Nodup) : ((sortTab mv).map (·.1)).Nodup := (sortTab_keys mv).nodup_iff.mpr nd
theorem look_in {mv : List Mv} {k : PySem.Str × PySem.Str} {os : Outs} (h : look mv k = some os) : (k, os) ∈ mv := by
  unfold look at h
  obtain ⟨m, hm, e⟩ := Option.map_eq_some_iff.mp h
  have h1 := List.find?_some hm
  have h2 := List.mem_of_find?_eq_some hm
  have : m.1 = k := of_decide_eq_true h1
  rw [← this, ← e]
  exact h2
theorem sortTab_few {mv : List Mv} (h : ∀ m ∈ mv, outsB m.2 = true) : ∀ m ∈ sortTab mv, m.2.length ≤ 8 := by
  intro m hm
  obtain ⟨k, _, rfl⟩ := List.mem_map.mp hm
  show (sortOuts ((look mv (un2 k)).getD [])).length ≤ 8
  rw [sortOuts, List.length_map, length_isort, List.length_map]
  cases e : look mv (un2 k) with
  | none => exact Nat.zero_le _
  | some os => exact (outs_len (h _ (look_in e))).1
theorem outs_sum : ∀ (tab : List Mv), (∀ m ∈ tab, m.2.length ≤ 8) → (tab.flatMap fun m => m.2.map (·.2)).length ≤ 8 * tab.length
  | [], _ => by simp
  | m :: tab, h => by
    have h1 := outs_sum tab fun n hn => h n (List.mem_cons_of_mem _ hn)
    have h2 := h m List.mem_cons_self
    rw [List.flatMap_cons, List.length_append, List.length_map, List.length_cons]
    omega
theorem tab_new {H : Hp} {mv : List Mv} {m : Mv} {i : Nat} {kvs' : List (List Key × V)} (nd : (mv.map (·.1)).Nodup) (h : mv[i]? = some m) (hp : Paired (TabE K H) (mv.take i) kvs') : [Sum.inr m.1.1, Sum.inr m.1.2] ∉ kvs'.map (·.1) := by
  intro hm
  obtain ⟨kv, hkv, e⟩ := List.mem_map.mp hm
  obtain ⟨j, hj⟩ := List.getElem?_of_mem hkv
  obtain ⟨n, hn, e2, _⟩ := Paired.at hp hj
  rw [e] at e2
  obtain ⟨z1, z2⟩ := List.cons.inj e2
  have e3 : m.1 = n.1 := Prod.ext (Sum.inr.inj z1) (Sum.inr.inj (List.cons.inj z2).1)
  have h1 : (mv.take (i + 1)).map (·.1) = (mv.take i).map (·.1) ++ [m.1] := by rw [take_next h, List.map_append] <;> rfl
  have h2 : ((mv.take (i + 1)).map (·.1)).Nodup := by
    rw [List.map_take]
    exact nd.sublist (List.take_sublist _ _)
  rw [h1] at h2
  exact (List.nodup_append.mp h2).2.2 n.1 (List.mem_map.mpr ⟨n, List.mem_of_getElem? hn, rfl⟩) m.1 (by simp) e3.symm
abbrev kfl2 (name start : PySem.Str) : List (PySem.Str × V) := [("called", .str name), ("begin", .str start)]
def sp_kind (K : PySem.W.Frag) : Sp := fun vs H Q _ => ∃ (x : Addr) (name start : PySem.Str) (e d : Addr) (ends : List PySem.Str) (mv : List Mv) (dx : Addr), vs = [.ref x, .str name, .str start, .ref e, .ref d] ∧ H x = some (.ins (kC K) dx []) ∧
  isName (.str name) = true ∧ isName (.str start) = true ∧ SqR K H e (ends.map V.str) ∧ (∀ y ∈ ends, isName (.str y) = true) ∧ ends.Nodup ∧ ends.length ≤ 4000 ∧ MovesAt K H d mv ∧ MovesOk mv ∧
  (∀ ys : List PySem.Str, ys.Nodup → (∀ y ∈ ys, y ∈ statesOf ⟨name, start, isort strLt ends, sortTab mv⟩) → ys.length ≤ 60) ∧
  ∀ H', SameX x H H' → KindAt K H' x ⟨name, start, isort strLt ends, sortTab mv⟩ → Q .non H'
theorem ok_kind (T : Txt K mg) : CalI P w K mg base 7 (kC K) "Kind" ["self", "name", "start", "ends", "moves"] (sp_kind K) := by
  have c_is_name := ok_is_name (P := P) (w := w) (base := base) T
  have c_are_ends := ok_are_ends (P := P) (w := w) (base := base) T
  have c_are_moves := ok_are_moves (P := P) (w := w) (base := base) T
  have c_states := ok_states (P := P) (w := w) (base := base) T
  obtain ⟨fd, F⟩ := T.d_Kind_init
  obtain ⟨tk, h_MOST_STATES⟩ := T.c_MOST_STATES
  refine ⟨_, fd, ?_, T.mk_Kind, T.g_Kind, F.bindsN fun _ _ _ _ _ _ us hl => match us, hl with | [_, _, _, _, _], _ => rfl⟩
  refine F.ok sc_Kind_init (fun vs H Q E h => ?_) (fun cdv A outer s H vs Q E hr h => ?_)
  · obtain ⟨x, name, start, e, d, ends, mv, dx, rfl, _⟩ := h
    rfl
  · have hu := hu_of hr
    refine ⟨_, PSs.nox (pss_cons (ps_if (pt_not (pt_val (pe_cal c_is_name (hr.mono (by decide)) takes0 (pa_cons (pv 1) pa_nil)))) (pss_one ps_never) pss_nil)
      (pss_cons (ps_if (pt_not (pt_val (pe_cal c_is_name (hr.mono (by decide)) takes0 (pa_cons (pv 2) pa_nil)))) (pss_one ps_never) pss_nil)
      (pss_cons (ps_if (pt_not (pt_val (pe_cal c_are_ends (hr.mono (by decide)) takes0 (pa_cons (pv 3) pa_nil)))) (pss_one ps_never) pss_nil)
      (pss_cons (ps_if (pt_not (pt_val (pe_cal c_are_moves (hr.mono (by decide)) takes0 (pa_cons (pv 4) pa_nil)))) (pss_one ps_never) pss_nil)
      (pss_cons (ps_fld (pv 0) (pv 1) rfl)
      (pss_cons (ps_fld (pv 0) (pv 2) rfl)
      (pss_cons (ps_fld (pv 0) (pe_callTy (r := rTupOf K) call_tupOf rfl T.b_tuple (by decide +kernel) (pa_cons (pe_callB (cr_sortS rfl) rfl T.b_sorted (by decide +kernel) (pa_cons (pv 3) pa_nil)) pa_nil)) rfl)
      (pss_cons (ps_fld (pv 0) pe_dnewT rfl)
      (pss_cons (ps_for PassesOwn.never rfl (pi_list (pe_callB (r := rSortDT K) (cr_sortDT rfl) rfl T.b_sorted (by decide +kernel) (pa_cons (pv 4) pa_nil))) (pg_name (i := 5) sc_Kind_init.nd rfl (Or.inl rfl))
      (pss_one (ps_dput hu (pe_fld (pv 0) rfl) (pv 5) (pe_callTy (r := rTupOf K) call_tupOf rfl T.b_tuple (by decide +kernel) (pa_cons (pe_callB (r := rSortQ K) cr_sortQ rfl T.b_sorted (by decide +kernel) (pa_cons (pe_lc (own := [("one", 6)]) (g := gName 6) (tt := tYes) rfl sc_Kind_init.nd (pi_seq (pe_dget hu (pv 4) (pv 5) (fun _ _ => rfl))) (blkOk_by (own := [("one", 6)]) (N := ["self", "name", "start", "ends", "moves", "at", "one"]) (sc := defScope s_Kind_init) (by decide +kernel)) (fun _ _ _ _ _ => (pg_name (i := 6) sc_Kind_init.nd rfl (Or.inl rfl))) (fun _ _ _ _ _ => pts_nil) (fun _ _ _ _ _ => (pe_callTy (r := rTupOf K) call_tupOf rfl T.b_tuple (by decide +kernel) (pa_cons (pv 6) pa_nil)))) pa_nil)) pa_nil)) rfl)))
      (pss_one (ps_if (pt_cmpR op_gt (pe_callB (r := rLenQ K) call_lenQ rfl T.b_len (by decide +kernel) (pa_cons (pe_calm0 c_states T.cl_Kind (hr.mono (by decide)) takes0 (pv 0)) pa_nil)) (pe_glob (v := .int 60) rfl h_MOST_STATES ⟨_, rfl⟩) (nomark _)) (pss_one ps_never) pss_nil))))))))))), ?_⟩
    obtain ⟨x, name, start, e, d, ends, mv, dx, rfl, hx, n1, n2, he, hen, hnd, hez, hmv, mok, few, q⟩ := h
    walk_at "rd"
    have hsE : ∀ y ∈ ends, y.length ≤ sizeLine := fun y hy => name_len (hen y hy)
    refine ⟨_, _, rfl, srt_str _, (fun z e => by cases e; exact name_len n1), fun H1 s1 => ⟨_, rfl, ?_⟩⟩
    rw [if_neg (by rw [n1]; decide)]
    refine ⟨_, _, rfl, srt_str _, (fun z e => by cases e; exact name_len n2), fun H2 s2 => ⟨_, rfl, ?_⟩⟩
    rw [if_neg (by rw [n2]; decide)]
    have s12 := s1.trans s2
    refine ⟨e, ends, rfl, SqR.same s12 he, hez, hsE, fun H3 s3 => ⟨_, rfl, ?_⟩⟩
    rw [if_neg (by rw [show (ends.all fun x => isName (.str x)) = true from List.all_eq_true.mpr hen, decide_eq_true hnd]; decide)]
    have s13 := s12.trans s3
    obtain ⟨kvs, hd, hp, nd⟩ := hmv
    refine ⟨d, mv, rfl, ⟨kvs, s13 _ _ hd, Paired.imp hp fun _ _ z => z.same s13, nd⟩, mok, fun H4 s4 => ⟨_, rfl, ?_⟩⟩
    rw [if_neg (by decide)]
    have s14 := s13.trans s4
    have hx4 := s14 _ _ hx
    have hd4 := s14 _ _ hd
    have he4 := SqR.same s14 he
    have hp4 : Paired (MvAt K H4) mv kvs := Paired.imp hp fun _ _ z => z.same s14
    have q4 : ∀ H', SameX x H4 H' → KindAt K H' x ⟨name, start, isort strLt ends, sortTab mv⟩ → Q .non H' := fun H' h hk => q H' (SameX.trans (SameX.of s14) h) hk
    clear q hx hd he hp s1 s2 s3 s4 s12 s13 s14
    refine ⟨kC K, dx, _, hx4, T.cl_Kind, T.no_Kind_called, (by decide), ?_⟩
    refine ⟨kC K, dx, _, upd_same, T.cl_Kind, T.no_Kind_begin, (by show 1 < 1000; decide), ?_⟩
    rw [show putF "begin" (V.str start) (putF "called" (V.str name) []) = (kfl2 name start) from rfl]
    have sx5 : SameX x H4 (upd (upd H4 x (.ins (kC K) dx (putF "called" (V.str name) []))) x (.ins (kC K) dx (kfl2 name start))) := SameX.upd SameX.self
    have hx5 : (upd (upd H4 x (.ins (kC K) dx (putF "called" (V.str name) []))) x (.ins (kC K) dx (kfl2 name start))) x = some (.ins (kC K) dx (kfl2 name start)) := upd_same
    generalize (upd (upd H4 x (.ins (kC K) dx (putF "called" (V.str name) []))) x (.ins (kC K) dx (kfl2 name start))) = H5 at sx5 hx5
    refine ⟨e, ends, rfl, .inl (sx5.rq hx4 rfl he4), (by rw [sizeLine_eq]; omega), fun l hl => ⟨l, _, rfl, .inl ⟨SqL.of upd_same, fun t ht => ?_⟩⟩⟩
    have sl : Same H5 (upd H5 l (.lst ((isort strLt ends).map V.str))) := Same.new hl
    have st : Same H5 (upd (upd H5 l (.lst ((isort strLt ends).map V.str))) t (.tup ((isort strLt ends).map V.str))) := sl.trans (Same.new ht)
    have htt : (upd (upd H5 l (.lst ((isort strLt ends).map V.str))) t (.tup ((isort strLt ends).map V.str))) t = some (.tup ((isort strLt ends).map V.str)) := upd_same
    generalize (upd (upd H5 l (.lst ((isort strLt ends).map V.str))) t (.tup ((isort strLt ends).map V.str))) = H6 at st htt
    have hx6 := st _ _ hx5
    have sx6 : SameX x H4 H6 := sx5.trans (SameX.of st)
    refine ⟨kC K, dx, _, hx6, T.cl_Kind, T.no_Kind_last, (by show 2 < 1000; decide), fun tb htb => ⟨kC K, dx, _, by rw [upd_ne (fun z => by subst z; rw [upd_same] at htb; cases htb)]; exact upd_same, T.cl_Kind, T.no_Kind_table, (by show 3 < 1000; decide), ?_⟩⟩
    have ntx : tb ≠ x := fun z => by subst z; rw [upd_same] at htb; cases htb
    have ht6 : H6 tb = none := by rw [upd_ne ntx] at htb; exact htb
    have ntt : tb ≠ t := fun z => by subst z; rw [htt] at ht6; cases ht6
    have htx : t ≠ x := ne_of htt hx6 (by intro z; cases z)
    have h4b : H4 tb = none := by
      cases z : H4 tb with
      | none => rfl
      | some u => rw [sx6 _ _ ntx z] at ht6; cases ht6
    rw [show putF "table" (V.ref tb) (putF "last" (V.ref t) (kfl2 name start)) = kflds name start t tb from rfl]
    generalize hH7 : (upd (upd (upd H6 x (.ins (kC K) dx (putF "last" (V.ref t) (kfl2 name start)))) tb (.dT [])) x (.ins (kC K) dx (kflds name start t tb))) = H7
    have hx7 : H7 x = some (.ins (kC K) dx (kflds name start t tb)) := by rw [← hH7]; exact upd_same
    have htb7 : H7 tb = some (.dT []) := by rw [← hH7, upd_ne ntx]; exact upd_same
    have htt7 : H7 t = some (.tup ((isort strLt ends).map V.str)) := by rw [← hH7, upd_ne htx, upd_ne ntt.symm, upd_ne htx]; exact htt
    have sx7 : SameX x H4 H7 := by
      intro a u n z
      rw [← hH7, upd_ne n, upd_ne (ne_of_none z h4b), upd_ne n]
      exact sx6 _ _ n z
    clear hH7 htb ht6 sx6 hx6 htt st sl ht hl sx5 hx5
    have hd7 : H7 d = some (.dT kvs) := sx7 _ _ (ne_of hd4 hx4 (by intro z; cases z)) hd4
    have hp7 : Paired (MvAt K H7) mv kvs := Paired.imp hp4 fun _ _ z => sx7.mv hx4 rfl z
    refine ⟨_, rfl, d, kvs, mv.map fun m => row2 m.1, rfl, .inl hd7, paired_keys hp7, (fun k hk => by obtain ⟨m, _, rfl⟩ := List.mem_map.mp hk; intro z; cases z), (by have := Paired.length hp7; have := mok.size; rw [sizeLine_eq]; omega), fun l2 cs hl2 hcs => ?_⟩
    generalize hH8 : upd H7 l2 (.lst (cs.map V.ref)) = H8
    have s8 : Same H7 H8 := hH8 ▸ Same.new hl2
    have hl8 : H8 l2 = some (.lst (cs.map V.ref)) := by rw [← hH8]; exact upd_same
    have htb8 := s8 _ _ htb7
    have hx8 := s8 _ _ hx7
    have hcs8 : Paired (fun (k : List PySem.Str) b => H8 b = some (.tup (k.map V.str))) (isort rowLt (mv.map fun m => row2 m.1)) cs := Paired.imp hcs fun _ _ z => s8 _ _ z
    have ndT := sortTab_nodup nd
    have hlT : (sortTab mv).length = mv.length := by rw [sortTab, List.length_map, length_isort, List.length_map]
    have hlc : (sortTab mv).length = cs.length := by rw [← Paired.length hcs, sortTab, List.length_map]
    refine ⟨l2, rfl, ⟨_, SqL.of hl8⟩, for_it walk_lm (fun i σ H => (∃ a b, σ = [some (.ref x), some (.str name), some (.str start), some (.ref e), some (.ref d), a, b]) ∧ SameX tb H8 H ∧ ∃ kvs', H tb = some (.dT kvs') ∧ Paired (TabE K H) ((sortTab mv).take i) kvs')
      ⟨⟨_, _, rfl⟩, SameX.of (Same.refl _), [], htb8, by rw [List.take_zero]; exact .nil⟩ (fun i σ H9 _ q => q.2.1.lq htb8 rfl (SqL.of hl8)) (fun i y σ H10 H9 hi pv yy => ?_) (fun σ H9 pv => ?_)⟩
    · obtain ⟨⟨a, b, rfl⟩, s9, kvs', htb9, hp9⟩ := pv
      obtain ⟨rfl, hy⟩ := yy
      obtain ⟨c, hc⟩ : ∃ c, cs[i]? = some c := ⟨_, List.getElem?_eq_getElem hi⟩
      rw [List.getElem?_map, hc] at hy
      cases Option.some.inj hy
      obtain ⟨k, hk, hkc⟩ := Paired.at hcs8 hc
      obtain ⟨ek, km⟩ := row_sorted (os := mv.map (·.1)) (k := k) (by rw [List.map_map]; exact List.mem_of_getElem? hk)
      obtain ⟨m, hm, em⟩ := List.mem_map.mp km
      have ek' : k = row2 m.1 := by rw [em]; exact ek.symm
      subst ek'
      obtain ⟨j, hj⟩ := List.getElem?_of_mem hm
      have hp10 : Paired (MvAt K H9) mv kvs := Paired.imp hp7 fun _ _ z => s9.mv htb8 rfl (z.same s8)
      obtain ⟨kv, hkv, e1, pp, bs, e2, h3, h4⟩ := Paired.atL hp10 hj
      have ndt : d ≠ tb := fun z => by subst z; rw [h4b] at hd4; cases hd4
      have hd9 : H9 d = some (.dT kvs) := s9 _ _ ndt (s8 _ _ hd7)
      have nct : c ≠ tb := ne_of hkc htb8 (by intro z; cases z)
      have hc9 := s9 _ _ nct hkc
      have hx9 := s9 _ _ ntx.symm hx8
      have hv : valV kvs kv.1 = some kv.2 := valV_at hp10 nd (List.mem_of_getElem? hkv)
      obtain ⟨l8, ll⟩ := outs_len (mok.outs m hm)
      have hbl : bs.length ≤ 8 := by have := Paired.length h4; omega
      walk_at "rd"
      refine ⟨.ref d, rfl, .ref c, rfl, d, .ref pp, rfl, .inr ⟨kvs, [Sum.inr m.1.1, Sum.inr m.1.2], c, .inl hd9, rfl, hc9, by rw [← e1, hv, e2]⟩, pp, rfl, ?_⟩
      have next : ∀ D H10 cs2, Same H9 H10 → H10 D = some (.lst (cs2.map V.ref)) → Paired (fun k b => RowAt K H10 b k) (m.2.map fun o => [o.1, o.2]) cs2 → ∀ l3 cs3, H10 l3 = none → Paired (fun k b => RowAt K H10 b k) (isort rowLt (m.2.map row2)) cs3 → ∀ t3, (upd H10 l3 (.lst (cs3.map V.ref))) t3 = none →
          ∃ G, G = upd (upd H10 l3 (.lst (cs3.map V.ref))) t3 (.tup (cs3.map V.ref)) ∧ G x = some (.ins (kC K) dx (kflds name start t tb)) ∧ ∃ H4, DPut G tb (.ref c) (.ref t3) H4 ∧ SameX tb H8 H4 ∧ ∃ kvs', H4 tb = some (.dT kvs') ∧ Paired (TabE K H4) ((sortTab mv).take (i + 1)) kvs' := by
        intro D H10 cs2 s10 hD10 hc2 l3 cs3 hl3 hp3 t3 ht3
        have sG : Same H9 (upd (upd H10 l3 (.lst (cs3.map V.ref))) t3 (.tup (cs3.map V.ref))) := (s10.trans (Same.new hl3)).trans (Same.new ht3)
        have s10G : Same H10 (upd (upd H10 l3 (.lst (cs3.map V.ref))) t3 (.tup (cs3.map V.ref))) := (Same.new hl3).trans (Same.new ht3)
        have htG : (upd (upd H10 l3 (.lst (cs3.map V.ref))) t3 (.tup (cs3.map V.ref))) t3 = some (.tup (cs3.map V.ref)) := upd_same
        refine ⟨_, rfl, ?_⟩
        generalize (upd (upd H10 l3 (.lst (cs3.map V.ref))) t3 (.tup (cs3.map V.ref))) = G at sG s10G htG
        have htbG := sG _ _ htb9
        have hkl : kvs'.length ≤ 4000 := by
          have := Paired.length hp9
          have := List.length_take_le i (sortTab mv)
          have := mok.size
          omega
        refine ⟨sG _ _ hx9, _, DPut.t (k := [Sum.inr m.1.1, Sum.inr m.1.2]) htbG (sG _ _ hc9) (by rw [sizeLine_eq]; omega), SameX.upd (fun a u n z => sG _ _ (s9 _ _ n z)), _, upd_same, ?_⟩
        have hsk : (sortTab mv)[i]? = some (m.1, sortOuts m.2) := by
          rw [sortTab, List.getElem?_map, hk]
          show some (un2 (row2 m.1), sortOuts ((look mv (un2 (row2 m.1))).getD [])) = _
          rw [un2_row2, look_mem nd hm] <;> rfl
        have sU : SameX tb G (upd G tb (.dT (putK kvs' [Sum.inr m.1.1, Sum.inr m.1.2] (.ref t3)))) := SameX.self
        rw [take_next hsk, putK_new]
        · rw [putK_new] at sU
          · refine Paired.snoc (Paired.imp hp9 fun _ _ z => sU.tab htbG rfl (z.same sG)) ⟨rfl, t3, rfl, cs3, sU.tq htbG rfl (SqT.of htG), ?_⟩
            refine Paired.mapL hp3 fun r hr b hb => ?_
            have := (row_sorted hr).1
            show RowAt K _ b (row2 (un2 r))
            rw [this]
            exact sU.tq htbG rfl (Same.tq s10G hb)
          · exact tab_new (m := (m.1, sortOuts m.2)) ndT hsk hp9
        · exact tab_new (m := (m.1, sortOuts m.2)) ndT hsk hp9
      refine h3.elim (fun h3 => .inl ⟨⟨_, h3⟩, fun D hD => lc_tuples walk_lm hD (fun H2 s2 => Same.seq s2 h3) (by omega) h4 (by simp) (fun H10 cs2 s10 hD10 hc2 => ?_)⟩) (fun h3 => .inr ⟨⟨_, h3⟩, fun D hD => lc_tuples walk_tm hD (fun H2 s2 => Same.tq s2 h3) (by omega) h4 (by simp) (fun H10 cs2 s10 hD10 hc2 => ?_)⟩)
      all_goals
        have hcl : cs2.length ≤ 8 := by rw [← Paired.length hc2, List.length_map]; exact l8
        refine ⟨D, cs2, _, rfl, .inl (SqL.of hD10), (by rw [sizeLine_eq]; omega), hc2, (fun k hk => by obtain ⟨m, _, rfl⟩ := List.mem_map.mp hk; intro z; cases z), fun l3 cs3 hl3 hp3 => ⟨l3, _, rfl, .inl ⟨SqL.of upd_same, fun t3 ht3 => ?_⟩⟩⟩
        obtain ⟨G, eG, hxG, H11, dp, r1, r2⟩ := next D H10 cs2 s10 hD10 hc2 l3 cs3 hl3 hp3 t3 ht3
        rw [← eG]
        exact ⟨_, rfl, x, kC K, dx, _, _, rfl, hxG, T.cl_Kind, T.no_Kind_table, rfl, _, rfl, tb, H11, rfl, dp, ⟨_, _, rfl⟩, r1, r2⟩
    · obtain ⟨⟨a, b, rfl⟩, s9, kvs', htb9, hp9⟩ := pv
      have hp9' : Paired (TabE K H9) (sortTab mv) kvs' := by rw [← hlc, List.take_length] at hp9 <;> exact hp9
      have hx9 := s9 _ _ ntx.symm hx8
      have ht9 : SqT K H9 t ((isort strLt ends).map V.str) := s9.tq htb8 rfl (SqT.of (s8 _ _ htt7))
      have hK : KindAt K H9 x ⟨name, start, isort strLt ends, sortTab mv⟩ := ⟨dx, t, tb, hx9, ht9, kvs', htb9, hp9', ndT, by have := mok.size; show (sortTab mv).length ≤ 4000; omega⟩
      refine ⟨_, rfl, x, dx, _, rfl, hx9, (kflds_no (by decide +kernel)), x, _, rfl, hK, ?_, fun H10 l ys s10 hl hl' up ndy mem => ⟨l, _, rfl, .inl (SqL.of hl'), ?_⟩⟩
      · have h1 : (statesOf ⟨name, start, isort strLt ends, sortTab mv⟩).length = 1 + (ends.length + ((sortTab mv).length + ((sortTab mv).flatMap fun m => m.2.map (·.2)).length)) := by simp [statesOf, length_isort]; omega
        have h2 := outs_sum (sortTab mv) (sortTab_few mok.outs)
        have := mok.size
        omega
      · refine ⟨_, _, rfl, rfl, _, rfl, ?_⟩
        walk_at "rd"
        rw [if_neg]
        · exact q4 H10 (fun a u n z => s10 _ _ (s9 _ _ (ne_of_none z h4b) (s8 _ _ (sx7 _ _ n z)))) (hK.same s10)
        · have := few ys ndy fun y hy => (mem y).mp hy
          simp only [List.length_map, decide_eq_true_eq]
          omega
end
end Rs
set_option Elab.async false
set_option linter.all false
set_option maxRecDepth 100000
set_option maxHeartbeats 2000000
namespace Rs
open PySem PySem.Spec PyProof.Rows L2
local macro_rules | `(tactic| walk_at "rd") => `(tactic| simp only [L2.tRet, L2.tRetN, L2.tSeq, L2.tNext, L2.tIfS, L2.tAsg, L2.gName, L2.gNil, L2.gCons, L2.tVar, L2.tC, L2.tOp, L2.tUn, L2.tCB, L2.tCons, L2.tNil, L2.tAndV, L2.tOrV, L2.tNotV, L2.tAnd, L2.tOr, L2.tNot, L2.tB, L2.tTest, L2.tIf, L2.tChain, L2.tTup, L2.tLst, L2.tDrop, L2.tFld, L2.sFld, L2.tOst, L2.tMkO, L2.start, L2.cxOf, L2.Cx.nox, L2.Cx.wish, L2.rI0, L2.rI, L2.tYes, Rs.tCalW, List.getElem?_cons_zero, List.getElem?_cons_succ, Option.some.injEq, exists_eq_left', exists_eq_left, exists_and_left, List.cons.injEq, and_true, true_and, L2.V.bl.injEq, L2.V.int.injEq, L2.V.str.injEq, L2.V.ref.injEq, List.set_cons_zero, List.set_cons_succ, List.map_cons, List.map_nil, List.length_cons, List.length_nil, List.replicate, List.cons_append, List.nil_append, List.append_nil, Nat.reduceSub, Nat.reduceAdd])

section
variable {P : Program} {w : World} {K : PySem.W.Frag} {mg : PySem.Str → Option Value} {base : Heap}
/-! ### errors with one field -/
def sp_err (C : Addr) (f : PySem.Str) : Sp := fun vs H Q _ => ∃ a y, vs = [.ref a, y] ∧ H a = some (exo a C none) ∧ ∀ dx, H dx = none → dx ≠ a → Q .non (upd (upd H dx (exd dx [(f, y)])) a (exo a C (some dx)))
/-- what is raised: the class, and its one field in a new dict -/
def Raised (C : Addr) (f : PySem.Str) (y : V) (H : Hp) (E : XK) : Prop := ∀ H' d, Same H H' → H d = none → H' d = some (.xd [(f, y)]) → E (.ref C) (some d) H'
theorem Raised.same {C : Addr} {f : PySem.Str} {y : V} {H H1 : Hp} {E : XK} (s : Same H H1) (h : Raised C f y H E) : Raised C f y H1 E := fun H' d s' hd e => h H' d (s.trans s') (s.free hd) e
theorem err_made {C : Addr} {f : PySem.Str} {y : V} {H : Hp} {E : XK} (h : Raised C f y H E) : ∀ a, H a = none → sp_err C f [.ref a, y] (upd H a (exo a C none))
    (fun v H2 => v = .non ∧ ∃ d : Addr, H2 a = some (exo a C (some d)) ∧ ∃ fs : List (PySem.Str × V), H2 d = some (exd d fs) ∧ H d = none ∧ E (.ref C) (some d) (upd (del H2 a) d (.xd fs))) (fun _ _ _ => False) := by
  intro a ha
  refine ⟨a, y, rfl, upd_same, fun dx hdx ne => ⟨rfl, dx, upd_same, _, by rw [upd_ne ne]; exact upd_same, by rw [upd_ne ne] at hdx; exact hdx, ?_⟩⟩
  have hd : H dx = none := by rw [upd_ne ne] at hdx; exact hdx
  refine h _ dx (fun b u e => ?_) hd upd_same
  have nb : b ≠ a := ne_of_none e ha
  have nd : b ≠ dx := ne_of_none e hd
  rw [upd_ne nd, del_ne nb, upd_ne nb, upd_ne nd, upd_ne nb]
  exact e
theorem ok_BadChoices (T : Txt K mg) : CalE P w K mg base 1 (He.ga K "BadChoices") "BadChoices" ["self", "index"] (sp_err (He.ga K "BadChoices") "index") := by
  obtain ⟨fd, F⟩ := T.d_BadChoices_init
  obtain ⟨i1, i2⟩ := ini_ok T.ini_BadChoices
  refine ⟨_, fd, ?_, T.oex_BadChoices, i1, i2, T.g_BadChoices, F.bindsN fun _ _ _ _ _ _ us hl => match us, hl with | [_, _], _ => rfl⟩
  refine F.ok sc_BadChoices_init (fun vs H Q E h => ?_) (fun cdv A outer s H vs Q E hr h => ?_)
  · obtain ⟨a, y, rfl, _⟩ := h
    rfl
  · refine ⟨_, PSs.nox (pss_one (ps_ost (pv 0) (pv 1))), ?_⟩
    obtain ⟨a, y, rfl, ha, q⟩ := h
    exact ⟨y, rfl, _, rfl, a, _, rfl, T.oex_BadChoices, T.no_BadChoices_index, .inl ⟨ha, q⟩⟩
theorem srt_is_int {H : Hp} {v : V} (h : Srt K H v "int") : ∃ z, v = .int z := by
  obtain ⟨ty, _⟩ := h
  generalize ht : Value.type "int" = t at ty
  cases ty with
  | base b => cases b <;> first | exact ⟨_, rfl⟩ | exact absurd (Value.type.inj ht) (by decide) | cases ht
  | _ => exact absurd (Value.type.inj ht) (by decide)
theorem srt_int_eq {H : Hp} {z : Int} {n : String} (h : Srt K H (.int z) n) : n = "int" := by
  cases h.1 with
  | base b => cases b; rfl
/-! ### look_choices -/
def isPick : V → Bool
  | .int i => decide (0 ≤ i)
  | _ => false
theorem pick_not {H : Hp} {v : V} {n : String} (h : Srt K H v n) (hn : n ≠ "int") : isPick v = false := by
  cases v with
  | int z => exact absurd (srt_int_eq h) hn
  | _ => rfl
theorem first_bad : ∀ {xs : List V} {i : Nat} {x : V}, (∀ y ∈ xs.take i, isPick y = true) → xs[i]? = some x → isPick x = false → (xs.findIdx? fun x => !isPick x) = some i
  | [], _, _, _, e, _ => by simp at e
  | y :: xs, 0, x, _, e, hb => by
    simp at e
    subst e
    rw [List.findIdx?_cons, hb] <;> rfl
  | y :: xs, i + 1, x, h, e, hb => by
    have hy : isPick y = true := h y (by simp)
    rw [List.findIdx?_cons, hy, first_bad (xs := xs) (i := i) (fun z hz => h z (by simp [hz])) (by simpa using e) hb] <;> rfl
theorem no_bad {xs : List V} (h : ∀ y ∈ xs, isPick y = true) : (xs.findIdx? fun x => !isPick x) = none := by
  rw [List.findIdx?_eq_none_iff]
  intro y hy
  rw [h y hy] <;> rfl
abbrev badC (K : PySem.W.Frag) : Addr := He.ga K "BadChoices"
def sp_look (K : PySem.W.Frag) : Sp := fun vs H Q E => ∃ v, vs = [v] ∧
  ((∃ n, Srt K H v n ∧ isRow n = false ∧ Raised (badC K) "index" (.int (-1)) H E) ∨
   ∃ p xs, v = .ref p ∧ SqR K H p xs ∧ (∀ x ∈ xs, ∃ n, Srt K H x n) ∧ match xs.findIdx? fun x => !isPick x with
    | none => ∀ H', Same H H' → Q .non H'
    | some i => Raised (badC K) "index" (.int (i : Nat)) H E)
theorem ok_look (T : Txt K mg) : Cal P w K mg base 3 "look_choices" ["choices"] (sp_look K) := by
  have c_is_row := ok_is_row (P := P) (w := w) (base := base) T
  have c_is_integer := ok_is_integer (P := P) (w := w) (base := base) T
  have c_BadChoices := ok_BadChoices (P := P) (w := w) (base := base) T
  obtain ⟨fd, F⟩ := T.d_look_choices
  refine cal_of F T.g_look_choices (F.bindsN fun _ _ _ _ _ _ us hl => match us, hl with | [_], _ => rfl) ?_
  refine F.ok sc_look_choices (fun vs H Q E h => ?_) (fun cdv A outer s H vs Q E hr h => ?_)
  · obtain ⟨v, rfl, _⟩ := h
    rfl
  · refine ⟨_, (pss_cons (ps_if (pt_not (pt_val (pe_cal c_is_row (hr.mono (by decide)) (takes_of rfl rfl rfl rfl) (pa_cons (pv 0) pa_nil)))) (pss_one (ps_cale c_BadChoices (hr.mono (by decide)) (takes_of rfl rfl rfl rfl) (pa_cons (pe_un un_neg pe_int) pa_nil))) pss_nil)
      (pss_one (ps_for (passes_of rfl) rfl (pi_enumQ rfl T.b_enumerate (pa_cons (pv 0) pa_nil)) (pg_tup rfl (pgs_cons (pg_name (i := 1) sc_look_choices.nd rfl (Or.inl rfl)) (pgs_cons (pg_name (i := 2) sc_look_choices.nd rfl (Or.inl rfl)) pgs_nil)))
      (pss_one (ps_if (PW.pt (pw_or (pt_not (pt_val (pe_cal c_is_integer (hr.mono (by decide)) (takes_of rfl rfl rfl rfl) (pa_cons (pv 2) pa_nil)))) (pw_or1 (pt_cmpR op_lt (pv 2) pe_int (nomark _))))) (pss_one (ps_cale c_BadChoices (hr.mono (by decide)) (takes_of rfl rfl rfl rfl) (pa_cons (pv 1) pa_nil))) pss_nil))))), ?_⟩
    obtain ⟨v, rfl, h⟩ := h
    walk_at "rd"
    rcases h with ⟨n, sr, hn, r⟩ | ⟨p, xs, rfl, hp, hx, r⟩
    · refine ⟨_, n, rfl, sr, fun H1 s1 => ⟨_, rfl, ?_⟩⟩
      rw [if_pos (by rw [hn]; rfl)]
      exact ⟨1, rfl, by decide, err_made (Raised.same s1 r)⟩
    · obtain ⟨n', sr', hn'⟩ := hp.srt
      refine ⟨_, n', rfl, sr', fun H1 s1 => ⟨_, rfl, ?_⟩⟩
      rw [if_neg (by rw [hn']; decide)]
      have turn : ∀ (i : Nat) (y : V) (σ : L2.St) (H2 H3 : Hp), i < xs.length → ((∃ a b, σ = [some (.ref p), a, b]) ∧ Same H H2 ∧ ∀ x ∈ xs.take i, isPick x = true) → YPair (fun i => some (.int (i : Nat))) (fun i => xs[i]?) i H2 y H3 →
          ∃ T x, y = .ref T ∧ σ.length = 3 ∧ (∃ a b, σ = [some (.ref p), a, b]) ∧ xs[i]? = some x ∧ H3 T = some (.tup [.int (i : Nat), x]) ∧ Same H H3 ∧ (∃ n, Srt K H3 x n) ∧ (isPick x = true → ∀ x ∈ xs.take (i + 1), isPick x = true) ∧ (isPick x = false → Raised (badC K) "index" (.int (i : Nat)) H E) := by
        rintro i y σ H2 H3 hi ⟨⟨a, b, rfl⟩, s2, hall⟩ ⟨T, x0, x, rfl, hT, rfl, e0, ex⟩
        cases Option.some.inj e0
        obtain ⟨m, hm⟩ := hx x (List.mem_of_getElem? ex)
        have s3 : Same H (upd H2 T (.tup [.int (i : Nat), x])) := s2.trans (Same.new hT)
        refine ⟨T, x, rfl, rfl, ⟨a, b, rfl⟩, ex, upd_same, s3, ⟨m, Srt.same s3 hm⟩, fun hb z hz => ?_, fun hb => ?_⟩
        · rw [take_next ex, List.mem_append, List.mem_singleton] at hz
          rcases hz with hz | rfl
          · exact hall z hz
          · exact hb
        · rw [first_bad hall ex hb] at r
          exact r
      have last : (∀ x ∈ xs.take xs.length, isPick x = true) → ∀ H', Same H H' → Q .non H' := by
        intro hall
        rw [List.take_length] at hall
        rw [no_bad hall] at r
        exact r
      have h0 : ∀ x ∈ xs.take 0, isPick x = true := fun x hx => by rw [List.take_zero] at hx; cases hx
      rcases hp with hp | hp
      · refine ⟨_, rfl, p, rfl, .inl ⟨⟨_, Same.seq s1 hp⟩, for_it walk_enum (fun i σ H2 => (∃ a b, σ = [some (.ref p), a, b]) ∧ Same H H2 ∧ ∀ x ∈ xs.take i, isPick x = true) ⟨⟨_, _, rfl⟩, s1, h0⟩ (fun i σ H2 _ q => Same.seq q.2.1 hp) (fun i y σ H2 H3 hi pv yy => ?_) (fun σ H2 pv => last pv.2.2 _ pv.2.1)⟩⟩
        obtain ⟨T, x, rfl, _, ⟨a, b, rfl⟩, ex, hT, s3, ⟨m, sm⟩, good, bad⟩ := turn i y σ H2 H3 hi pv yy
        refine ⟨T, [.int (i : Nat), x], rfl, SqT.of hT, rfl, _, _, rfl, _, _, rfl, rfl, ?_⟩
        walk_at "rd"
        refine ⟨x, m, rfl, sm, _, rfl, ?_⟩
        by_cases hm : m = "int"
        · subst hm
          obtain ⟨z, rfl⟩ := srt_is_int sm
          rw [if_neg (by decide)]
          refine ⟨z, rfl, ?_⟩
          by_cases hz : z < 0
          · rw [if_pos (decide_eq_true hz)]
            exact ⟨by decide, err_made (Raised.same s3 (bad (decide_eq_false (by omega))))⟩
          · rw [if_neg (by simpa using hz)]
            exact ⟨⟨_, rfl⟩, s3, good (decide_eq_true (by omega))⟩
        · rw [if_pos (by rw [decide_eq_false hm]; rfl), if_pos trivial]
          exact ⟨by decide, err_made (Raised.same s3 (bad (pick_not sm hm)))⟩
      · refine ⟨_, rfl, p, rfl, .inr ⟨⟨_, Same.tq s1 hp⟩, for_it walk_enumT (fun i σ H2 => (∃ a b, σ = [some (.ref p), a, b]) ∧ Same H H2 ∧ ∀ x ∈ xs.take i, isPick x = true) ⟨⟨_, _, rfl⟩, s1, h0⟩ (fun i σ H2 _ q => Same.tq q.2.1 hp) (fun i y σ H2 H3 hi pv yy => ?_) (fun σ H2 pv => last pv.2.2 _ pv.2.1)⟩⟩
        obtain ⟨T, x, rfl, _, ⟨a, b, rfl⟩, ex, hT, s3, ⟨m, sm⟩, good, bad⟩ := turn i y σ H2 H3 hi pv yy
        refine ⟨T, [.int (i : Nat), x], rfl, SqT.of hT, rfl, _, _, rfl, _, _, rfl, rfl, ?_⟩
        walk_at "rd"
        refine ⟨x, m, rfl, sm, _, rfl, ?_⟩
        by_cases hm : m = "int"
        · subst hm
          obtain ⟨z, rfl⟩ := srt_is_int sm
          rw [if_neg (by decide)]
          refine ⟨z, rfl, ?_⟩
          by_cases hz : z < 0
          · rw [if_pos (decide_eq_true hz)]
            exact ⟨by decide, err_made (Raised.same s3 (bad (decide_eq_false (by omega))))⟩
          · rw [if_neg (by simpa using hz)]
            exact ⟨⟨_, rfl⟩, s3, good (decide_eq_true (by omega))⟩
        · rw [if_pos (by rw [decide_eq_false hm]; rfl), if_pos trivial]
          exact ⟨by decide, err_made (Raised.same s3 (bad (pick_not sm hm)))⟩
end
end Rs
set_option Elab.async false
set_option linter.all false
set_option maxRecDepth 100000
set_option maxHeartbeats 2000000
namespace Rs
open PySem PySem.Spec PyProof.Rows L2
local macro_rules | `(tactic| walk_at "rd") => `(tactic| simp only [L2.tRet, L2.tRetN, L2.tSeq, L2.tNext, L2.tIfS, L2.tAsg, L2.gName, L2.gNil, L2.gCons, L2.tVar, L2.tC, L2.tOp, L2.tUn, L2.tCB, L2.tCons, L2.tNil, L2.tAndV, L2.tOrV, L2.tNotV, L2.tAnd, L2.tOr, L2.tNot, L2.tB, L2.tTest, L2.tIf, L2.tChain, L2.tTup, L2.tLst, L2.tDrop, L2.tFld, L2.sFld, L2.tOst, L2.tMkO, L2.start, L2.cxOf, L2.Cx.nox, L2.Cx.wish, L2.rI0, L2.rI, L2.tYes, Rs.tCalW, List.getElem?_cons_zero, List.getElem?_cons_succ, Option.some.injEq, exists_eq_left', exists_eq_left, exists_and_left, List.cons.injEq, and_true, true_and, L2.V.bl.injEq, L2.V.int.injEq, L2.V.str.injEq, L2.V.ref.injEq, List.set_cons_zero, List.set_cons_succ, List.map_cons, List.map_nil, List.length_cons, List.length_nil, List.replicate, List.cons_append, List.nil_append, List.append_nil, Nat.reduceSub, Nat.reduceAdd])

section
variable {P : Program} {w : World} {K : PySem.W.Frag} {mg : PySem.Str → Option Value} {base : Heap}
def rListOf (K : PySem.W.Frag) : List V → Hp → VK → Prop := fun xs H Q => ∃ p ys, xs = [.ref p] ∧ (SqL K H p ys ∨ SqT K H p ys) ∧ ∀ l, H l = none → Q (.ref l) (upd H l (.lst ys))
theorem call_listOf {X : Cx} : CallR X (.type "list") (rListOf X.K) := call_list_of
/-! ### a live one, as it stands -/
abbrev lC (K : PySem.W.Frag) : Addr := He.ga K "Live"
abbrev lflds (k : Addr) (now : PySem.Str) (pa : Addr) (n : Int) (sa : Addr) (d : Int) : List (PySem.Str × V) := [("own_kind", .ref k), ("now", .str now), ("picks", .ref pa), ("picked", .int n), ("said", .ref sa), ("inside", .int d)]
def sp_live (K : PySem.W.Frag) : Sp := fun vs H Q E => ∃ (x k : Addr) (v : V) (kd : KD) (dx : Addr), vs = [.ref x, .ref k, v] ∧ H x = some (.ins (lC K) dx []) ∧ KindAt K H k kd ∧
  ((∃ n, Srt K H v n ∧ isRow n = false ∧ Raised (badC K) "index" (.int (-1)) H E) ∨
   ∃ p xs, v = .ref p ∧ SqR K H p xs ∧ (∀ x ∈ xs, ∃ n, Srt K H x n) ∧ match xs.findIdx? fun x => !isPick x with
    | none => ∀ H' pa sa, pa ≠ sa → SameX x H H' → H pa = none → H sa = none → H' x = some (.ins (lC K) dx (lflds k kd.start pa 0 sa 0)) → H' pa = some (.lst xs) → H' sa = some (.lst []) → Q .non H'
    | some i => Raised (badC K) "index" (.int (i : Nat)) H E)
theorem SameX.kind {x : Addr} {H H' : Hp} {C dx : Addr} {fs : List (PySem.Str × V)} {k : Addr} {kd : KD} (h : SameX x H H') (hx : H x = some (.ins C dx fs)) (hC : C ≠ kC K) (q : KindAt K H k kd) : KindAt K H' k kd := by
  obtain ⟨d, e, tb, h1, h2, kvs, h3, h4, h5⟩ := q
  have nk : k ≠ x := fun z => by subst z; rw [h1] at hx; cases Option.some.inj hx; exact hC rfl
  have nt : tb ≠ x := ne_of h3 hx (by intro z; cases z)
  exact ⟨d, e, tb, h _ _ nk h1, h.tq hx rfl h2, kvs, h _ _ nt h3, Paired.imp h4 fun _ _ z => h.tab hx rfl z, h5⟩
/-- unlike defs stand at unlike places -/
theorem funD_ne {x x' q q' : PySem.Str} {pa pa' : Arguments} {bo bo' : List Stmt} {sc sc' : Scope} {dv dv' : List V} {kw kw' : List (PySem.Str × V)} {f f' : Addr} {fd fd' : FuncData} (F : FunD K x q pa bo sc dv kw f fd) (G : FunD K x' q' pa' bo' sc' dv' kw' f' fd') (h : sc.names.length ≠ sc'.names.length) : f ≠ f' := by
  rintro rfl
  obtain ⟨_, _, _, _, _, _, _, _, _, _, rfl, l1, _⟩ := F.ex
  obtain ⟨_, _, _, _, _, _, _, _, _, _, rfl, l2, _⟩ := G.ex
  rw [l1] at l2
  cases Option.some.inj l2
  exact h rfl
theorem live_kind (T : Txt K mg) : lC K ≠ kC K := by
  intro e
  obtain ⟨_, F⟩ := T.d_Live_init
  obtain ⟨_, G⟩ := T.d_Kind_init
  exact funD_ne F G (by decide +kernel) (congrArg (fun C => He.ma K C "__init__") e)
theorem ok_live (T : Txt K mg) : CalI P w K mg base 4 (lC K) "Live" ["self", "kind", "picks"] (sp_live K) := by
  have c_look_choices := ok_look (P := P) (w := w) (base := base) T
  have c_start := ok_start (P := P) (w := w) (base := base) T
  have hC := live_kind T
  obtain ⟨fd, F⟩ := T.d_Live_init
  obtain ⟨ds, hds, hb⟩ := F.binds1 (ps := ["self", "kind", "picks"]) 3 1 (by simp) rfl (fun T kV doc pm an cdv ct us its hl h2 => match us, hl, its, h2 with | [_, _, _], _, [_], _ => ⟨_, rfl, rfl⟩)
  cases hds
  refine ⟨_, fd, ?_, T.mk_Live, T.g_Live, hb⟩
  refine F.ok sc_Live_init (fun vs H Q E h => ?_) (fun cdv A outer s H vs Q E hr h => ?_)
  · obtain ⟨x, k, v, kd, dx, rfl, _⟩ := h
    rfl
  · refine ⟨_, (pss_cons (ps_expr (pe_cal c_look_choices (hr.mono (by decide)) (takes_of rfl rfl rfl rfl) (pa_cons (pv 2) pa_nil)))
      (pss_cons (ps_fld (pv 0) (pv 1) rfl)
      (pss_cons (ps_fld (pv 0) (pe_calp c_start T.cl_Kind (hr.mono (by decide)) (pv 1)) rfl)
      (pss_cons (ps_fld (pv 0) (pe_callTy (r := rListOf K) call_listOf rfl T.b_list (by decide +kernel) (pa_cons (pv 2) pa_nil)) rfl)
      (pss_cons (ps_fld (pv 0) pe_int rfl)
      (pss_cons (ps_fld (pv 0) (pe_lst pa_nil) rfl)
      (pss_one (ps_fld (pv 0) pe_int rfl)))))))), ?_⟩
    obtain ⟨x, k, v, kd, dx, rfl, hx, hk, h⟩ := h
    walk_at "rd"
    rcases h with ⟨n, sr, hn, r⟩ | ⟨p, xs, rfl, hp, hs, r⟩
    · exact ⟨v, rfl, .inl ⟨n, sr, hn, r⟩⟩
    refine ⟨_, rfl, .inr ⟨p, xs, rfl, hp, hs, ?_⟩⟩
    cases e : xs.findIdx? fun x => !isPick x with
    | some i =>
      rw [e] at r
      exact r
    | none =>
      rw [e] at r
      intro H1 s1
      have hx1 := s1 _ _ hx
      have hk1 := hk.same s1
      have sx2 : SameX x H1 (upd H1 x (.ins (lC K) dx (putF "own_kind" (V.ref k) []))) := SameX.self
      refine ⟨lC K, dx, _, hx1, T.cl_Live, T.no_Live_own_kind, (by decide), ?_⟩
      have hk2 := sx2.kind hx1 hC hk1
      obtain ⟨dk, ea, tb, hki, _⟩ := id hk2
      refine ⟨_, rfl, k, dk, _, rfl, hki, k, kd, rfl, hk2, ?_⟩
      refine ⟨lC K, dx, _, upd_same, T.cl_Live, T.no_Live_now, (by show 1 < 1000; decide), ?_⟩
      have sx3 : SameX x H1 (upd (upd H1 x (.ins (lC K) dx (putF "own_kind" (V.ref k) []))) x (.ins (lC K) dx (putF "now" (V.str kd.start) (putF "own_kind" (V.ref k) [])))) := sx2.upd
      have hx3 : (upd (upd H1 x (.ins (lC K) dx (putF "own_kind" (V.ref k) []))) x (.ins (lC K) dx (putF "now" (V.str kd.start) (putF "own_kind" (V.ref k) [])))) x = some (.ins (lC K) dx (putF "now" (V.str kd.start) (putF "own_kind" (V.ref k) []))) := upd_same
      generalize (upd (upd H1 x (.ins (lC K) dx (putF "own_kind" (V.ref k) []))) x (.ins (lC K) dx (putF "now" (V.str kd.start) (putF "own_kind" (V.ref k) [])))) = H3 at sx3 hx3
      have sX : SameX x H H3 := (SameX.of s1).trans sx3
      have hp3 := sX.rq hx rfl hp
      refine ⟨p, xs, rfl, hp3, fun pa hpa => ?_⟩
      have npx : x ≠ pa := ne_of_none hx3 hpa
      refine ⟨lC K, dx, _, by rw [upd_ne npx]; exact hx3, T.cl_Live, T.no_Live_picks, (by show 2 < 1000; decide), lC K, dx, _, upd_same, T.cl_Live, T.no_Live_picked, (by show 3 < 1000; decide), Nat.zero_le _, fun sa hsa => ?_⟩
      have nsx : x ≠ sa := fun z => by subst z; rw [upd_same] at hsa; cases hsa
      rw [upd_ne nsx.symm, upd_ne nsx.symm] at hsa
      have nsp : pa ≠ sa := fun z => by subst z; rw [upd_same] at hsa; cases hsa
      rw [upd_ne nsp.symm] at hsa
      refine ⟨lC K, dx, _, by rw [upd_ne nsx]; exact upd_same, T.cl_Live, T.no_Live_said, (by show 4 < 1000; decide), lC K, dx, _, upd_same, T.cl_Live, T.no_Live_inside, (by show 5 < 1000; decide), ?_⟩
      have fr : ∀ {a : Addr}, a ≠ x → H3 a = none → H a = none := fun {a} n z => by
        cases q : H a with
        | none => rfl
        | some u => rw [sX _ _ n q] at z; cases z
      refine r _ pa sa nsp (fun a u n z => ?_) (fr npx.symm hpa) (fr nsx.symm hsa) upd_same ?_ ?_
      · rw [upd_ne n, upd_ne n, upd_ne (ne_of_none (sX _ _ n z) hsa), upd_ne n, upd_ne n, upd_ne (ne_of_none (sX _ _ n z) hpa)]
        exact sX _ _ n z
      · rw [upd_ne npx.symm, upd_ne npx.symm, upd_ne nsp, upd_ne npx.symm, upd_ne npx.symm]
        exact upd_same
      · rw [upd_ne nsx.symm, upd_ne nsx.symm]
        exact upd_same
end
end Rs
set_option Elab.async false
set_option linter.all false
set_option maxRecDepth 100000
set_option maxHeartbeats 2000000
namespace Rs
open PySem PySem.Spec PyProof.Rows L2
local macro_rules | `(tactic| walk_at "rd") => `(tactic| simp only [L2.tRet, L2.tRetN, L2.tSeq, L2.tNext, L2.tIfS, L2.tAsg, L2.gName, L2.gNil, L2.gCons, L2.tVar, L2.tC, L2.tOp, L2.tUn, L2.tCB, L2.tCons, L2.tNil, L2.tAndV, L2.tOrV, L2.tNotV, L2.tAnd, L2.tOr, L2.tNot, L2.tB, L2.tTest, L2.tIf, L2.tChain, L2.tTup, L2.tLst, L2.tDrop, L2.tFld, L2.sFld, L2.tOst, L2.tMkO, L2.start, L2.cxOf, L2.Cx.nox, L2.Cx.wish, L2.rI0, L2.rI, L2.tYes, Rs.tCalW, List.getElem?_cons_zero, List.getElem?_cons_succ, Option.some.injEq, exists_eq_left', exists_eq_left, exists_and_left, List.cons.injEq, and_true, true_and, L2.V.bl.injEq, L2.V.int.injEq, L2.V.str.injEq, L2.V.ref.injEq, List.set_cons_zero, List.set_cons_succ, List.map_cons, List.map_nil, List.length_cons, List.length_nil, List.replicate, List.cons_append, List.nil_append, List.append_nil, Nat.reduceSub, Nat.reduceAdd])

section
variable {P : Program} {w : World} {K : PySem.W.Frag} {mg : PySem.Str → Option Value} {base : Heap}
theorem ok_Met (T : Txt K mg) : CalE P w K mg base 1 (He.ga K "Met") "Met" ["self", "error"] (sp_err (He.ga K "Met") "error") := by
  obtain ⟨fd, F⟩ := T.d_Met_init
  obtain ⟨i1, i2⟩ := ini_ok T.ini_Met
  refine ⟨_, fd, ?_, T.oex_Met, i1, i2, T.g_Met, F.bindsN fun _ _ _ _ _ _ us hl => match us, hl with | [_, _], _ => rfl⟩
  refine F.ok sc_Met_init (fun vs H Q E h => ?_) (fun cdv A outer s H vs Q E hr h => ?_)
  · obtain ⟨a, y, rfl, _⟩ := h
    rfl
  · refine ⟨_, PSs.nox (pss_one (ps_ost (pv 0) (pv 1))), ?_⟩
    obtain ⟨a, y, rfl, ha, q⟩ := h
    exact ⟨y, rfl, _, rfl, a, _, rfl, T.oex_Met, T.no_Met_error, .inl ⟨ha, q⟩⟩
/-! ### left, told, in -/
def sp_left (K : PySem.W.Frag) : Sp := fun vs H Q _ => ∃ x dx k now pa n sa d xs, vs = [.ref x] ∧ H x = some (.ins (lC K) dx (lflds k now pa n sa d)) ∧ H pa = some (.lst xs) ∧ Q (.int ((xs.length : Int) - n)) H
theorem ok_left (T : Txt K mg) : CalP P w K mg base 1 (lC K) "left" (sp_left K) := by
  obtain ⟨fd, F⟩ := T.d_Live_left
  refine ⟨_, _, fd, ?_, T.pr_Live_left, F.bindsN fun _ _ _ _ _ _ us hl => match us, hl with | [_], _ => rfl⟩
  refine F.ok sc_Live_left (fun vs H Q E h => ?_) (fun cdv A outer s H vs Q E hr h => ?_)
  · obtain ⟨x, dx, k, now, pa, n, sa, d, xs, rfl, _⟩ := h
    rfl
  · refine ⟨_, PSs.nox (pss_one (ps_ret (pe_op op_sub (pe_callB (r := rLenQ K) call_lenQ rfl T.b_len (by decide +kernel) (pa_cons (pe_fld (pv 0) rfl) pa_nil)) (pe_fld (pv 0) rfl)))), ?_⟩
    obtain ⟨x, dx, k, now, pa, n, sa, d, xs, rfl, hx, hp, q⟩ := h
    walk_at "rd"
    exact ⟨lC K, dx, _, hx, T.cl_Live, T.no_Live_picks, _, rfl, pa, xs, rfl, .inl (SqL.of hp), lC K, dx, _, hx, T.cl_Live, T.no_Live_picked, _, rfl, _, rfl, _, rfl, q⟩
def sp_told (K : PySem.W.Frag) : Sp := fun vs H Q _ => ∃ x dx k now pa n sa d xs, vs = [.ref x] ∧ H x = some (.ins (lC K) dx (lflds k now pa n sa d)) ∧ H sa = some (.lst xs) ∧ ∀ l, H l = none → Q (.ref l) (upd H l (.lst xs))
theorem ok_told (T : Txt K mg) : CalM P w K mg base 1 (lC K) "told" ["self"] (sp_told K) := by
  obtain ⟨fd, F⟩ := T.d_Live_told
  refine ⟨_, fd, ?_, T.me_Live_told, F.bindsN fun _ _ _ _ _ _ us hl => match us, hl with | [_], _ => rfl⟩
  refine F.ok sc_Live_told (fun vs H Q E h => ?_) (fun cdv A outer s H vs Q E hr h => ?_)
  · obtain ⟨x, dx, k, now, pa, n, sa, d, xs, rfl, _⟩ := h
    rfl
  · refine ⟨_, PSs.nox (pss_one (ps_ret (pe_callTy (r := rListOf K) call_listOf rfl T.b_list (by decide +kernel) (pa_cons (pe_fld (pv 0) rfl) pa_nil)))), ?_⟩
    obtain ⟨x, dx, k, now, pa, n, sa, d, xs, rfl, hx, hp, q⟩ := h
    walk_at "rd"
    exact ⟨lC K, dx, _, hx, T.cl_Live, T.no_Live_said, _, rfl, sa, xs, rfl, .inl (SqL.of hp), q⟩
def may (kd : KD) (now m : PySem.Str) : Bool := (isName (.str now) && isName (.str m)) && (look kd.tab (now, m)).isSome
def sp_lcontains (K : PySem.W.Frag) : Sp := fun vs H Q _ => ∃ x dx k now pa n sa d kd m, vs = [.ref x, .str m] ∧ H x = some (.ins (lC K) dx (lflds k now pa n sa d)) ∧ KindAt K H k kd ∧ now.length ≤ sizeLine ∧ m.length ≤ sizeLine ∧ ∀ H', Same H H' → Q (.bl (may kd now m)) H'
theorem ok_lcontains (T : Txt K mg) : CalD P w K mg base 5 (lC K) "__contains__" ["self", "method"] (sp_lcontains K) := by
  have c_contains := ok_contains (P := P) (w := w) (base := base) T
  obtain ⟨fd, F⟩ := T.d_Live_contains
  refine ⟨_, fd, ?_, T.du_Live_contains, F.bindsN fun _ _ _ _ _ _ us hl => match us, hl with | [_, _], _ => rfl⟩
  refine F.ok sc_Live_contains (fun vs H Q E h => ?_) (fun cdv A outer s H vs Q E hr h => ?_)
  · obtain ⟨x, dx, k, now, pa, n, sa, d, kd, m, rfl, _⟩ := h
    rfl
  · refine ⟨_, PSs.nox (pss_one (ps_ret (pe_and (pe_callB (r := rIsi K) call_isi rfl T.b_isinstance (by decide +kernel) (pa_cons (pv 1) (pa_cons (pe_bltn (v := .ty "str") rfl T.b_str (by decide +kernel) rfl) pa_nil))) (pe_one (pe_cmpR (op_calin c_contains (hr.mono (by decide))) (pe_tup (pa_cons (pe_fld (pv 0) rfl) (pa_cons (pv 1) pa_nil))) (pe_fld (pv 0) rfl) rfl))))), ?_⟩
    obtain ⟨x, dx, k, now, pa, n, sa, d, kd, m, rfl, hx, hk, l1, l2, q⟩ := h
    walk_at "rd"
    refine isi_is (srt_str m) (by decide) ⟨_, rfl, ?_⟩
    rw [if_pos (by decide)]
    refine ⟨lC K, dx, _, hx, T.cl_Live, T.no_Live_now, _, rfl, (by decide), fun b hb => ?_⟩
    have s1 : Same H (upd H b (.tup [.str now, .str m])) := Same.new hb
    have hk1 := hk.same s1
    obtain ⟨dk, ea, tb, hki, _⟩ := id hk1
    refine ⟨lC K, dx, _, s1 _ _ hx, T.cl_Live, T.no_Live_own_kind, _, rfl, ?_⟩
    exact ⟨k, dk, _, rfl, hki, k, kd, b, now, m, rfl, hk1, upd_same, l1, l2, fun H' s2 => ⟨_, rfl, q H' (s1.trans s2)⟩⟩
end
end Rs
set_option Elab.async false
set_option linter.all false
set_option maxRecDepth 100000
set_option maxHeartbeats 2000000
namespace Rs
open PySem PySem.Spec PyProof.Rows L2
local macro_rules | `(tactic| walk_at "rd") => `(tactic| simp only [L2.tRet, L2.tRetN, L2.tSeq, L2.tNext, L2.tIfS, L2.tAsg, L2.gName, L2.gNil, L2.gCons, L2.tVar, L2.tC, L2.tOp, L2.tUn, L2.tCB, L2.tCons, L2.tNil, L2.tAndV, L2.tOrV, L2.tNotV, L2.tAnd, L2.tOr, L2.tNot, L2.tB, L2.tTest, L2.tIf, L2.tChain, L2.tTup, L2.tLst, L2.tDrop, L2.tFld, L2.sFld, L2.tOst, L2.tMkO, L2.start, L2.cxOf, L2.Cx.nox, L2.Cx.wish, L2.rI0, L2.rI, L2.tYes, Rs.tCalW, List.getElem?_cons_zero, List.getElem?_cons_succ, Option.some.injEq, exists_eq_left', exists_eq_left, exists_and_left, List.cons.injEq, and_true, true_and, L2.V.bl.injEq, L2.V.int.injEq, L2.V.str.injEq, L2.V.ref.injEq, List.set_cons_zero, List.set_cons_succ, List.map_cons, List.map_nil, List.length_cons, List.length_nil, List.replicate, List.cons_append, List.nil_append, List.append_nil, Nat.reduceSub, Nat.reduceAdd])

section
variable {P : Program} {w : World} {K : PySem.W.Frag} {mg : PySem.Str → Option Value} {base : Heap}
/-! ### a call -/
def takes? (os : Outs) (ps : List Int) (n : Nat) : Bool := decide (1 < os.length) && decide (n < ps.length)
def optOf (os : Outs) (ps : List Int) (n : Nat) : Nat := if takes? os ps n = true then (ps.getD n 0 % os.length).toNat else 0
def nextN (os : Outs) (ps : List Int) (n : Nat) : Nat := if takes? os ps n = true then n + 1 else n
def answers (o : PySem.Str × PySem.Str) : Bool := decide (o.1 = "yes") || decide (o.1 = "no")
def sp_lcall (K : PySem.W.Frag) : Sp := fun vs H Q E => ∃ (x dx k : Addr) (now : PySem.Str) (pa : Addr) (n : Nat) (sa : Addr) (d : Int) (kd : KD) (m : PySem.Str) (ps : List Int) (said : List V) (os : Outs) (o : PySem.Str × PySem.Str),
  vs = [.ref x, .str m] ∧ H x = some (.ins (lC K) dx (lflds k now pa n sa d)) ∧ H pa = some (.lst (ps.map V.int)) ∧ H sa = some (.lst said) ∧ pa ≠ sa ∧ said.length ≤ 4000 ∧ KindAt K H k kd ∧ isName (.str now) = true ∧ isName (.str m) = true ∧
  look kd.tab (now, m) = some os ∧ os[optOf os ps n]? = some o ∧
  ∀ H' t, (∀ a u, a ≠ x → a ≠ sa → H a = some u → H' a = some u) → KindAt K H' k kd → H' x = some (.ins (lC K) dx (lflds k o.2 pa (nextN os ps n) sa d)) → H' sa = some (.lst (said ++ [.ref t])) → H' t = some (.tup [.str now, .str m, .str o.1, .str o.2]) → H t = none →
    if answers o = true then Q (.bl (decide (o.1 = "yes"))) H' else Raised (He.ga K "Met") "error" (.str o.1) H' E
theorem kind_lst {H : Hp} {a k : Addr} {xs ys : List V} {kd : KD} (ha : H a = some (.lst xs)) (q : KindAt K H k kd) : KindAt K (upd H a (.lst ys)) k kd := by
  obtain ⟨d, e, tb, h1, h2, kvs, h3, h4, h5⟩ := q
  refine ⟨d, e, tb, by rw [upd_ne (ne_of h1 ha (by intro z; cases z))]; exact h1, tq_upd ha h2, kvs, by rw [upd_ne (ne_of h3 ha (by intro z; cases z))]; exact h3, Paired.imp h4 fun _ _ z => ?_, h5⟩
  obtain ⟨z1, t, z2, cs, z3, z4⟩ := z
  exact ⟨z1, t, z2, cs, tq_upd ha z3, Paired.imp z4 fun _ _ y => tq_upd ha y⟩
theorem ok_lcall (T : Txt K mg) : CalD P w K mg base 6 (lC K) "__call__" ["self", "method"] (sp_lcall K) := by
  have c_lcontains := ok_lcontains (P := P) (w := w) (base := base) T
  have c_getitem := ok_getitem (P := P) (w := w) (base := base) T
  have c_Met := ok_Met (P := P) (w := w) (base := base) T
  have hC := live_kind T
  obtain ⟨fd, F⟩ := T.d_Live_call
  refine ⟨_, fd, ?_, T.du_Live_call, F.bindsN fun _ _ _ _ _ _ us hl => match us, hl with | [_, _], _ => rfl⟩
  refine F.ok sc_Live_call (fun vs H Q E h => ?_) (fun cdv A outer s H vs Q E hr h => ?_)
  · obtain ⟨x, dx, k, now, pa, n, sa, d, kd, m, ps, said, os, o, rfl, _⟩ := h
    rfl
  · refine ⟨_, (pss_cons (ps_if (pt_cmpR (op_calnot c_lcontains (hr.mono (by decide))) (pv 1) (pv 0) rfl) (pss_one ps_never) pss_nil)
      (pss_cons (ps_set (i := 2) sc_Live_call.nd rfl (Or.inl rfl) (pe_calsub c_getitem (hr.mono (by decide)) (pe_fld (pv 0) rfl) (pe_tup (pa_cons (pe_fld (pv 0) rfl) (pa_cons (pv 1) pa_nil)))))
      (pss_cons (ps_if (pt_cmpR op_eq (pe_callB (r := rLenQ K) call_lenQ rfl T.b_len (by decide +kernel) (pa_cons (pv 2) pa_nil)) pe_int (nomark _)) (pss_one ps_never) pss_nil)
      (pss_cons (ps_set (i := 3) sc_Live_call.nd rfl (Or.inl rfl) pe_int)
      (pss_cons (ps_if (PW.pt (pw_and (pt_cmpR op_gt (pe_callB (r := rLenQ K) call_lenQ rfl T.b_len (by decide +kernel) (pa_cons (pv 2) pa_nil)) pe_int (nomark _)) (pw_and1 (pt_cmpR op_lt (pe_fld (pv 0) rfl) (pe_callB (r := rLenQ K) call_lenQ rfl T.b_len (by decide +kernel) (pa_cons (pe_fld (pv 0) rfl) pa_nil)) (nomark _))))) (pss_cons (ps_set (i := 3) sc_Live_call.nd rfl (Or.inl rfl) (pe_op op_mod (pe_ix (r := rIxL K) ix_list (pe_fld (pv 0) rfl) (pe_fld (pv 0) rfl) (fun _ _ => rfl)) (pe_callB (r := rLenQ K) call_lenQ rfl T.b_len (by decide +kernel) (pa_cons (pv 2) pa_nil))))
      (pss_one (ps_fld (pv 0) (pe_op op_add (pe_fld (pv 0) rfl) pe_int) rfl))) pss_nil)
      (pss_cons (ps_asg (pe_ix (r := rIxT K) ix_tup (pv 2) (pv 3) (fun _ _ => rfl)) (pg_tup rfl (pgs_cons (pg_name (i := 4) sc_Live_call.nd rfl (Or.inl rfl)) (pgs_cons (pg_name (i := 5) sc_Live_call.nd rfl (Or.inl rfl)) pgs_nil))))
      (pss_cons (ps_expr (pe_bm PySem.F.plainAttrs_list PySem.F.slot_list_append PySem.F.type_list_append mt_append (pe_fld (pv 0) rfl) (pa_cons (pe_tup (pa_cons (pe_fld (pv 0) rfl) (pa_cons (pv 1) (pa_cons (pv 4) (pa_cons (pv 5) pa_nil))))) pa_nil)))
      (pss_cons (ps_fld (pv 0) (pv 5) rfl)
      (pss_cons (ps_if (pt_cmpR op_notIn_seq (pv 4) (pe_tup (pa_cons pe_str (pa_cons pe_str pa_nil))) rfl) (pss_one (ps_cale c_Met (hr.mono (by decide)) (takes_of rfl rfl rfl rfl) (pa_cons (pv 4) pa_nil))) pss_nil)
      (pss_one (ps_ret (pe_cmpR op_eq (pv 4) pe_str (nomark _))))))))))))), ?_⟩
    obtain ⟨x, dx, k, now, pa, n, sa, d, kd, m, ps, said, os, o, rfl, hx, hpa, hsa, nps, hsl, hk, n1, n2, hlk, ho, q⟩ := h
    walk_at "rd"
    have l1 := name_len n1
    have l2 := name_len n2
    refine ⟨x, dx, _, rfl, hx, x, dx, k, now, pa, n, sa, d, kd, m, rfl, hx, hk, l1, l2, fun H1 s1 => ⟨_, rfl, _, rfl, ?_⟩⟩
    rw [if_neg (by simp [may, n1, n2, hlk])]
    have hx1 := s1 _ _ hx
    refine ⟨lC K, dx, _, hx1, T.cl_Live, T.no_Live_own_kind, _, rfl, lC K, dx, _, hx1, T.cl_Live, T.no_Live_now, _, rfl, by decide, fun b hb => ?_⟩
    have s2 : Same H (upd H1 b (.tup [.str now, .str m])) := s1.trans (Same.new hb)
    have hb2 : (upd H1 b (.tup [.str now, .str m])) b = some (.tup [.str now, .str m]) := upd_same
    generalize upd H1 b (.tup [.str now, .str m]) = H2 at s2 hb2
    have hk2 := hk.same s2
    obtain ⟨dk, ea, tb, hki, _⟩ := id hk2
    refine ⟨k, dk, _, rfl, hki, k, kd, b, now, m, rfl, hk2, hb2, l1, l2, fun H3 s3' => ?_⟩
    rw [if_pos ⟨n1, n2⟩, hlk]
    intro f hf
    obtain ⟨cs, hfT, hfo⟩ := id hf
    have s3 := s2.trans s3'
    clear s1 s2 s3' hb hb2 hx1
    have hlen : os.length = cs.length := Paired.length hfo
    have hpos : 0 < os.length := by have := (List.getElem?_eq_some_iff.mp ho).1; omega
    have hx3 := s3 _ _ hx
    refine ⟨f, _, rfl, .inr hfT, rfl, _, rfl, ?_⟩
    rw [if_neg (by simp only [List.length_map, decide_eq_true_eq, V.int.injEq]; omega)]
    refine ⟨f, _, rfl, .inr hfT, _, rfl, ?_⟩
    have hk3 : KindAt K H3 k kd := hk.same s3
    obtain ⟨c, hc, hco⟩ := Paired.atL hfo ho
    have fin : ∀ (H4 : Hp) (v : Int), SameX x H3 H4 → H4 x = some (.ins (lC K) dx (lflds k now pa (nextN os ps n) sa d)) → atI (cs.map V.ref) v = some (.ref c) →
        rIxT K (V.ref f) (V.int v) H4 (fun y H1 => gTup K 2 (gCons (gName 4) (gCons (gName 5) gNil)) y [some (V.ref x), some (V.str m), some (V.ref f), some (V.int v), none, none] H1
          (tSeq (tDrop (tBM K "list" rAppend (tFld K (tVar 0) "said") (tCons (tTup (tCons (tFld K (tVar 0) "now") (tCons (tVar 1) (tCons (tVar 4) (tCons (tVar 5) tNil))))) tNil)))
            (tSeq (sFld K (tVar 0) (tVar 5) "now") (tSeq (tIfS (tTest (tOp (rIn K true) (tVar 4) (tTup (tCons (tC (V.str "yes")) (tCons (tC (V.str "no")) tNil)))))
              (fun _ σ H => ∃ v, σ[4]? = some (some v) ∧ 1 ≤ 1000 ∧ ∀ a, H a = none → sp_err (He.ga K "Met") "error" [.ref a, v] (upd H a (exo a (He.ga K "Met") none)) (fun v H2 => v = .non ∧ ∃ d, H2 a = some (exo a (He.ga K "Met") (some d)) ∧ ∃ x, H2 d = some (exd d x) ∧ H d = none ∧ E (.ref (He.ga K "Met")) (some d) (upd (del H2 a) d (.xd x))) fun _ _ _ => False)
              tNext) (tRet (tOp rEq (tVar 4) (tC (V.str "yes")))))) { nx := fun _ H' => Q V.non H', rt := Q })) := by
      intro H4 v sx4 hx4 hv
      have hfT4 : SqT K H4 f (cs.map V.ref) := sx4.tq hx3 rfl hfT
      have hco4 : RowAt K H4 c [o.1, o.2] := sx4.tq hx3 rfl hco
      have hk4 : KindAt K H4 k kd := sx4.kind hx3 hC hk3
      have sxx : SameX x H H4 := (SameX.of s3).trans sx4
      have nsx : sa ≠ x := ne_of hsa hx (by intro z; cases z)
      have hsa4 : H4 sa = some (.lst said) := sxx _ _ nsx hsa
      refine ⟨f, _, _, _, rfl, rfl, hfT4, hv, c, [.str o.1, .str o.2], rfl, hco4, rfl, _, _, rfl, _, _, rfl, rfl, ?_⟩
      walk_at "rd"
      simp only [tBM]
      walk_at "rd"
      refine ⟨lC K, dx, _, hx4, T.cl_Live, T.no_Live_said, _, rfl, .inl ⟨rfl, _, SqL.of hsa4⟩, lC K, dx, _, hx4, T.cl_Live, T.no_Live_now, _, rfl, by decide, fun t ht => ?_⟩
      have s5 : Same H4 (upd H4 t (.tup [.str now, .str m, .str o.1, .str o.2])) := Same.new ht
      have ht5 : (upd H4 t (.tup [.str now, .str m, .str o.1, .str o.2])) t = some (.tup [.str now, .str m, .str o.1, .str o.2]) := upd_same
      have htH : H t = none := by
        cases z : H t with
        | none => rfl
        | some u =>
          have ntx : t ≠ x := fun e => by subst e; rw [hx4] at ht; cases ht
          rw [sxx _ _ ntx z] at ht
          cases ht
      refine ⟨sa, said, _, rfl, rfl, s5 _ _ hsa4, by rw [sizeLine_eq]; omega, ?_⟩
      generalize upd H4 t (.tup [.str now, .str m, .str o.1, .str o.2]) = H5 at s5 ht5
      have hx5 := s5 _ _ hx4
      have nts : t ≠ sa := fun e => by subst e; rw [hsa4] at ht; cases ht
      have ntx : t ≠ x := fun e => by subst e; rw [hx4] at ht; cases ht
      refine ⟨lC K, dx, _, by rw [upd_ne nsx.symm]; exact hx5, T.cl_Live, T.no_Live_now, (by show 6 < 1000; decide), by decide, fun y hy => ?_⟩
      have sx7 : SameX x (upd H5 sa (.lst (said ++ [.ref t]))) (upd (upd H5 sa (.lst (said ++ [.ref t]))) x (.ins (lC K) dx (putF "now" (V.str o.2) (lflds k now pa (nextN os ps n) sa d)))) := SameX.self
      have hx7 : (upd (upd H5 sa (.lst (said ++ [.ref t]))) x (.ins (lC K) dx (putF "now" (V.str o.2) (lflds k now pa (nextN os ps n) sa d)))) x = some (.ins (lC K) dx (lflds k o.2 pa (nextN os ps n) sa d)) := upd_same
      have hsa7 : (upd (upd H5 sa (.lst (said ++ [.ref t]))) x (.ins (lC K) dx (putF "now" (V.str o.2) (lflds k now pa (nextN os ps n) sa d)))) sa = some (.lst (said ++ [.ref t])) := by rw [upd_ne nsx]; exact upd_same
      have ht7 : (upd (upd H5 sa (.lst (said ++ [.ref t]))) x (.ins (lC K) dx (putF "now" (V.str o.2) (lflds k now pa (nextN os ps n) sa d)))) t = some (.tup [.str now, .str m, .str o.1, .str o.2]) := by rw [upd_ne ntx, upd_ne nts]; exact ht5
      have hk7 : KindAt K (upd (upd H5 sa (.lst (said ++ [.ref t]))) x (.ins (lC K) dx (putF "now" (V.str o.2) (lflds k now pa (nextN os ps n) sa d)))) k kd := by
        refine sx7.kind (by rw [upd_ne nsx.symm]; exact hx5) hC ?_
        exact kind_lst (s5 _ _ hsa4) (hk4.same s5)
      have sm7 : ∀ a u, a ≠ x → a ≠ sa → H a = some u → (upd (upd H5 sa (.lst (said ++ [.ref t]))) x (.ins (lC K) dx (putF "now" (V.str o.2) (lflds k now pa (nextN os ps n) sa d)))) a = some u := fun a u n1 n2 z => by
        rw [upd_ne n1, upd_ne n2]
        exact s5 _ _ (sxx _ _ n1 z)
      generalize (upd (upd H5 sa (.lst (said ++ [.ref t]))) x (.ins (lC K) dx (putF "now" (V.str o.2) (lflds k now pa (nextN os ps n) sa d)))) = H7 at hy hx7 hsa7 ht7 hk7 sm7 sx7
      have s8 : Same H7 (upd H7 y (.tup [.str "yes", .str "no"])) := Same.new hy
      have q8 := q _ t (fun a u n1 n2 z => s8 _ _ (sm7 a u n1 n2 z)) (hk7.same s8) (s8 _ _ hx7) (s8 _ _ hsa7) (s8 _ _ ht7) htH
      refine ⟨y, _, rfl, .inr (SqT.of upd_same), rfl, rfl, _, rfl, ?_⟩
      have e2 : inV (.str o.1) [.str "yes", .str "no"] = answers o := by
        simp only [inV, answers, List.any_cons, List.any_nil, Bool.or_false, eqV, str_beq]
      show if (!inV (.str o.1) [.str "yes", .str "no"]) = true then _ else _
      rw [e2]
      cases ea : answers o with
      | true =>
        rw [ea, if_pos rfl] at q8
        rw [if_neg (by decide)]
        refine ⟨rfl, ?_⟩
        rw [show decide (V.str o.1 = V.str "yes") = decide (o.1 = "yes") from by simp only [V.str.injEq]]
        exact q8
      | false =>
        rw [ea, if_neg (by decide)] at q8
        rw [if_pos (by decide)]
        exact ⟨by decide, err_made q8⟩
    by_cases ht : takes? os ps n = true
    · obtain ⟨t1, t2⟩ : 1 < os.length ∧ n < ps.length := by simpa [takes?] using ht
      rw [if_pos (by simp only [List.length_map, decide_eq_true_eq]; omega)]
      refine ⟨lC K, dx, _, hx3, T.cl_Live, T.no_Live_picked, _, rfl, lC K, dx, _, hx3, T.cl_Live, T.no_Live_picks, _, rfl, pa, _, rfl, .inl (SqL.of (s3 _ _ hpa)), _, rfl, _, rfl, ?_⟩
      rw [if_pos (by simp only [List.length_map, decide_eq_true_eq]; omega)]
      have hat : atI (ps.map V.int) (n : Int) = some (.int (ps.getD n 0)) := atI_nat (by rw [List.getElem?_map, List.getElem?_eq_getElem t2, List.getD_eq_getElem?_getD, List.getElem?_eq_getElem t2] <;> rfl)
      refine ⟨lC K, dx, _, hx3, T.cl_Live, T.no_Live_picks, _, rfl, lC K, dx, _, hx3, T.cl_Live, T.no_Live_picked, _, rfl, pa, _, _, _, rfl, rfl, SqL.of (s3 _ _ hpa), hat, f, _, rfl, .inr hfT, _, rfl, _, rfl, ?_⟩
      refine ⟨by rw [List.length_map]; omega, lC K, dx, _, hx3, T.cl_Live, T.no_Live_picked, _, rfl, _, rfl, lC K, dx, _, hx3, T.cl_Live, T.no_Live_picked, (by show 6 < 1000; decide), ?_⟩
      have sx4 : SameX x H3 (upd H3 x (.ins (lC K) dx (putF "picked" (V.int ((n : Int) + 1)) (lflds k now pa n sa d)))) := SameX.self
      have hx4 : (upd H3 x (.ins (lC K) dx (putF "picked" (V.int ((n : Int) + 1)) (lflds k now pa n sa d)))) x = some (.ins (lC K) dx (lflds k now pa (nextN os ps n) sa d)) := by
        rw [upd_same, nextN, if_pos ht] <;> rfl
      generalize (upd H3 x (.ins (lC K) dx (putF "picked" (V.int ((n : Int) + 1)) (lflds k now pa n sa d)))) = H4 at sx4 hx4
      have hv : atI (cs.map V.ref) (ps.getD n 0 % ((cs.map V.ref).length : Int)) = some (.ref c) := by
        have e : ps.getD n 0 % ((cs.map V.ref).length : Int) = ((optOf os ps n : Nat) : Int) := by
          rw [optOf, if_pos ht, List.length_map, ← hlen, Int.toNat_of_nonneg (Int.emod_nonneg _ (by omega))]
        rw [e]
        exact atI_nat (by rw [List.getElem?_map, hc] <;> rfl)
      exact fin H4 _ sx4 hx4 hv
    · have hx4 : H3 x = some (.ins (lC K) dx (lflds k now pa (nextN os ps n) sa d)) := by rw [nextN, if_neg ht]; exact hx3
      have hv : atI (cs.map V.ref) (0 : Int) = some (.ref c) := by
        have e : (0 : Int) = ((optOf os ps n : Nat) : Int) := by rw [optOf, if_neg ht] <;> rfl
        rw [e]
        exact atI_nat (by rw [List.getElem?_map, hc] <;> rfl)
      have e0 : takes? os ps n = false := by simpa using ht
      by_cases t1 : 1 < os.length
      · have t2 : ¬ n < ps.length := fun z => ht (by simp [takes?, t1, z])
        rw [if_pos (by simp only [List.length_map, decide_eq_true_eq]; omega)]
        refine ⟨lC K, dx, _, hx3, T.cl_Live, T.no_Live_picked, _, rfl, lC K, dx, _, hx3, T.cl_Live, T.no_Live_picks, _, rfl, pa, _, rfl, .inl (SqL.of (s3 _ _ hpa)), _, rfl, _, rfl, ?_⟩
        rw [if_neg (by simp only [List.length_map, decide_eq_true_eq]; omega)]
        exact fin H3 _ (SameX.of (Same.refl _)) hx4 hv
      · rw [if_neg (by simp only [List.length_map, decide_eq_true_eq]; omega), if_neg (by decide)]
        exact fin H3 _ (SameX.of (Same.refl _)) hx4 hv
end
end Rs
set_option Elab.async false
set_option linter.all false
set_option maxRecDepth 100000
set_option maxHeartbeats 2000000
namespace Rs
open PySem PySem.Spec PyProof.Rows L2
local macro_rules | `(tactic| walk_at "rd") => `(tactic| simp only [L2.tRet, L2.tRetN, L2.tSeq, L2.tNext, L2.tIfS, L2.tAsg, L2.gName, L2.gNil, L2.gCons, L2.tVar, L2.tC, L2.tOp, L2.tUn, L2.tCB, L2.tCons, L2.tNil, L2.tAndV, L2.tOrV, L2.tNotV, L2.tAnd, L2.tOr, L2.tNot, L2.tB, L2.tTest, L2.tIf, L2.tChain, L2.tTup, L2.tLst, L2.tDrop, L2.tFld, L2.sFld, L2.tOst, L2.tBM, L2.rNe, L2.tMkO, L2.start, L2.cxOf, L2.Cx.nox, L2.Cx.wish, L2.rI0, L2.rI, L2.tYes, Rs.tCalW, List.getElem?_cons_zero, List.getElem?_cons_succ, Option.some.injEq, exists_eq_left', exists_eq_left, exists_and_left, List.cons.injEq, and_true, true_and, L2.V.bl.injEq, L2.V.int.injEq, L2.V.str.injEq, L2.V.ref.injEq, List.set_cons_zero, List.set_cons_succ, List.map_cons, List.map_nil, List.length_cons, List.length_nil, List.replicate, List.cons_append, List.nil_append, List.append_nil, Nat.reduceSub, Nat.reduceAdd])

section
variable {P : Program} {w : World} {K : PySem.W.Frag} {mg : PySem.Str → Option Value} {base : Heap}
/-! ### drawn numbers -/
def rInt1 : List V → Hp → VK → Prop := fun xs H Q => ∃ i, xs = [.int i] ∧ Q (.int i) H
theorem call_intI {X : Cx} : CallR X (.type "int") rInt1 := fun pins s σ H xs us Q I r h => call_int1 pins s σ H xs us Q I r (.inl h)
def rIntB : List V → Hp → VK → Prop := fun xs H Q => ∃ k, xs = [.bl k] ∧ Q (.int (if k then 1 else 0)) H
theorem call_intB {X : Cx} : CallR X (.type "int") rIntB := fun pins s σ H xs us Q I r h => call_int1 pins s σ H xs us Q I r (.inr h)
def Src3 (o : HO) : Prop := ∃ x y z : Int, o = .lst [.int x, .int y, .int z]
def sp_next (K : PySem.W.Frag) : Sp := fun vs H Q _ => ∃ (a : Addr) (x y z many : Int), vs = [.ref a, .int many] ∧ H a = some (.lst [.int x, .int y, .int z]) ∧ 0 < many ∧ many.natAbs.log2 < 9000 ∧ ∀ r o, Src3 o → 0 ≤ r → r < many → Q (.int r) (upd H a o)
theorem ok_next (T : Txt K mg) : Cal P w K mg base 1 "_law_next" ["_law_source", "_law_many"] (sp_next K) := by
  obtain ⟨fd, F⟩ := T.d_l_next
  refine cal_of F T.g_law_next (F.bindsN fun _ _ _ _ _ _ us hl => match us, hl with | [_, _], _ => rfl) ?_
  refine F.ok sc_l_next (fun vs H Q E h => ?_) (fun cdv A outer s H vs Q E hr h => ?_)
  · obtain ⟨a, x, y, z, many, rfl, _⟩ := h
    rfl
  · have hu := hu_of hr
    refine ⟨_, PSs.nox (pss_cons (ps_if (pt_cmpR op_gt (pe_ix (r := rIxL K) ix_list (pv 0) pe_int (fun _ _ => rfl)) pe_int (nomark _)) (pss_cons (ps_set (i := 2) sc_l_next.nd rfl (Or.inl rfl) (pe_op op_mod (pe_callTy (r := rInt1) call_intI rfl T.b_int (by decide +kernel) (pa_cons (pe_ix (r := rIxL K) ix_list (pv 0) pe_int (fun _ _ => rfl)) pa_nil)) (pv 1)))
      (pss_cons (ps_asg (pe_op op_fdivW (pe_ix (r := rIxL K) ix_list (pv 0) pe_int (fun _ _ => rfl)) (pv 1)) (pg_sub (pv 0) pe_int set_list))
      (pss_one (ps_ret (pv 2))))) pss_nil)
      (pss_cons (ps_asg (pe_op op_add (pe_ix (r := rIxL K) ix_list (pv 0) pe_int (fun _ _ => rfl)) pe_int) (pg_sub (pv 0) pe_int set_list))
      (pss_cons (ps_set (i := 3) sc_l_next.nd rfl (Or.inl rfl) (pe_op op_mod (pe_callTy (r := rInt1) call_intI rfl T.b_int (by decide +kernel) (pa_cons (pe_op op_add (pe_op op_add (pe_ix (r := rIxL K) ix_list (pv 0) pe_int (fun _ _ => rfl)) (pe_op op_mul pe_int (pe_ix (r := rIxL K) ix_list (pv 0) pe_int (fun _ _ => rfl)))) pe_int) pa_nil)) pe_int))
      (pss_cons (ps_set (i := 3) sc_l_next.nd rfl (Or.inl rfl) (pe_op op_mod (pe_callTy (r := rInt1) call_intI rfl T.b_int (by decide +kernel) (pa_cons (pe_op op_mul (pv 3) pe_int) pa_nil)) pe_int))
      (pss_cons (ps_set (i := 3) sc_l_next.nd rfl (Or.inl rfl) (pe_op op_mod (pe_callTy (r := rInt1) call_intI rfl T.b_int (by decide +kernel) (pa_cons (pe_op op_mul (pv 3) (pe_op op_add (pe_op op_fdivW (pv 3) pe_int) pe_int)) pa_nil)) pe_int))
      (pss_cons (ps_set (i := 3) sc_l_next.nd rfl (Or.inl rfl) (pe_op op_mod (pe_callTy (r := rInt1) call_intI rfl T.b_int (by decide +kernel) (pa_cons (pe_op op_mul (pv 3) (pe_op op_add (pe_op op_fdivW (pv 3) pe_int) pe_int)) pa_nil)) pe_int))
      (pss_one (ps_ret (pe_op op_mod (pe_callTy (r := rInt1) call_intI rfl T.b_int (by decide +kernel) (pa_cons (pe_op op_fdivW (pv 3) pe_int) pa_nil)) (pv 1)))))))))), ?_⟩
    obtain ⟨a, x, y, z, many, rfl, ha, hm, hl, q⟩ := h
    walk_at "rd"
    refine ⟨a, _, 0, _, rfl, rfl, SqL.of ha, rfl, x, rfl, ?_⟩
    by_cases hx : 0 < x
    · rw [if_pos (decide_eq_true hx)]
      refine ⟨a, _, 0, _, rfl, rfl, SqL.of ha, rfl, x, rfl, x, rfl, hm, a, _, 0, _, rfl, rfl, SqL.of ha, rfl, x, rfl, ⟨hm, hl⟩, ?_⟩
      exact ⟨_, rfl, a, _, 0, 0, rfl, rfl, ha, rfl, _, rfl, q _ _ ⟨_, _, _, rfl⟩ (Int.emod_nonneg _ (by omega)) (Int.emod_lt_of_pos _ hm)⟩
    · rw [if_neg (by simpa using hx)]
      refine ⟨a, _, 2, _, rfl, rfl, SqL.of ha, rfl, z, rfl, _, rfl, a, _, 2, 2, rfl, rfl, ha, rfl, ?_⟩
      have ha2 : (upd H a (.lst ([V.int x, V.int y, V.int z].set 2 (.int (z + 1))))) a = some (.lst [.int x, .int y, .int (z + 1)]) := upd_same
      walk_at "rd"
      refine ⟨a, _, 1, _, rfl, rfl, SqL.of ha2, rfl, a, _, 2, _, rfl, rfl, SqL.of ha2, rfl, ?_⟩
      have small : ∀ i : Int, -(2 ^ 64) < i % 2147483647 ∧ i % 2147483647 < 2 ^ 64 := fun i => ⟨by have := Int.emod_nonneg i (b := 2147483647) (by decide); omega, by have := Int.emod_lt_of_pos i (b := 2147483647) (by decide); omega⟩
      have dv : ∀ i j : Int, 0 < j → j < 4000 → CDivW i j := fun i j h1 h2 => ⟨h1, by
        have h3 : j.natAbs < 2 ^ 12 := by omega
        have := Nat.log2_lt (n := j.natAbs) (k := 12) (by omega) |>.mpr h3
        omega⟩
      refine ⟨_, rfl, .inl ⟨by decide, by decide⟩, _, rfl, _, rfl, _, rfl, by decide, .inr ⟨by decide, by decide⟩, _, rfl, _, rfl, by decide, dv _ _ (by decide) (by decide), .inl (small _), _, rfl, _, rfl, by decide, dv _ _ (by decide) (by decide), .inl (small _), _, rfl, _, rfl, by decide, dv _ _ (by decide) (by decide), _, rfl, _, rfl, hm, ?_⟩
      exact q _ _ ⟨_, _, _, rfl⟩ (Int.emod_nonneg _ (by omega)) (Int.emod_lt_of_pos _ hm)
end
end Rs
set_option Elab.async false
set_option linter.all false
set_option maxRecDepth 100000
set_option maxHeartbeats 2000000
namespace Rs
open PySem PySem.Spec PyProof.Rows L2
local macro_rules | `(tactic| walk_at "rd") => `(tactic| simp only [L2.tRet, L2.tRetN, L2.tSeq, L2.tNext, L2.tIfS, L2.tAsg, L2.gName, L2.gNil, L2.gCons, L2.tVar, L2.tC, L2.tOp, L2.tUn, L2.tCB, L2.tCons, L2.tNil, L2.tAndV, L2.tOrV, L2.tNotV, L2.tAnd, L2.tOr, L2.tNot, L2.tB, L2.tTest, L2.tIf, L2.tChain, L2.tTup, L2.tLst, L2.tDrop, L2.tFld, L2.sFld, L2.tOst, L2.tBM, L2.rNe, L2.tMkO, L2.start, L2.cxOf, L2.Cx.nox, L2.Cx.wish, L2.rI0, L2.rI, L2.tYes, Rs.tCalW, List.getElem?_cons_zero, List.getElem?_cons_succ, Option.some.injEq, exists_eq_left', exists_eq_left, exists_and_left, List.cons.injEq, and_true, true_and, L2.V.bl.injEq, L2.V.int.injEq, L2.V.str.injEq, L2.V.ref.injEq, List.set_cons_zero, List.set_cons_succ, List.map_cons, List.map_nil, List.length_cons, List.length_nil, List.replicate, List.cons_append, List.nil_append, List.append_nil, Nat.reduceSub, Nat.reduceAdd])

section
variable {P : Program} {w : World} {K : PySem.W.Frag} {mg : PySem.Str → Option Value} {base : Heap}
theorem log_small {j : Int} (h : j.natAbs < 2 ^ 200) : j.natAbs.log2 < 9000 := by
  by_cases e : j.natAbs = 0
  · rw [e]; decide
  · have := (Nat.log2_lt e).mpr h
    omega
def sp_source_of (K : PySem.W.Frag) : Sp := fun vs H Q _ => ∃ (c : Int), vs = [.int c] ∧ ∀ l o, H l = none → Src3 o → Q (.ref l) (upd H l o)
theorem ok_source_of (T : Txt K mg) : Cal P w K mg base 1 "_law_source_of" ["_law_cell"] (sp_source_of K) := by
  obtain ⟨fd, F⟩ := T.d_l_source_of
  refine cal_of F T.g_law_source_of (F.bindsN fun _ _ _ _ _ _ us hl => match us, hl with | [_], _ => rfl) ?_
  refine F.ok sc_l_source_of (fun vs H Q E h => ?_) (fun cdv A outer s H vs Q E hr h => ?_)
  · obtain ⟨c, rfl, _⟩ := h
    rfl
  · have hu := hu_of hr
    refine ⟨_, PSs.nox (pss_cons (ps_set (i := 0) sc_l_source_of.nd rfl (Or.inl rfl) (pe_ifExp (pt_cmpR op_ge (pv 0) pe_int (nomark _)) (pv 0) (pe_op op_sub (pe_op op_sub pe_int (pe_op op_mul pe_int (pv 0))) pe_int)))
      (pss_one (ps_ret (pe_lst (pa_cons (pe_op op_mul (pv 0) (pe_callTy (r := rIntB) call_intB rfl T.b_int (by decide +kernel) (pa_cons (pe_cmpR op_ge (pv 0) (pe_op op_pow pe_int pe_int) (nomark _)) pa_nil))) (pa_cons (pe_op op_mod (pe_callTy (r := rInt1) call_intI rfl T.b_int (by decide +kernel) (pa_cons (pv 0) pa_nil)) pe_int) (pa_cons pe_int pa_nil))))))), ?_⟩
    obtain ⟨c, rfl, q⟩ := h
    walk_at "rd"
    have hp : CPow 10 18 := ⟨by decide, by decide, by decide⟩
    have one : ∀ (c : Int) (k : Bool), CMul c (if k = true then 1 else 0) := fun c k => .inr (by cases k <;> decide)
    refine ite2 (fun e => ?_) (fun e => ?_)
    · exact ⟨hp, _, rfl, _, rfl, one _ _, _, rfl, _, rfl, by decide, by decide, fun p hn => q p _ hn ⟨_, _, _, rfl⟩⟩
    · exact ⟨.inl ⟨by decide, by decide⟩, hp, _, rfl, _, rfl, one _ _, _, rfl, _, rfl, by decide, by decide, fun p hn => q p _ hn ⟨_, _, _, rfl⟩⟩
/-- one of some -/
def sp_one (K : PySem.W.Frag) : Sp := fun vs H Q _ => ∃ (a b : Addr) (x y z : Int) (xs : List V), vs = [.ref a, .ref b] ∧ H a = some (.lst [.int x, .int y, .int z]) ∧ H b = some (.lst xs) ∧ a ≠ b ∧ xs ≠ [] ∧ xs.length ≤ 4000 ∧ ∀ (i : Nat) v o, xs[i]? = some v → Src3 o → Q v (upd H a o)
theorem ok_one (T : Txt K mg) : Cal P w K mg base 2 "_law_one" ["_law_source", "_law_some"] (sp_one K) := by
  have c_law_next := ok_next (P := P) (w := w) (base := base) T
  obtain ⟨fd, F⟩ := T.d_l_one
  refine cal_of F T.g_law_one (F.bindsN fun _ _ _ _ _ _ us hl => match us, hl with | [_, _], _ => rfl) ?_
  refine F.ok sc_l_one (fun vs H Q E h => ?_) (fun cdv A outer s H vs Q E hr h => ?_)
  · obtain ⟨a, b, x, y, z, xs, rfl, _⟩ := h
    rfl
  · have hu := hu_of hr
    refine ⟨_, PSs.nox (pss_one (ps_ret (pe_ix (r := rIxL K) ix_list (pv 1) (pe_cal c_law_next (hr.mono (by decide)) takes0 (pa_cons (pv 0) (pa_cons (pe_callB (r := rLenQ K) call_lenQ rfl T.b_len (by decide +kernel) (pa_cons (pv 1) pa_nil)) pa_nil))) (fun _ _ => rfl)))), ?_⟩
    obtain ⟨a, b, x, y, z, xs, rfl, ha, hb, ne, hx, hl, q⟩ := h
    walk_at "rd"
    have hpos : 0 < xs.length := List.length_pos_iff.mpr hx
    refine ⟨b, xs, rfl, .inl (SqL.of hb), a, x, y, z, _, rfl, ha, by omega, log_small (by omega), fun r o ho h1 h2 => ?_⟩
    have hlt : r.toNat < xs.length := by omega
    obtain ⟨v, hv⟩ : ∃ v, xs[r.toNat]? = some v := ⟨_, List.getElem?_eq_getElem hlt⟩
    exact ⟨b, xs, r, v, rfl, rfl, SqL.of (by rw [upd_ne ne.symm]; exact hb), by rw [show r = ((r.toNat : Nat) : Int) from (Int.toNat_of_nonneg h1).symm]; exact atI_nat hv, q _ v o hv ho⟩
end
end Rs
set_option Elab.async false
set_option linter.all false
set_option maxRecDepth 100000
set_option maxHeartbeats 2000000
namespace Rs
open PySem PySem.Spec PyProof.Rows L2
local macro_rules | `(tactic| walk_at "rd") => `(tactic| simp only [L2.tRet, L2.tRetN, L2.tSeq, L2.tNext, L2.tIfS, L2.tAsg, L2.gName, L2.gNil, L2.gCons, L2.tVar, L2.tC, L2.tOp, L2.tUn, L2.tCB, L2.tCons, L2.tNil, L2.tAndV, L2.tOrV, L2.tNotV, L2.tAnd, L2.tOr, L2.tNot, L2.tB, L2.tTest, L2.tIf, L2.tChain, L2.tTup, L2.tLst, L2.tDrop, L2.tFld, L2.sFld, L2.tOst, L2.tBM, L2.rNe, L2.tMkO, L2.start, L2.cxOf, L2.Cx.nox, L2.Cx.wish, L2.rI0, L2.rI, L2.tYes, Rs.tCalW, List.getElem?_cons_zero, List.getElem?_cons_succ, Option.some.injEq, exists_eq_left', exists_eq_left, exists_and_left, List.cons.injEq, and_true, true_and, L2.V.bl.injEq, L2.V.int.injEq, L2.V.str.injEq, L2.V.ref.injEq, List.set_cons_zero, List.set_cons_succ, List.map_cons, List.map_nil, List.length_cons, List.length_nil, List.replicate, List.cons_append, List.nil_append, List.append_nil, Nat.reduceSub, Nat.reduceAdd])

section
variable {P : Program} {w : World} {K : PySem.W.Frag} {mg : PySem.Str → Option Value} {base : Heap}
/-! ### some texts in a drawn order -/
theorem dpAll_txts {H : Hp} : ∀ (ss : List PySem.Str), DpAll K H (ss.map V.str) (ss.map PyData.str)
  | [] => .nil
  | x :: ss => .cons (.str x) (dpAll_txts ss)
theorem shaped_txts {ss : List PySem.Str} (h : ∀ x ∈ ss, (PyData.str x).canLay0 = true) : SeqAt.shaped (.list (ss.map PyData.str)) = true := by
  have h1 : PyData.canLayAll0 (ss.map PyData.str) = true := by
    induction ss with
    | nil => rfl
    | cons x ss ih =>
      show ((PyData.str x).canLay0 && PyData.canLayAll0 (ss.map PyData.str)) = true
      rw [h x List.mem_cons_self, ih fun y hy => h y (List.mem_cons_of_mem _ hy)] <;> rfl
  have h2 : ∀ ss : List PySem.Str, PyData.depthAll (ss.map PyData.str) = 0 := by
    intro ss
    induction ss with
    | nil => rfl
    | cons x ss ih =>
      show max (PyData.depth (.str x)) (PyData.depthAll (ss.map PyData.str)) = 0
      rw [ih] <;> rfl
  unfold SeqAt.shaped
  rw [Bool.and_eq_true]
  refine ⟨h1, decide_eq_true ?_⟩
  show PyData.depthAll (ss.map PyData.str) + 1 ≤ 64
  rw [h2]
  decide
theorem ne_nil_txts (ss : List PySem.Str) : (!PyData.eqv (.list (ss.map PyData.str)) (.list [])) = decide (ss ≠ []) := by
  cases ss with
  | nil => rfl
  | cons x ss => rfl
theorem erase_map {α β : Type} (f : α → β) : ∀ (l : List α) (i : Nat), (l.map f).eraseIdx i = (l.eraseIdx i).map f
  | [], _ => by simp
  | x :: l, 0 => rfl
  | x :: l, i + 1 => by
    show f x :: (l.map f).eraseIdx i = f x :: (l.eraseIdx i).map f
    rw [erase_map f l i]
theorem erase_perm {α : Type} : ∀ {l : List α} {i : Nat} {v : α}, l[i]? = some v → ([v] ++ l.eraseIdx i).Perm l
  | [], _, _, h => by simp at h
  | x :: l, 0, v, h => by
    simp at h
    subst h
    exact List.Perm.refl _
  | x :: l, i + 1, v, h => by
    have ih := erase_perm (l := l) (i := i) (v := v) (by simpa using h)
    exact (List.Perm.swap x v _).trans (ih.cons x)
def sp_mixed (K : PySem.W.Frag) : Sp := fun vs H Q _ => ∃ (a b : Addr) (x y z : Int) (ss : List PySem.Str), vs = [.ref a, .ref b] ∧ H a = some (.lst [.int x, .int y, .int z]) ∧ H b = some (.lst (ss.map V.str)) ∧ a ≠ b ∧ ss.length ≤ 4000 ∧ (∀ x ∈ ss, (PyData.str x).canLay0 = true) ∧
  ∀ (H' : Hp) (l : Addr) (ys : List PySem.Str), ys.Perm ss → SameX a H H' → (∃ o, H' a = some o ∧ Src3 o) → H l = none → H' l = some (.lst (ys.map V.str)) → Q (.ref l) H'
theorem ok_mixed (T : Txt K mg) : Cal P w K mg base 2 "_law_mixed" ["_law_source", "_law_some"] (sp_mixed K) := by
  have c_law_next := ok_next (P := P) (w := w) (base := base) T
  obtain ⟨fd, F⟩ := T.d_l_mixed
  refine cal_of F T.g_law_mixed (F.bindsN fun _ _ _ _ _ _ us hl => match us, hl with | [_, _], _ => rfl) ?_
  refine F.ok sc_l_mixed (fun vs H Q E h => ?_) (fun cdv A outer s H vs Q E hr h => ?_)
  · obtain ⟨a, b, x, y, z, xs, rfl, _⟩ := h
    rfl
  · have hu := hr.units
    refine ⟨_, PSs.nox (pss_cons (ps_par rfl sc_l_mixed.nd (i := 2) (j := 3) rfl rfl (by decide) rfl rfl (pa_cons (pe_callTy (r := rListOf K) call_listOf rfl T.b_list (by decide +kernel) (pa_cons (pv 1) pa_nil)) (pa_cons (pe_lst pa_nil) pa_nil)) (by rfl))
      (pss_cons (ps_while PassesOwn.never (pt_cmpR (op_neD hu) (pv 2) (pe_lst pa_nil) (nomark _))
      (pss_one (ps_expr (pe_bm PySem.F.plainAttrs_list PySem.F.slot_list_append PySem.F.type_list_append mt_append (pv 3) (pa_cons (pe_bm PySem.F.plainAttrs_list PySem.F.slot_list_pop PySem.F.type_list_pop mt_popAt (pv 2) (pa_cons (pe_cal c_law_next (hr.mono (by decide)) takes0 (pa_cons (pv 0) (pa_cons (pe_callB (r := rLenQ K) call_lenQ rfl T.b_len (by decide +kernel) (pa_cons (pv 2) pa_nil)) pa_nil))) pa_nil)) pa_nil)))))
      (pss_one (ps_ret (pv 3))))), ?_⟩
    obtain ⟨a, b, x, y, z, ss, rfl, ha, hb, ne, hl, hs, q⟩ := h
    refine ⟨_, rfl, b, _, rfl, .inl (SqL.of hb), fun L hL => ⟨Nat.zero_le _, fun Fd hF => ⟨_, _, rfl, ?_⟩⟩⟩
    have nLa : a ≠ L := ne_of_none ha hL
    have nF : Fd ≠ L := fun e => by subst e; rw [upd_same] at hF; cases hF
    have hF0 : H Fd = none := by rw [upd_ne nF] at hF; exact hF
    have nFa : a ≠ Fd := ne_of_none ha hF0
    walk_at "rd"
    refine while_by (fun σ H' => σ = [some (.ref a), some (.ref b), some (.ref L), some (.ref Fd)] ∧ ∃ ls fs : List PySem.Str, H' L = some (.lst (ls.map V.str)) ∧ H' Fd = some (.lst (fs.map V.str)) ∧ (fs ++ ls).Perm ss ∧ SameX a H H' ∧ ∃ x y z : Int, H' a = some (.lst [.int x, .int y, .int z]))
      (fun σ H' => match H' L with | some (.lst xs) => xs.length | _ => 0) ⟨rfl, ss, [], ?_, upd_same, List.Perm.refl _, ?_, ?_⟩ (fun σ H1 pv => ?_) (fun σ H1 Q1 Q2 hq h => ?_)
    · rw [upd_ne nF.symm]; exact upd_same
    · intro c u n e
      rw [upd_ne (ne_of_none e hF0), upd_ne (ne_of_none e hL)]
      exact e
    · exact ⟨x, y, z, by rw [upd_ne nFa, upd_ne nLa]; exact ha⟩
    · obtain ⟨rfl, ls, fs, h1, h2, hp, sx, x, y, z, h3⟩ := pv
      refine ⟨_, rfl, Nat.zero_le _, fun e he => ⟨_, _, .lst (SqL.of (by rw [upd_ne (ne_of_none h1 he)]; exact h1)) (dpAll_txts ls), .lst (SqL.of upd_same) .nil, shaped_txts (fun x hx => hs x (hp.mem_iff.mp (List.mem_append_right _ hx))), rfl, _, rfl, ?_⟩⟩
      rw [ne_nil_txts]
      have hH2 : SameX a H (upd H1 e (.lst [])) := fun c u n z => (Same.new he) _ _ (sx c u n z)
      have h1' : (upd H1 e (.lst [])) L = some (.lst (ls.map V.str)) := (Same.new he) _ _ h1
      have h2' : (upd H1 e (.lst [])) Fd = some (.lst (fs.map V.str)) := (Same.new he) _ _ h2
      have h3' : (upd H1 e (.lst [])) a = some (.lst [.int x, .int y, .int z]) := (Same.new he) _ _ h3
      generalize upd H1 e (.lst []) = H2 at hH2 h1' h2' h3'
      by_cases hls : ls = []
      · subst hls
        rw [show decide (([] : List PySem.Str) ≠ []) = false from rfl]
        walk_at "rd"
        rw [if_neg (by decide)]
        rw [List.append_nil] at hp
        exact q _ Fd fs hp hH2 ⟨_, h3', _, _, _, rfl⟩ hF0 h2'
      · rw [decide_eq_true hls]
        walk_at "rd"
        rw [if_pos trivial]
        have hpos : 0 < ls.length := List.length_pos_iff.mpr hls
        have hll : ls.length ≤ 4000 := by have := hp.length_eq; rw [List.length_append] at this; omega
        refine ⟨.inl ⟨rfl, _, SqL.of h2'⟩, .inl ⟨rfl, _, SqL.of h1'⟩, L, _, rfl, .inl (SqL.of h1'), a, x, y, z, _, rfl, h3', by rw [List.length_map]; omega, log_small (by rw [List.length_map]; omega), fun r o ho r1 r2 => ?_⟩
        rw [List.length_map] at r2
        have hlt : r.toNat < ls.length := by omega
        obtain ⟨v, hv⟩ : ∃ v, ls[r.toNat]? = some v := ⟨_, List.getElem?_eq_getElem hlt⟩
        have hix : seqIndex? r (ls.map V.str).length = some r.toNat := by
          unfold seqIndex?
          rw [List.length_map]
          simp only [if_neg (show ¬ r < 0 by omega)]
          rw [if_pos (by simp; omega)]
        obtain ⟨x', y', z', rfl⟩ := ho
        have hLF : L ≠ Fd := nF.symm
        refine ⟨L, _, r, r.toNat, .str v, rfl, rfl, by rw [upd_ne nLa.symm]; exact h1', by omega, by omega, hix, by rw [List.getElem?_map, hv] <;> rfl, Fd, _, _, rfl, rfl, by rw [upd_ne nF, upd_ne nFa.symm]; exact h2', ?_, ⟨ls.eraseIdx r.toNat, ?_, fs ++ [v], ?_, ?_, ?_, x', y', z', ?_⟩, ?_⟩
        · have := hp.length_eq
          rw [List.length_append] at this
          rw [List.length_map, sizeLine_eq]
          omega
        · rw [upd_ne hLF, upd_same, erase_map] <;> rfl
        · rw [upd_same, List.map_append] <;> rfl
        · refine List.Perm.trans ?_ hp
          rw [List.append_assoc]
          exact List.Perm.append_left fs (erase_perm hv)
        · intro c u n zz
          rw [upd_ne (ne_of_none zz hF0), upd_ne (ne_of_none zz hL), upd_ne n]
          exact hH2 c u n zz
        · rw [upd_ne nFa, upd_ne nLa]
          exact upd_same
        · rw [upd_ne hLF, upd_same, h1]
          show ((ls.map V.str).eraseIdx r.toNat).length < (ls.map V.str).length
          rw [List.length_eraseIdx, List.length_map, if_pos hlt]
          omega
    · obtain ⟨v, e1, h0, h⟩ := h
      refine ⟨v, e1, h0, fun p hp => ?_⟩
      obtain ⟨d, e, a1, a2, a3, a4, k, ek, h⟩ := h p hp
      exact ⟨d, e, a1, a2, a3, a4, k, ek, hq _ _ h⟩
end
end Rs
set_option Elab.async false
set_option linter.all false
set_option maxRecDepth 100000
set_option maxHeartbeats 2000000
namespace Rs
open PySem PySem.Spec PyProof.Rows L2
local macro_rules | `(tactic| walk_at "rd") => `(tactic| simp only [L2.tRet, L2.tRetN, L2.tSeq, L2.tNext, L2.tIfS, L2.tAsg, L2.gName, L2.gNil, L2.gCons, L2.tVar, L2.tC, L2.tOp, L2.tUn, L2.tCB, L2.tCons, L2.tNil, L2.tAndV, L2.tOrV, L2.tNotV, L2.tAnd, L2.tOr, L2.tNot, L2.tB, L2.tTest, L2.tIf, L2.tChain, L2.tTup, L2.tLst, L2.tDrop, L2.tFld, L2.sFld, L2.tOst, L2.tBM, L2.rNe, L2.tMkO, L2.start, L2.cxOf, L2.Cx.nox, L2.Cx.wish, L2.rI0, L2.rI, L2.tYes, Rs.tCalW, List.getElem?_cons_zero, List.getElem?_cons_succ, Option.some.injEq, exists_eq_left', exists_eq_left, exists_and_left, List.cons.injEq, and_true, true_and, L2.V.bl.injEq, L2.V.int.injEq, L2.V.str.injEq, L2.V.ref.injEq, List.set_cons_zero, List.set_cons_succ, List.map_cons, List.map_nil, List.length_cons, List.length_nil, List.replicate, List.cons_append, List.nil_append, List.append_nil, Nat.reduceSub, Nat.reduceAdd])

section
variable {P : Program} {w : World} {K : PySem.W.Frag} {mg : PySem.Str → Option Value} {base : Heap}
/-- isinstance of the error in hand, of the class D -/
def rIsXc (K : PySem.W.Frag) (D a : Addr) (cls : Value) (d : Option Addr) : List V → Hp → VK → Prop := fun xs H Q => cls = .ref D ∧ rIsX K D a d xs H Q
theorem call_isXc {X : Cx} {a D : Addr} {d : Option Addr} {oe : Obj} {cls : Value} {pn : List (Addr × Obj)} (C : ExcC X.K D) (hz : Zc cls d oe) (hf : ∃ vs, oe.data = .fields vs) : CallR (X.suite a ((a, oe) :: pn)) (.builtin "isinstance") (rIsXc X.K D a cls d) := by
  intro pins s σ H xs us Q I r h
  obtain ⟨rfl, h⟩ := h
  exact call_isX C hz hf pins s σ H xs us Q I r h
def sp_bad (K : PySem.W.Frag) : Sp := fun vs H Q _ => ∃ (k : Addr) (v : V) (kd : KD), vs = [.ref k, v] ∧ KindAt K H k kd ∧
  ((∃ n, Srt K H v n ∧ isRow n = false ∧ ∀ H', Same H H' → Q (.int (-1)) H') ∨
   ∃ p xs, v = .ref p ∧ SqR K H p xs ∧ (∀ x ∈ xs, ∃ n, Srt K H x n) ∧ match xs.findIdx? fun x => !isPick x with
    | none => ∀ H', Same H H' → Q .non H'
    | some i => ∀ H', Same H H' → Q (.int (i : Nat)) H')
theorem ok_bad (T : Txt K mg) : Cal P w K mg base 6 "_law_bad" ["_law_kind", "_law_picks"] (sp_bad K) := by
  have c_Live := ok_live (P := P) (w := w) (base := base) T
  obtain ⟨fd, F⟩ := T.d_l_bad
  refine cal_of F T.g_law_bad (F.bindsN fun _ _ _ _ _ _ us hl => match us, hl with | [_, _], _ => rfl) ?_
  refine F.ok sc_l_bad (fun vs H Q E h => ?_) (fun cdv A outer s H vs Q E hr h => ?_)
  · obtain ⟨k, v, kd, rfl, _⟩ := h
    rfl
  · have hu := hr.units
    refine ⟨_, PSs.nox (pss_one (ps_try_as rfl rfl sc_l_bad.nd (i := 2) rfl rfl ⟨rfl, by decide, .inl T.g_RightError⟩ takes0 (fun W pn xe tk1 own1 => (pss_cons (ps_expr (pe_cali c_Live (hr.mono (by decide)) tk1 (pa_cons (pv 0) (pa_cons (pv 1) pa_nil))))
      (pss_one (ps_ret pe_non)))) (fun ea oe cls ed pn hz hf => (pss_cons (ps_if (PW.pt (pw_or (pt_val (pe_callB (r := rIsXc K (badC K) ea cls ed) (call_isXc (exc_ok T.exc_BadChoices) hz hf) rfl T.b_isinstance (by decide +kernel) (pa_cons (pv 2) (pa_cons (pe_glob (v := .ref (He.ga K "BadHistory")) rfl T.g_BadHistory rfl) pa_nil)))) (pw_or (pt_val (pe_callB (r := rIsXc K (badC K) ea cls ed) (call_isXc (exc_ok T.exc_BadChoices) hz hf) rfl T.b_isinstance (by decide +kernel) (pa_cons (pv 2) (pa_cons (pe_glob (v := .ref (He.ga K "NoMethod")) rfl T.g_NoMethod rfl) pa_nil)))) (pw_or1 (pt_not (pt_val (pe_callB (r := rIsXc K (badC K) ea cls ed) (call_isXc (exc_ok T.exc_BadChoices) hz hf) rfl T.b_isinstance (by decide +kernel) (pa_cons (pv 2) (pa_cons (pe_glob (v := .ref (He.ga K "BadChoices")) rfl T.g_BadChoices rfl) pa_nil))))))))) (pss_one (ps_ret pe_str)) pss_nil)
      (pss_one (ps_ret (pe_xf (xf_ok T.exc_BadChoices) T.no_BadChoices_index hz hf (pv 2)))))))), ?_⟩
    obtain ⟨k, v, kd, rfl, hk, h⟩ := h
    walk_at "rd"
    simp only [tMakeW]
    walk_at "rd"
    intro x dx hx hdx ne
    have s1 : Same H (upd (upd H dx (.own x)) x (.ins (lC K) dx [])) := (Same.new hdx).trans (Same.new (by rw [upd_ne ne.symm]; exact hx))
    have hx1 : (upd (upd H dx (.own x)) x (.ins (lC K) dx [])) x = some (.ins (lC K) dx []) := upd_same
    generalize (upd (upd H dx (.own x)) x (.ins (lC K) dx [])) = H1 at s1 hx1
    have rsd : ∀ y : V, (∀ H', Same H H' → Q y H') → Raised (badC K) "index" y H1 (at_ (wAs K (Value.ref (He.ga K "RightError")) 2
        (fun ea cls ed => tSeq (tIfS (tOr (tB (tCB (rIsXc K (badC K) ea cls ed) (tCons (tVar 2) (tCons (tC (V.ref (He.ga K "BadHistory"))) tNil))))
          (tOr (tB (tCB (rIsXc K (badC K) ea cls ed) (tCons (tVar 2) (tCons (tC (V.ref (He.ga K "NoMethod"))) tNil)))) (tNot (tB (tCB (rIsXc K (badC K) ea cls ed) (tCons (tVar 2) (tCons (tC (V.ref (He.ga K "BadChoices"))) tNil)))))))
            (tRet (tC (V.str "other"))) tNext) (tRet (tXf ea cls ed (He.ga K "BadChoices") "index" (tVar 2)))) (fun _ _ _ _ => False) { nx := fun _ H' => Q V.non H', rt := Q }) [some (V.ref k), some v, none]) := by
      intro y hy H' d s' hd hx
      refine ⟨true, T.exm_BadChoices_RightError, fun _ a ha => ?_, fun z => by cases z⟩
      have xd : ∀ dd, some d = some dd → ∃ fs, H' dd = some (.xd fs) := fun dd e => ⟨_, by cases e; exact hx⟩
      walk_at "rd"
      refine ⟨rfl, _, .ref (He.ga K "BadHistory"), _, rfl, fun u r => r, T.kit_BadChoices_BadHistory, xd, _, rfl, ?_⟩
      rw [if_neg (by decide)]
      refine ⟨rfl, _, .ref (He.ga K "NoMethod"), _, rfl, fun u r => r, T.kit_BadChoices_NoMethod, xd, _, rfl, ?_⟩
      rw [if_neg (by decide)]
      refine ⟨rfl, _, .ref (He.ga K "BadChoices"), _, rfl, fun u r => r, T.kit_BadChoices_BadChoices, xd, _, rfl, ?_⟩
      rw [if_neg (by decide)]
      exact ⟨_, rfl, rfl, rfl, d, _, y, rfl, hx, rfl, hy H' (s1.trans s')⟩
    rcases h with ⟨n, sr, hn, q⟩ | ⟨p, xs, rfl, hp, hs, q⟩
    · exact ⟨x, k, v, kd, dx, rfl, hx1, hk.same s1, .inl ⟨n, Srt.same s1 sr, hn, rsd _ q⟩⟩
    · refine ⟨x, k, _, kd, dx, rfl, hx1, hk.same s1, .inr ⟨p, xs, rfl, SqR.same s1 hp, fun y hy => (hs y hy).imp fun _ z => Srt.same s1 z, ?_⟩⟩
      cases e : xs.findIdx? fun x => !isPick x with
      | some i =>
        rw [e] at q
        exact rsd _ q
      | none =>
        rw [e] at q
        exact fun H' pa sa _ sx _ _ _ _ _ => ⟨rfl, q H' (fun a u z => sx a u (ne_of_none z hx) (s1 _ _ z))⟩
end
end Rs
set_option Elab.async false
set_option linter.all false
set_option maxRecDepth 100000
set_option maxHeartbeats 2000000
namespace Rs
open PySem PySem.Spec PyProof.Rows L2
local macro_rules | `(tactic| walk_at "rd") => `(tactic| simp only [L2.tRet, L2.tRetN, L2.tSeq, L2.tNext, L2.tIfS, L2.tAsg, L2.gName, L2.gNil, L2.gCons, L2.tVar, L2.tC, L2.tOp, L2.tUn, L2.tCB, L2.tCons, L2.tNil, L2.tAndV, L2.tOrV, L2.tNotV, L2.tAnd, L2.tOr, L2.tNot, L2.tB, L2.tTest, L2.tIf, L2.tChain, L2.tTup, L2.tLst, L2.tDrop, L2.tFld, L2.sFld, L2.tOst, L2.tBM, L2.rNe, L2.tMkO, L2.start, L2.cxOf, L2.Cx.nox, L2.Cx.wish, L2.rI0, L2.rI, L2.tYes, Rs.tCalW, List.getElem?_cons_zero, List.getElem?_cons_succ, Option.some.injEq, exists_eq_left', exists_eq_left, exists_and_left, List.cons.injEq, and_true, true_and, L2.V.bl.injEq, L2.V.int.injEq, L2.V.str.injEq, L2.V.ref.injEq, List.set_cons_zero, List.set_cons_succ, List.map_cons, List.map_nil, List.length_cons, List.length_nil, List.replicate, List.cons_append, List.nil_append, List.append_nil, Nat.reduceSub, Nat.reduceAdd])


section
variable {P : Program} {w : World} {K : PySem.W.Frag} {mg : PySem.Str → Option Value} {base : Heap}
def Src (a : Addr) (H : Hp) : Prop := ∃ x y z : Int, H a = some (.lst [.int x, .int y, .int z])
theorem Src.upd {a : Addr} {H : Hp} {o : HO} (h : Src3 o) : Src a (L2.upd H a o) := by
  obtain ⟨x, y, z, rfl⟩ := h
  exact ⟨x, y, z, upd_same⟩
theorem Src.new {a p : Addr} {H : Hp} {o : HO} (h : Src a H) (hp : H p = none) : Src a (L2.upd H p o) := by
  obtain ⟨x, y, z, h⟩ := h
  exact ⟨x, y, z, Same.new hp _ _ h⟩
theorem Src.same {a : Addr} {H H' : Hp} (h : Src a H) (e : Same H H') : Src a H' := by
  obtain ⟨x, y, z, h⟩ := h
  exact ⟨x, y, z, e _ _ h⟩
theorem SameX.new {a p : Addr} {H H' : Hp} {o : HO} (h : SameX a H H') (hp : H' p = none) : SameX a H (L2.upd H' p o) := h.trans (SameX.of (Same.new hp))
theorem SameX.free {a p : Addr} {H H' : Hp} (h : SameX a H H') (ha : ∃ u, H a = some u) (ha' : ∃ u, H' a = some u) (hp : H' p = none) : H p = none := by
  cases e : H p with
  | none => rfl
  | some u =>
    by_cases n : p = a
    · subst n
      obtain ⟨u', h'⟩ := ha'
      rw [hp] at h'
      cases h'
    · rw [h p u n e] at hp
      cases hp
theorem Src.has {a : Addr} {H : Hp} (h : Src a H) : ∃ u, H a = some u := let ⟨_, _, _, h⟩ := h; ⟨_, h⟩
/-! ### the law's statements, one by one -/
theorem txt_at {ss : List PySem.Str} {i : Nat} {v : V} (h : (ss.map V.str)[i]? = some v) : ∃ st, v = .str st ∧ st ∈ ss := by
  rw [List.getElem?_map] at h
  cases e : ss[i]? with
  | none => rw [e] at h; cases h
  | some st =>
    rw [e] at h
    cases Option.some.inj h
    exact ⟨st, rfl, List.mem_of_getElem? e⟩
def starts : List PySem.Str := ["now", "a", "z"]
def r1 (K : PySem.W.Frag) : TS := tAsg (tTup (tCons (tOp (rI0 fun i j => V.int (i + j)) (tC (V.int 1)) (tCalW (sp_next K) W0 (tCons (tVar 0) (tCons (tC (V.int 8)) tNil)))) (tCons (tCalW (sp_one K) W0 (tCons (tVar 0) (tCons (tLst (tCons (tC (.str "now")) (tCons (tC (.str "a")) (tCons (tC (.str "z")) tNil)))) tNil))) tNil))) (gTup K 2 (gCons (gName 1) (gCons (gName 2) gNil)))
theorem st1 {a : Addr} {H : Hp} {D : Ends} (ha : Src a H) (q : ∀ H' (n : Nat) (st : PySem.Str), 1 ≤ n → n ≤ 8 → st ∈ starts → SameX a H H' → Src a H' → D.nx [some (.ref a), some (.int n), some (.str st), none, none, none, none, none, none, none, none, none, none, none, none, none] H') :
    r1 K D [some (.ref a), none, none, none, none, none, none, none, none, none, none, none, none, none, none, none] H := by
  obtain ⟨x, y, z, ha⟩ := ha
  unfold r1
  walk_at "rd"
  refine ⟨a, x, y, z, 8, rfl, ha, by decide, by decide, fun r o ho r1 r2 => ?_⟩
  obtain ⟨x', y', z', rfl⟩ := ho
  have h1 : (L2.upd H a (.lst [.int x', .int y', .int z'])) a = some (.lst [.int x', .int y', .int z']) := upd_same
  have s1 : SameX a H (L2.upd H a (.lst [.int x', .int y', .int z'])) := SameX.self
  generalize L2.upd H a (.lst [.int x', .int y', .int z']) = H1 at h1 s1
  refine ⟨r, rfl, by decide, fun p hp => ⟨a, p, x', y', z', _, rfl, Same.new hp _ _ h1, upd_same, ne_of_none h1 hp, by simp, by simp, fun i v o hv ho => ?_⟩⟩
  obtain ⟨st, rfl, hst⟩ := txt_at (ss := starts) hv
  have s2 : SameX a H (L2.upd (L2.upd H1 p (.lst [.str "now", .str "a", .str "z"])) a o) := (s1.new hp).upd
  have h2 : Src a (L2.upd (L2.upd H1 p (.lst [.str "now", .str "a", .str "z"])) a o) := Src.upd ho
  refine ⟨by decide, fun t ht => ⟨t, _, rfl, SqT.of upd_same, rfl, _, _, rfl, _, _, rfl, rfl, ?_⟩⟩
  have e : (1 + r) = (((1 + r).toNat : Nat) : Int) := by omega
  rw [e]
  exact q _ (1 + r).toNat st (by omega) (by omega) hst (s2.new ht) (h2.new ht)
/-! words -/
def eight : List PySem.Str := ["yes", "no", "AA", "BB", "CC", "DD", "EE", "FF"]
theorem cutV_take (xs : List V) (n : Nat) : cutV xs none (some (n : Int)) = xs.take n := by
  unfold cutV
  rw [HT.sIx_nat, HT.sIx_none, List.drop_zero, Nat.sub_zero]
  by_cases h : n ≤ xs.length
  · rw [Nat.min_eq_left h]
  · rw [Nat.min_eq_right (by omega), List.take_length, List.take_of_length_le (by omega)]
theorem cutV_drop (xs : List V) (n : Nat) : cutV xs (some (n : Int)) none = xs.drop n := by
  unfold cutV
  rw [HT.sIx_nat, HT.sIx_none]
  by_cases h : n ≤ xs.length
  · rw [Nat.min_eq_left h, List.take_of_length_le (by rw [List.length_drop]; exact Nat.le_refl _)]
  · rw [Nat.min_eq_right (by omega), List.drop_length, List.drop_of_length_le (by omega), List.take_nil]
def r2 (K : PySem.W.Frag) : TS := tAsg (tSl (rSlL K) (tCalW (sp_mixed K) W0 (tCons (tVar 0) (tCons (tLst (tCons (tC (.str "yes")) (tCons (tC (.str "no")) (tCons (tC (.str "AA")) (tCons (tC (.str "BB")) (tCons (tC (.str "CC")) (tCons (tC (.str "DD")) (tCons (tC (.str "EE")) (tCons (tC (.str "FF")) tNil))))))))) tNil))) tNoPart (tPart (tVar 1))) (gName 3)
theorem st2 {a : Addr} {n : Nat} {st : PySem.Str} {H : Hp} {D : Ends} (ha : Src a H) (hn : n ≤ 8) (q : ∀ H' W (ws : List PySem.Str), ws.length = n → ws.Nodup → (∀ x ∈ ws, x ∈ eight) → SameX a H H' → Src a H' → H W = none → H' W = some (.lst (ws.map V.str)) → D.nx [some (.ref a), some (.int n), some (.str st), some (.ref W), none, none, none, none, none, none, none, none, none, none, none, none] H') :
    r2 K D [some (.ref a), some (.int n), some (.str st), none, none, none, none, none, none, none, none, none, none, none, none, none] H := by
  obtain ⟨x, y, z, ha⟩ := ha
  unfold r2
  walk_at "rd"
  simp only [tSl, tNoPart, tPart]
  walk_at "rd"
  refine ⟨by decide, fun p hp => ⟨a, p, x, y, z, eight, rfl, Same.new hp _ _ ha, upd_same, ne_of_none ha hp, by decide, by decide +kernel, fun H' l ys hy sx hs hl hl' => ?_⟩⟩
  obtain ⟨o, ho, x', y', z', rfl⟩ := hs
  have s1 : SameX a H H' := fun b u nb e => sx b u nb (Same.new hp _ _ e)
  refine ⟨l, _, rfl, SqL.of hl', fun W hW => ?_⟩
  rw [cutV_take, ← List.map_take]
  have hl8 : ys.length = 8 := hy.length_eq
  have h8 : eight.Nodup := by decide
  exact q _ W (ys.take n) (by rw [List.length_take]; omega) ((hy.nodup_iff.mpr h8).sublist (List.take_sublist _ _)) (fun x hx => hy.mem_iff.mp (List.mem_of_mem_take hx)) (s1.new hW) (Src.new ⟨_, _, _, ho⟩ hW) (s1.free ⟨_, ha⟩ ⟨_, ho⟩ hW) upd_same
/-! the kind -/
def diceOuts (st : PySem.Str) (ws : List PySem.Str) : Outs := ws.map fun w => (w, st)
def dice (st : PySem.Str) (ws : List PySem.Str) : KD := ⟨"dice", st, isort strLt [], sortTab [((st, "cast"), diceOuts st ws)]⟩
theorem start_name : ∀ st ∈ starts, isName (.str st) = true := by decide +kernel
theorem eight_word : ∀ x ∈ eight, isWord (.str x) = true := by decide +kernel
theorem sortTab_one (k : PySem.Str × PySem.Str) (os : Outs) : sortTab [(k, os)] = [(k, sortOuts os)] := by
  show [(un2 (row2 k), sortOuts ((look [(k, os)] (un2 (row2 k))).getD []))] = _
  rw [un2_row2]
  simp [look]
theorem dice_tab (st : PySem.Str) (ws : List PySem.Str) : (dice st ws).tab = [((st, ("cast" : PySem.Str)), sortOuts (diceOuts st ws))] := sortTab_one _ _
theorem nodup_pairs {st : PySem.Str} : ∀ {ws : List PySem.Str}, ws.Nodup → (diceOuts st ws).Nodup
  | [], _ => List.nodup_nil
  | x :: ws, h => by
    obtain ⟨h1, h2⟩ := List.nodup_cons.mp h
    refine List.nodup_cons.mpr ⟨fun z => ?_, nodup_pairs h2⟩
    obtain ⟨y, hy, e⟩ := List.mem_map.mp z
    cases e
    exact h1 hy
theorem dice_ok {st : PySem.Str} {ws : List PySem.Str} (hst : st ∈ starts) (hl : ws.length ≤ 8) (nd : ws.Nodup) (h8 : ∀ x ∈ ws, x ∈ eight) : MovesOk [((st, "cast"), diceOuts st ws)] := by
  refine ⟨fun m hm => ?_, fun m hm => ?_, ?_, by simp⟩
  · cases List.mem_singleton.mp hm
    exact ⟨start_name st hst, by show isName (.str "cast") = true; decide +kernel⟩
  · cases List.mem_singleton.mp hm
    unfold outsB
    rw [Bool.and_eq_true, Bool.and_eq_true]
    refine ⟨decide_eq_true (by simp [diceOuts]; exact hl), ?_, decide_eq_true (nodup_pairs nd)⟩
    rw [List.all_eq_true]
    intro o ho
    obtain ⟨x, hx, rfl⟩ := List.mem_map.mp ho
    show (isWord (.str x) && isName (.str st)) = true
    rw [eight_word x (h8 x hx), start_name st hst] <;> rfl
  · show cnt ["cast"] ≤ 8
    decide
theorem dice_states {st : PySem.Str} {ws ys : List PySem.Str} (nd : ys.Nodup) (h : ∀ y ∈ ys, y ∈ statesOf (dice st ws)) : ys.length ≤ 60 := by
  have all : ∀ y ∈ ys, y = st := by
    intro y hy
    have := h y hy
    unfold statesOf at this
    rw [dice_tab] at this
    simp only [List.mem_cons, List.mem_append, List.map_cons, List.map_nil, List.flatMap_cons, List.flatMap_nil, List.append_nil, List.mem_map] at this
    rcases this with e | e | e | e
    · exact e
    · cases e
    · rcases e with e | e
      · exact e
      · cases e
    · obtain ⟨o, ho, rfl⟩ := e
      unfold sortOuts at ho
      obtain ⟨k, hk, rfl⟩ := List.mem_map.mp ho
      have := (row_sorted hk).2
      obtain ⟨z, hz, e⟩ := List.mem_map.mp this
      rw [← e]
  match ys, nd, all with
  | [], _, _ => simp
  | [_], _, _ => simp
  | x :: y :: r, nd, all =>
    exfalso
    have e1 := all x (by simp)
    have e2 := all y (by simp)
    subst e1
    rw [e2] at nd
    simp at nd
theorem lc_words {J : It} {ws : List PySem.Str} {st : PySem.Str} {G : Hp → Prop} (wk : Walk J ws.length G (YAt (ws.map V.str))) {σ : L2.St} {H1 : Hp} {D : Addr} {Qd : Hp → Prop} (hD : H1 D = none) (hG : ∀ H, Same H1 H → G H) (hn : ws.length ≤ 4000)
    (hj : 4 < σ.length) (h2 : σ[2]? = some (some (.str st))) (hd : ∀ H cs, Same H1 H → H D = some (.lst (cs.map V.ref)) → Paired (PairAt K H) (diceOuts st ws) cs → Qd H) :
    LcW J (gName 4) tYes (tTup (tCons (tVar 4) (tCons (tVar 2) tNil))) [4] σ D (upd H1 D (.lst [])) Qd := by
  refine lc_it wk (fun i H => Same H1 H ∧ ∃ cs : List Addr, H D = some (.lst (cs.map V.ref)) ∧ cs.length = i ∧ Paired (fun (o : PySem.Str × PySem.Str) b => SqT K H b [.str o.1, .str o.2]) ((ws.take i).map fun w => (w, st)) cs)
    ⟨Same.new hD, [], upd_same, rfl, by rw [List.take_zero]; exact .nil⟩ (fun i H _ p => hG H p.1) (fun i x H H' hi p y => ?_) (fun H p => ?_)
  · obtain ⟨rfl, hx⟩ := y
    obtain ⟨b, hb⟩ : ∃ b, ws[i]? = some b := ⟨_, List.getElem?_eq_getElem hi⟩
    rw [List.getElem?_map, hb] at hx
    cases Option.some.inj hx
    obtain ⟨s1, cs, hc, hl, hp⟩ := p
    refine ⟨by simp [wipe, List.set_set], ?_⟩
    refine ⟨.str b, List.getElem?_set_self (by rw [wipe_length]; exact hj), .str st, ?_, by show 2 ≤ sizeLine; decide, fun c hcn => ?_⟩
    · rw [List.getElem?_set_ne (by decide)]
      simp only [wipe]
      show (σ.set 4 none)[2]? = _
      rw [List.getElem?_set_ne (by decide)]
      exact h2
    · have s2 : Same H' (upd H' c (.tup [.str b, .str st])) := Same.new hcn
      have hD2 := s2 _ _ hc
      refine ⟨_, hD2, by rw [List.length_map, sizeLine_eq]; omega, fun a u e => by rw [upd_ne (ne_of_none e hD)]; exact s2 _ _ (s1 _ _ e), cs ++ [c], by rw [upd_same, List.map_append] <;> rfl, by simp [hl], ?_⟩
      rw [take_next hb, List.map_append]
      exact Paired.snoc (Paired.imp hp fun k b h => tq_upd hD2 (Same.tq s2 h)) (tq_upd hD2 (SqT.of upd_same))
  · obtain ⟨s1, cs, hc, hl, hp⟩ := p
    rw [List.take_length] at hp
    exact hd H cs s1 hc (Paired.imp hp fun _ _ z => .inr z)
def r3 (K : PySem.W.Frag) : TS := tAsg (tMakeW (kC K) (sp_kind K) W0 (tCons (tC (V.str "dice")) (tCons (tVar 2) (tCons (tLst tNil) (tCons (tDispT [(tTup (tCons (tVar 2) (tCons (tC (V.str "cast")) tNil)), tLc (iList K (tVar 3)) (gName 4) tYes (tTup (tCons (tVar 4) (tCons (tVar 2) tNil))) [4])]) tNil))))) (gName 5)
theorem st3 {a W : Addr} {n : Nat} {st : PySem.Str} {ws : List PySem.Str} {H : Hp} {D : Ends} (hst : st ∈ starts) (hw : H W = some (.lst (ws.map V.str))) (hl : ws.length ≤ 8) (nd : ws.Nodup) (h8 : ∀ x ∈ ws, x ∈ eight)
    (q : ∀ H' k, Same H H' → KindAt K H' k (dice st ws) → D.nx [some (.ref a), some (.int n), some (.str st), some (.ref W), none, some (.ref k), none, none, none, none, none, none, none, none, none, none] H') :
    r3 K D [some (.ref a), some (.int n), some (.str st), some (.ref W), none, none, none, none, none, none, none, none, none, none, none, none] H := by
  unfold r3
  walk_at "rd"
  simp only [tMakeW, tDispT, tPairs, tLc, iList]
  walk_at "rd"
  refine ⟨Nat.zero_le _, fun e he d hd => ⟨_, rfl, by show 2 ≤ sizeLine; decide, fun t ht => ?_⟩⟩
  have nde : d ≠ e := fun z => by subst z; rw [upd_same] at hd; cases hd
  have hd0 : H d = none := by rw [upd_ne nde] at hd; exact hd
  have s1 : Same H (L2.upd H e (.lst [])) := Same.new he
  have s2 := Same.new (o := .dT []) hd
  have s3 := Same.new (o := .tup [.str st, .str "cast"]) ht
  have he3 := s3 _ _ (s2 _ _ (upd_same (H := H) (a := e) (o := .lst [])))
  have hd3 := s3 _ _ (upd_same (H := L2.upd H e (.lst [])) (a := d) (o := .dT []))
  have ht3 := upd_same (H := L2.upd (L2.upd H e (.lst [])) d (.dT [])) (a := t) (o := .tup [.str st, .str "cast"])
  have sA := (s1.trans s2).trans s3
  clear s1 s2 s3
  show tLc (iList K (tVar 3)) (gName 4) tYes (tTup (tCons (tVar 4) (tCons (tVar 2) tNil))) [4] _ (L2.upd (L2.upd (L2.upd H e (.lst [])) d (.dT [])) t (.tup [.str st, .str "cast"])) _
  generalize L2.upd (L2.upd (L2.upd H e (.lst [])) d (.dT [])) t (.tup [.str st, .str "cast"]) = H3 at he3 hd3 ht3 sA
  have hw3 := sA _ _ hw
  refine ⟨.ref W, rfl, W, rfl, ⟨_, SqL.of hw3⟩, fun L hL => lc_words (K := K) (ws := ws) (st := st) walk_lm hL (fun H2 s2 => Same.seq s2 (SqL.of hw3)) (by omega) (by simp) rfl fun H4 cs s4 hc hp => ?_⟩
  have nLd : L ≠ d := fun z => by subst z; rw [hL] at hd3; cases hd3
  refine ⟨[], [Sum.inr st, Sum.inr "cast"], t, s4 _ _ hd3, rfl, s4 _ _ ht3, by show 0 < sizeLine; decide, ?_⟩
  have s5 : Same H (L2.upd H4 d (.dT (putK [] [Sum.inr st, Sum.inr "cast"] (.ref L)))) := same_upd (sA.trans s4) hd0
  have hd5 : (L2.upd H4 d (.dT (putK [] [Sum.inr st, Sum.inr "cast"] (.ref L)))) d = some (.dT [([Sum.inr st, Sum.inr "cast"], .ref L)]) := upd_same
  have he5 : (L2.upd H4 d (.dT (putK [] [Sum.inr st, Sum.inr "cast"] (.ref L)))) e = some (.lst []) := by rw [upd_ne nde.symm]; exact s4 _ _ he3
  have hL5 : (L2.upd H4 d (.dT (putK [] [Sum.inr st, Sum.inr "cast"] (.ref L)))) L = some (.lst (cs.map V.ref)) := by rw [upd_ne nLd]; exact hc
  have hp5 : Paired (PairAt K (L2.upd H4 d (.dT (putK [] [Sum.inr st, Sum.inr "cast"] (.ref L))))) (diceOuts st ws) cs := Paired.imp hp fun _ _ z => SameX.rq SameX.self (s4 _ _ hd3) rfl z
  generalize L2.upd H4 d (.dT (putK [] [Sum.inr st, Sum.inr "cast"] (.ref L))) = H5 at s5 hd5 he5 hL5 hp5
  intro x dx hx hdx ne
  have s6 : Same H5 (L2.upd (L2.upd H5 dx (.own x)) x (.ins (kC K) dx [])) := (Same.new hdx).trans (Same.new (by rw [upd_ne ne.symm]; exact hx))
  have hx6 : (L2.upd (L2.upd H5 dx (.own x)) x (.ins (kC K) dx [])) x = some (.ins (kC K) dx []) := upd_same
  generalize L2.upd (L2.upd H5 dx (.own x)) x (.ins (kC K) dx []) = H6 at s6 hx6
  refine ⟨x, "dice", st, e, d, [], [((st, "cast"), diceOuts st ws)], dx, rfl, hx6, by decide +kernel, start_name st hst, .inl (SqL.of (s6 _ _ he5)), fun y hy => (by cases hy), List.nodup_nil, by decide, ?_, dice_ok hst hl nd h8, fun ys ny h => dice_states ny h, fun H' sx kd => ⟨rfl, q H' x (sx.same (s5.trans s6) ?_) kd⟩⟩
  · exact ⟨_, s6 _ _ hd5, .cons ⟨rfl, L, cs, rfl, .inl (SqL.of (s6 _ _ hL5)), Paired.imp hp5 fun _ _ z => SqR.same s6 z⟩ .nil, by simp⟩
  · cases e : H x with
    | none => rfl
    | some u => rw [s5 _ _ e] at hx; cases hx
end
end Rs
set_option Elab.async false
set_option linter.all false
set_option maxRecDepth 100000
set_option maxHeartbeats 2000000
namespace Rs
open PySem PySem.Spec PyProof.Rows L2
local macro_rules | `(tactic| walk_at "rd") => `(tactic| simp only [L2.tRet, L2.tRetN, L2.tSeq, L2.tNext, L2.tIfS, L2.tAsg, L2.gName, L2.gNil, L2.gCons, L2.tVar, L2.tC, L2.tOp, L2.tUn, L2.tCB, L2.tCons, L2.tNil, L2.tAndV, L2.tOrV, L2.tNotV, L2.tAnd, L2.tOr, L2.tNot, L2.tB, L2.tTest, L2.tIf, L2.tChain, L2.tTup, L2.tLst, L2.tDrop, L2.tFld, L2.sFld, L2.tOst, L2.tBM, L2.rNe, L2.tMkO, L2.start, L2.cxOf, L2.Cx.nox, L2.Cx.wish, L2.rI0, L2.rI, L2.tYes, Rs.tCalW, List.getElem?_cons_zero, List.getElem?_cons_succ, Option.some.injEq, exists_eq_left', exists_eq_left, exists_and_left, List.cons.injEq, and_true, true_and, L2.V.bl.injEq, L2.V.int.injEq, L2.V.str.injEq, L2.V.ref.injEq, List.set_cons_zero, List.set_cons_succ, List.map_cons, List.map_nil, List.length_cons, List.length_nil, List.replicate, List.cons_append, List.nil_append, List.append_nil, Nat.reduceSub, Nat.reduceAdd])


section
variable {P : Program} {w : World} {K : PySem.W.Frag} {mg : PySem.Str → Option Value} {base : Heap}
/-! picks -/
def r4 (K : PySem.W.Frag) : TS := tAsg (tLc (iRng1 (tCons (tCalW (sp_next K) W0 (tCons (tVar 0) (tCons (tC (V.int 9)) tNil))) tNil)) (gName 6) tYes (tCalW (sp_next K) W0 (tCons (tVar 0) (tCons (tCalW (sp_one K) W0 (tCons (tVar 0) (tCons (tLst (tCons (tC (V.int 2)) (tCons (tC (V.int 9)) (tCons (tOp (rI CPow fun i j => V.int (i ^ j.toNat)) (tC (V.int 10)) (tC (V.int 30))) tNil)))) tNil))) tNil))) [6]) (gName 7)
theorem most_at {i : Nat} {v : V} (h : [V.int 2, V.int 9, V.int (10 ^ (30 : Int).toNat)][i]? = some v) : ∃ m : Int, v = .int m ∧ 0 < m ∧ m.natAbs < 2 ^ 200 := by
  have hv := List.mem_of_getElem? h
  simp only [List.mem_cons, List.not_mem_nil, or_false] at hv
  rcases hv with e | e | e <;> exact ⟨_, e, by decide, by decide⟩
theorem st4 {a W k : Addr} {n : Nat} {st : PySem.Str} {H : Hp} {D : Ends} (ha : Src a H)
    (q : ∀ H' p (ps : List Int), ps.length ≤ 8 → (∀ y ∈ ps, 0 ≤ y) → SameX a H H' → Src a H' → H p = none → H' p = some (.lst (ps.map V.int)) → D.nx [some (.ref a), some (.int n), some (.str st), some (.ref W), none, some (.ref k), none, some (.ref p), none, none, none, none, none, none, none, none] H') :
    r4 K D [some (.ref a), some (.int n), some (.str st), some (.ref W), none, some (.ref k), none, none, none, none, none, none, none, none, none, none] H := by
  have ha0 := ha
  obtain ⟨x, y, z, ha⟩ := ha
  refine ⟨_, rfl, a, x, y, z, 9, rfl, ha, by decide, by decide, fun r o ho r1 r2 => ⟨r, rfl, by omega, by omega, fun p hp => ?_⟩⟩
  have hs1 : Src a (L2.upd H a o) := Src.upd ho
  have s1 : SameX a H (L2.upd H a o) := SameX.self
  generalize L2.upd H a o = H1 at hp hs1 s1
  have hp0 : H p = none := s1.free ha0.has hs1.has hp
  have npa : a ≠ p := ne_of_none ha hp0
  refine lc_range (lo := 0) (n := r.toNat) (fun i H2 => SameX a H H2 ∧ Src a H2 ∧ ∃ ps : List Int, ps.length = i ∧ (∀ y ∈ ps, 0 ≤ y) ∧ H2 p = some (.lst (ps.map V.int))) ⟨s1.new hp, hs1.new hp, [], rfl, (by simp), upd_same⟩ (fun i H2 hi pv => ?_) (fun H2 pv => ?_)
  · obtain ⟨s2, ⟨x, y, z, h2⟩, ps, hl, hps, h2p⟩ := pv
    refine ⟨rfl, ?_⟩
    refine ⟨_, rfl, _, rfl, ⟨_, _, rfl, rfl, ⟨by decide, by decide, by decide⟩, by show 3 ≤ sizeLine; decide, fun l hl2 => ?_⟩⟩
    refine ⟨a, l, x, y, z, _, rfl, Same.new hl2 _ _ h2, upd_same, ne_of_none h2 hl2, by simp, by simp, fun j v o2 hv ho2 => ?_⟩
    obtain ⟨m, rfl, hm, hm2⟩ := most_at hv
    obtain ⟨x2, y2, z2, rfl⟩ := ho2
    refine ⟨a, x2, y2, z2, m, rfl, upd_same, hm, log_small hm2, fun r' o3 ho3 g1 g2 => ?_⟩
    have npl : p ≠ l := ne_of_none h2p hl2
    refine ⟨ps.map V.int, by rw [upd_ne npa.symm, upd_ne npa.symm, upd_ne npl]; exact h2p, by rw [List.length_map, sizeLine_eq]; omega, ?_, ?_, ps ++ [r'], by simp [hl], ?_, by rw [upd_same, List.map_append] <;> rfl⟩
    · intro b u nb e
      have nbp : b ≠ p := ne_of_none e hp0
      have e2 := s2 b u nb e
      rw [upd_ne nbp, upd_ne nb, upd_ne nb, upd_ne (ne_of_none e2 hl2)]
      exact e2
    · obtain ⟨x3, y3, z3, rfl⟩ := ho3
      exact ⟨x3, y3, z3, by rw [upd_ne npa]; exact upd_same⟩
    · intro y hy
      rcases List.mem_append.mp hy with hy | hy
      · exact hps y hy
      · rw [List.mem_singleton.mp hy]; exact g1
  · obtain ⟨s2, h2, ps, hl, hps, h2p⟩ := pv
    exact q H2 p ps (by omega) hps s2 h2 hp0 h2p
/-! the live object, the words in order -/
def r5 (K : PySem.W.Frag) : TS := tPar 8 9 (tCons (tMakeW (lC K) (sp_live K) W0 (tCons (tVar 5) (tCons (tCB (rTupOf K) (tCons (tVar 7) tNil)) tNil))) (tCons (tCB (rSortS K) (tCons (tVar 3) tNil)) tNil))
theorem all_picks {ps : List Int} (h : ∀ y ∈ ps, 0 ≤ y) : ((ps.map V.int).findIdx? fun x => !isPick x) = none := by
  refine no_bad fun y hy => ?_
  obtain ⟨i, hi, rfl⟩ := List.mem_map.mp hy
  exact decide_eq_true (h i hi)
theorem srt_ints {H : Hp} {ps : List Int} : ∀ x ∈ ps.map V.int, ∃ n, Srt K H x n := by
  intro x hx
  obtain ⟨i, hi, rfl⟩ := List.mem_map.mp hx
  exact ⟨_, srt_int i⟩
theorem st5 {a W k p : Addr} {n : Nat} {st : PySem.Str} {ws : List PySem.Str} {ps : List Int} {kd : KD} {H : Hp} {D : Ends} (hk : KindAt K H k kd) (hs : kd.start = st) (hw : H W = some (.lst (ws.map V.str))) (hl : ws.length ≤ 8) (hp : H p = some (.lst (ps.map V.int))) (hps : ∀ y ∈ ps, 0 ≤ y)
    (q : ∀ H' x dx pa sa l, Same H H' → H x = none → H sa = none → pa ≠ sa → H' x = some (.ins (lC K) dx (lflds k st pa 0 sa 0)) → H' pa = some (.lst (ps.map V.int)) → H' sa = some (.lst []) → H' l = some (.lst ((isort strLt ws).map V.str)) → l ≠ sa → D.nx [some (.ref a), some (.int n), some (.str st), some (.ref W), none, some (.ref k), none, some (.ref p), some (.ref x), some (.ref l), none, none, none, none, none, none] H') :
    r5 K D [some (.ref a), some (.int n), some (.str st), some (.ref W), none, some (.ref k), none, some (.ref p), none, none, none, none, none, none, none, none] H := by
  refine ⟨_, rfl, _, rfl, p, _, rfl, .inl ⟨SqL.of hp, fun t ht x dx hx hdx ne => ?_⟩⟩
  have s1 : Same H (L2.upd H t (.tup (ps.map V.int))) := Same.new ht
  have ht1 : (L2.upd H t (.tup (ps.map V.int))) t = some (.tup (ps.map V.int)) := upd_same
  generalize L2.upd H t (.tup (ps.map V.int)) = H1 at hx hdx s1 ht1
  have s2 : Same H1 (L2.upd (L2.upd H1 dx (.own x)) x (.ins (lC K) dx [])) := (Same.new hdx).trans (Same.new (by rw [upd_ne ne.symm]; exact hx))
  have hx2 : (L2.upd (L2.upd H1 dx (.own x)) x (.ins (lC K) dx [])) x = some (.ins (lC K) dx []) := upd_same
  generalize L2.upd (L2.upd H1 dx (.own x)) x (.ins (lC K) dx []) = H2 at s2 hx2
  have s12 := s1.trans s2
  have fr : ∀ {b : Addr}, H2 b = none → H b = none := fun {b} z => by
    cases e : H b with
    | none => rfl
    | some u => rw [s12 _ _ e] at z; cases z
  refine ⟨x, k, .ref t, kd, dx, rfl, hx2, hk.same s12, .inr ⟨t, _, rfl, .inr (SqT.of (s2 _ _ ht1)), srt_ints, ?_⟩⟩
  rw [all_picks hps]
  intro H3 pa sa nps sx hpa hsa hx3 hpa3 hsa3
  have hx0 : H x = none := by
    cases e : H x with
    | none => rfl
    | some u => rw [s1 _ _ e] at hx; cases hx
  have s3 : Same H H3 := sx.same s12 hx0
  refine ⟨rfl, ⟨_, rfl, W, ws, rfl, .inl (.inl (SqL.of (s3 _ _ hw))), by rw [sizeLine_eq]; omega, fun l hl2 => ⟨_, _, rfl, ?_⟩⟩⟩
  have s4 : Same H3 (L2.upd H3 l (.lst ((isort strLt ws).map V.str))) := Same.new hl2
  subst hs
  exact q _ x dx pa sa l (s3.trans s4) hx0 (fr hsa) nps (s4 _ _ hx3) (s4 _ _ hpa3) (s4 _ _ hsa3) upd_same (fun z => by subst z; rw [hl2] at hsa3; cases hsa3)
end
end Rs
set_option Elab.async false
set_option linter.all false
set_option maxRecDepth 100000
set_option maxHeartbeats 2000000
namespace Rs
open PySem PySem.Spec PyProof.Rows L2
local macro_rules | `(tactic| walk_at "rd") => `(tactic| simp only [L2.tRet, L2.tRetN, L2.tSeq, L2.tNext, L2.tIfS, L2.tAsg, L2.gName, L2.gNil, L2.gCons, L2.tVar, L2.tC, L2.tOp, L2.tUn, L2.tCB, L2.tCons, L2.tNil, L2.tAndV, L2.tOrV, L2.tNotV, L2.tAnd, L2.tOr, L2.tNot, L2.tB, L2.tTest, L2.tIf, L2.tChain, L2.tTup, L2.tLst, L2.tDrop, L2.tFld, L2.sFld, L2.tOst, L2.tBM, L2.rNe, L2.tMkO, L2.start, L2.cxOf, L2.Cx.nox, L2.Cx.wish, L2.rI0, L2.rI, L2.tYes, Rs.tCalW, List.getElem?_cons_zero, List.getElem?_cons_succ, Option.some.injEq, exists_eq_left', exists_eq_left, exists_and_left, List.cons.injEq, and_true, true_and, L2.V.bl.injEq, L2.V.int.injEq, L2.V.str.injEq, L2.V.ref.injEq, List.set_cons_zero, List.set_cons_succ, List.map_cons, List.map_nil, List.length_cons, List.length_nil, List.replicate, List.cons_append, List.nil_append, List.append_nil, Nat.reduceSub, Nat.reduceAdd])
section
variable {P : Program} {w : World} {K : PySem.W.Frag} {mg : PySem.Str → Option Value} {base : Heap}
/-! the turns -/
theorem ins_map {α β : Type} {lt : α → α → Bool} {lt' : β → β → Bool} {f : α → β} (h : ∀ x y, lt' (f x) (f y) = lt x y) (x : α) : ∀ l : List α, ins lt' (f x) (l.map f) = (ins lt x l).map f
  | [] => rfl
  | y :: l => by
    unfold ins
    rw [List.map_cons]
    simp only [h]
    split
    · rw [ins_map h x l] <;> rfl
    · rfl
theorem isort_map {α β : Type} {lt : α → α → Bool} {lt' : β → β → Bool} {f : α → β} (h : ∀ x y, lt' (f x) (f y) = lt x y) : ∀ l : List α, isort lt' (l.map f) = (isort lt l).map f
  | [] => rfl
  | x :: l => by
    show ins lt' (f x) (isort lt' (l.map f)) = (ins lt x (isort lt l)).map f
    rw [isort_map h l, ins_map h]
theorem rowLt_pair (st : PySem.Str) (x y : PySem.Str) : rowLt [x, st] [y, st] = strLt x y := by
  show (if x = y then (if st = st then false else strLt st st) else strLt x y) = strLt x y
  by_cases e : x = y
  · subst e
    rw [if_pos rfl, if_pos rfl, strLt_tot.irr]
  · rw [if_neg e]
theorem dice_outs (st : PySem.Str) (ws : List PySem.Str) : sortOuts (diceOuts st ws) = (isort strLt ws).map fun w => (w, st) := by
  unfold sortOuts diceOuts
  have e : (ws.map fun w => (w, st)).map row2 = ws.map fun w => [w, st] := by rw [List.map_map] <;> rfl
  rw [e, isort_map (lt := strLt) (fun x y => rowLt_pair st x y), List.map_map] <;> rfl
def taken (n len i : Nat) : Nat := if n = 1 then 0 else min i len
def optAt (n : Nat) (ps : List Int) (i : Nat) : Nat := if i < ps.length then (ps.getD i 0 % n).toNat else 0
theorem opt_at {os : Outs} {ps : List Int} {n i : Nat} (hl : os.length = n) (hn : 1 ≤ n) : optOf os ps (taken n ps.length i) = optAt n ps i := by
  unfold optOf takes? taken optAt
  by_cases h1 : n = 1
  · subst h1
    rw [hl]
    simp
    try (intro _; omega)
  · rw [if_neg h1, hl]
    by_cases h2 : i < ps.length
    · rw [Nat.min_eq_left (by omega), if_pos (by simp; omega), if_pos h2]
    · rw [Nat.min_eq_right (by omega), if_neg (by simp), if_neg h2]
theorem next_at {os : Outs} {ps : List Int} {n i : Nat} (hl : os.length = n) (hn : 1 ≤ n) : nextN os ps (taken n ps.length i) = taken n ps.length (i + 1) := by
  unfold nextN takes? taken
  by_cases h1 : n = 1
  · subst h1
    rw [hl]
    simp
  · rw [if_neg h1, if_neg h1, hl]
    by_cases h2 : i < ps.length
    · rw [Nat.min_eq_left (by omega), if_pos (by simp; omega)]; omega
    · rw [Nat.min_eq_right (by omega), if_neg (by simp)]; omega
theorem left_at {n len i : Nat} : (len : Int) - ((taken n len (i + 1) : Nat) : Int) = if n = 1 then (len : Int) else (if (len : Int) - i - 1 > 0 then (len : Int) - i - 1 else 0) := by
  unfold taken
  by_cases h1 : n = 1
  · rw [if_pos h1, if_pos h1]; omega
  · rw [if_neg h1, if_neg h1]
    by_cases h2 : i + 1 ≤ len
    · rw [Nat.min_eq_left h2]
      split <;> omega
    · rw [Nat.min_eq_right (by omega)]
      rw [if_neg (by omega)]
      omega
def said4 (st w : PySem.Str) : PyData := .tuple [.str st, .str "cast", .str w, .str st]
theorem said_ok : ∀ st ∈ starts, ∀ w ∈ eight, SeqAt.shaped (said4 st w) = true ∧ PyData.eqv (said4 st w) (said4 st w) = true := by decide +kernel
def due (w : PySem.Str) : PySem.Str := if (decide (w = "yes") || decide (w = "no")) = true then w else "error"
def r6i (K : PySem.W.Frag) : TS := tIfS (tOr (tTest (tOp rNe (tVar 11) (tIf (tTest (tOp (rIn K false) (tVar 4) (tTup (tCons (tC (.str "yes")) (tCons (tC (.str "no")) tNil))))) (tVar 4) (tC (.str "error")))))
      (tTest (tOp (rNeD K) (tOp (rIxL K) (tMethW (lC K) "told" (sp_told K) W0 (tVar 8) tNil) (tUn (rU fun i => V.int (-i)) (tC (V.int 1))))
        (tTup (tCons (tVar 2) (tCons (tC (.str "cast")) (tCons (tVar 4) (tCons (tVar 2) tNil))))))))
    (tRet (tC (V.bl false))) tNext
def r6j (K : PySem.W.Frag) : TS := tIfS (tTest (tOp rNe (tProp (lC K) (sp_left K) [] E0 (tVar 8)) (tIf (tTest (tOp rEq (tVar 1) (tC (V.int 1)))) (tCB (rLenQ K) (tCons (tVar 7) tNil))
      (tCB (fun xs H Q => ∃ i j, xs = [V.int i, V.int j] ∧ Q (V.int (if j > i then j else i)) H) (tCons (tC (V.int 0)) (tCons (tOp (rI0 fun i j => V.int (i - j)) (tOp (rI0 fun i j => V.int (i - j)) (tCB (rLenQ K) (tCons (tVar 7) tNil)) (tVar 6)) (tC (V.int 1))) tNil))))))
    (tRet (tC (V.bl false))) tNext
section
variable {a W k p x dx pa sa l t : Addr} {n i j : Nat} {st w : PySem.Str} {ws : List PySem.Str} {ps : List Int} {said : List V} {w4 : Option V} {H : Hp} {D : Ends}
abbrev sg6 (a W k p x l : Addr) (n : Nat) (st : PySem.Str) (w4 v6 v10 v11 : Option V) : L2.St := [some (.ref a), some (.int n), some (.str st), some (.ref W), w4, some (.ref k), v6, some (.ref p), some (.ref x), some (.ref l), v10, v11, none, none, none, none]
theorem due_in (w : PySem.Str) : inV (.str w) [.str "yes", .str "no"] = (decide (w = "yes") || decide (w = "no")) := by
  simp only [inV, List.any_cons, List.any_nil, Bool.or_false, eqV, str_beq]
theorem st6i (hst : st ∈ starts) (hw8 : w ∈ eight) (hx : H x = some (.ins (lC K) dx (lflds k st pa (taken n ps.length (i + 1) : Nat) sa 0))) (hsa : H sa = some (.lst (said ++ [.ref t])))
    (ht : H t = some (.tup [.str st, .str "cast", .str w, .str st]))
    (q : ∀ H', Same H H' → D.nx (sg6 a W k p x l n st (some (.str w)) (some (.int i)) (some (.int j)) (some (.str (due w)))) H') :
    r6i K D (sg6 a W k p x l n st (some (.str w)) (some (.int i)) (some (.int j)) (some (.str (due w)))) H := by
  refine ⟨.str (due w), rfl, .str w, rfl, by show 2 ≤ sizeLine; decide, fun y hy => ?_⟩
  have s1 : Same H (L2.upd H y (.tup [.str "yes", .str "no"])) := Same.new hy
  refine ⟨y, _, rfl, .inr (SqT.of upd_same), rfl, rfl, _, rfl, ?_⟩
  generalize (L2.upd H y (.tup [.str "yes", .str "no"])) = H1 at s1
  have told : (tTest (tOp (rNeD K) (tOp (rIxL K) (tMethW (lC K) "told" (sp_told K) W0 (tVar 8) tNil) (tUn (rU fun i => V.int (-i)) (tC (V.int 1))))
        (tTup (tCons (tVar 2) (tCons (tC (.str "cast")) (tCons (tVar 4) (tCons (tVar 2) tNil))))))) (sg6 a W k p x l n st (some (.str w)) (some (.int i)) (some (.int j)) (some (.str (due w)))) H1
      fun b H1 => if b = true then (tRet (tC (V.bl false))) D (sg6 a W k p x l n st (some (.str w)) (some (.int i)) (some (.int j)) (some (.str (due w)))) H1 else D.nx (sg6 a W k p x l n st (some (.str w)) (some (.int i)) (some (.int j)) (some (.str (due w)))) H1 := by
    refine ⟨.ref x, rfl, x, dx, _, rfl, s1 _ _ hx, rfl, x, dx, k, st, pa, _, sa, 0, _, rfl, s1 _ _ hx, s1 _ _ hsa, fun l2 hl2 => ?_⟩
    have s2 := s1.trans (Same.new (o := .lst (said ++ [.ref t])) hl2)
    refine ⟨1, rfl, l2, _, _, .ref t, rfl, rfl, SqL.of upd_same, atI_last said _, ?_⟩
    generalize (L2.upd H1 l2 (.lst (said ++ [.ref t]))) = H2 at s2
    refine ⟨.str st, rfl, .str w, rfl, .str st, rfl, by show 4 ≤ sizeLine; decide, fun l3 hl3 => ?_⟩
    have s3 := s2.trans (Same.new (o := .tup [.str st, .str "cast", .str w, .str st]) hl3)
    have d4 : ∀ {HH : Hp}, DpAll K HH [.str st, .str "cast", .str w, .str st] [.str st, .str "cast", .str w, .str st] := .cons (.str _) (.cons (.str _) (.cons (.str _) (.cons (.str _) .nil)))
    refine ⟨said4 st w, said4 st w, .tup (SqT.of (s3 _ _ ht)) d4, .tup (SqT.of upd_same) d4, (said_ok st hst w hw8).1, (said_ok st hst w hw8).1, _, rfl, ?_⟩
    rw [(said_ok st hst w hw8).2]
    exact q _ s3
  refine ite2 (fun e => ?_) (fun e => ?_)
  · refine ⟨_, rfl, rfl, _, rfl, ?_⟩
    have e2 : due w = w := by
      unfold due
      rw [← due_in]
      exact if_pos e
    rw [e2, decide_eq_true rfl]
    rw [e2] at told
    exact told
  · have e2 : due w = "error" := by
      unfold due
      rw [← due_in]
      exact if_neg e
    refine ⟨rfl, _, rfl, ?_⟩
    rw [e2, decide_eq_true rfl]
    rw [e2] at told
    exact told
theorem st6j (hx : H x = some (.ins (lC K) dx (lflds k st pa (taken n ps.length (i + 1) : Nat) sa 0))) (hpa : H pa = some (.lst (ps.map V.int))) (hp : H p = some (.lst (ps.map V.int)))
    (q : D.nx (sg6 a W k p x l n st (some (.str w)) (some (.int i)) (some (.int j)) (some (.str (due w)))) H) :
    r6j K D (sg6 a W k p x l n st (some (.str w)) (some (.int i)) (some (.int j)) (some (.str (due w)))) H := by
  refine ⟨.ref x, rfl, x, dx, _, rfl, hx, x, dx, k, st, pa, _, sa, 0, _, rfl, hx, hpa, ?_⟩
  rw [List.length_map, left_at]
  refine ⟨.int n, rfl, rfl, _, rfl, ?_⟩
  refine ite2 (fun e => ?_) (fun e => ?_)
  · have e1 : n = 1 := by
      have : (n : Int) = 1 := by simpa using e
      omega
    refine ⟨_, rfl, p, _, rfl, .inl (SqL.of hp), rfl, _, rfl, ?_⟩
    rw [if_pos e1, List.length_map, decide_eq_true rfl]
    exact q
  · have e1 : ¬ n = 1 := by
      have : ¬ (n : Int) = 1 := by simpa using e
      omega
    refine ⟨_, rfl, p, _, rfl, .inl (SqL.of hp), _, rfl, _, _, rfl, rfl, _, _, rfl, rfl, _, _, rfl, rfl, _, rfl, ?_⟩
    rw [if_neg e1, List.length_map, decide_eq_true rfl]
    exact q
def r6a (K : PySem.W.Frag) : TS := tAsg (tIf (tTest (tOp (rI0 fun i j => V.bl (decide (i < j))) (tVar 6) (tCB (rLenQ K) (tCons (tVar 7) tNil)))) (tOp (rI (fun x j => 0 < j) fun i j => V.int (i % j)) (tCB rInt1 (tCons (tOp (rIxL K) (tVar 7) (tVar 6)) tNil)) (tVar 1)) (tC (V.int 0))) (gName 10)
theorem st6a {v11 : Option V} {v10 : Option V} (hn : 1 ≤ n) (hp : H p = some (.lst (ps.map V.int))) (q : D.nx (sg6 a W k p x l n st w4 (some (.int i)) (some (.int (optAt n ps i : Nat))) v11) H) :
    r6a K D (sg6 a W k p x l n st w4 (some (.int i)) v10 v11) H := by
  refine ⟨_, rfl, _, rfl, p, _, rfl, .inl (SqL.of hp), _, _, rfl, rfl, _, rfl, ?_⟩
  refine ite2 (fun e => ?_) (fun e => ?_)
  · have e1 : i < ps.length := by
      have : (i : Int) < ((ps.map V.int).length : Int) := by simpa using e
      rw [List.length_map] at this
      omega
    have hat : atI (ps.map V.int) (i : Int) = some (.int (ps.getD i 0)) := atI_nat (by rw [List.getElem?_map, List.getElem?_eq_getElem e1, List.getD_eq_getElem?_getD, List.getElem?_eq_getElem e1] <;> rfl)
    refine ⟨_, rfl, _, rfl, p, _, _, _, rfl, rfl, SqL.of hp, hat, _, rfl, _, rfl, _, _, rfl, rfl, by omega, ?_⟩
    have e2 : ((optAt n ps i : Nat) : Int) = ps.getD i 0 % (n : Int) := by
      rw [optAt, if_pos e1, Int.toNat_of_nonneg (Int.emod_nonneg _ (by omega))]
    rw [e2] at q
    exact q
  · have e1 : ¬ i < ps.length := by
      have : ¬ (i : Int) < ((ps.map V.int).length : Int) := by simpa using e
      rw [List.length_map] at this
      omega
    rw [optAt, if_neg e1] at q
    exact q
def r6t (K : PySem.W.Frag) : TS := fun D σ H => tAsg (tIf (tB (tCallOW (lC K) (sp_lcall K) (wOnly K (Value.ref (He.ga K "RightError")) (fun ea cls ed => tAsg (tC (.str "error")) (gName 11)) W0 D) (tVar 8) (tCons (tC (.str "cast")) tNil))) (tC (.str "yes")) (tC (.str "no"))) (gName 11) D σ H
theorem st6t {v10 v11 : Option V} (T : Txt K mg) (hst : st ∈ starts) (hn : 1 ≤ n) (hl : ws.length = n) (hj : (isort strLt ws)[optAt n ps i]? = some w)
    (hk : KindAt K H k (dice st ws)) (hx : H x = some (.ins (lC K) dx (lflds k st pa (taken n ps.length i : Nat) sa 0))) (hpa : H pa = some (.lst (ps.map V.int))) (hsa : H sa = some (.lst said)) (npa : pa ≠ sa) (hsl : said.length ≤ 4000)
    (q : ∀ H' t, (∀ b u, b ≠ x → b ≠ sa → H b = some u → H' b = some u) → KindAt K H' k (dice st ws) → H' x = some (.ins (lC K) dx (lflds k st pa (taken n ps.length (i + 1) : Nat) sa 0)) → H' sa = some (.lst (said ++ [.ref t])) → H' t = some (.tup [.str st, .str "cast", .str w, .str st]) →
      D.nx (sg6 a W k p x l n st w4 (some (.int i)) v10 (some (.str (due w)))) H') :
    r6t K D (sg6 a W k p x l n st w4 (some (.int i)) v10 v11) H := by
  have hos : (sortOuts (diceOuts st ws)).length = n := by rw [dice_outs, List.length_map, length_isort, hl]
  refine ⟨_, rfl, x, rfl, ⟨dx, _, hx⟩, x, dx, k, st, pa, taken n ps.length i, sa, 0, dice st ws, "cast", ps, said, sortOuts (diceOuts st ws), (w, st), rfl, hx, hpa, hsa, npa, hsl, hk, start_name st hst, by decide +kernel, ?_, ?_, fun H' t sm hk' hx' hsa' ht' _ => ?_⟩
  · rw [dice_tab]
    simp [look]
  · rw [opt_at hos hn, dice_outs, List.getElem?_map, hj] <;> rfl
  · rw [next_at hos hn] at hx'
    have q' := q H' t sm hk' hx' hsa' ht'
    refine ite2 (fun e => ?_) (fun e => ?_)
    · have e' : (decide (w = "yes") || decide (w = "no")) = true := e
      refine ⟨_, rfl, ite2 (fun e2 => ?_) (fun e2 => ?_)⟩
      · have e3 : w = "yes" := of_decide_eq_true e2
        rw [due, if_pos e', e3] at q'
        exact q'
      · have e3 : w = "no" := by
          have e4 : ¬ w = "yes" := fun z => e2 (decide_eq_true z)
          rw [decide_eq_false e4, Bool.false_or] at e'
          exact of_decide_eq_true e'
        rw [due, if_pos e', e3] at q'
        exact q'
    · have e' : ¬ (decide (w = "yes") || decide (w = "no")) = true := e
      intro H2 d s2 hd hxd
      refine ⟨true, T.exm_Met_RightError, fun _ ea hea => ?_, fun z => by cases z⟩
      have q2 := q H2 t (fun b u n1 n2 z => s2 _ _ (sm b u n1 n2 z)) (hk'.same s2) (s2 _ _ hx') (s2 _ _ hsa') (s2 _ _ ht')
      rw [due, if_neg e'] at q2
      exact q2
end
end
end Rs
set_option Elab.async false
set_option linter.all false
set_option maxRecDepth 100000
set_option maxHeartbeats 2000000
namespace Rs
open PySem PySem.Spec PyProof.Rows L2
local macro_rules | `(tactic| walk_at "rd") => `(tactic| simp only [L2.tRet, L2.tRetN, L2.tSeq, L2.tNext, L2.tIfS, L2.tAsg, L2.gName, L2.gNil, L2.gCons, L2.tVar, L2.tC, L2.tOp, L2.tUn, L2.tCB, L2.tCons, L2.tNil, L2.tAndV, L2.tOrV, L2.tNotV, L2.tAnd, L2.tOr, L2.tNot, L2.tB, L2.tTest, L2.tIf, L2.tChain, L2.tTup, L2.tLst, L2.tDrop, L2.tFld, L2.sFld, L2.tOst, L2.tBM, L2.rNe, L2.tMkO, L2.start, L2.cxOf, L2.Cx.nox, L2.Cx.wish, L2.rI0, L2.rI, L2.tYes, Rs.tCalW, List.getElem?_cons_zero, List.getElem?_cons_succ, Option.some.injEq, exists_eq_left', exists_eq_left, exists_and_left, List.cons.injEq, and_true, true_and, L2.V.bl.injEq, L2.V.int.injEq, L2.V.str.injEq, L2.V.ref.injEq, List.set_cons_zero, List.set_cons_succ, List.map_cons, List.map_nil, List.length_cons, List.length_nil, List.replicate, List.cons_append, List.nil_append, List.append_nil, Nat.reduceSub, Nat.reduceAdd])
section
variable {P : Program} {w : World} {K : PySem.W.Frag} {mg : PySem.Str → Option Value} {base : Heap}
/-! the loop of turns -/
def r6g (K : PySem.W.Frag) : TS := tAsg (tOp (rIxL K) (tVar 9) (tVar 10)) (gName 4)
def r6 (K : PySem.W.Frag) : TS := tFor (iRng1 (tCons (tOp (rI0 fun i j => V.int (i + j)) (tCB (rLenQ K) (tCons (tVar 7) tNil)) (tC (V.int 2))) tNil)) (gName 6)
  (tSeq (r6a K) (tSeq (r6t K) (tSeq (r6g K) (tSeq (r6i K) (r6j K)))))
section
variable {a W k p x dx pa sa l t : Addr} {n i j : Nat} {st w : PySem.Str} {ws : List PySem.Str} {ps : List Int} {said : List V} {w4 : Option V} {H : Hp} {D : Ends}
theorem optAt_lt (hn : 1 ≤ n) : optAt n ps i < n := by
  unfold optAt
  split
  · have h1 := Int.emod_nonneg (ps.getD i 0) (b := (n : Int)) (by omega)
    have h2 := Int.emod_lt_of_pos (ps.getD i 0) (b := (n : Int)) (by omega)
    omega
  · omega
theorem st6 (T : Txt K mg) (hst : st ∈ starts) (hn : 1 ≤ n) (hl : ws.length = n) (h8 : ∀ x ∈ ws, x ∈ eight) (hk : KindAt K H k (dice st ws)) (hx : H x = some (.ins (lC K) dx (lflds k st pa 0 sa 0))) (hpa : H pa = some (.lst (ps.map V.int))) (hsa : H sa = some (.lst []))
    (npa : pa ≠ sa) (hp : H p = some (.lst (ps.map V.int))) (np : p ≠ sa) (hl2 : H l = some (.lst ((isort strLt ws).map V.str))) (nl : l ≠ sa) (hps : ps.length ≤ 8)
    (q : ∀ H' w4 v6 v10 v11, (∀ b u, b ≠ x → b ≠ sa → H b = some u → H' b = some u) → KindAt K H' k (dice st ws) → D.nx (sg6 a W k p x l n st w4 v6 v10 v11) H') :
    r6 K D (sg6 a W k p x l n st none none none none) H := by
  have nx : ∀ {b : Addr} {ys : List V}, H b = some (.lst ys) → b ≠ x := fun {b ys} h => ne_of h hx (by intro z; cases z)
  refine ⟨_, rfl, p, _, rfl, .inl (SqL.of hp), _, _, rfl, rfl, _, rfl, by rw [List.length_map]; omega, by rw [List.length_map]; omega, ?_⟩
  refine for_range (lo := 0) (fun i σ H' => (∃ w4 v6 v10 v11, σ = sg6 a W k p x l n st w4 v6 v10 v11) ∧ (∀ b u, b ≠ x → b ≠ sa → H b = some u → H' b = some u) ∧ KindAt K H' k (dice st ws) ∧ H' x = some (.ins (lC K) dx (lflds k st pa (taken n ps.length i : Nat) sa 0)) ∧ ∃ said : List V, said.length = i ∧ H' sa = some (.lst said))
    ⟨⟨_, _, _, _, rfl⟩, fun b u _ _ z => z, hk, ?_, [], rfl, hsa⟩ (fun i σ H1 hi pv => ?_) (fun σ H1 pv => ?_)
  · rw [hx, taken]
    simp
  · obtain ⟨⟨w4, v6, v10, v11, rfl⟩, sm, hk1, hx1, said, hsl, hsa1⟩ := pv
    rw [List.length_map] at hi
    obtain ⟨w, hw⟩ : ∃ w, (isort strLt ws)[optAt n ps i]? = some w := ⟨_, List.getElem?_eq_getElem (by rw [length_isort, hl]; exact optAt_lt hn)⟩
    have hw8 : w ∈ eight := h8 w (mem_isort.mp (List.mem_of_getElem? hw))
    have hpa1 := sm _ _ (nx hpa) npa hpa
    have hp1 := sm _ _ (nx hp) np hp
    rw [Int.zero_add]
    refine st6a (w4 := w4) (v10 := v10) (v11 := v11) (ps := ps) hn hp1 ?_
    refine st6t (ps := ps) (said := said) T hst hn hl hw hk1 hx1 hpa1 hsa1 npa (by omega) fun H2 t sm2 hk2 hx2 hsa2 ht2 => ?_
    have sm2' : ∀ b u, b ≠ x → b ≠ sa → H b = some u → H2 b = some u := fun b u n1 n2 z => sm2 b u n1 n2 (sm b u n1 n2 z)
    refine ⟨_, rfl, _, rfl, l, _, _, _, rfl, rfl, SqL.of (sm2' _ _ (nx hl2) nl hl2), atI_nat (by rw [List.getElem?_map, hw] <;> rfl), ?_⟩
    refine st6i (ps := ps) (w := w) hst hw8 hx2 hsa2 ht2 fun H3 s3 => ?_
    refine st6j (ps := ps) (s3 _ _ hx2) (s3 _ _ (sm2' _ _ (nx hpa) npa hpa)) (s3 _ _ (sm2' _ _ (nx hp) np hp)) ?_
    exact ⟨⟨_, _, _, _, rfl⟩, fun b u n1 n2 z => s3 _ _ (sm2' b u n1 n2 z), hk2.same s3, s3 _ _ hx2, _, by rw [List.length_append, hsl] <;> rfl, s3 _ _ hsa2⟩
  · obtain ⟨⟨w4, v6, v10, v11, rfl⟩, sm, hk1, hx1, _⟩ := pv
    exact q H1 _ _ _ _ sm hk1
end
end
end Rs
set_option Elab.async false
set_option linter.all false
set_option maxRecDepth 100000
set_option maxHeartbeats 2000000
namespace Rs
open PySem PySem.Spec PyProof.Rows L2
local macro_rules | `(tactic| walk_at "rd") => `(tactic| simp only [L2.tRet, L2.tRetN, L2.tSeq, L2.tNext, L2.tIfS, L2.tAsg, L2.gName, L2.gNil, L2.gCons, L2.tVar, L2.tC, L2.tOp, L2.tUn, L2.tCB, L2.tCons, L2.tNil, L2.tAndV, L2.tOrV, L2.tNotV, L2.tAnd, L2.tOr, L2.tNot, L2.tB, L2.tTest, L2.tIf, L2.tChain, L2.tTup, L2.tLst, L2.tDrop, L2.tFld, L2.sFld, L2.tOst, L2.tBM, L2.rNe, L2.tMkO, L2.start, L2.cxOf, L2.Cx.nox, L2.Cx.wish, L2.rI0, L2.rI, L2.tYes, Rs.tCalW, List.getElem?_cons_zero, List.getElem?_cons_succ, Option.some.injEq, exists_eq_left', exists_eq_left, exists_and_left, List.cons.injEq, and_true, true_and, L2.V.bl.injEq, L2.V.int.injEq, L2.V.str.injEq, L2.V.ref.injEq, List.set_cons_zero, List.set_cons_succ, List.map_cons, List.map_nil, List.length_cons, List.length_nil, List.replicate, List.cons_append, List.nil_append, List.append_nil, Nat.reduceSub, Nat.reduceAdd])
section
variable {P : Program} {w : World} {K : PySem.W.Frag} {mg : PySem.Str → Option Value} {base : Heap}
/-! what stands while the draws go on -/
theorem SameX.tqL {a b : Addr} {H H' : Hp} {xs zs : List V} (h : SameX a H H') (ha : H a = some (.lst xs)) (q : SqT K H b zs) : SqT K H' b zs := by
  rcases q with (q | ⟨ob, q⟩) | q
  · exact .inl (.inl (h _ _ (ne_of q ha (by intro z; cases z)) q))
  · exact .inl (.inr ⟨ob, h _ _ (ne_of q ha (by intro z; cases z)) q⟩)
  · exact .inr q
theorem SameX.kindL {a k : Addr} {H H' : Hp} {xs : List V} {kd : KD} (h : SameX a H H') (ha : H a = some (.lst xs)) (q : KindAt K H k kd) : KindAt K H' k kd := by
  obtain ⟨d, e, tb, h1, h2, kvs, h3, h4, h5⟩ := q
  refine ⟨d, e, tb, h _ _ (ne_of h1 ha (by intro z; cases z)) h1, h.tqL ha h2, kvs, h _ _ (ne_of h3 ha (by intro z; cases z)) h3, Paired.imp h4 fun _ _ z => ?_, h5⟩
  obtain ⟨z1, t, z2, cs, z3, z4⟩ := z
  exact ⟨z1, t, z2, cs, h.tqL ha z3, Paired.imp z4 fun _ _ y => h.tqL ha y⟩
theorem Srt.srcd {a : Addr} {H H' : Hp} {v : V} {n : String} {xs ys : List V} (e : SameX a H H') (ha : H a = some (.lst xs)) (ha' : H' a = some (.lst ys)) (h : Srt K H v n) : Srt K H' v n := by
  refine ⟨?_, h.2⟩
  have far : ∀ {b : Addr} {u : HO}, H b = some u → (∀ zs, u ≠ .lst zs) → H' b = some u := fun {b u} hb hu => e _ _ (fun z => by subst z; rw [ha] at hb; cases Option.some.inj hb; exact hu _ rfl) hb
  cases h.1 with
  | base b =>
    refine .base ?_
    cases b with
    | non => exact .non
    | bl y => exact .bl y
    | int i => exact .int i
    | str y => exact .str y
    | flt y => exact .flt y
    | @lst b xs ea =>
      by_cases z : b = a
      · subst z; exact .lst ha'
      · exact .lst (e _ _ z ea)
    | frz ea => exact .frz (far ea (by intro zs z; cases z))
    | tup ea => exact .tup (far ea (by intro zs z; cases z))
    | dK ea => exact .dK (far ea (by intro zs z; cases z))
    | dT ea => exact .dT (far ea (by intro zs z; cases z))
  | byt b => exact .byt b
  | set ea => exact .set (far ea (by intro zs z; cases z))
  | kList a c => exact .kList a c
  | kTuple a c => exact .kTuple a c
  | kDict a c => exact .kDict a c
  | fTuple ea => exact .fTuple (far ea (by intro zs z; cases z))
  | fDict ea => exact .fDict (far ea (by intro zs z; cases z))
theorem Srt.src {a : Addr} {H H' : Hp} {v : V} {n : String} (e : SameX a H H') (ha : Src a H) (ha' : Src a H') (h : Srt K H v n) : Srt K H' v n := by
  obtain ⟨_, _, _, ha⟩ := ha
  obtain ⟨_, _, _, ha'⟩ := ha'
  exact Srt.srcd e ha ha' h
section
variable {a W k p x dx pa sa l t : Addr} {n i j : Nat} {st w : PySem.Str} {ws : List PySem.Str} {ps : List Int} {said : List V} {w4 v6 v10 v11 v12 v13 v14 v15 : Option V} {H : Hp} {D : Ends}
abbrev sg7 (a W k p x l : Addr) (n : Nat) (st : PySem.Str) (w4 v6 v10 v11 v12 v13 v14 v15 : Option V) : L2.St := [some (.ref a), some (.int n), some (.str st), some (.ref W), w4, some (.ref k), v6, some (.ref p), some (.ref x), some (.ref l), v10, v11, v12, v13, v14, v15]
def r7 (K : PySem.W.Frag) : TS := tAsg (tCalW (sp_next K) W0 (tCons (tVar 0) (tCons (tOp (rI0 fun i j => V.int (i + j)) (tCB (rLenQ K) (tCons (tVar 7) tNil)) (tC (V.int 1))) tNil))) (gName 10)
theorem st7 (ha : Src a H) (hp : H p = some (.lst (ps.map V.int))) (hps : ps.length ≤ 8) (q : ∀ H' (j : Nat), j ≤ ps.length → SameX a H H' → Src a H' → D.nx (sg7 a W k p x l n st w4 v6 (some (.int j)) v11 v12 v13 v14 v15) H') :
    r7 K D (sg7 a W k p x l n st w4 v6 v10 v11 v12 v13 v14 v15) H := by
  obtain ⟨x, y, z, ha⟩ := ha
  refine ⟨_, rfl, _, rfl, p, _, rfl, .inl (SqL.of hp), _, _, rfl, rfl, a, x, y, z, _, rfl, ha, by rw [List.length_map]; omega, log_small (by rw [List.length_map]; omega), fun r o ho r1 r2 => ?_⟩
  rw [List.length_map] at r2
  have e : r = ((r.toNat : Nat) : Int) := by omega
  rw [e]
  exact q _ r.toNat (by omega) SameX.self (Src.upd ho)
def r8 (K : PySem.W.Frag) : TS := tAsg (tCalW (sp_one K) W0 (tCons (tVar 0) (tCons (tLst (tCons (tC V.non) (tCons (tUn (rU fun i => V.int (-i)) (tC (V.int 1))) (tCons (tC (V.bl true)) (tCons (tC (V.bl false)) (tCons (tC (V.str "1")) (tCons (tTup (tCons (tC (V.int 1)) tNil)) (tCons (tLst (tCons (tC (V.int 1)) tNil)) (tCons tDNewK
  (tCons (tOp (rI0 fun i j => V.int (i - j)) (tC (V.int 0)) (tOp (rI CPow fun i j => V.int (i ^ j.toNat)) (tC (V.int 10)) (tC (V.int 20)))) (tCons (tTup tNil) tNil))))))))))) tNil))) (gName 12)
theorem st8 (ha : Src a H) (q : ∀ H' v, (∃ n, Srt K H' v n) → isPick v = false → SameX a H H' → Src a H' → D.nx (sg7 a W k p x l n st w4 v6 v10 v11 (some v) v13 v14 v15) H') :
    r8 K D (sg7 a W k p x l n st w4 v6 v10 v11 v12 v13 v14 v15) H := by
  have hs := ha
  obtain ⟨x, y, z, ha⟩ := ha
  refine ⟨_, rfl, 1, rfl, by show 1 ≤ sizeLine; decide, fun t1 h1 => ⟨by show 1 ≤ sizeLine; decide, fun t2 h2 => fun t3 h3 => ⟨_, _, rfl, rfl, ⟨by decide, by decide, by decide⟩, _, _, rfl, rfl, Nat.zero_le _, fun t4 h4 => ⟨by show 10 ≤ sizeLine; decide, fun L hL => ?_⟩⟩⟩⟩
  have s1 := Same.new (o := .tup [.int 1]) h1
  have e1 : (L2.upd H t1 (.tup [.int 1])) t1 = some (.tup [.int 1]) := upd_same
  generalize L2.upd H t1 (.tup [.int 1]) = H1 at *
  have s2 := Same.new (o := .lst [.int 1]) h2
  have e2 : (L2.upd H1 t2 (.lst [.int 1])) t2 = some (.lst [.int 1]) := upd_same
  generalize L2.upd H1 t2 (.lst [.int 1]) = H2 at *
  have s3 := Same.new (o := .dK []) h3
  have e3 : (L2.upd H2 t3 (.dK [])) t3 = some (.dK []) := upd_same
  generalize L2.upd H2 t3 (.dK []) = H3 at *
  have s4 := Same.new (o := .tup []) h4
  have e4 : (L2.upd H3 t4 (.tup [])) t4 = some (.tup []) := upd_same
  generalize L2.upd H3 t4 (.tup []) = H4 at *
  have s14 := s1.trans (s2.trans (s3.trans s4))
  have ha4 := s14 _ _ ha
  refine ⟨a, L, x, y, z, _, rfl, Same.new hL _ _ ha4, upd_same, ne_of_none ha4 hL, by simp, by simp, fun i v o hv ho => ?_⟩
  have s5 := Same.new (o := .lst [V.non, V.int (-1), V.bl true, V.bl false, V.str "1", V.ref t1, V.ref t2, V.ref t3, V.int (0 - 10 ^ (20 : Int).toNat), V.ref t4]) hL
  have sx : SameX a H4 (L2.upd (L2.upd H4 L (.lst [V.non, V.int (-1), V.bl true, V.bl false, V.str "1", V.ref t1, V.ref t2, V.ref t3, V.int (0 - 10 ^ (20 : Int).toNat), V.ref t4])) a o) := (SameX.of s5).upd
  have hs' : Src a (L2.upd (L2.upd H4 L (.lst [V.non, V.int (-1), V.bl true, V.bl false, V.str "1", V.ref t1, V.ref t2, V.ref t3, V.int (0 - 10 ^ (20 : Int).toNat), V.ref t4])) a o) := Src.upd ho
  have key : (∃ n, Srt K H4 v n) ∧ isPick v = false := by
    have hv := List.mem_of_getElem? hv
    simp only [List.mem_cons, List.not_mem_nil, or_false] at hv
    rcases hv with e | e | e | e | e | e | e | e | e | e <;> subst e
    · exact ⟨⟨_, srt_non⟩, rfl⟩
    · exact ⟨⟨_, srt_int _⟩, by decide⟩
    · exact ⟨⟨_, srt_bl _⟩, rfl⟩
    · exact ⟨⟨_, srt_bl _⟩, rfl⟩
    · exact ⟨⟨_, srt_str _⟩, rfl⟩
    · exact ⟨⟨_, srt_tup (s4 _ _ (s3 _ _ (s2 _ _ e1)))⟩, rfl⟩
    · exact ⟨⟨_, srt_lst (s4 _ _ (s3 _ _ e2))⟩, rfl⟩
    · exact ⟨⟨_, srt_dK (s4 _ _ e3)⟩, rfl⟩
    · exact ⟨⟨_, srt_int _⟩, by decide⟩
    · exact ⟨⟨_, srt_tup e4⟩, rfl⟩
  obtain ⟨⟨n, hn⟩, hb⟩ := key
  exact q _ v ⟨n, Srt.src sx ⟨_, _, _, ha4⟩ hs' hn⟩ hb ((SameX.of s14).trans sx) hs'
def r9 (K : PySem.W.Frag) : TS := tAsg (tOp rCat (tOp rCat (tOp rCat (tSl (rSlL K) (tVar 7) tNoPart (tPart (tVar 10))) (tLst (tCons (tVar 12) tNil))) (tSl (rSlL K) (tVar 7) (tPart (tVar 10)) tNoPart)) (tOp rRep (tLst (tCons (tC V.non) tNil)) (tCalW (sp_next K) W0 (tCons (tVar 0) (tCons (tC (V.int 2)) tNil))))) (gName 13)
theorem rep_one {α : Type} (v : α) : ∀ n : Nat, (List.replicate n [v]).flatten = List.replicate n v
  | 0 => rfl
  | n + 1 => by
    rw [List.replicate_succ, List.flatten_cons, rep_one v n, List.replicate_succ] <;> rfl
theorem st9 {v : V} (ha : Src a H) (hp : H p = some (.lst (ps.map V.int))) (hpa : p ≠ a) (hps : ps.length ≤ 8) (hpos : ∀ y ∈ ps, 0 ≤ y) (hj : j ≤ ps.length) (hv : ∃ n, Srt K H v n) (hb : isPick v = false)
    (q : ∀ H' L (zs : List V), (zs.findIdx? fun x => !isPick x) = some j → (∀ z ∈ zs, ∃ n, Srt K H' z n) → zs.length ≤ 20 → H' L = some (.lst zs) → L ≠ a → SameX a H H' → Src a H' → D.nx (sg7 a W k p x l n st w4 v6 (some (.int j)) v11 (some v) (some (.ref L)) v14 v15) H') :
    r9 K D (sg7 a W k p x l n st w4 v6 (some (.int j)) v11 (some v) v13 v14 v15) H := by
  have hs := ha
  obtain ⟨x, y, z, ha⟩ := ha
  refine ⟨_, rfl, _, rfl, _, rfl, p, _, rfl, SqL.of hp, fun t1 h1 => ?_⟩
  rw [cutV_take, ← List.map_take]
  have s1 := Same.new (o := .lst ((ps.take j).map V.int)) h1
  have e1 : (L2.upd H t1 (.lst ((ps.take j).map V.int))) t1 = some (.lst ((ps.take j).map V.int)) := upd_same
  generalize L2.upd H t1 (.lst ((ps.take j).map V.int)) = H1 at *
  refine ⟨v, rfl, by show 1 ≤ sizeLine; decide, fun t2 h2 => ?_⟩
  have s2 := Same.new (o := .lst [v]) h2
  have e2 : (L2.upd H1 t2 (.lst [v])) t2 = some (.lst [v]) := upd_same
  generalize L2.upd H1 t2 (.lst [v]) = H2 at *
  refine ⟨t1, t2, _, _, rfl, rfl, s2 _ _ e1, e2, by rw [sizeLine_eq]; simp; omega, fun t3 h3 => ?_⟩
  have s3 := Same.new (o := .lst ((ps.take j).map V.int ++ [v])) h3
  have e3 : (L2.upd H2 t3 (.lst ((ps.take j).map V.int ++ [v]))) t3 = some (.lst ((ps.take j).map V.int ++ [v])) := upd_same
  generalize L2.upd H2 t3 (.lst ((ps.take j).map V.int ++ [v])) = H3 at *
  refine ⟨_, rfl, _, rfl, _, rfl, p, _, rfl, SqL.of (s3 _ _ (s2 _ _ (s1 _ _ hp))), fun t4 h4 => ?_⟩
  rw [cutV_drop, ← List.map_drop]
  have s4 := Same.new (o := .lst ((ps.drop j).map V.int)) h4
  have e4 : (L2.upd H3 t4 (.lst ((ps.drop j).map V.int))) t4 = some (.lst ((ps.drop j).map V.int)) := upd_same
  generalize L2.upd H3 t4 (.lst ((ps.drop j).map V.int)) = H4 at *
  refine ⟨t3, t4, _, _, rfl, rfl, s4 _ _ e3, e4, by rw [sizeLine_eq]; simp; omega, fun t5 h5 => ?_⟩
  have s5 := Same.new (o := .lst (((ps.take j).map V.int ++ [v]) ++ (ps.drop j).map V.int)) h5
  have e5 : (L2.upd H4 t5 (.lst (((ps.take j).map V.int ++ [v]) ++ (ps.drop j).map V.int))) t5 = some (.lst (((ps.take j).map V.int ++ [v]) ++ (ps.drop j).map V.int)) := upd_same
  generalize L2.upd H4 t5 (.lst (((ps.take j).map V.int ++ [v]) ++ (ps.drop j).map V.int)) = H5 at *
  refine ⟨by show 1 ≤ sizeLine; decide, fun t6 h6 => ?_⟩
  have s6 := Same.new (o := .lst [.non]) h6
  have e6 : (L2.upd H5 t6 (.lst [.non])) t6 = some (.lst [.non]) := upd_same
  generalize L2.upd H5 t6 (.lst [.non]) = H6 at *
  have s16 : Same H H6 := s1.trans (s2.trans (s3.trans (s4.trans (s5.trans s6))))
  have ha6 := s16 _ _ ha
  have n6 : t6 ≠ a := fun z => by subst z; rw [(s1.trans (s2.trans (s3.trans (s4.trans s5)))) _ _ ha] at h6; cases h6
  have n5 : t5 ≠ a := fun z => by subst z; rw [(s1.trans (s2.trans (s3.trans s4))) _ _ ha] at h5; cases h5
  refine ⟨_, rfl, a, x, y, z, 2, rfl, ha6, by decide, by decide, fun r o ho r1 r2 => ?_⟩
  refine ⟨t6, r, _, rfl, rfl, by rw [upd_ne n6]; exact e6, by omega, by omega, by rw [sizeLine_eq]; simp; omega, fun t7 h7 => ?_⟩
  rw [rep_one]
  have sx : SameX a H6 (L2.upd H6 a o) := SameX.self
  have hs7 : Src a (L2.upd H6 a o) := Src.upd ho
  generalize L2.upd H6 a o = H7 at *
  have s8 := Same.new (o := .lst (List.replicate r.toNat V.non)) h7
  have e8 : (L2.upd H7 t7 (.lst (List.replicate r.toNat V.non))) t7 = some (.lst (List.replicate r.toNat V.non)) := upd_same
  generalize L2.upd H7 t7 (.lst (List.replicate r.toNat V.non)) = H8 at *
  refine ⟨t5, t7, _, _, rfl, rfl, s8 _ _ (sx _ _ n5 (s6 _ _ e5)), e8, by rw [sizeLine_eq]; simp; omega, fun L hL => ?_⟩
  have s9 := Same.new (o := .lst ((((ps.take j).map V.int ++ [v]) ++ (ps.drop j).map V.int) ++ List.replicate r.toNat V.non)) hL
  have e9 : (L2.upd H8 L (.lst ((((ps.take j).map V.int ++ [v]) ++ (ps.drop j).map V.int) ++ List.replicate r.toNat V.non))) L = some (.lst ((((ps.take j).map V.int ++ [v]) ++ (ps.drop j).map V.int) ++ List.replicate r.toNat V.non)) := upd_same
  have hs9 := hs7.same (s8.trans s9)
  have sxx : SameX a H (L2.upd H8 L (.lst ((((ps.take j).map V.int ++ [v]) ++ (ps.drop j).map V.int) ++ List.replicate r.toNat V.non))) := (SameX.of s16).trans (sx.trans (SameX.of (s8.trans s9)))
  obtain ⟨m, hm⟩ := hv
  have hvv := Srt.src sxx hs hs9 hm
  have nLa : L ≠ a := fun z => by
    obtain ⟨_, _, _, h⟩ := hs7.same s8
    subst z; rw [h] at hL; cases hL
  refine q _ L _ (first_bad (i := j) (x := v) (fun y hy => ?_) ?_ hb) (fun z hz => ?_) (by simp; omega) e9 nLa sxx hs9
  · rw [List.append_assoc, List.append_assoc, List.take_append_of_le_length (by simp; omega)] at hy
    obtain ⟨i, hi, rfl⟩ := List.mem_map.mp (List.mem_of_mem_take hy)
    exact decide_eq_true (hpos i (List.mem_of_mem_take hi))
  · rw [List.append_assoc, List.append_assoc, List.getElem?_append_right (by simp; omega)]
    have : j - ((ps.take j).map V.int).length = 0 := by simp; omega
    rw [this] <;> rfl
  · rcases List.mem_append.mp hz with hz | hz
    · rcases List.mem_append.mp hz with hz | hz
      · rcases List.mem_append.mp hz with hz | hz
        · obtain ⟨i, _, rfl⟩ := List.mem_map.mp hz
          exact ⟨_, srt_int _⟩
        · rw [List.mem_singleton.mp hz]
          exact ⟨_, hvv⟩
      · obtain ⟨i, _, rfl⟩ := List.mem_map.mp hz
        exact ⟨_, srt_int _⟩
    · rw [(List.mem_replicate.mp hz).2]
      exact ⟨_, srt_non⟩
def r10 (K : PySem.W.Frag) : TS := tAsg (tCalW (sp_one K) W0 (tCons (tVar 0) (tCons (tLst (tCons (tC V.non) (tCons (tC (V.int 5)) (tCons (tC (V.str "12")) (tCons tDNewK (tCons (tC (V.bl true)) (tCons (tC (V.str "")) (tCons (tC (V.int 0)) tNil)))))))) tNil))) (gName 14)
theorem st10 (ha : Src a H) (q : ∀ H' v n', Srt K H' v n' → isRow n' = false → SameX a H H' → Src a H' → D.nx (sg7 a W k p x l n st w4 v6 v10 v11 v12 v13 (some v) v15) H') :
    r10 K D (sg7 a W k p x l n st w4 v6 v10 v11 v12 v13 v14 v15) H := by
  have hs := ha
  obtain ⟨x, y, z, ha⟩ := ha
  refine ⟨_, rfl, fun t1 h1 => ⟨by show 7 ≤ sizeLine; decide, fun L hL => ?_⟩⟩
  have s1 := Same.new (o := .dK []) h1
  have e1 : (L2.upd H t1 (.dK [])) t1 = some (.dK []) := upd_same
  generalize L2.upd H t1 (.dK []) = H1 at *
  have ha4 := s1 _ _ ha
  refine ⟨a, L, x, y, z, _, rfl, Same.new hL _ _ ha4, upd_same, ne_of_none ha4 hL, by simp, by simp, fun i v o hv ho => ?_⟩
  have s5 := Same.new (o := .lst [V.non, V.int 5, V.str "12", V.ref t1, V.bl true, V.str "", V.int 0]) hL
  have sx : SameX a H1 (L2.upd (L2.upd H1 L (.lst [V.non, V.int 5, V.str "12", V.ref t1, V.bl true, V.str "", V.int 0])) a o) := (SameX.of s5).upd
  have hs' : Src a (L2.upd (L2.upd H1 L (.lst [V.non, V.int 5, V.str "12", V.ref t1, V.bl true, V.str "", V.int 0])) a o) := Src.upd ho
  have key : ∃ n, Srt K H1 v n ∧ isRow n = false := by
    have hv := List.mem_of_getElem? hv
    simp only [List.mem_cons, List.not_mem_nil, or_false] at hv
    rcases hv with e | e | e | e | e | e | e <;> subst e
    · exact ⟨_, srt_non, by decide⟩
    · exact ⟨_, srt_int _, by decide⟩
    · exact ⟨_, srt_str _, by decide⟩
    · exact ⟨_, srt_dK e1, by decide⟩
    · exact ⟨_, srt_bl _, by decide⟩
    · exact ⟨_, srt_str _, by decide⟩
    · exact ⟨_, srt_int _, by decide⟩
  obtain ⟨n, hn, hb⟩ := key
  exact q _ v n (Srt.src sx ⟨_, _, _, ha4⟩ hs' hn) hb ((SameX.of s1).trans sx) hs'
end
end
end Rs
set_option Elab.async false
set_option linter.all false
set_option maxRecDepth 100000
set_option maxHeartbeats 2000000
namespace Rs
open PySem PySem.Spec PyProof.Rows L2
local macro_rules | `(tactic| walk_at "rd") => `(tactic| simp only [L2.tRet, L2.tRetN, L2.tSeq, L2.tNext, L2.tIfS, L2.tAsg, L2.gName, L2.gNil, L2.gCons, L2.tVar, L2.tC, L2.tOp, L2.tUn, L2.tCB, L2.tCons, L2.tNil, L2.tAndV, L2.tOrV, L2.tNotV, L2.tAnd, L2.tOr, L2.tNot, L2.tB, L2.tTest, L2.tIf, L2.tChain, L2.tTup, L2.tLst, L2.tDrop, L2.tFld, L2.sFld, L2.tOst, L2.tBM, L2.rNe, L2.tMkO, L2.start, L2.cxOf, L2.Cx.nox, L2.Cx.wish, L2.rI0, L2.rI, L2.tYes, Rs.tCalW, List.getElem?_cons_zero, List.getElem?_cons_succ, Option.some.injEq, exists_eq_left', exists_eq_left, exists_and_left, List.cons.injEq, and_true, true_and, L2.V.bl.injEq, L2.V.int.injEq, L2.V.str.injEq, L2.V.ref.injEq, List.set_cons_zero, List.set_cons_succ, List.map_cons, List.map_nil, List.length_cons, List.length_nil, List.replicate, List.cons_append, List.nil_append, List.append_nil, Nat.reduceSub, Nat.reduceAdd])
section
variable {P : Program} {w : World} {K : PySem.W.Frag} {mg : PySem.Str → Option Value} {base : Heap}
section
variable {a W k p x dx pa sa l t : Addr} {n i j : Nat} {st w : PySem.Str} {ws : List PySem.Str} {ps : List Int} {said : List V} {w4 v6 v10 v11 v12 v13 v14 v15 : Option V} {H : Hp} {D : Ends} {kd : KD}
def r11 (K : PySem.W.Frag) : TS := tAsg (tMakeW (lC K) (sp_live K) W0 (tCons (tVar 5) (tCons (tOp rRep (tLst (tCons (tC (V.int 5)) tNil)) (tC (V.int 1000))) tNil))) (gName 15)
theorem st11 (hk : KindAt K H k kd) (q : ∀ H' x2 dx pa sa st, Same H H' → H' x2 = some (.ins (lC K) dx (lflds k st pa 0 sa 0)) → H' pa = some (.lst (List.replicate 1000 (.int 5))) → D.nx (sg7 a W k p x l n st' w4 v6 v10 v11 v12 v13 v14 (some (.ref x2))) H') :
    r11 K D (sg7 a W k p x l n st' w4 v6 v10 v11 v12 v13 v14 v15) H := by
  refine ⟨_, rfl, by show 1 ≤ sizeLine; decide, fun t1 h1 => ?_⟩
  refine ⟨t1, 1000, _, rfl, rfl, upd_same, by decide, by decide, by rw [sizeLine_eq]; decide, fun t2 h2 => ?_⟩
  rw [show (1000 : Int).toNat = 1000 from rfl, rep_one]
  have s1 := (Same.new (o := .lst [.int 5]) h1).trans (Same.new (o := .lst (List.replicate 1000 (V.int 5))) h2)
  have e2 : (L2.upd (L2.upd H t1 (.lst [.int 5])) t2 (.lst (List.replicate 1000 (V.int 5)))) t2 = some (.lst (List.replicate 1000 (V.int 5))) := upd_same
  generalize L2.upd (L2.upd H t1 (.lst [.int 5])) t2 (.lst (List.replicate 1000 (V.int 5))) = H1 at *
  intro x2 dx hx hdx ne
  have s2 : Same H1 (L2.upd (L2.upd H1 dx (.own x2)) x2 (.ins (lC K) dx [])) := (Same.new hdx).trans (Same.new (by rw [upd_ne ne.symm]; exact hx))
  have hx2 : (L2.upd (L2.upd H1 dx (.own x2)) x2 (.ins (lC K) dx [])) x2 = some (.ins (lC K) dx []) := upd_same
  generalize L2.upd (L2.upd H1 dx (.own x2)) x2 (.ins (lC K) dx []) = H2 at *
  have hi : ∀ y ∈ List.replicate 1000 (V.int 5), y = V.int 5 := fun y hy => (List.mem_replicate.mp hy).2
  refine ⟨x2, k, .ref t2, kd, dx, rfl, hx2, hk.same (s1.trans s2), .inr ⟨t2, _, rfl, .inl (SqL.of (s2 _ _ e2)), fun y hy => ⟨"int", by rw [hi y hy]; exact srt_int 5⟩, ?_⟩⟩
  rw [no_bad (fun y hy => by rw [hi y hy]; decide)]
  intro H3 pa sa _ sx _ _ hx3 hpa3 _
  exact ⟨rfl, q H3 x2 dx pa sa _ (fun b u z => sx b u (ne_of_none (s1 _ _ z) hx) (s2 _ _ (s1 _ _ z))) hx3 hpa3⟩
def r12 (K : PySem.W.Frag) : TS := tIfS (tOr (tTest (tOp rNe (tProp (lC K) (sp_left K) [] E0 (tVar 15)) (tC (V.int 1000)))) (tTest (tOp rNe (tCalW (sp_bad K) W0 (tCons (tVar 5) (tCons (tOp rCat (tOp rRep (tLst (tCons (tC (V.int 0)) tNil)) (tC (V.int 999))) (tLst (tCons (tC V.non) tNil))) tNil))) (tC (V.int 999)))))
  (tRet (tC (V.bl false))) tNext
theorem bad_last (m : Nat) : ((List.replicate m (V.int 0) ++ [V.non]).findIdx? fun x => !isPick x) = some m := by
  refine first_bad (x := .non) (fun y hy => ?_) ?_ rfl
  · rw [List.take_append_of_le_length (by simp)] at hy
    rw [(List.mem_replicate.mp (List.mem_of_mem_take hy)).2]
    decide
  · rw [List.getElem?_append_right (by simp), List.length_replicate, Nat.sub_self] <;> rfl
theorem st12 {x2 : Addr} {st2 : PySem.Str} (hk : KindAt K H k kd) (hx : H x2 = some (.ins (lC K) dx (lflds k st2 pa 0 sa 0))) (hpa : H pa = some (.lst (List.replicate 1000 (.int 5))))
    (q : ∀ H', Same H H' → D.nx (sg7 a W k p x l n st w4 v6 v10 v11 v12 v13 v14 (some (.ref x2))) H') :
    r12 K D (sg7 a W k p x l n st w4 v6 v10 v11 v12 v13 v14 (some (.ref x2))) H := by
  refine ⟨_, rfl, x2, dx, _, rfl, hx, x2, dx, k, st2, pa, 0, sa, 0, _, rfl, hx, hpa, rfl, _, rfl, ?_⟩
  rw [List.length_replicate, show (!decide (V.int (((1000 : Nat) : Int) - 0) = V.int 1000)) = false from by decide]
  refine ⟨_, rfl, by show 1 ≤ sizeLine; decide, fun t1 h1 => ?_⟩
  refine ⟨t1, 999, _, rfl, rfl, upd_same, by decide, by decide, by rw [sizeLine_eq]; decide, fun t2 h2 => ?_⟩
  rw [show (999 : Int).toNat = 999 from rfl, rep_one]
  have s1 := (Same.new (o := .lst [.int 0]) h1).trans (Same.new (o := .lst (List.replicate 999 (V.int 0))) h2)
  have e2 : (L2.upd (L2.upd H t1 (.lst [.int 0])) t2 (.lst (List.replicate 999 (V.int 0)))) t2 = some (.lst (List.replicate 999 (V.int 0))) := upd_same
  generalize L2.upd (L2.upd H t1 (.lst [.int 0])) t2 (.lst (List.replicate 999 (V.int 0))) = H1 at *
  refine ⟨by show 1 ≤ sizeLine; decide, fun t3 h3 => ?_⟩
  have s3 := Same.new (o := .lst [.non]) h3
  refine ⟨t2, t3, _, _, rfl, rfl, s3 _ _ e2, upd_same, by rw [List.length_replicate, sizeLine_eq]; decide, fun L hL => ?_⟩
  have s4 := (s1.trans s3).trans (Same.new (o := .lst (List.replicate 999 (V.int 0) ++ [.non])) hL)
  refine ⟨k, .ref L, kd, rfl, hk.same s4, .inr ⟨L, _, rfl, .inl (SqL.of upd_same), fun y hy => ?_, ?_⟩⟩
  · rcases List.mem_append.mp hy with hy | hy
    · rw [(List.mem_replicate.mp hy).2]
      exact ⟨_, srt_int _⟩
    · rw [List.mem_singleton.mp hy]
      exact ⟨_, srt_non⟩
  · rw [bad_last]
    intro H' s'
    refine ⟨rfl, _, rfl, ?_⟩
    rw [show (!decide (V.int ((999 : Nat) : Int) = V.int 999)) = false from by decide]
    exact q H' (s4.trans s')
def r13 (K : PySem.W.Frag) : TS := tRet (tAndV (tOp rEq (tCalW (sp_bad K) W0 (tCons (tVar 5) (tCons (tVar 13) tNil))) (tVar 10)) (tAndV (tOp rEq (tCalW (sp_bad K) W0 (tCons (tVar 5) (tCons (tCB (rTupOf K) (tCons (tVar 13) tNil)) tNil))) (tVar 10))
  (tOp rEq (tCalW (sp_bad K) W0 (tCons (tVar 5) (tCons (tVar 14) tNil))) (tUn (rU fun i => V.int (-i)) (tC (V.int 1))))))
theorem st13 {L : Addr} {zs : List V} {v : V} {m : String} (hk : KindAt K H k kd) (hL : H L = some (.lst zs)) (hz : (zs.findIdx? fun x => !isPick x) = some j) (hs : ∀ z ∈ zs, ∃ n, Srt K H z n) (hv : Srt K H v m) (hm : isRow m = false)
    (q : ∀ H', Same H H' → D.rt (.bl true) H') :
    r13 K D (sg7 a W k p x l n st w4 v6 (some (.int j)) v11 v12 (some (.ref L)) (some v) v15) H := by
  refine ⟨_, rfl, _, rfl, k, _, kd, rfl, hk, .inr ⟨L, zs, rfl, .inl (SqL.of hL), hs, ?_⟩⟩
  rw [hz]
  intro H1 s1
  refine ⟨_, rfl, rfl, _, rfl, ?_⟩
  rw [decide_eq_true rfl, if_pos rfl]
  refine ⟨_, rfl, _, rfl, L, zs, rfl, .inl ⟨SqL.of (s1 _ _ hL), fun t ht => ?_⟩⟩
  have s2 := s1.trans (Same.new (o := .tup zs) ht)
  refine ⟨k, _, kd, rfl, hk.same s2, .inr ⟨t, zs, rfl, .inr (SqT.of upd_same), fun z h => (hs z h).imp fun _ y => Srt.same s2 y, ?_⟩⟩
  rw [hz]
  intro H3 s3
  refine ⟨_, rfl, rfl, _, rfl, ?_⟩
  rw [decide_eq_true rfl, if_pos rfl]
  have s4 := s2.trans s3
  refine ⟨_, rfl, _, rfl, k, _, kd, rfl, hk.same s4, .inl ⟨m, Srt.same s4 hv, hm, fun H5 s5 => ⟨1, rfl, rfl, ?_⟩⟩⟩
  exact q H5 (s4.trans s5)
end
end
end Rs
set_option Elab.async false
set_option linter.all false
set_option maxRecDepth 100000
set_option maxHeartbeats 4000000
namespace Rs
open PySem PySem.Spec PyProof.Rows L2
local macro_rules | `(tactic| walk_at "rd") => `(tactic| simp only [L2.tRet, L2.tRetN, L2.tSeq, L2.tNext, L2.tIfS, L2.tAsg, L2.gName, L2.gNil, L2.gCons, L2.tVar, L2.tC, L2.tOp, L2.tUn, L2.tCB, L2.tCons, L2.tNil, L2.tAndV, L2.tOrV, L2.tNotV, L2.tAnd, L2.tOr, L2.tNot, L2.tB, L2.tTest, L2.tIf, L2.tChain, L2.tTup, L2.tLst, L2.tDrop, L2.tFld, L2.sFld, L2.tOst, L2.tBM, L2.rNe, L2.tMkO, L2.start, L2.cxOf, L2.Cx.nox, L2.Cx.wish, L2.rI0, L2.rI, L2.tYes, Rs.tCalW, List.getElem?_cons_zero, List.getElem?_cons_succ, Option.some.injEq, exists_eq_left', exists_eq_left, exists_and_left, List.cons.injEq, and_true, true_and, L2.V.bl.injEq, L2.V.int.injEq, L2.V.str.injEq, L2.V.ref.injEq, List.set_cons_zero, List.set_cons_succ, List.map_cons, List.map_nil, List.length_cons, List.length_nil, List.replicate, List.cons_append, List.nil_append, List.append_nil, Nat.reduceSub, Nat.reduceAdd])

section
variable {P : Program} {w : World} {K : PySem.W.Frag} {mg : PySem.Str → Option Value} {base : Heap}
def sp_right (K : PySem.W.Frag) : Sp := fun vs H Q _ => ∃ (a : Addr) (x y z : Int), vs = [.ref a] ∧ H a = some (.lst [.int x, .int y, .int z]) ∧ ∀ H' o, SameX a H H' → H' a = some o → Src3 o → Q (.bl true) H'
theorem ok_right (T : Txt K mg) : Cal P w K mg base 9 "_law_right" ["_law_source"] (sp_right K) := by
  have c_law_next := ok_next (P := P) (w := w) (base := base) T
  have c_law_one := ok_one (P := P) (w := w) (base := base) T
  have c_law_mixed := ok_mixed (P := P) (w := w) (base := base) T
  have c_law_bad := ok_bad (P := P) (w := w) (base := base) T
  have c_Kind := ok_kind (P := P) (w := w) (base := base) T
  have c_Live := ok_live (P := P) (w := w) (base := base) T
  have c_left := ok_left (P := P) (w := w) (base := base) T
  have c_told := ok_told (P := P) (w := w) (base := base) T
  have c_lcall := ok_lcall (P := P) (w := w) (base := base) T
  obtain ⟨fd, F⟩ := T.d_l_right
  refine cal_of F T.g_law_right (F.bindsN fun _ _ _ _ _ _ us hl => match us, hl with | [_], _ => rfl) ?_
  refine F.ok sc_l_right (fun vs H Q E h => ?_) (fun cdv A outer s H vs Q E hr h => ?_)
  · obtain ⟨a, x, y, z, rfl, _⟩ := h
    rfl
  · have hu := hr.units
    refine ⟨_, PSs.nox (pss_cons (ps_asg (pe_tup (pa_cons (pe_op op_add pe_int (pe_cal c_law_next (hr.mono (by decide)) takes0 (pa_cons (pv 0) (pa_cons pe_int pa_nil)))) (pa_cons (pe_cal c_law_one (hr.mono (by decide)) takes0 (pa_cons (pv 0) (pa_cons (pe_lst (pa_cons pe_str (pa_cons pe_str (pa_cons pe_str pa_nil)))) pa_nil))) pa_nil))) (pg_tup rfl (pgs_cons (pg_name (i := 1) sc_l_right.nd rfl (Or.inl rfl)) (pgs_cons (pg_name (i := 2) sc_l_right.nd rfl (Or.inr rfl)) pgs_nil))))
      (pss_cons (ps_set (i := 3) sc_l_right.nd rfl (Or.inl rfl) (pe_slice (r := rSlL K) sl_list (pe_cal c_law_mixed (hr.mono (by decide)) takes0 (pa_cons (pv 0) (pa_cons (pe_lst (pa_cons pe_str (pa_cons pe_str (pa_cons pe_str (pa_cons pe_str (pa_cons pe_str (pa_cons pe_str (pa_cons pe_str (pa_cons pe_str pa_nil))))))))) pa_nil))) po_none (po_some (pv 1))))
      (pss_cons (ps_set (i := 5) sc_l_right.nd rfl (Or.inl rfl) (pe_cali c_Kind (hr.mono (by decide)) takes0 (pa_cons pe_str (pa_cons (pv 2) (pa_cons (pe_lst pa_nil) (pa_cons (pe_dispT (by exact (Nat.lt_of_le_of_lt (Nat.le_add_right _ 64) hu)) (pps_cons (pe_tup (pa_cons (pv 2) (pa_cons pe_str pa_nil))) (pe_lc (own := [("_law_word", 4)]) (g := gName 4) (tt := tYes) rfl sc_l_right.nd (pi_list (pv 3)) (blkOk_by (own := [("_law_word", 4)]) (N := ["_law_source", "_law_many", "_law_start", "_law_words", "_law_word", "_law_kind", "_law_turn", "_law_picks", "_law_live", "_law_due", "_law_at", "_law_answer", "_law_odd", "_law_some", "_law_row", "_law_great"]) (sc := defScope s_l_right) (by decide +kernel)) (fun _ _ _ _ _ => (pg_name (i := 4) sc_l_right.nd rfl (Or.inl rfl))) (fun _ _ _ _ _ => pts_nil) (fun _ _ _ _ _ => (pe_tup (pa_cons (pv 4) (pa_cons (pv 2) pa_nil))))) pps_nil) (by rfl) (by rfl) (fun z => by cases z) (by decide)) pa_nil))))))
      (pss_cons (ps_setLc (i := 7) (own := [("_law_turn", 6)]) (g := gName 6) (tt := tYes) rfl sc_l_right.nd rfl rfl (sw_true rfl rfl rfl (by decide +kernel)) (pi_range1 rfl T.b_range (pa_cons (pe_cal c_law_next (hr.mono (by decide)) takes0 (pa_cons (pv 0) (pa_cons pe_int pa_nil))) pa_nil)) (blkOk_by (own := [("_law_turn", 6)]) (N := ["_law_source", "_law_many", "_law_start", "_law_words", "_law_word", "_law_kind", "_law_turn", "_law_picks", "_law_live", "_law_due", "_law_at", "_law_answer", "_law_odd", "_law_some", "_law_row", "_law_great"]) (sc := defScope s_l_right) (by decide +kernel)) (fun _ _ _ _ _ => (pg_name (i := 6) sc_l_right.nd rfl (Or.inl rfl))) (fun _ _ _ _ _ => pts_nil) (fun _ _ _ _ _ => (pe_cal c_law_next (hr.mono (by decide)) takes0 (pa_cons (pv 0) (pa_cons (pe_cal c_law_one (hr.mono (by decide)) takes0 (pa_cons (pv 0) (pa_cons (pe_lst (pa_cons pe_int (pa_cons pe_int (pa_cons (pe_op op_pow pe_int pe_int) pa_nil)))) pa_nil))) pa_nil)))))
      (pss_cons (ps_par rfl sc_l_right.nd (i := 8) (j := 9) rfl rfl (by decide) rfl rfl (pa_cons (pe_cali c_Live (hr.mono (by decide)) takes0 (pa_cons (pv 5) (pa_cons (pe_callTy (r := rTupOf K) call_tupOf rfl T.b_tuple (by decide +kernel) (pa_cons (pv 7) pa_nil)) pa_nil))) (pa_cons (pe_callB (cr_sortS rfl) rfl T.b_sorted (by decide +kernel) (pa_cons (pv 3) pa_nil)) pa_nil)) (by rfl))
      (pss_cons (ps_for PassesOwn.never rfl (pi_range1 rfl T.b_range (pa_cons (pe_op op_add (pe_callB (r := rLenQ K) call_lenQ rfl T.b_len (by decide +kernel) (pa_cons (pv 7) pa_nil)) pe_int) pa_nil)) (pg_name (i := 6) sc_l_right.nd rfl (Or.inl rfl))
      (pss_cons (ps_set (i := 10) sc_l_right.nd rfl (Or.inl rfl) (pe_ifExp (pt_cmpR op_lt (pv 6) (pe_callB (r := rLenQ K) call_lenQ rfl T.b_len (by decide +kernel) (pa_cons (pv 7) pa_nil)) (nomark _)) (pe_op op_mod (pe_callTy (r := rInt1) call_intI rfl T.b_int (by decide +kernel) (pa_cons (pe_ix (r := rIxL K) ix_list (pv 7) (pv 6) (fun _ _ => rfl)) pa_nil)) (pv 1)) pe_int))
      (pss_cons (ps_try_only rfl rfl ⟨rfl, by decide, .inl T.g_RightError⟩ takes0 (fun W pn xe tk1 own1 => (pss_one (ps_set (i := 11) sc_l_right.nd rfl (Or.inl rfl) (pe_ifExp (pt_val (pe_calo c_lcall (hr.mono (by decide)) tk1 (pv 8) (pa_cons pe_str pa_nil))) pe_str pe_str)))) (fun ea oe cls ed pn hz hf => (pss_one (ps_set (i := 11) sc_l_right.nd rfl (Or.inl rfl) pe_str))))
      (pss_cons (ps_set (i := 4) sc_l_right.nd rfl (Or.inl rfl) (pe_ix (r := rIxL K) ix_list (pv 9) (pv 10) (fun _ _ => rfl)))
      (pss_cons (ps_if (PW.pt (pw_or (pt_cmpR op_ne (pv 11) (pe_ifExp (pt_cmpR (r := rIn K false) op_in_seq (pv 4) (pe_tup (pa_cons pe_str (pa_cons pe_str pa_nil))) rfl) (pv 4) pe_str) (nomark _)) (pw_or1 (pt_cmpR (r := rNeD K) (op_neD hu) (pe_ix (r := rIxL K) ix_list (pe_calm0 c_told T.cl_Live (hr.mono (by decide)) takes0 (pv 8)) (pe_un un_neg pe_int) (fun _ _ => rfl)) (pe_tup (pa_cons (pv 2) (pa_cons pe_str (pa_cons (pv 4) (pa_cons (pv 2) pa_nil))))) (nomark _))))) (pss_one (ps_ret pe_bl)) pss_nil)
      (pss_one (ps_if (pt_cmpR op_ne (pe_calp c_left T.cl_Live (hr.mono (by decide)) (pv 8)) (pe_ifExp (pt_cmpR op_eq (pv 1) pe_int (nomark _)) (pe_callB (r := rLenQ K) call_lenQ rfl T.b_len (by decide +kernel) (pa_cons (pv 7) pa_nil)) (pe_callB (call_max2 rfl) rfl T.b_max (by decide +kernel) (pa_cons pe_int (pa_cons (pe_op op_sub (pe_op op_sub (pe_callB (r := rLenQ K) call_lenQ rfl T.b_len (by decide +kernel) (pa_cons (pv 7) pa_nil)) (pv 6)) pe_int) pa_nil)))) (nomark _)) (pss_one (ps_ret pe_bl)) pss_nil)))))))
      (pss_cons (ps_set (i := 10) sc_l_right.nd rfl (Or.inl rfl) (pe_cal c_law_next (hr.mono (by decide)) takes0 (pa_cons (pv 0) (pa_cons (pe_op op_add (pe_callB (r := rLenQ K) call_lenQ rfl T.b_len (by decide +kernel) (pa_cons (pv 7) pa_nil)) pe_int) pa_nil))))
      (pss_cons (ps_set (i := 12) sc_l_right.nd rfl (Or.inl rfl) (pe_cal c_law_one (hr.mono (by decide)) takes0 (pa_cons (pv 0) (pa_cons (pe_lst (pa_cons pe_non (pa_cons (pe_un un_neg pe_int) (pa_cons pe_bl (pa_cons pe_bl (pa_cons pe_str (pa_cons (pe_tup (pa_cons pe_int pa_nil)) (pa_cons (pe_lst (pa_cons pe_int pa_nil)) (pa_cons pe_dnewK (pa_cons (pe_op op_sub pe_int (pe_op op_pow pe_int pe_int)) (pa_cons (pe_tup pa_nil) pa_nil))))))))))) pa_nil))))
      (pss_cons (ps_set (i := 13) sc_l_right.nd rfl (Or.inl rfl) (pe_op op_cat (pe_op op_cat (pe_op op_cat (pe_slice (r := rSlL K) sl_list (pv 7) po_none (po_some (pv 10))) (pe_lst (pa_cons (pv 12) pa_nil))) (pe_slice (r := rSlL K) sl_list (pv 7) (po_some (pv 10)) po_none)) (pe_op op_rep (pe_lst (pa_cons pe_non pa_nil)) (pe_cal c_law_next (hr.mono (by decide)) takes0 (pa_cons (pv 0) (pa_cons pe_int pa_nil))))))
      (pss_cons (ps_set (i := 14) sc_l_right.nd rfl (Or.inl rfl) (pe_cal c_law_one (hr.mono (by decide)) takes0 (pa_cons (pv 0) (pa_cons (pe_lst (pa_cons pe_non (pa_cons pe_int (pa_cons pe_str (pa_cons pe_dnewK (pa_cons pe_bl (pa_cons pe_str (pa_cons pe_int pa_nil)))))))) pa_nil))))
      (pss_cons (ps_set (i := 15) sc_l_right.nd rfl (Or.inl rfl) (pe_cali c_Live (hr.mono (by decide)) takes0 (pa_cons (pv 5) (pa_cons (pe_op op_rep (pe_lst (pa_cons pe_int pa_nil)) pe_int) pa_nil))))
      (pss_cons (ps_if (PW.pt (pw_or (pt_cmpR op_ne (pe_calp c_left T.cl_Live (hr.mono (by decide)) (pv 15)) pe_int (nomark _)) (pw_or1 (pt_cmpR op_ne (pe_cal c_law_bad (hr.mono (by decide)) takes0 (pa_cons (pv 5) (pa_cons (pe_op op_cat (pe_op op_rep (pe_lst (pa_cons pe_int pa_nil)) pe_int) (pe_lst (pa_cons pe_non pa_nil))) pa_nil))) pe_int (nomark _))))) (pss_one (ps_ret pe_bl)) pss_nil)
      (pss_one (ps_ret (pe_and (pe_cmpR op_eq (pe_cal c_law_bad (hr.mono (by decide)) takes0 (pa_cons (pv 5) (pa_cons (pv 13) pa_nil))) (pv 10) (nomark _)) (pe_and (pe_cmpR op_eq (pe_cal c_law_bad (hr.mono (by decide)) takes0 (pa_cons (pv 5) (pa_cons (pe_callTy (r := rTupOf K) call_tupOf rfl T.b_tuple (by decide +kernel) (pa_cons (pv 13) pa_nil)) pa_nil))) (pv 10) (nomark _)) (pe_one (pe_cmpR op_eq (pe_cal c_law_bad (hr.mono (by decide)) takes0 (pa_cons (pv 5) (pa_cons (pv 14) pa_nil))) (pe_un un_neg pe_int) (nomark _))))))))))))))))))), ?_⟩
    obtain ⟨a, x, y, z, rfl, ha, q⟩ := h
    have hs : Src a H := ⟨x, y, z, ha⟩
    refine st1 (K := K) hs fun H1 n st n1 n8 hst sx1 hs1 => ?_
    refine st2 (K := K) hs1 n8 fun H2 W ws hwl nd h8 sx2 hs2 hW0 hW => ?_
    refine st3 (K := K) (ws := ws) hst hW (by omega) nd h8 fun H3 k s3 hk3 => ?_
    have hs3 := hs2.same s3
    refine st4 (K := K) hs3 fun H4 p ps hps hpos sx4 hs4 hp0 hp4 => ?_
    have sx14 : SameX a H H4 := (sx1.trans sx2).trans ((SameX.of s3).trans sx4)
    obtain ⟨x3, y3, z3, ha3⟩ := id hs3
    have hk4 : KindAt K H4 k (dice st ws) := sx4.kindL ha3 hk3
    have hpa : p ≠ a := fun z => by subst z; rw [ha3] at hp0; cases hp0
    have hWa : W ≠ a := fun z => by
      obtain ⟨_, _, _, h⟩ := hs1
      subst z; rw [h] at hW0; cases hW0
    have hW4 : H4 W = some (.lst (ws.map V.str)) := sx4 _ _ hWa (s3 _ _ hW)
    refine st5 (K := K) (ws := ws) (ps := ps) hk4 rfl hW4 (by omega) hp4 hpos fun H5 x5 dx pa sa l s5 hx0 hsa0 nps hx5 hpa5 hsa5 hl5 nls => ?_
    have hk5 := hk4.same s5
    have hp5 := s5 _ _ hp4
    have hs5 := hs4.same s5
    refine st6 (K := K) (ws := ws) (ps := ps) T hst n1 hwl h8 hk5 hx5 hpa5 hsa5 nps hp5 (ne_of_none hp4 hsa0) hl5 nls hps fun H6 w4 v6 v10 v11 sm6 hk6 => ?_
    have s46 : Same H4 H6 := fun b u e => sm6 b u (ne_of_none e hx0) (ne_of_none e hsa0) (s5 _ _ e)
    have hs6 := hs4.same s46
    have hp6 := s46 _ _ hp4
    have sx6 : SameX a H H6 := sx14.trans (SameX.of s46)
    refine st7 (K := K) (ps := ps) hs6 hp6 hps fun H7 j hj sx7 hs7 => ?_
    refine st8 (K := K) hs7 fun H8 v hv hvb sx8 hs8 => ?_
    have sx68 := sx7.trans sx8
    have hp8 := sx68 _ _ hpa hp6
    refine st9 (K := K) (ps := ps) hs8 hp8 hpa hps hpos hj hv hvb fun H9 L zs hz hzs hzl hL nL sx9 hs9 => ?_
    refine st10 (K := K) hs9 fun H10 v10 m hm hmr sx10 hs10 => ?_
    have sx610 := (sx68.trans sx9).trans sx10
    obtain ⟨x6, y6, z6, ha6⟩ := id hs6
    have hk10 : KindAt K H10 k (dice st ws) := sx610.kindL ha6 hk6
    refine st11 (K := K) hk10 fun H11 x2 dx2 pa2 sa2 st2 s11 hx11 hpa11 => ?_
    refine st12 (K := K) (hk10.same s11) hx11 hpa11 fun H12 s12 => ?_
    have s1012 := s11.trans s12
    refine st13 (K := K) (hk10.same s1012) (s1012 _ _ (sx10 _ _ nL hL)) hz (fun z h => (hzs z h).imp fun _ y => Srt.same s1012 (Srt.src sx10 hs9 hs10 y)) (Srt.same s1012 hm) hmr fun H13 s13 => ?_
    obtain ⟨x13, y13, z13, ha13⟩ := hs10.same (s1012.trans s13)
    exact q H13 _ ((sx6.trans sx610).trans (SameX.of (s1012.trans s13))) ha13 ⟨_, _, _, rfl⟩
end
end Rs
set_option Elab.async false
set_option linter.all false
set_option maxRecDepth 100000
set_option maxHeartbeats 2000000
namespace Rs
open PySem PySem.Spec PyProof.Rows L2
local macro_rules | `(tactic| walk_at "rd") => `(tactic| simp only [L2.tRet, L2.tRetN, L2.tSeq, L2.tNext, L2.tIfS, L2.tAsg, L2.gName, L2.gNil, L2.gCons, L2.tVar, L2.tC, L2.tOp, L2.tUn, L2.tCB, L2.tCons, L2.tNil, L2.tAndV, L2.tOrV, L2.tNotV, L2.tAnd, L2.tOr, L2.tNot, L2.tB, L2.tTest, L2.tIf, L2.tChain, L2.tTup, L2.tLst, L2.tDrop, L2.tFld, L2.sFld, L2.tOst, L2.tBM, L2.rNe, L2.tMkO, L2.start, L2.cxOf, L2.Cx.nox, L2.Cx.wish, L2.rI0, L2.rI, L2.tYes, Rs.tCalW, List.getElem?_cons_zero, List.getElem?_cons_succ, Option.some.injEq, exists_eq_left', exists_eq_left, exists_and_left, List.cons.injEq, and_true, true_and, L2.V.bl.injEq, L2.V.int.injEq, L2.V.str.injEq, L2.V.ref.injEq, List.set_cons_zero, List.set_cons_succ, List.map_cons, List.map_nil, List.length_cons, List.length_nil, List.replicate, List.cons_append, List.nil_append, List.append_nil, Nat.reduceSub, Nat.reduceAdd])
section
variable {P : Program} {w : World} {K : PySem.W.Frag} {mg : PySem.Str → Option Value} {base : Heap}
def sp_law (K : PySem.W.Frag) : Sp := fun vs H Q _ => ∃ (a : Addr) (ns : List Int), vs = [.ref a] ∧ SqL K H a (ns.map V.int) ∧ ns.length ≤ 63 ∧ ∀ H', Q (.bl true) H'
theorem cells (ns : List Int) : cutV (ns.map V.int) none (some 4) ++ [V.int 0] = (ns.take 4 ++ [0]).map V.int := by
  rw [show (4 : Int) = ((4 : Nat) : Int) from rfl, cutV_take, ← List.map_take, List.map_append] <;> rfl
theorem ok_law (T : Txt K mg) {fd : FuncData} (F : FunD K "law" "law" (defArgs s_law) (defBody s_law) (defScope s_law) [] [] (He.ga K "law") fd) : FnOk P w K mg base (L2.CX P w) 10 (He.ga K "law") fd ["_law_script"] (sp_law K) := by
  have c_law_source_of := ok_source_of (P := P) (w := w) (base := base) T
  have c_law_right := ok_right (P := P) (w := w) (base := base) T
  refine F.ok sc_law (fun vs H Q E h => ?_) (fun cdv A outer s H vs Q E hr h => ?_)
  · obtain ⟨a, ns, rfl, _⟩ := h
    rfl
  · have hu := hr.units
    refine ⟨_, PSs.nox (pss_cons (ps_for PassesOwn.never rfl (pi_list (pe_op op_cat (pe_slice (r := rSlL K) sl_list (pv 0) po_none (po_some pe_int)) (pe_lst (pa_cons pe_int pa_nil)))) (pg_name (i := 1) sc_law.nd rfl (Or.inl rfl))
      (pss_cons (ps_set (i := 2) sc_law.nd rfl (Or.inl rfl) (pe_cal c_law_source_of (hr.mono (by decide)) takes0 (pa_cons (pv 1) pa_nil)))
      (pss_one (ps_for PassesOwn.never rfl (pi_range1 rfl T.b_range (pa_cons pe_int pa_nil)) (pg_name (i := 3) sc_law.nd rfl (Or.inl rfl))
      (pss_one (ps_if (pt_not (pt_val (pe_cal c_law_right (hr.mono (by decide)) takes0 (pa_cons (pv 2) pa_nil)))) (pss_one (ps_ret pe_bl)) pss_nil))))))
      (pss_one (ps_ret pe_bl))), ?_⟩
    obtain ⟨a, ns, rfl, ha, hl, q⟩ := h
    refine ⟨_, rfl, _, rfl, a, _, rfl, ha, fun t1 h1 => ⟨by show 1 ≤ sizeLine; decide, fun t2 h2 => ⟨t1, t2, _, _, rfl, rfl, Same.new h2 _ _ upd_same, upd_same, by rw [sizeLine_eq]; have := cutV_length (ns.map V.int) none (some 4); simp at this ⊢; omega, fun L hL => ?_⟩⟩⟩
    rw [cells]
    have hL1 : (L2.upd (L2.upd (L2.upd H t1 (.lst (cutV (ns.map V.int) none (some 4)))) t2 (.lst [V.int 0])) L (.lst ((ns.take 4 ++ [0]).map V.int))) L = some (.lst ((ns.take 4 ++ [0]).map V.int)) := upd_same
    generalize (L2.upd (L2.upd (L2.upd H t1 (.lst (cutV (ns.map V.int) none (some 4)))) t2 (.lst [V.int 0])) L (.lst ((ns.take 4 ++ [0]).map V.int))) = H1 at *
    refine ⟨L, rfl, ⟨_, SqL.of hL1⟩, for_list (xs := (ns.take 4 ++ [0]).map V.int) (fun i σ H' => (∃ c1 c2 c3, σ = [some (.ref a), c1, c2, c3]) ∧ H' L = some (.lst ((ns.take 4 ++ [0]).map V.int))) ⟨⟨_, _, _, rfl⟩, hL1⟩ (fun i σ H' _ pv => SqL.of pv.2) (fun i v σ H2 hv pv => ?_) (fun σ H2 pv => ?_)⟩
    · obtain ⟨⟨c1, c2, c3, rfl⟩, hL2⟩ := pv
      rw [List.getElem?_map] at hv
      cases e : (ns.take 4 ++ [0])[i]? with
      | none => rw [e] at hv; cases hv
      | some c =>
        rw [e] at hv
        cases Option.some.inj hv
        refine ⟨_, rfl, c, rfl, fun s o hs ho => ?_⟩
        have nL : L ≠ s := ne_of_none hL2 hs
        have h3 : (L2.upd H2 s o) L = some (.lst ((ns.take 4 ++ [0]).map V.int)) := by rw [upd_ne nL]; exact hL2
        have hs3 : Src s (L2.upd H2 s o) := Src.upd ho
        generalize L2.upd H2 s o = H3 at *
        refine ⟨6, rfl, by decide, by decide, ?_⟩
        refine for_range (lo := 0) (fun i σ H' => (∃ c3, σ = [some (.ref a), some (.int c), some (.ref s), c3]) ∧ H' L = some (.lst ((ns.take 4 ++ [0]).map V.int)) ∧ Src s H') ⟨⟨_, rfl⟩, h3, hs3⟩ (fun j σ H4 hj pv => ?_) (fun σ H4 pv => ?_)
        · obtain ⟨⟨c3, rfl⟩, hL4, x, y, z, hs4⟩ := pv
          refine ⟨_, rfl, s, x, y, z, rfl, hs4, fun H5 o5 sx hs5 ho5 => ⟨_, rfl, ?_⟩⟩
          obtain ⟨x5, y5, z5, rfl⟩ := ho5
          exact ⟨⟨_, rfl⟩, sx _ _ nL hL4, x5, y5, z5, hs5⟩
        · obtain ⟨⟨c3, rfl⟩, hL4, _⟩ := pv
          exact ⟨⟨_, _, _, rfl⟩, hL4⟩
    · obtain ⟨⟨c1, c2, c3, rfl⟩, _⟩ := pv
      exact q _
end
end Rs
set_option Elab.async false
set_option linter.all false
set_option maxRecDepth 100000
set_option maxHeartbeats 0
namespace Rs
open PySem PySem.Spec PyProof.Rows L2
theorem runT (w : World) : HandSHeadRun.RunEq RT (PySem.W.view RT.prog [lawAt]) hkT obT 20000 looseT w := by
  intro os
  kernel_rfl
end Rs
set_option Elab.async false
set_option linter.all false
set_option maxRecDepth 100000
set_option maxHeartbeats 0
namespace Rs
open PySem PySem.Spec PyProof.Rows L2
theorem facts {P : Program} {w : World} {K : PySem.W.Frag} {h : Heap} {mg : PySem.Str → Option Value} {f : Addr} (X : K.In h) (G : h.Ns mainGlobals mg) (hfa : mg ("law" : PySem.Str) = some (.ref f)) (c : SaysR faT fnT K) :
    ∃ fd : FuncData, (∀ (s : Shared) (v : Value), BindsTo s fd ⟨[v], []⟩ [("_law_script", v)]) ∧ ∀ base : Heap, K.In base → base.Ns mainGlobals mg → FnOk P w K mg base (L2.CX P w) 10 f fd ["_law_script"] (sp_law K) := by
  have T : Txt K mg := ⟨c, h, X, G⟩
  obtain ⟨fd, F⟩ := T.d_law
  have e := hfa.symm.trans T.g_law
  cases e
  have b := FunD.bindsA (ps := ["_law_script"]) F fun _ _ _ _ _ _ us hl => match us, hl with | [_], _ => rfl
  exact ⟨fd, fun s v => b s [v] rfl, fun base _ _ => ok_law T F⟩
/-- the walk's end, where what is raised is told by the world, too -/
theorem walk_endW {l : PySem.W.OpenLaw} {m lev : Nat} {vw : Program} {ls : List PySem.Str} {A1 : (PySem.Str → Option Value) → Heap → Prop} {A2 : World → Heap → Prop} {dr : DefRec} {arg : PySem.Str} {SP : PySem.W.Frag → Sp}
    (most : l.most = some m) (small : m ≤ sizeLine) (nod : dr.params.defaults = []) (room : Room lev callerA)
    (meets : ∀ (K : PySem.W.Frag) (H : Hp) (b : Addr) (is : List Int), is.length ≤ m → SqL K H b (is.map V.int) → SP K [.ref b] H (fun v _ => v = .bl true) fun _ _ _ => False)
    (F : ∀ (w : World) (g : PySem.Str → Option Value) (b : Addr) (hp : Heap), A2 w hp → hp.Ns mainGlobals g → g dr.name = some (.ref b) →
      ∃ (K : PySem.W.Frag) (fd : FuncData), K.In hp ∧ (∀ (s : Shared) (u : Value), BindsTo s fd ⟨[u], []⟩ [(arg, u)]) ∧ ∀ bs : Heap, K.In bs → bs.Ns mainGlobals g → FnOk l.prog w K g bs (L2.CX l.prog w) lev b fd [arg] (SP K)) :
    PySem.W.WalkO vw ls A1 A2 l.row.toRowW dr [] (fun c us => PySem.call c us) := by
  refine Att.attach_call most nod ?_
  intro w s0 s1 g mb b o pm cd doc ad us is G Y _ _ _ hg hobj hints hlen hgd
  obtain ⟨K, fd, KX, hb, hF⟩ := F w g b _ Y G.T.g hg
  refine law_call KX G.T.g G.T.b G.T.builtins G.T.nolimit hgd hobj hints (Nat.le_trans hlen small) room hF hb (fun H _ hS => meets K H ad is hlen hS) ?_
  rintro H e s' ⟨_, _, _, _, _, _, _, _, _, _, _, _, z⟩
  exact z
end Rs
open PySem PySem.W PySem.Calls PyProof.Rows
set_option maxRecDepth 100000 in
set_option maxHeartbeats 0 in
theorem PySem.Challenge.cw_rightstate_k91_picks_and_what_is_told_of_holds : PySem.Challenge.rw_rightstate_k91_picks_and_what_is_told_of.Holds := by
  w_on; o_law
  refine HandSHeadRun.head_any (r := OpenLaw.row PySem.Challenge.rw_rightstate_k91_picks_and_what_is_told_of) (q := view (OpenLaw.row PySem.Challenge.rw_rightstate_k91_picks_and_what_is_told_of).prog [Rs.lawAt]) (H := Rs.hkT) (ob := Rs.obT) (M := 20000) (loose := Rs.looseT) (d := HandSHeadRun.topDef (OpenLaw.row PySem.Challenge.rw_rightstate_k91_picks_and_what_is_told_of).prog Rs.lawAt) (kwd := []) Rs.obT_eq
    (by kernel_rfl) (fun s => by kernel_rfl) Rs.runT (by kernel_rfl) (by kernel_rfl) (by kernel_rfl) (by rfl) (by first | assumption | decide +kernel) (by decide +kernel) ⟨rfl, rfl, rfl, rfl, rfl, by decide +kernel⟩ ?hw ?hc
  case hw => w_witness2
  case hc =>
    refine Rs.walk_endW (l := PySem.Challenge.rw_rightstate_k91_picks_and_what_is_told_of) (m := 63) (lev := 10) (arg := "_law_script") (SP := Rs.sp_law) rfl (by decide) (by kernel_rfl) ⟨rfl, by decide, by decide⟩ (fun K H b is hl hS => ⟨b, is, rfl, hS, hl, fun _ => rfl⟩) ?F
    intro w mg fa h Y G hmg0
    obtain ⟨K, KX, c⟩ := Y
    have hmg : mg ("law" : PySem.Str) = some (.ref fa) := by
      have e : (HandSHeadRun.topDef (OpenLaw.row PySem.Challenge.rw_rightstate_k91_picks_and_what_is_told_of).prog Rs.lawAt).name = ("law" : PySem.Str) := by kernel_rfl
      rw [← e]
      exact hmg0
    obtain ⟨fd, hb, hF⟩ := Rs.facts (P := (PySem.Challenge.rw_rightstate_k91_picks_and_what_is_told_of).prog) (w := w) KX G hmg c
    exact ⟨K, fd, KX, hb, hF⟩
