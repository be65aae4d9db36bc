import PyProof.Rows.All
import Wide.All
import OpenK.AllK
import Wide.FinOn
import HandS.ForMost
import HandS.Property
import HandS.SetBool
import HandS.SetKeys
import HandS.TupSets
import HandS.Walk
import HandS.SortOrd
import HandS.Conv
import HandS.More
import HandS.ForExc
import HandS.ExcInit
import HandS.ExcIs
import HandS.ExcField
import KE.KStateDown
import Lean
import HandS.Defaults
import HandS.Head0
import HandS.Head1
import HandS.Head2
import HandS.HeadEnd
import HandS.HeadHook1
import HandS.HeadHook2
import HandS.HeadNt
import HandS.Flow
import HandS.IsInst
import HandS.Wide
import HandS.CallLocal
import HandS.Star
import KE.KDictWalk
import KE.GoesMore
import HandS.Set
import HandS.SetFor
import HandS.TryOnly
import HandS.Deep
import PySem.Challenge.RW_rightstate_k03_histories_of_kinds
import HandS.Style
set_option Elab.async false
set_option linter.all false
set_option maxRecDepth 100000
set_option maxHeartbeats 2000000
/-! Own special methods: `x in o`, `o[k]` by a class's own def. -/
namespace Rs
open PySem PySem.Spec PyProof.Rows L2
/-- the class at C has the def at f under the special name m -/
structure Dun (K : PySem.W.Frag) (C : Addr) (m : Str) (f : Addr) : Prop where
  at_ : PySem.W.findIn K (.ref C) m = some (some (.ref f))
  fn : PySem.W.isFn K (.ref f) = true
  fi : PySem.W.fnIn K f = true

def rInO (C : Addr) (sp : Sp) (E : XK) (neg : Bool) : R2 := fun x y H Q =>
  ∃ a dx fs, y = .ref a ∧ H a = some (.ins C dx fs) ∧ sp [.ref a, x] H (fun r H' => ∃ b, r = .bl b ∧ Q (.bl (if neg = true then !b else b)) H') E

section
variable {X : Cx} {CX : CXT} {k : Nat} {C f : Addr} {fd : FuncData} {ps : List Str} {sp : Sp} {E : XK}
theorem in_run {pins : List (Addr × Obj)} {s : Shared} {σ : L2.St} {H : Hp} {x : V} {v : Value} {a dx : Addr} {fs : List (Str × V)} {Q : VK} {g : Bool → Bool}
    (d : Dun X.K C "__contains__" f) (F : FnOk X.prog X.w X.K X.mg X.base CX k f fd ps sp) (hr : Room k X.A) (hb : Binds X.K fd ps []) (hx : Passes CX X E)
    (I : Inv X pins σ H s) (rx : RelV x v) (h : sp [.ref a, x] H (fun r H' => ∃ b, r = .bl b ∧ Q (.bl (g b)) H') E) :
    wpAny (model X.prog X.w) X.A (call (.ref f) [.ref a, v]) (fun r s' => wpAny (model X.prog X.w) X.A (truthy r) (fun b => EP X pins σ Q (.bool (g b))) X.xe s') X.xe s := by
  refine wpAny_mono (run_fn (us := [.ref a, v]) (vs := [.ref a, x]) (dvs := []) F hr hb .nil hx I (.cons rfl (.cons rx .nil)) h) (fun r s' q => ?_) fun _ _ z => z
  obtain ⟨y, H', I', ry, b, rfl, q⟩ := q
  cases ry
  exact wpAny_truthy_bool ⟨.bl (g b), H', I', rfl, q⟩
theorem op_inO (d : Dun X.K C "__contains__" f) (F : FnOk X.prog X.w X.K X.mg X.base CX k f fd ps sp) (hr : Room k X.A) (hb : Binds X.K fd ps []) (hx : Passes CX X E) :
    OpR X (compareOp .In) (rInO C sp E false) := by
  intro pins s σ H x y v u Q I rx ry h
  obtain ⟨a, dx, fs, rfl, ha, h⟩ := h
  cases ry
  obtain ⟨mA, J, _⟩ := ins_get I.hok ha
  obtain ⟨od, J, _⟩ := J.look
  obtain ⟨m, hF⟩ := I.fr
  exact PySem.W.in_K hF I.ok.mod.kin J d.at_ d.fn (in_run (g := fun b => b) (dx := dx) (fs := fs) d F hr hb hx I rx h)
theorem op_notInO (d : Dun X.K C "__contains__" f) (F : FnOk X.prog X.w X.K X.mg X.base CX k f fd ps sp) (hr : Room k X.A) (hb : Binds X.K fd ps []) (hx : Passes CX X E) :
    OpR X (compareOp .NotIn) (rInO C sp E true) := by
  intro pins s σ H x y v u Q I rx ry h
  obtain ⟨a, dx, fs, rfl, ha, h⟩ := h
  cases ry
  obtain ⟨mA, J, _⟩ := ins_get I.hok ha
  obtain ⟨od, J, _⟩ := J.look
  obtain ⟨m, hF⟩ := I.fr
  exact PySem.W.notIn_K hF I.ok.mod.kin J d.at_ d.fn (in_run (g := fun b => !b) (dx := dx) (fs := fs) d F hr hb hx I rx h)

def rSubO (C : Addr) (sp : Sp) (E : XK) : R2 := fun x y H Q => ∃ a dx fs, x = .ref a ∧ H a = some (.ins C dx fs) ∧ sp [.ref a, y] H Q E
theorem pe_subO {a b : Expr} {ta tb : TE} {pos : Pos} (d : Dun X.K C "__getitem__" f) (F : FnOk X.prog X.w X.K X.mg X.base CX k f fd ps sp) (hr : Room (k + 1) X.A) (hb' : Binds X.K fd ps []) (hx : Passes CX X E)
    (ha : PE X a ta) (hb : PE X b tb) (hs : ∀ x y, subscripted b true x y = runValue (.builtin "lifetime.subscript" ⟨[x, y], []⟩)) :
    PE X (.Subscript a b pos) (tOp (rSubO C sp E) ta tb) := by
  refine ⟨fun pins s σ H Q I h => ?_⟩
  refine Subscript_ (binT ha hb I h fun v u s2 x y H2 I2 rx ry q => ?_)
  obtain ⟨a', dx, fs, rfl, ha', h⟩ := q
  cases rx
  obtain ⟨mA, J, _⟩ := ins_get I2.hok ha'
  obtain ⟨od, J, _⟩ := J.look
  obtain ⟨m, hF⟩ := I2.fr
  refine PySem.W.sub_K hF I2.ok.mod.kin J d.at_ d.fi d.fn ?_ (hs _ _)
  have hl : ([Value.ref a', u] ++ []).length = ps.length := by rw [← F.len _ _ _ _ h] <;> rfl
  refine wpAny_call (codeAny_mono (F.run X.A.in1 X.stack s2 H2 ⟨[.ref a', u], []⟩ [.ref a', u] [.ref a', y] Q E hr.in1 I2.env0.in1 (hb' _ [.ref a', u] I2.kIn hl) (.cons rfl (.cons ry .nil)) h) fun r s' hq => ?_)
  cases r with
  | error e => exact hx pins σ H2 s2 e s' I2 hq
  | ok fl =>
    cases fl with
    | ret w => exact I2.after hq
    | next => exact False.elim hq
    | brk => exact False.elim hq
    | cont => exact False.elim hq
end
end Rs
set_option Elab.async false
set_option linter.all false
set_option maxRecDepth 100000
set_option maxHeartbeats 2000000
/-! {elt for x in it if ..}: a set comprehension over any kind of set that knows how to begin and to add. -/
namespace Rs
open PySem PySem.Spec PyProof.Rows L2
/-- the object of an empty set, as the machine lays it -/
abbrev set0 (w : World) : Obj := { cls := .type "set", dict := none, data := .set #[] 0 (.fresh 0 0 (!w.params.followText "set-order")) }
/-- what a comprehension over sets asks: Z the abstract empty set, ad what adding asks -/
def tScG (Z : Addr → HO) (ad : V → List V → Hp → VK → Prop) (wi : TI) (g : TG) (tt : TT) (te : TE) (vs : List Nat) : TE := fun σ H Q => wi σ H fun J H1 => ∀ D, H1 D = none → ∃ W : Nat → Nat → Hp → Prop, (∃ m, W 0 m (upd H1 D (Z D))) ∧ ∀ i m H, W i m H →
  (J.stop i H ∧ Q (.ref D) H) ∨ (J.go i H ∧ ∃ Nx : Hp → Prop, (∀ H', Nx H' → ∃ m', m' < m ∧ W (i + 1) m' H') ∧ ∀ x H', J.yld i H x H' → g x (wipe σ vs) H' fun σ2 H2 => wipe σ2 vs = wipe σ vs ∧ tt σ2 H2 fun b H3 =>
    if b = true then te σ2 H3 fun y H4 => ad (.ref D) [y] H4 fun _ H5 => Nx H5 else Nx H3)
section
variable {X : Cx} {Z : Addr → HO} {ad : V → List V → Hp → VK → Prop}
theorem scg_core {pins : List (Addr × Obj)} {s : Shared} {σ : L2.St} {H : Hp} {Q : VK} {elt tg iter : Expr} {ifs : List Expr} {scope : Scope} {own : List (PySem.Str × Nat)} {pos pos' : Pos} {wi : TI} {g : TG} {tt : TT} {te : TE} {use : Option (Value → Sem Unit)} {Qf : Value → Shared → Prop}
    (hZ : ∀ (H : Hp) (h : Heap), ObjOk X.prog X.w H (h.push (set0 X.w)) h.objs.size (Z h.objs.size))
    (had : ∀ (s : Shared) (H : Hp) (e : Env) (fp : List Addr), MtR (X.blk s H scope e fp) "set.add" ad)
    (hc : X.calm = true) (hN : X.N.Nodup) (I : Inv X pins σ H s) (hi : PI X tg iter wi) (ok : BlkOk X.N X.env.scope scope own)
    (hg : ∀ (s : Shared) (H : Hp) (C : Addr) (cl : List (PySem.Str × Addr)) (fp : List Addr), PG (X.blk s H scope (compEnvC scope cl C X.env) fp) tg g)
    (ht : ∀ (s : Shared) (H : Hp) (C : Addr) (cl : List (PySem.Str × Addr)) (fp : List Addr), PTs (X.blk s H scope (compEnvC scope cl C X.env) fp) ifs tt)
    (he : ∀ (s : Shared) (H : Hp) (C : Addr) (cl : List (PySem.Str × Addr)) (fp : List Addr), PE (X.blk s H scope (compEnvC scope cl C X.env) fp) elt te)
    (hs : ∀ x, foldedSetIterable iter X.env x = pure x) (h : tScG Z ad wi g tt te (own.map (·.2)) σ H Q)
    (fin : ∀ D C s' m H', Inv X pins σ H' s' → Q (.ref D) H' → s'.heap.Ns C m → FpOk X pins H' C → compPost (model X.prog X.w) X.A X.xe use Qf (.ref D) C (.ok .next) s') :
    wpAny (model X.prog X.w) X.A (comprehension (.SetComp elt [⟨tg, iter, ifs, 0⟩] scope pos) scope X.env pos' (newSet (.type "set")) false (eval iter X.env) use) Qf X.xe s := by
  have outer : ∀ y ∈ scope.names, y.2 = .free → ∃ c, X.env.cells.lookup y.1 = some c := fun y hy e => by
    rcases ok.free y hy e with k | k
    · exact I.ok.has _ (.inl k)
    · exact I.ok.has _ (.inr k)
  refine wpAny_comprehension_free (use := use) rfl hs (closure_ok outer) ok.kind (fun y hy e => by rw [ok.uniq y hy, e])
    (thn (hi.run pins s σ H _ I h) fun xv s1 hx => thn hx fun itv s2 h2 => ?_)
  obtain ⟨it, fp, tn, J, H2, e, I2, T, st2, f2, q⟩ := h2
  subst e
  refine PpSet.newSet_ok (newEnv_comp ?_)
  obtain ⟨D, hD⟩ : ∃ D, s2.heap.objs.size = D := ⟨_, rfl⟩
  have hfree : H2 D = none := I2.hok.fresh (Nat.le_of_eq hD)
  obtain ⟨W, ⟨m0, w0⟩, turn⟩ := q D hfree
  -- the set is laid
  obtain ⟨s3, hs3⟩ : ∃ s3 : Shared, { s2 with heap := s2.heap.push (set0 X.w) } = s3 := ⟨_, rfl⟩
  have hh3 : s3.heap = s2.heap.push (set0 X.w) := by rw [← hs3]
  have I3 : Inv X pins σ (upd H2 D (Z D)) s3 := by
    rw [← hs3, ← hD]
    exact I2.laid (t' := s2.toks) (fun b o e => Heap.get?_push_of_some _ e) (Nat.le_refl _) (hZ _ _)
  have low : ∀ b ∈ fp, b < s2.heap.objs.size := fun b hb => let ⟨_, e, _⟩ := T.obj _ _ st2 b hb; Heap.lt_size e
  have f3 : ∀ b ∈ fp, FpOk X pins (upd H2 D (Z D)) b ∧ b < s3.heap.objs.size := fun b hb => by
    have hlt := low b hb
    have hne : b ≠ D := by rw [← hD]; exact Nat.ne_of_lt hlt
    exact ⟨⟨by rw [upd_ne hne]; exact (f2 b hb).1, (f2 b hb).2⟩, by rw [hh3, Heap.size_push]; exact Nat.lt_succ_of_lt hlt⟩
  have st3 : tn 0 s3.heap := T.keep _ _ _ st2 fun b _ o e => by rw [hh3]; exact Heap.get?_push_of_some _ e
  have I4 := block_start I3 ok hN f3
  have pg := hg s3 (upd H2 D (Z D)) s3.heap.objs.size (cellsFrom (s3.heap.objs.size + 1) scope.names (cloFrom X.env.cells scope.names [])) fp
  have pt := ht s3 (upd H2 D (Z D)) s3.heap.objs.size (cellsFrom (s3.heap.objs.size + 1) scope.names (cloFrom X.env.cells scope.names [])) fp
  have pe := he s3 (upd H2 D (Z D)) s3.heap.objs.size (cellsFrom (s3.heap.objs.size + 1) scope.names (cloFrom X.env.cells scope.names [])) fp
  rw [hs3]
  show codeAny _ _ (.compStart (.SetComp elt [⟨tg, iter, ifs, 0⟩] scope pos) 0 (.ref it) (.ref s2.heap.objs.size) (compEnvC scope (cellsFrom (s3.heap.objs.size + 1) scope.names (cloFrom X.env.cells scope.names [])) s3.heap.objs.size X.env)) (compPost (model X.prog X.w) X.A X.xe use Qf (.ref s2.heap.objs.size) s3.heap.objs.size) { s3 with heap := pushCells (s3.heap.push { cls := .type "dict", data := .dict #[] }) scope.names }
  rw [hD]
  have nfp : ∀ b ∈ fp, (upd H2 D (Z D)) b = none := fun b hb => (f3 b hb).1.1
  generalize hce : compEnvC scope (cellsFrom (s3.heap.objs.size + 1) scope.names (cloFrom X.env.cells scope.names [])) s3.heap.objs.size X.env = ce at I4 pg pt pe ⊢
  have cL : ce.locals = s3.heap.objs.size := by subst hce; rfl
  generalize hH3 : upd H2 D (Z D) = H3 at I3 I4 pg pt pe w0 nfp f3
  generalize hs4 : ({ s3 with heap := pushCells (s3.heap.push { cls := .type "dict", data := .dict #[] }) scope.names } : Shared) = s4 at I4 ⊢
  have st4 : tn 0 s4.heap := T.keep _ _ _ st3 fun b _ o e => by rw [← hs4]; exact pushCells_keeps _ _ _ _ (Heap.get?_push_of_some _ e)
  have stand : ∀ {σ' : L2.St} {H' : Hp} {s' : Shared}, Inv (X.blk s3 H3 scope ce fp) [] σ' H' s' → (∀ b ∈ fp, H' b = none) → ∀ b ∈ fp, FpOk (X.blk s3 H3 scope ce fp) [] H' b := fun {σ' H' s'} J' hn b hb =>
    ⟨hn b hb, (J'.ok.exf b hb).1, J'.ok.exfs b hb, .inl hb, fun x c e => (J'.ok.exf b hb).2 x c e, fun p hp => absurd (show p ∈ ([] : List (Addr × Obj)) ++ [] from hp) (by simp)⟩
  have loop : codeAny (model X.prog X.w) X.A (.compLoop (.SetComp elt [⟨tg, iter, ifs, 0⟩] scope pos) 0 (.ref it) (.ref D) ce) (compPost (model X.prog X.w) X.A X.xe use Qf (.ref D) s3.heap.objs.size) s4 := by
    refine PpSet.compLoopS_any (fun n s' => ∃ i H', Inv (X.blk s3 H3 scope ce fp) [] (wipe σ (own.map (·.2))) H' s' ∧ tn i s'.heap ∧ (∀ b ∈ fp, H' b = none) ∧ W i n H') ?_ m0 ⟨0, H3, I4, st4, nfp, w0⟩
    rintro n s5 ⟨i, H5, I5, st5, n5, w5⟩
    rcases turn i n H5 w5 with ⟨stop, qq⟩ | ⟨go, Nx, hNx, step⟩
    · refine thnF (T.done (X.blk s3 H3 scope ce fp) rfl rfl rfl hc i [] s5 _ H5 (fun _ _ => False) I5 (stand I5 n5) st5 stop) fun r s6 ⟨hr, I6⟩ => ?_
      subst hr
      have I7 : Inv X pins σ H5 s6 := I3.call' (ch := fp) I6.os I6.base I6.hok I6.bare fun b hb => ⟨(f3 b hb).1.2.2.2.1, (f3 b hb).1.2.1, (f3 b hb).1.2.2.2.2.1, (f3 b hb).1.2.2.2.2.2⟩
      have nC : H5 s3.heap.objs.size = none := cL ▸ (show H5 ce.locals = none from I6.free)
      obtain ⟨m, hn, _⟩ := I6.loc
      exact fin D s3.heap.objs.size s6 m H5 I7 qq (cL ▸ (show s6.heap.Ns ce.locals m from hn)) (I3.fpOk (Nat.le_refl _) nC)
    · refine thnF (T.item (X.blk s3 H3 scope ce fp) rfl rfl rfl hc i [] s5 _ H5 (fun _ _ => False) I5 (stand I5 n5) st5 go) fun r s6 ⟨u, hr, h6⟩ => ?_
      subst hr
      refine thnF h6 fun _ s7 ⟨x, H7, I7, r7, y7, st7, n7⟩ => ?_
      have I7' := I7.pinned (stand I7 n7) (T.obj _ _ st7)
      refine thnF (pg.run _ s7 _ H7 x u _ I7' r7 (step x H7 y7)) fun _ s8 ⟨σ8, H8, I8, hw8, q8⟩ => ?_
      refine thnF (pt.run _ s8 σ8 H8 _ I8 q8) fun b s9 ⟨H9, I9, q9⟩ => ?_
      have next : ∀ {s' : Shared} {H' : Hp}, Inv (X.blk s3 H3 scope ce fp) ([] ++ pinsAt fp s7.heap) σ8 H' s' → Nx H' → ∃ m, m < n ∧ ∃ i H', Inv (X.blk s3 H3 scope ce fp) [] (wipe σ (own.map (·.2))) H' s' ∧ tn i s'.heap ∧ (∀ b ∈ fp, H' b = none) ∧ W i m H' := fun {s' H'} J' nx => by
        obtain ⟨m', hm, w'⟩ := hNx H' nx
        have pin' : ∀ b ∈ fp, ∀ o, s7.heap.get? b = some o → s'.heap.get? b = some o ∧ H' b = none := fun b hb o e =>
          let z := J'.pin (b, o) (List.mem_append_right _ (List.mem_append_right _ (mem_pinsAt hb e)))
          ⟨z.1, z.2.1⟩
        have hl : (wipe σ (own.map (·.2))).length = σ8.length := by rw [← hw8, wipe_length]
        refine ⟨m', hm, i + 1, H', (J'.unpinned (pins := [])).weak hl (fun j v e => ?_), T.keep _ _ _ st7 fun b hb o e => (pin' b hb o e).1, fun b hb => ?_, w'⟩
        · rw [← hw8] at e
          exact (wipe_some e).1
        · obtain ⟨o, e, _⟩ := T.obj _ _ st7 b hb
          exact (pin' b hb o e).2
      dsimp only at q9
      by_cases hb : b = true
      · rw [if_pos hb] at q9 ⊢
        refine thnF (pe.run _ s9 σ8 H9 _ I9 q9) fun z s10 ⟨yv, H10, I10, r10, q10⟩ => ?_
        exact thnF (had s3 H3 ce fp _ s10 σ8 H10 (.ref D) [yv] (.ref D) [z] _ I10 rfl (.cons r10 .nil) q10) fun _ s11 ⟨_, H11, I11, _, nx⟩ => next I11 nx
      · rw [if_neg hb] at q9 ⊢
        exact next I9 q9
  exact PpSet.codeAny_compStart_set loop (T.self X.A 0 _ _ _ st4 loop)
/-- as a value -/
theorem pe_scg {elt tg iter : Expr} {ifs : List Expr} {scope : Scope} {own : List (PySem.Str × Nat)} {pos : Pos} {wi : TI} {g : TG} {tt : TT} {te : TE}
    (hZ : ∀ (H : Hp) (h : Heap), ObjOk X.prog X.w H (h.push (set0 X.w)) h.objs.size (Z h.objs.size))
    (had : ∀ (s : Shared) (H : Hp) (e : Env) (fp : List Addr), MtR (X.blk s H scope e fp) "set.add" ad)
    (hc : X.calm = true) (hN : X.N.Nodup) (hi : PI X tg iter wi) (ok : BlkOk X.N X.env.scope scope own)
    (hg : ∀ (s : Shared) (H : Hp) (C : Addr) (cl : List (PySem.Str × Addr)) (fp : List Addr), PG (X.blk s H scope (compEnvC scope cl C X.env) fp) tg g)
    (ht : ∀ (s : Shared) (H : Hp) (C : Addr) (cl : List (PySem.Str × Addr)) (fp : List Addr), PTs (X.blk s H scope (compEnvC scope cl C X.env) fp) ifs tt)
    (he : ∀ (s : Shared) (H : Hp) (C : Addr) (cl : List (PySem.Str × Addr)) (fp : List Addr), PE (X.blk s H scope (compEnvC scope cl C X.env) fp) elt te)
    (hs : ∀ x, foldedSetIterable iter X.env x = pure x := by intro _; rfl) :
    PE X (.SetComp elt [⟨tg, iter, ifs, 0⟩] scope pos) (tScG Z ad wi g tt te (own.map (·.2))) := by
  refine ⟨fun pins s σ H Q I h => ?_⟩
  rw [PpSet.eval_SetComp]
  refine scg_core hZ had hc hN I hi ok hg ht he hs h fun D C s' m H' I' q hn f => ⟨m, hn, fun h'' sb => ?_⟩
  obtain ⟨f0, f1, f2, f3, f4, f5⟩ := f
  exact ⟨.ref D, H', I'.turned (t' := s'.toks) (fun b o hb e => (sb.2 b hb).trans e) f0 f1 f3 f4 f5, rfl, q⟩
end
/-- its reading over anything that goes by a Walk -/
theorem setK_lay {P : Program} {w : World} (H : Hp) (h : Heap) : ObjOk P w H (h.push (set0 w)) h.objs.size (SetK P w h.objs.size (fun _ => false) 0) :=
  setK_new ⟨_, #[], 0, _, Heap.get?_push_size _ rfl, ⟨rfl, rfl, rfl⟩, rfl, (fun e he => by simp at he), (fun k => by simp), (by decide), (by rfl), rfl⟩
end Rs
set_option Elab.async false
set_option linter.all false
set_option maxRecDepth 100000
set_option maxHeartbeats 2000000
/-! Sets of tuples whose items are ints and texts: search and adding, fewer than 64 elements. -/
namespace Rs
open PySem PySem.Spec PyProof.Rows L2
/-- the tuple at b has the items k -/
abbrev TIs (P : Program) (w : World) (h : Heap) (k : List Key) (b : Addr) : Prop := IsTupleKey (mixKind P w) h k b
abbrev tkh (P : Program) (w : World) (k : List Key) : Int := tupleKeyHash (mixKind P w) k
section
variable {P : Program} {w : World} {A : Around} {E : Value → Shared → Prop} {s : Shared}
theorem items_key {k : List Key} {vs : List Value} (h : PySem.ItemsAre (mixKind P w) k vs) : ∀ v ∈ vs, (∃ i t, v = Value.int i t) ∨ ∃ x t, v = Value.str x t := by
  induction h with
  | nil => intro v hv; cases hv
  | cons h1 _ ih =>
    intro v hv
    rcases List.mem_cons.mp hv with rfl | hv
    · rcases keyIs_shape h1 with ⟨i, t, _, e⟩ | ⟨x, t, _, e⟩
      · exact .inl ⟨i, t, e⟩
      · exact .inr ⟨x, t, e⟩
    · exact ih v hv
theorem cls_key {v : Value} (n : Nat) (h : (∃ i t, v = Value.int i t) ∨ ∃ x t, v = Value.str x t) : ofAClassStatement n v = pure false := by
  rcases h with ⟨i, t, rfl⟩ | ⟨x, t, rfl⟩ <;> cases n <;> rfl
theorem hbv_key {v : Value} (n : Nat) (h : (∃ i t, v = Value.int i t) ∨ ∃ x t, v = Value.str x t) : ∃ b, hashByValue n v = pure b := by
  rcases h with ⟨i, t, rfl⟩ | ⟨x, t, rfl⟩ <;> cases n <;> exact ⟨_, rfl⟩
theorem cls_tup {k : List Key} {b : Addr} {Q : Bool → Shared → Prop} (hk : TIs P w s.heap k b) (h : Q false s) : wpAny (model P w) A (ofAClassStatement 8 (.ref b)) Q E s := by
  have hT := hk.typeIs
  obtain ⟨o, items, n, ho, _, hd, hi⟩ := hk
  unfold ofAClassStatement
  refine wpAny_bind (wpAny_typeOf hT ?_)
  have et : (("tuple" : String) == "tuple") = true := by decide
  simp only [et, if_true, Bool.not_true, Bool.false_eq_true, if_false]
  show wpAny _ _ (seqItems? (.ref b) >>= _) _ _ s
  refine wpAny_bind (wpAny_seqItems ho hd (wpAny_bind ?_))
  show wpAny _ _ (forIn items _ _) _ _ s
  rw [← Array.forIn_toList]
  refine wpAny_forIn_list _ (fun rest r s' => r.1 = none ∧ s' = s ∧ ∀ v ∈ rest, (∃ i t, v = Value.int i t) ∨ ∃ x t, v = Value.str x t) _ ?_ ?_ _ _ ⟨rfl, rfl, items_key hi⟩
  · rintro v rest r s' ⟨hr, rfl, hall⟩
    rw [cls_key _ (hall v List.mem_cons_self)]
    refine wpAny_bind (wpAny_pure ?_)
    simp only [Bool.false_eq_true, if_false]
    exact wpAny_pure ⟨rfl, rfl, fun u hu' => hall u (List.mem_cons_of_mem _ hu')⟩
  · rintro ⟨r1, r2⟩ s' ⟨hr, rfl, _⟩
    cases hr
    exact wpAny_pure h
theorem hbv_tup {k : List Key} {b : Addr} {Q : Bool → Shared → Prop} (hk : TIs P w s.heap k b) (h : ∀ c, Q c s) : wpAny (model P w) A (hashByValue 8 (.ref b)) Q E s := by
  have hT := hk.typeIs
  obtain ⟨o, items, n, ho, _, hd, hi⟩ := hk
  unfold hashByValue
  refine wpAny_bind (wpAny_specialOf hT F.slot_tuple_hash.lookup ?_)
  show wpAny _ _ (seqItems? (.ref b) >>= _) _ _ s
  refine wpAny_bind (wpAny_seqItems ho hd (wpAny_bind ?_))
  show wpAny _ _ (forIn items _ _) _ _ s
  rw [← Array.forIn_toList]
  refine wpAny_forIn_list _ (fun rest r s' => r.1 = none ∧ s' = s ∧ ∀ v ∈ rest, (∃ i t, v = Value.int i t) ∨ ∃ x t, v = Value.str x t) _ ?_ ?_ _ _ ⟨rfl, rfl, items_key hi⟩
  · rintro v rest r s' ⟨hr, rfl, hall⟩
    obtain ⟨c, e⟩ := hbv_key (v := v) 7 (hall v List.mem_cons_self)
    rw [e]
    refine wpAny_bind (wpAny_pure ?_)
    cases c with
    | true =>
      simp only [Bool.not_true, Bool.false_eq_true, if_false]
      exact wpAny_pure ⟨rfl, rfl, fun u hu' => hall u (List.mem_cons_of_mem _ hu')⟩
    | false =>
      simp only [Bool.not_false, if_true]
      exact wpAny_pure (wpAny_pure (h false))
  · rintro ⟨r1, r2⟩ s' ⟨hr, rfl, _⟩
    cases hr
    exact wpAny_pure (h true)
/-- a search among such tuples is seen by nobody -/
theorem quiet_tups {k : List Key} {b : Addr} {Q : Bool → Shared → Prop} (hk : TIs P w s.heap k b) {ys : List Value} (hy : ∀ y ∈ ys, ∃ k' c, y = Value.ref c ∧ TIs P w s.heap k' c) (h : Q false s) :
    wpAny (model P w) A (searchCouldBeSeen (.ref b) ys) Q E s := by
  unfold searchCouldBeSeen
  refine wpAny_bind (wpAny_forIn_list _ (fun rest r s' => r.1 = none ∧ s' = s ∧ ∀ y ∈ rest, ∃ k' c, y = Value.ref c ∧ TIs P w s.heap k' c) _ ?_ ?_ _ _ ⟨rfl, rfl, hy⟩)
  · rintro v rest r s' ⟨_, rfl, hall⟩
    obtain ⟨k', c, rfl, hc⟩ := hall v List.mem_cons_self
    have more : ∀ y ∈ rest, ∃ k' c, y = Value.ref c ∧ TIs P w s'.heap k' c := fun u hu' => hall u (List.mem_cons_of_mem _ hu')
    dsimp only
    refine wpAny_ite_split (fun _ => wpAny_pure ⟨rfl, rfl, more⟩) fun _ => ?_
    refine wpAny_bind (wpAny_eqIsQuiet_tuple hk ?_)
    simp only [Bool.not_true, Bool.false_eq_true, if_false]
    refine wpAny_bind (wpAny_eqIsQuiet_tuple hc ?_)
    simp only [Bool.not_true, Bool.false_eq_true, if_false]
    refine wpAny_bind (cls_tup hk ?_)
    simp only [Bool.false_eq_true, if_false]
    refine wpAny_bind (cls_tup hc ?_)
    simp only [Bool.false_eq_true, if_false]
    exact wpAny_pure ⟨rfl, rfl, more⟩
  · rintro ⟨r1, r2⟩ s' ⟨hr, rfl, _⟩
    cases hr
    exact wpAny_pure h

abbrev rowT (P : Program) (w : World) (p : Addr × List Key) : Int × Value := (tkh P w p.2, Value.ref p.1)
/-- the set at a holds the tuples L (their addresses and items), in the table's order -/
structure TSet (P : Program) (w : World) (h : Heap) (a : Addr) (L : List (Addr × List Key)) (es : Array (Int × Value)) (ep : Nat) (t : SetTable) : Prop where
  ob : ∃ o, h.get? a = some o ∧ o.ExactSet ∧ o.data = .set es ep t
  rows : es.toList = L.map (rowT P w)
  tab : TabOk t (L.map fun p => tkh P w p.2)
  nd : (L.map (·.2)).Nodup
  tup : ∀ p ∈ L, TIs P w h p.2 p.1
  room : L.length * 5 < t.mask * 3
  few : L.length < 64
variable {a : Addr} {L : List (Addr × List Key)} {es : Array (Int × Value)} {ep : Nat} {t : SetTable}
theorem rows_size (h : es.toList = L.map (rowT P w)) : es.size = L.length := by
  rw [← Array.length_toList, h, List.length_map]
theorem rows_get (h : es.toList = L.map (rowT P w)) {i : Nat} {p : Addr × List Key} (hp : L[i]? = some p) : es[i]? = some (rowT P w p) := by
  rw [← Array.getElem?_toList, h, List.getElem?_map, hp] <;> rfl
theorem fits_of (hp : t.place.size = es.size) (hd : t.dummies = #[]) (hm : es.size ≤ t.mask) : t.fits es.size = true := by
  unfold SetTable.fits SetTable.fill
  simp [hd, hp, hm]
theorem TSet.fits (R : TSet P w s.heap a L es ep t) : t.fits es.size = true := by
  have h1 := R.tab.sz
  rw [List.length_map] at h1
  have h2 := rows_size R.rows
  have h3 := R.room
  exact fits_of (by omega) R.tab.dm (by omega)
theorem TSet.stays (R : TSet P w s.heap a L es ep t) : ¬ t.gaveWay = true := by
  unfold SetTable.gaveWay
  rw [mask_odd R.tab.mok]
  decide
/-- the probe that stands at the c-th step of the way of h -/
abbrev at' (m : Nat) (h : Int) (c : Nat) : SetTable.Probe := nth m (runAt m (SetTable.bits h % (m + 1)) (SetTable.bits h)) c
theorem at'_clean (m : Nat) (h : Int) (c : Nat) : (at' m h c).dummy = none := by
  have key : ∀ (n : Nat) (p : SetTable.Probe), p.dummy = none → (nth m p n).dummy = none := by
    intro n
    induction n with
    | zero => exact fun p h => h
    | succ n ih =>
      refine fun p h => ih (adv m p) ?_
      unfold adv
      split <;> exact h
  exact key c _ rfl
theorem at'_add (m : Nat) (h : Int) (c q : Nat) : nth m (at' m h c) q = at' m h (c + q) := (nth_add m c _ q).symm
theorem tset_find (R : TSet P w s.heap a L es ep t) {x : Addr} {k : List Key} (hx : TIs P w s.heap k x) (hu : A.units < cLine) {K : Nat} (hKf : K < 10 * SetTable.turns t.mask)
    (hK : way t.mask (tkh P w k) K ∉ t.place.toList) (hKb : ∀ c, c < K → way t.mask (tkh P w k) c ∈ t.place.toList) {Q : SetFound → Shared → Prop}
    (hin : k ∈ L.map (·.2) → Q (.there none) s) (hout : k ∉ L.map (·.2) → Q (.free (way t.mask (tkh P w k) K) false) s) :
    ∀ (f c : Nat) (from_ : Option SetTable.Probe), from_.getD (t.probeStart (tkh P w k)) = at' t.mask (tkh P w k) c → c ≤ K → K - c < f →
      (∀ (i : Nat) p, L[i]? = some p → p.2 = k → ∃ c', c ≤ c' ∧ c' < K ∧ t.place.toList[i]? = some (way t.mask (tkh P w k) c')) →
      wpAny (model P w) A (setSearchFrom a (.ref x) (tkh P w k) true f from_) Q E s := by
  intro f
  induction f with
  | zero => exact fun c from_ _ _ hf _ => absurd hf (Nat.not_lt_zero _)
  | succ f ih =>
    intro c from_ hst hc hf ahead
    generalize hm : tkh P w k = hh at *
    obtain ⟨o, ho, hex, hd⟩ := R.ob
    rw [setSearchFrom_succ]
    refine wpAny_bind (wpAny_setState_of ho hd R.fits ?_)
    dsimp only
    refine wp_if_neg R.stays ?_
    have jat : ∀ q, (nth t.mask (at' t.mask hh c) q).j = way t.mask hh (c + q) := fun q => congrArg SetTable.Probe.j (at'_add t.mask hh c q)
    have spec := go_spec t R.tab.ris R.tab.dm (fun i => (es[i]?.map (·.1)).getD 0) hh (10 * SetTable.turns t.mask) (K - c) _ (at'_clean t.mask hh c) (by omega)
      (fun q hq => by rw [jat]; exact hKb (c + q) (by omega)) (by rw [jat, Nat.add_sub_cancel' hc]; exact hK)
    have hashAt : ∀ (i : Nat) p, L[i]? = some p → (fun i => (es[i]?.map (·.1)).getD 0) i = tkh P w p.2 := fun i p hp => by
      show (es[i]?.map (·.1)).getD 0 = _
      rw [rows_get R.rows hp] <;> rfl
    have prb : t.probe (fun i => (es[i]?.map (·.1)).getD 0) hh (from_.getD (t.probeStart hh)) = SetTable.probe.go t (fun i => (es[i]?.map (·.1)).getD 0) hh (10 * SetTable.turns t.mask) (at' t.mask hh c) := by
      rw [hst] <;> rfl
    rcases spec with ⟨q, i, hq, hi, _, hno, hpr⟩ | ⟨hno, hpr⟩
    · rw [prb, hpr]
      dsimp only
      rw [jat, at'_add]
      rw [jat] at hi
      have hil : i < L.length := by
        have h1 : i < t.place.toList.length := (List.getElem?_eq_some_iff.mp hi).1
        have h2 := R.tab.sz
        rw [List.length_map] at h2
        rw [Array.length_toList] at h1
        omega
      obtain ⟨p, hp⟩ : ∃ p, L[i]? = some p := ⟨_, List.getElem?_eq_getElem hil⟩
      have hmem : p ∈ L := List.mem_of_getElem? hp
      have rest : wpAny (model P w) A (searchRest a (.ref x) hh true f es t (way t.mask hh (c + q)) i (at' t.mask hh (c + (q + 1)))) Q E s := by
        unfold searchRest
        rw [rows_get R.rows hp]
        dsimp only
        refine wpAny_bind (wpAny_holding (wpAny_eqBool_tuple hu (R.tup p hmem) hx ?_))
        refine wpAny_bind (wpAny_setState_of ho hd R.fits ?_)
        dsimp only
        by_cases hkk : p.2 = k
        · exact wp_if_pos (by simp [hkk]) (wpAny_pure (hin (List.mem_map.mpr ⟨p, hmem, hkk⟩)))
        · refine wp_if_neg (by simp [hkk]) ?_
          rw [sameMem]
          have hsl : t.slot (way t.mask hh (c + q)) = .live i := slot_live R.tab.ris hi
          simp only [if_true, hsl, rows_get R.rows hp]
          refine wpAny_bind (wpAny_isSame_ref_self (wpAny_bind (wpAny_pure ?_)))
          simp only [if_true]
          refine wp_if_neg (by simp [hkk]) ?_
          refine ih (c + (q + 1)) _ rfl (by omega) (by omega) fun i0 p0 h0 hk0 => ?_
          obtain ⟨c', a1, a2, a3⟩ := ahead i0 p0 h0 hk0
          refine ⟨c', ?_, a2, a3⟩
          rcases Nat.lt_trichotomy c' (c + q) with z | z | z
          · refine absurd ?_ (hno (c' - c) i0 (by omega) (by rw [jat, Nat.add_sub_cancel' a1]; exact a3))
            exact (hashAt i0 p0 h0).trans ((congrArg (tkh P w) hk0).trans hm)
          · rw [z] at a3
            have s0 := slot_live R.tab.ris a3
            rw [hsl] at s0
            injection s0 with s0
            rw [← s0, hp] at h0
            exact absurd ((congrArg Prod.snd (Option.some.inj h0)).trans hk0) hkk
          · omega
      refine wpAny_ite_split (fun _ => ?_) fun _ => rest
      refine wpAny_bind (quiet_tups hx (fun y hy => ?_) ?_)
      · obtain ⟨e, he, rfl⟩ := List.mem_map.mp hy
        have he2 : e ∈ es.toList := by simpa using (Array.mem_filter.mp (Array.mem_toList_iff.mp he)).1
        rw [R.rows] at he2
        obtain ⟨p2, hp2, rfl⟩ := List.mem_map.mp he2
        exact ⟨p2.2, p2.1, rfl, R.tup p2 hp2⟩
      · exact wp_if_neg (by decide) rest
    · rw [prb, hpr]
      dsimp only
      rw [jat, Nat.add_sub_cancel' hc]
      refine wpAny_pure (hout fun hmm => ?_)
      obtain ⟨p0, h0, hk0⟩ := List.mem_map.mp hmm
      obtain ⟨i0, hi0⟩ := List.getElem?_of_mem h0
      obtain ⟨c', a1, a2, a3⟩ := ahead i0 p0 hi0 hk0
      refine absurd ?_ (hno (c' - c) i0 (by omega) (by rw [jat, Nat.add_sub_cancel' a1]; exact a3))
      exact (hashAt i0 p0 hi0).trans ((congrArg (tkh P w) hk0).trans hm)

theorem tset_search (R : TSet P w s.heap a L es ep t) {x : Addr} {k : List Key} (hx : TIs P w s.heap k x) (hu : A.units < cLine) {Q : SetFound → Shared → Prop}
    (hin : k ∈ L.map (·.2) → Q (.there none) s)
    (hout : ∀ K, k ∉ L.map (·.2) → way t.mask (tkh P w k) K ∉ t.place.toList → (∀ c, c < K → way t.mask (tkh P w k) c ∈ t.place.toList) → Q (.free (way t.mask (tkh P w k) K) false) s) :
    wpAny (model P w) A (setSearch a (.ref x) (tkh P w k) true) Q E s := by
  have hroom := R.room
  have hsz := R.tab.sz
  rw [List.length_map] at hsz
  obtain ⟨K, hKf, hK, hKb⟩ := R.tab.first (by rw [List.length_map]; omega) (tkh P w k)
  have hbig : K < 100000 := by
    have : 10 * SetTable.turns t.mask ≤ 1420 := by
      unfold SetTable.turns
      rcases R.tab.mok with e | e | e <;> omega
    omega
  refine tset_find R hx hu hKf hK hKb hin (fun hn => hout K hn hK hKb) 100000 0 none rfl (Nat.zero_le _) (by omega) fun i p hp hk => ?_
  have hil : i < t.place.toList.length := by
    have h1 : i < L.length := (List.getElem?_eq_some_iff.mp hp).1
    rw [Array.length_toList]
    omega
  have hj := List.getElem?_eq_getElem hil
  obtain ⟨c, hc, e⟩ := R.tab.before (h := tkh P w k) hK (by rw [List.getElem?_map, hp, ← hk] <;> rfl) hj
  exact ⟨c, Nat.zero_le _, hc, by rw [hj, e]⟩
theorem tis_apart {h h' : Heap} {k : List Key} {b : Addr} {o : Obj} (hb : TIs P w h k b) (ho : h.get? a = some o) (hd : o.data = .set es ep t) (hs : Heap.SameBut a h h') : TIs P w h' k b := by
  obtain ⟨o', items, n, ho', hc, hd', hi⟩ := hb
  refine ⟨o', items, n, (hs.2 b ?_).trans ho', hc, hd', hi⟩
  rintro rfl
  cases Option.some.inj (ho'.symm.trans ho)
  rw [hd] at hd'
  exact nomatch hd'
theorem pick_range {α : Type} (l : List α) : (List.range l.length).filterMap (fun i => l[i]?) = l := by
  induction l with
  | nil => rfl
  | cons x l ih =>
    rw [List.length_cons, List.range_succ_eq_map, List.filterMap_cons_some (b := x) (by rfl), List.filterMap_map]
    exact congrArg (x :: ·) ih
theorem pick_rows (hr : es.toList = L.map (rowT P w)) : ∀ l : List Nat, (∀ i ∈ l, i < L.length) →
    l.filterMap (fun i => es[i]?) = (l.filterMap fun i => L[i]?).map (rowT P w) ∧ (l.filterMap fun i => L[i]?).map (fun p => tkh P w p.2) = l.map fun i => (es.map (·.1)).getD i 0
  | [], _ => ⟨rfl, rfl⟩
  | i :: l, hl => by
    have hi := hl i List.mem_cons_self
    obtain ⟨e1, e2⟩ := pick_rows hr l fun j hj => hl j (List.mem_cons_of_mem _ hj)
    have g := rows_get hr (List.getElem?_eq_getElem hi)
    have g2 : (es.map (·.1)).getD i 0 = tkh P w (L[i]).2 := by
      have e5 : (es.map (·.1))[i]? = some (tkh P w (L[i]).2) := by rw [Array.getElem?_map, g] <;> rfl
      simp [Array.getD_eq_getD_getElem?, e5]
    rw [List.filterMap_cons_some g, List.filterMap_cons_some (List.getElem?_eq_getElem hi), List.map_cons, List.map_cons, List.map_cons, e1, e2, g2]
    exact ⟨rfl, rfl⟩
theorem tset_relay {o : Obj} (ho : s.heap.get? a = some o) (hex : o.ExactSet) (hd : o.data = .set es ep t) (hrows : es.toList = L.map (rowT P w)) (hsz : t.place.size = es.size) (hdm : t.dummies = #[]) (hfl : es.size ≤ t.mask)
    (nd : (L.map (·.2)).Nodup) (tup : ∀ p ∈ L, TIs P w s.heap p.2 p.1) (few : L.length < 64) {wanted M : Nat}
    (hw : SetTable.sizeAbove wanted - 1 = M) (hM : MaskOk M) (hw2 : SetTable.sizeAbove wanted ≤ 128) (hn : L.length * 5 < M * 3) {Q : Unit → Shared → Prop}
    (hQ : ∀ h' L' es' ep' t', Heap.SameBut a s.heap h' → TSet P w h' a L' es' ep' t' → L'.Perm L → Q () { s with heap := h' }) : wpAny (model P w) A (setRelay a wanted) Q E s := by
  have hsl := rows_size hrows
  obtain ⟨t', order, e, hp, T, em, el, ep', ed⟩ := relaid_ok t (hs := es.map (·.1)) (wanted := wanted) hw hM (by rw [Array.size_map, hsl]; omega)
  rw [Array.size_map, hsl] at hp
  obtain ⟨r1, r3⟩ := pick_rows hrows order.toList fun i hi => List.mem_range.mp (hp.mem_iff.mp hi)
  have r2 : (order.toList.filterMap fun i => L[i]?).Perm L := by
    have h1 := hp.filterMap (fun i => L[i]?)
    rwa [pick_range] at h1
  rw [← r3] at T
  generalize order.toList.filterMap (fun i => L[i]?) = L2 at *
  have r0 : (order.filterMap (es[·]?)).toList = L2.map (rowT P w) := by rw [Array.toList_filterMap]; exact r1
  have hs2 : (order.filterMap (es[·]?)).size = es.size := by rw [rows_size r0, r2.length_eq, hsl]
  rw [setRelay_eq]
  refine wpAny_bind (wpAny_setState_of ho hd (fits_of hsz hdm hfl) ?_)
  dsimp only
  refine wp_if_neg (by rw [sizeLine_eq]; omega) ?_
  rw [e]
  dsimp only
  refine wpAny_bind (wp_if_neg (by rw [hs2]; simp) (wpAny_pure ?_))
  dsimp only
  refine wpAny_storeSet_of ho hd ?_ (by rw [hs2, hsl, sizeLine_eq]; omega)
  have sb : Heap.SameBut a s.heap (s.heap.update a (Obj.putSet (order.filterMap (es[·]?)) t')) := Heap.SameBut.update ..
  refine hQ _ L2 (order.filterMap (es[·]?)) (ep + 1) t' sb ⟨⟨_, store_at ho hd, ⟨hex.1, hex.2.1, hex.2.2⟩, rfl⟩, r0, T, (r2.map (·.2)).nodup_iff.mpr nd, fun p hpm => tis_apart (tup p (r2.mem_iff.mp hpm)) ho hd sb, ?_, by rw [r2.length_eq]; exact few⟩ r2
  rw [r2.length_eq, em]
  exact hn
theorem tset_add (R : TSet P w s.heap a L es ep t) {x : Addr} {k : List Key} (hx : TIs P w s.heap k x) (hu : A.units < cLine) (hfew : L.length + 1 < 64) {Q : Bool → Shared → Prop}
    (hQ : ∀ b h' L' es' ep' t', Heap.SameBut a s.heap h' → TSet P w h' a L' es' ep' t' → (k ∈ L.map (·.2) → L' = L) → (k ∉ L.map (·.2) → L'.Perm ((x, k) :: L)) → Q b { s with heap := h' }) :
    wpAny (model P w) A (setAddHashed a (.ref x) (tkh P w k)) Q E s := by
  obtain ⟨o, ho, hex, hd⟩ := R.ob
  have hsl := rows_size R.rows
  have hroom := R.room
  unfold setAddHashed
  refine wpAny_holding ?_
  rw [show (100000 : Nat) = 99999 + 1 from rfl, setAddHashedIn_succ]
  refine wpAny_bind (wpAny_setState_of ho hd R.fits ?_)
  dsimp only
  refine wp_if_neg (by simp [byScan, Value.scannable]) ?_
  refine wpAny_bind (tset_search R hx hu (fun hm => wpAny_pure (hQ false s.heap L es ep t (Heap.SameBut.refl a s.heap) R (fun _ => rfl) fun z => absurd hm z)) fun K hm hK hb => ?_)
  dsimp only
  refine wpAny_bind (wpAny_setState_of ho hd R.fits ?_)
  dsimp only
  obtain ⟨q1, q2, q3, q4, q5, q6, q7, q8, q9⟩ := R.tab.put hK hb
  generalize hpt : t.put (way t.mask (tkh P w k) K) = pt at q1 q3 q4 q5 q6 q7 q8 q9 ⊢
  obtain ⟨t1, p⟩ := pt
  dsimp only at q1 q3 q4 q5 q6 q7 q8 q9 ⊢
  generalize hpp : SetTable.below t.place (way t.mask (tkh P w k) K) = p' at q1 q2 q3
  subst q1
  rw [List.length_map] at q9
  have hin : (SetTable.insertAt es p (tkh P w k, Value.ref x)).toList = (L.take p ++ (x, k) :: L.drop p).map (rowT P w) := by
    rw [SetTable.toList_insertAt, R.rows, List.map_append, List.map_cons, List.map_take, List.map_drop]
  have pm : (L.take p ++ (x, k) :: L.drop p).Perm ((x, k) :: L) := put_perm L p (x, k)
  have hhs : (L.map fun p => tkh P w p.2).take p ++ tkh P w k :: (L.map fun p => tkh P w p.2).drop p = (L.take p ++ (x, k) :: L.drop p).map (fun p => tkh P w p.2) := by
    rw [List.map_append, List.map_cons, List.map_take, List.map_drop]
  rw [hhs] at q3
  generalize SetTable.insertAt es p (tkh P w k, Value.ref x) = es1 at hin ⊢
  generalize L.take p ++ (x, k) :: L.drop p = L1 at pm q3 hin
  have hlen : L1.length = L.length + 1 := pm.length_eq
  have hes : es1.size = L.length + 1 := by rw [rows_size hin, hlen]
  have nd1 : (L1.map (·.2)).Nodup := (pm.map (·.2)).nodup_iff.mpr (List.nodup_cons.mpr ⟨hm, R.nd⟩)
  -- whatever the table is marked with, the same goes on
  have tail : ∀ t2 : SetTable, TabOk t2 (L1.map fun p => tkh P w p.2) → t2.mask = t.mask → t2.fill = L.length + 1 →
      wpAny (model P w) A (do storeSet a es1 t2; if (!false && t2.tooFull) = true then do { let _ ← setRelay a (SetTable.grown (es.size + 1)); pure true } else pure true) Q E s := by
    intro t2 T2 em ef
    refine wpAny_bind (wpAny_storeSet_of ho hd ?_ (by rw [hes, sizeLine_eq]; omega))
    have sb : Heap.SameBut a s.heap (s.heap.update a (Obj.putSet es1 t2)) := Heap.SameBut.update ..
    have ho1 := store_at (es' := es1) (t' := t2) ho hd
    generalize s.heap.update a (Obj.putSet es1 t2) = h1 at sb ho1 ⊢
    have tup1 : ∀ p ∈ L1, TIs P w h1 p.2 p.1 := fun p hp => by
      rcases List.mem_cons.mp (pm.mem_iff.mp hp) with e | hp
      · rw [e]; exact tis_apart hx ho hd sb
      · exact tis_apart (R.tup p hp) ho hd sb
    by_cases hf : t2.tooFull = true
    · have hfull : (L.length + 1) * 5 ≥ t2.mask * 3 := by
        have h := hf
        unfold SetTable.tooFull at h
        rw [decide_eq_true_eq, ef] at h
        exact h
      have two : (t.mask = 7 ∧ L.length = 4) ∨ (t.mask = 31 ∧ L.length = 18) := by
        rw [em] at hfull
        rcases R.tab.mok with e | e | e
        · left; rw [e] at hfull hroom; exact ⟨e, by omega⟩
        · right; rw [e] at hfull hroom; exact ⟨e, by omega⟩
        · exfalso; rw [e] at hfull; omega
      refine wp_if_pos (by simp [hf]) (wpAny_bind ?_)
      have sz2 : t2.place.size = es1.size := by rw [T2.sz, List.length_map, hlen, hes]
      have go : ∀ M, SetTable.sizeAbove (SetTable.grown (L.length + 1)) - 1 = M → MaskOk M → SetTable.sizeAbove (SetTable.grown (L.length + 1)) ≤ 128 → (L.length + 1) * 5 < M * 3 →
          wpAny (model P w) A (setRelay a (SetTable.grown (es.size + 1))) (fun _ s' => wpAny (model P w) A (pure true) Q E s') E { s with heap := h1 } := fun M g1 g2 g3 g4 => by
        rw [hsl]
        refine tset_relay (s := { s with heap := h1 }) ho1 ⟨hex.1, hex.2.1, hex.2.2⟩ rfl hin sz2 T2.dm (by rw [hes, em]; rcases two with ⟨e, e2⟩ | ⟨e, e2⟩ <;> omega) nd1 tup1 (by rw [hlen]; exact hfew) g1 g2 g3 (by rw [hlen]; exact g4) ?_
        intro h2 L2 es2 ep2 t3 sb2 R2 pm2
        exact wpAny_pure (hQ true h2 L2 es2 ep2 t3 (sb.trans sb2) R2 (fun z => absurd z hm) fun _ => pm2.trans pm)
      rcases two with ⟨_, e2⟩ | ⟨_, e2⟩
      · exact go 31 (by rw [e2, size_20]) (.inr (.inl rfl)) (by rw [e2, size_20]; decide) (by omega)
      · exact go 127 (by rw [e2, size_76]) (.inr (.inr rfl)) (by rw [e2, size_76]; decide) (by omega)
    · refine wp_if_neg (by simp [hf]) ?_
      refine wpAny_pure (hQ true h1 L1 es1 (ep + 1) t2 sb ⟨⟨_, ho1, ⟨hex.1, hex.2.1, hex.2.2⟩, rfl⟩, hin, T2, nd1, tup1, ?_, by rw [hlen]; exact hfew⟩ (fun z => absurd z hm) fun _ => pm)
      have h := hf
      unfold SetTable.tooFull at h
      rw [decide_eq_true_eq, ef] at h
      rw [hlen]
      omega
  have tail1 := tail t1 q3 q4 q9
  have tail2 := tail { t1 with plain := false } ⟨q3.ris, q3.dm, q3.sz, q3.mok, q3.bd, q3.reach⟩ q4 q9
  refine wpAny_ite_split (fun _ => wpAny_bind (hbv_tup hx fun c => ?_)) fun _ => wpAny_bind (wpAny_pure ?_)
  · cases c with
    | true => exact tail1
    | false => exact tail2
  · exact tail1
end
end Rs
set_option Elab.async false
set_option linter.all false
set_option maxRecDepth 100000
set_option maxHeartbeats 2000000
/-! Sets of tuples as objects of the abstract heap: empty, adding, len; len of sets of texts. -/
namespace Rs
open PySem PySem.Spec PyProof.Rows L2
structure TSet0 (P : Program) (w : World) (h : Heap) (a : Addr) (L : List (Addr × List Key)) : Prop where
  ex : ∃ (es : Array (Int × Value)) (ep : Nat) (t : SetTable), (∃ o, h.get? a = some o ∧ o.ExactSet ∧ o.data = .set es ep t) ∧ es.toList = L.map (rowT P w) ∧ TabOk t (L.map fun p => tkh P w p.2) ∧ (L.map (·.2)).Nodup ∧
    L.length * 5 < t.mask * 3 ∧ L.length < 64
def SetT (P : Program) (w : World) (a : Addr) (L : List (Addr × List Key)) : HO := .ext fun h => TSet0 P w h a L
section
variable {P : Program} {w : World} {h h' : Heap} {a : Addr} {L : List (Addr × List Key)}
theorem TSet.zero {es : Array (Int × Value)} {ep : Nat} {t : SetTable} (R : TSet P w h a L es ep t) : TSet0 P w h a L := ⟨es, ep, t, R.ob, R.rows, R.tab, R.nd, R.room, R.few⟩
theorem TSet0.full (R : TSet0 P w h a L) (ht : ∀ p ∈ L, TIs P w h p.2 p.1) : ∃ es ep t, TSet P w h a L es ep t := by
  obtain ⟨es, ep, t, h1, h2, h3, h4, h7, h8⟩ := R.ex
  exact ⟨es, ep, t, h1, h2, h3, h4, ht, h7, h8⟩
theorem setT_new {H : Hp} (R : TSet0 P w h a L) : ObjOk P w H h a (SetT P w a L) := by
  obtain ⟨es, ep, t, ⟨o, ho, _⟩, _⟩ := R.ex
  refine ⟨R, ⟨o, ho⟩, fun h1 h2 p k => ?_⟩
  obtain ⟨es', ep', t', ⟨o', ho', r'⟩, q'⟩ := TSet0.ex p
  exact ⟨es', ep', t', ⟨o', k o' ho', r'⟩, q'⟩
theorem tab0 (f m : Nat) (l : Bool) (hm : (SetTable.fresh f m l).mask = 7) (hp : (SetTable.fresh f m l).place = #[]) (hd : (SetTable.fresh f m l).dummies = #[]) : TabOk (SetTable.fresh f m l) [] where
  ris := by rw [hp]; exact (by first | exact List.Pairwise.nil | (intro i j x y h1; simp at h1) | simp [Ris])
  dm := hd
  sz := by rw [hp]; rfl
  mok := .inl hm
  bd := by rw [hp]; intro x hx; simp at hx
  reach := by intro i h j e; simp at e
theorem setT_lay (H : Hp) (h : Heap) : ObjOk P w H (h.push (set0 w)) h.objs.size (SetT P w h.objs.size []) :=
  setT_new ⟨_, _, _, ⟨_, Heap.get?_push_size _ rfl, ⟨rfl, rfl, rfl⟩, rfl⟩, rfl, tab0 _ _ _ rfl rfl rfl, List.nodup_nil, (by show 0 * 5 < 7 * 3; decide), (by decide)⟩
end
section
variable {X : Cx}
theorem items_keys {P : Program} {w : World} : ∀ {k : List Key} {us : List Value}, Vals (k.map kV) us → PySem.ItemsAre (mixKind P w) k us
  | [], _, .nil => .nil
  | n :: k, _, .cons r t => .cons (kV_is r) (items_keys t)
theorem inv_tis {pins : List (Addr × Obj)} {σ : L2.St} {H : Hp} {s : Shared} {b : Addr} {k : List Key} (I : L2.Inv X pins σ H s) (h : SqT X.K H b (k.map kV)) : TIs X.prog X.w s.heap k b := by
  obtain ⟨its, r, ⟨o, ho, hc, n, hd⟩, _⟩ := I.tuple h
  exact ⟨o, its.toArray, n, ho, hc, hd, by simpa using items_keys r⟩
theorem setT_get {pins : List (Addr × Obj)} {σ : L2.St} {H : Hp} {s : Shared} {a : Addr} {L : List (Addr × List Key)} (I : L2.Inv X pins σ H s) (ha : H a = some (SetT X.prog X.w a L)) (ht : ∀ p ∈ L, SqT X.K H p.1 (p.2.map kV)) :
    ∃ es ep t, TSet X.prog X.w s.heap a L es ep t := (show TSet0 X.prog X.w s.heap a L from (I.hok a _ ha).1).full fun p hp => inv_tis I (ht p hp)
/-- adding a tuple of keys -/
def rAddT (K : PySem.W.Frag) (P : Program) (w : World) : V → List V → Hp → VK → Prop := fun x xs H Q => ∃ (a b : Addr) (k : List Key) (L : List (Addr × List Key)), x = V.ref a ∧ xs = [.ref b] ∧ H a = some (SetT P w a L) ∧ SqT K H b (k.map kV) ∧
  (∀ p ∈ L, SqT K H p.1 (p.2.map kV)) ∧ L.length + 1 < 64 ∧ ∀ L', (k ∈ L.map (·.2) → L' = L) → (k ∉ L.map (·.2) → L'.Perm ((b, k) :: L)) → Q .non (upd H a (SetT P w a L'))
theorem mt_addT (hu : X.A.units + 1 < cLine) : MtR X "set.add" (rAddT X.K X.prog X.w) := by
  intro pins s σ H x xs v us Q I rx rxs h
  obtain ⟨a, b, k, L, rfl, rfl, ha, hb, hL, few, q⟩ := h
  cases rx
  cases rxs with
  | cons ry rt =>
    cases rt
    cases ry
    obtain ⟨es, ep, t, R⟩ := setT_get I ha hL
    obtain ⟨o, ho, hex, hd⟩ := R.ob
    have hT : s.TypeIs (.ref a) "set" := ⟨o, ho, hex.1⟩
    refine wpAny_call_entry F.slot_set_add hT F.entry_set_add ?_ (F.args_set_add_2 _ _)
    unfold Builtin.«set.add» Builtin.Frozenset.oneOther
    simp only [List.isEmpty_nil, bind_assoc]
    unfold Builtin.Frozenset.addrOf setAdd
    refine wpAny_bind (wpAny_pure ?_)
    refine wpAny_bind (wpAny_pure (wpAny_bind (wpAny_holding ?_)))
    have hx := inv_tis I hb
    refine wpAny_bind (wpAny_pyHash_tuple (by show X.A.in1.units < cLine; exact hu) hx ?_)
    refine tset_add (s := { s with toks := s.toks + (k.length + 1) }) R hx (by show X.A.in1.units < cLine; exact hu) few fun b' h' L' es' ep' t' sb R' e1 e2 => ?_
    refine wpAny_pure ⟨Value.none, rfl, ?_⟩
    have he : ∃ u, h'.get? a = some u := let ⟨o, ho, _⟩ := R'.ob; ⟨o, ho⟩
    exact ⟨.non, upd H a (SetT X.prog X.w a L'), I.write (e := a) (t' := s.toks + (k.length + 1)) (by rw [ha]; trivial) (.inl rfl) (fun b u hb hu => (sb.2 b hb).trans hu) he (setT_new R'.zero), rfl, q L' e1 e2⟩
/-- len of such sets -/
def rLenSet (P : Program) (w : World) : List V → Hp → VK → Prop := fun xs H Q => ∃ a n, xs = [.ref a] ∧ ((∃ L, H a = some (SetT P w a L) ∧ n = L.length) ∨ ∃ S, H a = some (SetK P w a S n)) ∧ Q (.int (n : Nat)) H
theorem cr_lenSet : CallR X (.builtin "len") (rLenSet X.prog X.w) := by
  intro pins s σ H xs us Q I r h
  obtain ⟨a, n, rfl, hor, q⟩ := h
  rw [Vals.ref1 r]
  rcases hor with ⟨L, ha, rfl⟩ | ⟨S, ha⟩
  · obtain ⟨es, ep, t, ⟨o, ho, hex, hd⟩, hr, T, nd, room, few⟩ := (show TSet0 X.prog X.w s.heap a L from (I.hok a _ ha).1).ex
    have hz := rows_size hr
    have hs := T.sz
    rw [List.length_map] at hs
    refine call_len_set ho hex hd (fits_of (by omega) T.dm (by omega)) (by omega) ⟨.int (L.length : Nat), H, I.tok _, ⟨_, by rw [hz]⟩, q⟩
  · obtain ⟨o, es, ep, t, ho, hex, hd, _, _, hb, hf, rfl⟩ := setK_get I ha
    have : (scanBound : Int) < 2 ^ 63 := by decide
    refine call_len_set ho hex hd hf (by omega) ⟨.int (es.size : Nat), H, I.tok _, ⟨_, rfl⟩, q⟩
end
end Rs
set_option Elab.async false
set_option linter.all false
/-! Plain lists: sorting by a strict total order, texts and rows of texts in order. -/
namespace Rs
section
variable {α : Type} (lt : α → α → Bool)
/-- a strict total order, by Bool -/
structure Tot : Prop where
  irr : ∀ x, lt x x = false
  tr : ∀ x y z, lt x y = true → lt y z = true → lt x z = true
  tri : ∀ x y, lt x y = false → lt y x = false → x = y
def ins (x : α) : List α → List α
  | [] => [x]
  | y :: l => if lt y x = true then y :: ins x l else x :: y :: l
def isort : List α → List α
  | [] => []
  | x :: l => ins lt x (isort l)
abbrev Up (l : List α) : Prop := l.Pairwise fun x y => lt y x = false
variable {lt}
theorem ins_perm (x : α) : ∀ l, (ins lt x l).Perm (x :: l)
  | [] => List.Perm.refl _
  | y :: l => by
    unfold ins
    split
    · exact ((ins_perm x l).cons y).trans (List.Perm.swap x y l)
    · exact List.Perm.refl _
theorem isort_perm : ∀ l, (isort lt l).Perm l
  | [] => List.Perm.refl _
  | x :: l => (ins_perm x _).trans ((isort_perm l).cons x)
theorem Tot.asym (O : Tot lt) {x y : α} (h : lt x y = true) : lt y x = false := by
  cases e : lt y x with
  | false => rfl
  | true => have := O.tr x y x h e; rw [O.irr] at this; cases this
theorem Tot.le (O : Tot lt) {x y z : α} (h1 : lt y x = false) (h2 : lt z y = false) : lt z x = false := by
  cases e : lt z x with
  | false => rfl
  | true =>
    cases e2 : lt x y with
    | true => rw [O.tr z x y e e2] at h2; cases h2
    | false => rw [O.tri x y e2 h1, h2] at e; cases e
theorem ins_up (O : Tot lt) (x : α) : ∀ l, Up lt l → Up lt (ins lt x l)
  | [], _ => List.pairwise_singleton _ _
  | y :: l, h => by
    obtain ⟨hy, hl⟩ := List.pairwise_cons.mp h
    unfold ins
    split
    · next e =>
      refine List.pairwise_cons.mpr ⟨fun z hz => ?_, ins_up O x l hl⟩
      rcases List.mem_cons.mp ((ins_perm x l).mem_iff.mp hz) with rfl | hz
      · exact O.asym e
      · exact hy z hz
    · next e =>
      have e' : lt y x = false := by simpa using e
      refine List.pairwise_cons.mpr ⟨fun z hz => ?_, h⟩
      rcases List.mem_cons.mp hz with rfl | hz
      · exact e'
      · exact O.le e' (hy z hz)
theorem isort_up (O : Tot lt) : ∀ l, Up lt (isort lt l)
  | [] => List.Pairwise.nil
  | x :: l => ins_up O x _ (isort_up O l)
theorem up_uniq (O : Tot lt) : ∀ {l m : List α}, Up lt l → Up lt m → l.Perm m → l = m
  | [], m, _, _, p => (List.nil_perm.mp p).symm
  | x :: l, [], _, _, p => (List.perm_nil.mp p)
  | x :: l, y :: m, hl, hm, p => by
    obtain ⟨hx, hl'⟩ := List.pairwise_cons.mp hl
    obtain ⟨hy, hm'⟩ := List.pairwise_cons.mp hm
    have e : x = y := by
      have h1 : x ∈ y :: m := p.mem_iff.mp List.mem_cons_self
      have h2 : y ∈ x :: l := p.mem_iff.mpr List.mem_cons_self
      rcases List.mem_cons.mp h1 with h1 | h1
      · exact h1
      · rcases List.mem_cons.mp h2 with h2 | h2
        · exact h2.symm
        · exact O.tri x y (hy x h1) (hx y h2)
    subst e
    rw [up_uniq O hl' hm' (List.Perm.cons_inv p)]
theorem isort_of (O : Tot lt) {l m : List α} (h : Up lt l) (p : l.Perm m) : l = isort lt m := up_uniq O h (isort_up O m) (p.trans (isort_perm m).symm)
theorem isort_congr (O : Tot lt) {l m : List α} (p : l.Perm m) : isort lt l = isort lt m := isort_of O (isort_up O l) ((isort_perm l).trans p)
theorem mem_isort {x : α} {l : List α} : x ∈ isort lt l ↔ x ∈ l := (isort_perm l).mem_iff
theorem length_isort (l : List α) : (isort lt l).length = l.length := (isort_perm l).length_eq
theorem nodup_isort {l : List α} : (isort lt l).Nodup ↔ l.Nodup := (isort_perm l).nodup_iff
/-- by a key -/
theorem up_map {β : Type} {f : β → α} {l : List β} : Up (fun x y => lt (f x) (f y)) l ↔ Up lt (l.map f) := by
  unfold Up
  rw [List.pairwise_map]
end
open PySem
/-- lists by their first unlike element -/
def lex {α : Type} [DecidableEq α] (lt : α → α → Bool) : List α → List α → Bool
  | [], [] => false
  | [], _ :: _ => true
  | _ :: _, [] => false
  | x :: l, y :: m => if x = y then lex lt l m else lt x y
theorem lex_tot {α : Type} [DecidableEq α] {lt : α → α → Bool} (O : Tot lt) : Tot (lex lt) := by
  refine ⟨fun x => ?_, fun x => ?_, fun x => ?_⟩
  · induction x with
    | nil => rfl
    | cons a l ih => simp [lex, ih]
  · induction x with
    | nil =>
      intro y z h1 h2
      cases y with
      | nil => cases h1
      | cons b m =>
        cases z with
        | nil => cases h2
        | cons c n => rfl
    | cons a l ih =>
      intro y z h1 h2
      cases y with
      | nil => cases h1
      | cons b m =>
        cases z with
        | nil => cases h2
        | cons c n =>
          unfold lex at h1 h2 ⊢
          by_cases e1 : a = b
          · subst e1
            by_cases e2 : a = c
            · subst e2
              rw [if_pos rfl] at *
              exact ih m n h1 h2
            · rw [if_pos rfl] at h1
              rw [if_neg e2] at h2 ⊢
              exact h2
          · rw [if_neg e1] at h1
            by_cases e2 : b = c
            · subst e2
              rw [if_neg e1]
              exact h1
            · rw [if_neg e2] at h2
              have h3 := O.tr a b c h1 h2
              by_cases e3 : a = c
              · subst e3; rw [O.irr] at h3; cases h3
              · rw [if_neg e3]; exact h3
  · induction x with
    | nil =>
      intro y h1 h2
      cases y with
      | nil => rfl
      | cons b m => cases h1
    | cons a l ih =>
      intro y h1 h2
      cases y with
      | nil => cases h2
      | cons b m =>
        unfold lex at h1 h2
        by_cases e : a = b
        · subst e
          rw [if_pos rfl] at h1 h2
          rw [ih m h1 h2]
        · rw [if_neg e] at h1
          rw [if_neg (Ne.symm e)] at h2
          exact absurd (O.tri a b h1 h2) e
abbrev natLt (a b : Nat) : Bool := decide (a < b)
theorem natLt_tot : Tot natLt := ⟨fun x => by simp [natLt], fun x y z h1 h2 => by simp [natLt] at *; omega, fun x y h1 h2 => by simp [natLt] at *; omega⟩
/-- texts in order -/
def strLt (a b : Str) : Bool := lex natLt a.cps.toList b.cps.toList
theorem str_ext {a b : Str} (h : a.cps.toList = b.cps.toList) : a = b := by
  cases a; cases b; congr; exact Array.ext' h
theorem strLt_tot : Tot strLt := by
  have O := lex_tot natLt_tot
  exact ⟨fun x => O.irr _, fun x y z => O.tr _ _ _, fun x y h1 h2 => str_ext (O.tri _ _ h1 h2)⟩
theorem lex_nat (a b : List Nat) : lex natLt a b = decide (a < b) := by
  induction a generalizing b with
  | nil => cases b <;> simp [lex]
  | cons x l ih =>
    cases b with
    | nil => simp [lex]
    | cons y m =>
      unfold lex
      by_cases e : x = y
      · subst e; simp [ih]
      · rw [if_neg e]
        simp [natLt, List.cons_lt_cons_iff, e]
theorem strLt_eq (a b : Str) : strLt a b = decide (a.cps.toList < b.cps.toList) := lex_nat _ _
abbrev rowLt : List Str → List Str → Bool := lex strLt
theorem rowLt_tot : Tot rowLt := lex_tot strLt_tot
end Rs
set_option Elab.async false
set_option linter.all false
set_option maxRecDepth 100000
set_option maxHeartbeats 2000000
/-! sorted(..) of texts and of tuples of texts, any number of them: of a list, a tuple, a dict's keys. -/
namespace Rs
open PySem PySem.Spec PyProof.Rows L2 SrtO
section
variable {prog : Program} {w : World} {A : Around} {E : Value → Shared → Prop} {s : Shared}
def txtOf : Value → Str
  | .str x _ => x
  | _ => ⟨#[]⟩
theorem swo_of {α β : Type} {lt : α → α → Bool} (O : Tot lt) (f : β → α) : Swo fun x y => lt (f x) (f y) :=
  ⟨fun x y h => O.asym h, fun x y z h1 h2 => O.le h1 h2⟩
/-- texts are sortable -/
theorem sortable_txt {a : Addr} {vs : List Value} {ss : List Str} (h2 : 2 ≤ vs.length) (hS : StrsAre vs ss) : SortableO prog w A s a vs fun v u => strLt (txtOf v) (txtOf u) := by
  intro h' keep
  refine ⟨oneType', fun Q E hq => ?_, fun p q hp hq => ?_⟩
  · match vs, h2, hS with
    | v1 :: v2 :: r, _, hS =>
      rw [keyKind_strs hS]
      exact wpAny_pure hq
  · have st : ∀ (us : List Value) (ts : List Str), StrsAre us ts → ∀ v ∈ us, ∃ x t, v = Value.str x t := by
      intro us ts h
      induction h with
      | nil => intro v hv; cases hv
      | cons x t _ ih =>
        intro v hv
        rcases List.mem_cons.mp hv with rfl | hv
        · exact ⟨_, _, rfl⟩
        · exact ih v hv
    obtain ⟨x, t, ex⟩ := st _ _ hS _ hp
    obtain ⟨y, u, ey⟩ := st _ _ hS _ hq
    show wpAny _ _ (keyLt' oneType' p.1 q.1) (fun r s' => s' = _ ∧ r = strLt (txtOf p.1) (txtOf q.1)) _ _
    rw [ex, ey]
    exact PySem.W.kas_lt_str ⟨rfl, (strLt_eq x y).symm⟩
/-- a tuple of texts -/
def IsRow (h : Heap) (v : Value) (k : List Str) : Prop := ∃ a o its n, v = .ref a ∧ h.get? a = some o ∧ o.cls = .type "tuple" ∧ o.data = .seq its n ∧ StrsAre its.toList k
theorem IsRow.keeps {h h' : Heap} {v : Value} {k : List Str} (r : IsRow h v k) (kp : ∀ b o, h.get? b = some o → o.cls = .type "tuple" → h'.get? b = some o) : IsRow h' v k := by
  obtain ⟨a, o, its, n, e, ho, hc, hd, hS⟩ := r
  exact ⟨a, o, its, n, e, kp a o ho hc, hc, hd, hS⟩
theorem rows_lex : ∀ {xs ys : List Value} {k j : List Str} {b : Bool} {i : Nat} {Q : Bool → Shared → Prop}, StrsAre xs k → StrsAre ys j → (b = true → i = 0 ∨ True) → Q (rowLt k j) s →
    PySem.W.KatLex prog w A b (decide (xs.length < ys.length)) Q (xs.zip ys) i s
  | [], [], _, _, _, _, _, .nil, .nil, _, q => q
  | [], _ :: _, _, _, _, _, _, .nil, .cons _ _ _, _, q => q
  | _ :: _, [], _, _, _, _, _, .cons _ _ _, .nil, _, q => q
  | _ :: xs, _ :: ys, _ :: k, _ :: j, b, i, Q, .cons x t hx, .cons y u hy, hb, q => by
    refine PySem.W.kat_cons (wpAny_eqBool_str ?_)
    refine PySem.W.kat_go (fun e => ?_) (fun e => ?_)
    · have e' : x = y := by simpa using e
      refine PySem.W.kat_yes ?_
      have hl : decide ((Value.str x t :: xs).length < (Value.str y u :: ys).length) = decide (xs.length < ys.length) := by simp
      rw [hl]
      refine rows_lex hx hy (fun _ => .inr trivial) ?_
      unfold rowLt lex at q
      rw [if_pos e'] at q
      exact q
    · have e' : ¬ x = y := by simpa using e
      unfold rowLt lex at q
      rw [if_neg e', strLt_eq] at q
      refine PySem.W.kat_no ?_
      cases hbi : (b && i == 0) with
      | false => exact PySem.W.kat_one _ _ (PySem.P.lt_str q)
      | true => exact oneLt_str q
theorem firsts_rows {h : Heap} : ∀ {vs : List Value}, (∀ v ∈ vs, ∃ k, IsRow h v k ∧ k ≠ []) → ∃ fs : List Value, PySem.W.KatTups h vs fs ∧ fs.length = vs.length ∧ ∀ f ∈ fs, ∃ x t, f = Value.str x t
  | [], _ => ⟨[], trivial, rfl, fun f hf => (by cases hf)⟩
  | v :: vs, hp => by
    obtain ⟨fs, h1, h2, h3⟩ := firsts_rows fun u hu => hp u (List.mem_cons_of_mem _ hu)
    obtain ⟨k, ⟨a, o, its, n, rfl, ho, hc, hd, hS⟩, hk⟩ := hp v List.mem_cons_self
    have e : ∃ x t, its[0]? = some (Value.str x t) := by
      rw [← Array.getElem?_toList]
      generalize its.toList = l at hS
      cases hS with
      | nil => exact absurd rfl hk
      | cons x t _ => exact ⟨x, t, rfl⟩
    obtain ⟨x, t, e⟩ := e
    refine ⟨_ :: fs, PySem.W.KatTups.cons ho hc hd e h1, by simp [h2], fun f hf => ?_⟩
    rcases List.mem_cons.mp hf with rfl | hf
    · exact ⟨x, t, rfl⟩
    · exact h3 f hf
theorem sortable_rows {a : Addr} {vs : List Value} {k : Value → List Str} (h2 : 2 ≤ vs.length) (hp : ∀ v ∈ vs, IsRow s.heap v (k v) ∧ k v ≠ []) (ha : ∀ o, s.heap.get? a = some o → o.cls ≠ .type "tuple") :
    SortableO prog w A s a vs fun v u => rowLt (k v) (k u) := by
  intro h' keep
  have hp' : ∀ v ∈ vs, IsRow h' v (k v) ∧ k v ≠ [] := fun v hm => ⟨(hp v hm).1.keeps fun b o e c => keep b o (fun z => by subst z; exact ha o e c) e, (hp v hm).2⟩
  obtain ⟨fs, h1, hl, h3⟩ := firsts_rows fun v hm => ⟨_, hp' v hm⟩
  refine ⟨tuples' true, fun Q E hq => ?_, fun p q hm hm' => ?_⟩
  · refine PySem.W.kat_kind (T := .type "str") h1 (by omega) (fun f hm => ?_) (by rfl) ?_
    · obtain ⟨x, t, rfl⟩ := h3 f hm
      exact PySem.W.Looks.now
    · have e : (Value.type "str" != Value.type "tuple") = true := by first | decide +kernel | rfl | decide
      rw [e]
      exact hq
  · obtain ⟨a1, o1, i1, n1, e1, ho1, _, hd1, s1⟩ := (hp' _ hm).1
    obtain ⟨a2, o2, i2, n2, e2, ho2, _, hd2, s2⟩ := (hp' _ hm').1
    show wpAny (model prog w) A (keyLt' (tuples' true) p.1 q.1) (fun r s' => s' = _ ∧ r = rowLt (k p.1) (k q.1)) (fun _ _ => False) _
    generalize k p.1 = kp at s1
    generalize k q.1 = kq at s2
    rw [e1, e2]
    refine PySem.W.kat_lt (s := { s with heap := h' }) ho1 hd1 ho2 hd2 ?_
    rw [← Array.length_toList, ← Array.length_toList]
    exact rows_lex s1 s2 (fun _ => .inr trivial) ⟨rfl, rfl⟩
end
section
variable {X : Cx} {pins : List (Addr × Obj)} {σ : L2.St} {H : Hp} {s : Shared}
/-- the machine's way: a new list of what was gathered, sorted in place -/
theorem sort_tail {vs : List Value} {ltv : Value → Value → Bool} {Q : VK} {E : Value → Shared → Prop} (I : L2.Inv X pins σ H s) (O : Swo ltv) (hz : vs.length ≤ sizeLine)
    (hS : 2 ≤ vs.length → ∀ (h₁ : Heap) (a : Addr), h₁.get? a = some (seqObj "list" vs.toArray 0) → (∀ b o, s.heap.get? b = some o → b ≠ a ∧ h₁.get? b = some o) → SortableO X.prog X.w X.A.in1.in1 { s with heap := h₁ } a vs ltv)
    (q : ∀ out p, Srtd ltv out → out.Perm vs → H p = none → ∃ ys, Vals ys out ∧ Q (.ref p) (upd H p (.lst ys))) :
    wpAny (model X.prog X.w) X.A.in1 (do let l ← newList vs; let _ ← holding [l] (call (.builtin "list.sort") [l] []); ret l) (fun fin s' => ∃ v, fin = .done (.ret v) ∧ EP X pins σ Q v s') E s := by
  refine wpAny_bind (wpAny_newList ?_ hz)
  have hoL : (s.heap.push (seqObj "list" vs.toArray 0)).get? s.heap.objs.size = some (seqObj "list" vs.toArray 0) := Heap.get?_push_size _ rfl
  show wpAny _ _ _ _ _ { s with heap := s.heap.push (seqObj "list" vs.toArray 0) }
  refine wpAny_bind (wpAny_holding (wpAny_call_entry slot_list_sort ⟨_, hoL, rfl⟩ entry_list_sort
    (list_sort_ord O (s := { s with heap := s.heap.push (seqObj "list" vs.toArray 0) }) hoL hz (fun h2 => hS h2 _ _ hoL fun b o e => ⟨Nat.ne_of_lt (Heap.lt_size e), Heap.get?_push_of_some _ e⟩) fun out hs hb => ⟨_, rfl, ?_⟩)
    (args_list_sort _)))
  obtain ⟨ys, rv, q⟩ := q out s.heap.objs.size hs hb.perm (I.hok.fresh (Nat.le_refl _))
  obtain ⟨e', he'⟩ := sortedHeap_at (vs := vs) (out := out.toArray) hoL
  have hlen : ys.length ≤ sizeLine := by rw [rv.length, hb.perm.length_eq]; exact hz
  refine wpAny_pure ⟨_, rfl, .ref s.heap.objs.size, upd H s.heap.objs.size (.lst ys), I.laid (t' := s.toks) (fun b u e => ?_) (Nat.le_refl _)
    (show ObjOk X.prog X.w _ _ _ (.lst ys) from ⟨hlen, out, e', rv, he'⟩), rfl, q⟩
  have hb : b < s.heap.objs.size := Heap.lt_size e
  rw [sortedHeap_old (Nat.ne_of_lt hb) (by rw [size_push']; exact Nat.lt_succ_of_lt hb)]
  exact Heap.get?_push_of_some _ e
/-- what is gathered from an argument of sorted: its values, the heap kept -/
def Gath (X : Cx) (u : Value) (xs : List V) (s : Shared) : Prop :=
  ∀ (Q : List Value → Shared → Prop) (E : Value → Shared → Prop), (∀ vs h' tk, (∀ b o, s.heap.get? b = some o → h'.get? b = some o) → Vals xs vs → Q vs { s with heap := h', toks := tk }) → wpAny (model X.prog X.w) X.A.in1 (collect u) Q E s
theorem gath_seq {p : Addr} {xs : List V} (I : L2.Inv X pins σ H s) (h : SqL X.K H p xs ∨ SqT X.K H p xs) : Gath X (.ref p) xs s := by
  intro Q E q
  rcases h with h | h
  · obtain ⟨its, r, pl, hz⟩ := I.list h
    obtain ⟨o, ho, hc, n, hd⟩ := pl.isList
    refine wpAny_collect_seq p (.inl rfl) ho hc hd (fun h' k => ?_) (by simpa [← r.length] using hz)
    exact q _ h' s.toks k (by simpa using r)
  · obtain ⟨its, r, pl, hz⟩ := I.tuple h
    obtain ⟨o, ho, hc, n, hd⟩ := pl
    refine wpAny_collect_seq p (.inr rfl) ho hc hd (fun h' k => ?_) (by simpa [← r.length] using hz)
    exact q _ h' s.toks k (by simpa using r)
theorem gath_dK {d : Addr} {kvs : List (Key × V)} (hc : X.calm = true) (I : L2.Inv X pins σ H s) (h : Rd H d (.dK kvs)) : Gath X (.ref d) (kvs.map fun p => kV p.1) s := by
  intro Q E q
  obtain ⟨z, lo, vs, rel, dd⟩ := dk_rd I.hok h
  obtain ⟨ep, hat⟩ := dd.dictAt
  have hl : vs.length = kvs.length := by
    have e := congrArg List.length rel.keys
    simpa using e.symm
  refine PySem.W.kdu_collect (A := X.A.in1) (PySem.W.kdl_dict (knd := mixKind X.prog X.w) (kvs := vs) (ep := ep) lo) (I.ok.hd hc) hat (by omega) fun h' tk acc hk hacc => ?_
  have ek : (kvs.map fun kv => kV kv.1) = vs.map fun p => kV p.1 := by
    have e := congrArg (List.map kV) rel.keys
    rw [List.map_map, List.map_map] at e
    exact e
  rw [ek] at q
  exact q acc.toList h' tk hk (keys_at (by rw [Array.length_toList, hacc.1]) fun j v e => hacc.2 j v (by rw [← Array.getElem?_toList]; exact e))
theorem gath_dT {d : Addr} {kvs : List (List Key × V)} (hc : X.calm = true) (I : L2.Inv X pins σ H s) (h : Rd H d (.dT kvs)) : ∃ bs, IsKeys H kvs bs ∧ Gath X (.ref d) (bs.map V.ref) s := by
  obtain ⟨z, hs, ks, pr, o, es, ep, ho, hx, hdt, he, hn⟩ := (show ObjOk X.prog X.w H s.heap d (.dT kvs) from h.ok I.hok)
  have l1 : es.size = ks.length := size_of_entries he
  have l2 : kvs.length = ks.length := Paired.length pr
  refine ⟨_, isKeys_of pr, fun Q E q => ?_⟩
  refine PySem.W.kdu_collect (A := X.A.in1) (kdl_raw hs hx hdt) (I.ok.hd hc) ho (by omega) fun h' tk acc hk hacc => ?_
  refine q acc.toList h' tk hk ?_
  have ea : acc.toList = (ks.map fun x => x.2.1).map Value.ref := by
    have hl : acc.toList.length = ks.length := by rw [Array.length_toList, hacc.1]; exact l1
    apply List.ext_getElem?
    intro j
    rw [List.getElem?_map, List.getElem?_map]
    cases hj : acc.toList[j]? with
    | none =>
      have h1 := List.getElem?_eq_none_iff.mp hj
      rw [List.getElem?_eq_none (by omega)] <;> rfl
    | some v =>
      obtain ⟨en, hen, hv⟩ := hacc.2 j v (by rw [← Array.getElem?_toList]; exact hj)
      have qe := entry_at he j
      rw [hen] at qe
      cases hb : ks[j]? with
      | none => rw [hb] at qe; exact nomatch (show some en = none from qe)
      | some b =>
        rw [hb] at qe
        rw [hv, show en = entryOfKey (tupleKind (mixKind X.prog X.w)) b from Option.some.inj qe] <;> rfl
  rw [ea]
  exact vals_refs _
theorem strs_vals : ∀ {ss : List Str} {vs : List Value}, Vals (ss.map V.str) vs → StrsAre vs ss
  | [], _, .nil => .nil
  | x :: ss, _, .cons r t => by
    obtain ⟨k, rfl⟩ := r
    exact .cons _ _ (strs_vals t)
theorem vals_txt : ∀ {vs : List Value}, (∀ v ∈ vs, ∃ x t, v = Value.str x t) → Vals ((vs.map txtOf).map V.str) vs
  | [], _ => .nil
  | v :: vs, h => by
    obtain ⟨x, t, rfl⟩ := h v List.mem_cons_self
    exact .cons ⟨t, rfl⟩ (vals_txt fun u hu => h u (List.mem_cons_of_mem _ hu))
theorem txt_vals : ∀ {ss : List Str} {vs : List Value}, Vals (ss.map V.str) vs → vs.map txtOf = ss ∧ ∀ v ∈ vs, ∃ x t, v = Value.str x t
  | [], _, .nil => ⟨rfl, fun v hv => (by cases hv)⟩
  | x :: ss, _, .cons r t => by
    obtain ⟨k, rfl⟩ := r
    obtain ⟨e, h⟩ := txt_vals t
    refine ⟨by rw [List.map_cons, e] <;> rfl, fun v hv => ?_⟩
    rcases List.mem_cons.mp hv with rfl | hv
    · exact ⟨_, _, rfl⟩
    · exact h v hv
/-- where the texts come from -/
def TxtSrc (K : PySem.W.Frag) (H : Hp) (p : Addr) (ss : List Str) : Prop :=
  (SqL K H p (ss.map V.str) ∨ SqT K H p (ss.map V.str)) ∨ ∃ kvs, Rd H p (.dK kvs) ∧ kvs.map (·.1) = ss.map Sum.inr
def rSortS (K : PySem.W.Frag) : List V → Hp → VK → Prop := fun vs H Q => ∃ (p : Addr) (ss : List Str), vs = [.ref p] ∧ TxtSrc K H p ss ∧ ss.length ≤ sizeLine ∧ ∀ l, H l = none → Q (.ref l) (upd H l (.lst ((isort strLt ss).map V.str)))
theorem cr_sortS (hc : X.calm = true) : CallR X (.builtin "sorted") (rSortS X.K) := by
  intro pins s σ H xs us Q I r h
  obtain ⟨p, ss, rfl, src, hz, q⟩ := h
  rw [Vals.ref1 r]
  have G : Gath X (.ref p) (ss.map V.str) s := by
    rcases src with h | ⟨kvs, hd, e⟩
    · exact gath_seq I h
    · have g := gath_dK hc I hd
      have e2 : (kvs.map fun p => kV p.1) = ss.map V.str := by
        have := congrArg (List.map kV) e
        rw [List.map_map, List.map_map] at this
        exact this
      rwa [e2] at g
  refine Calls.call_function_entry kind_sorted plain_sorted entry_sorted (args_sorted1 _) ?_
  unfold Builtin.«sorted»
  refine wpAny_bind (m := checkCount "sorted" 1 1 _) (wpAny_pure ?_)
  refine wpAny_bind (G _ _ fun vs h' tk kp rv => ?_)
  obtain ⟨ev, hall⟩ := txt_vals rv
  have hl : vs.length = ss.length := by rw [← ev, List.length_map]
  refine sort_tail (I.kept (t' := tk) kp) (swo_of strLt_tot txtOf) (by omega) (fun h2 h₁ a _ _ => sortable_txt h2 (strs_vals rv)) fun out l hs hp hn => ?_
  refine ⟨(out.map txtOf).map V.str, vals_txt fun v hv => hall v (hp.mem_iff.mp hv), ?_⟩
  rw [isort_of strLt_tot (up_map.mp hs) (ev ▸ hp.map txtOf)]
  exact q l hn
/-- the rows' own texts -/
def RowAt (K : PySem.W.Frag) (H : Hp) (b : Addr) (k : List Str) : Prop := SqT K H b (k.map V.str)
theorem row_is {b : Addr} {k : List Str} (I : L2.Inv X pins σ H s) (h : RowAt X.K H b k) : IsRow s.heap (.ref b) k := by
  obtain ⟨its, r, ⟨o, ho, hc, n, hd⟩, _⟩ := I.tuple h
  exact ⟨b, o, its.toArray, n, rfl, ho, hc, hd, by simpa using strs_vals r⟩
def RowSrc (K : PySem.W.Frag) (H : Hp) (p : Addr) (bs : List Addr) : Prop :=
  SqL K H p (bs.map V.ref) ∨ SqT K H p (bs.map V.ref)
def refOf : Value → Addr
  | .ref a => a
  | _ => 0
theorem vals_ref : ∀ {bs : List Addr} {vs : List Value}, Vals (bs.map V.ref) vs → vs = bs.map Value.ref
  | [], _, .nil => rfl
  | b :: bs, _, .cons r t => by
    cases r
    rw [vals_ref t] <;> rfl
theorem refOf_map (bs : List Addr) : (bs.map Value.ref).map refOf = bs := by
  rw [List.map_map]
  exact List.map_id'' (fun _ => rfl) bs
/-- rows of texts, sorted: the same tuples in order -/
theorem sort_rows {u : Value} {bs : List Addr} {key : Addr → List Str} {Q : VK} (I : L2.Inv X pins σ H s) (G : Gath X u (bs.map V.ref) s) (hz : bs.length ≤ sizeLine) (hk : ∀ b ∈ bs, RowAt X.K H b (key b) ∧ key b ≠ [])
    (q : ∀ (l : Addr) (cs : List Addr), H l = none → cs.Perm bs → cs.map key = isort rowLt (bs.map key) → Q (.ref l) (upd H l (.lst (cs.map V.ref)))) : wpAny (model X.prog X.w) X.A (call (.builtin "sorted") [u]) (EP X pins σ Q) X.xe s := by
  refine Calls.call_function_entry kind_sorted plain_sorted entry_sorted (args_sorted1 _) ?_
  unfold Builtin.«sorted»
  refine wpAny_bind (m := checkCount "sorted" 1 1 _) (wpAny_pure ?_)
  refine wpAny_bind (G _ _ fun vs h' tk kp rv => ?_)
  cases vals_ref rv
  have I1 := I.kept (t' := tk) kp
  refine sort_tail I1 (swo_of rowLt_tot fun v => key (refOf v)) (by rw [List.length_map]; exact hz) (fun h2 h₁ a ha kk => ?_) fun out l hs hp hn => ?_
  · refine sortable_rows (s := { s with heap := h₁, toks := tk }) (k := fun v => key (refOf v)) h2 (fun v hv => ?_) fun o e => ?_
    · obtain ⟨b, hb, rfl⟩ := List.mem_map.mp hv
      exact ⟨(row_is I1 (hk b hb).1).keeps fun c o e _ => (kk c o e).2, (hk b hb).2⟩
    · have e' : some o = some (seqObj "list" (bs.map Value.ref).toArray 0) := e.symm.trans ha
      cases e'
      intro c
      exact absurd (Value.type.inj c) (by decide)
  · have hr : ∃ cs : List Addr, out = cs.map Value.ref := by
      refine ⟨out.map refOf, ?_⟩
      rw [List.map_map]
      have all : ∀ v ∈ out, v = (Value.ref ∘ refOf) v := fun v hv => by
        obtain ⟨b, _, rfl⟩ := List.mem_map.mp (hp.mem_iff.mp hv)
        rfl
      exact (List.map_id out).symm.trans (List.map_congr_left all)
    obtain ⟨cs, rfl⟩ := hr
    have hp' : cs.Perm bs := by
      have := hp.map refOf
      rwa [refOf_map, refOf_map] at this
    refine ⟨cs.map V.ref, vals_refs _, q l cs hn hp' ?_⟩
    have hu : Up rowLt (cs.map key) := by
      have := up_map.mp hs
      rw [List.map_map] at this
      exact this
    exact isort_of rowLt_tot hu (hp'.map key)
def rSortR (K : PySem.W.Frag) : List V → Hp → VK → Prop := fun vs H Q => ∃ (p : Addr) (bs : List Addr) (key : Addr → List Str), vs = [.ref p] ∧ RowSrc K H p bs ∧ bs.length ≤ sizeLine ∧ (∀ b ∈ bs, RowAt K H b (key b) ∧ key b ≠ []) ∧
  ∀ (l : Addr) (cs : List Addr), H l = none → cs.Perm bs → cs.map key = isort rowLt (bs.map key) → Q (.ref l) (upd H l (.lst (cs.map V.ref)))
theorem cr_sortR : CallR X (.builtin "sorted") (rSortR X.K) := by
  intro pins s σ H xs us Q I r h
  obtain ⟨p, bs, key, rfl, src, hz, hk, q⟩ := h
  rw [Vals.ref1 r]
  exact sort_rows I (gath_seq I src) hz hk q
/-- the same of a dict's keys -/
def rSortDT (K : PySem.W.Frag) : List V → Hp → VK → Prop := fun vs H Q => ∃ (d : Addr) (kvs : List (List Key × V)) (ks : List (List Str)), vs = [.ref d] ∧ Rd H d (.dT kvs) ∧ kvs.map (·.1) = ks.map (·.map Sum.inr) ∧ (∀ k ∈ ks, k ≠ []) ∧ kvs.length ≤ sizeLine ∧
  ∀ (l : Addr) (cs : List Addr), H l = none → Paired (fun (k : List PySem.Str) b => H b = some (.tup (k.map V.str))) (isort rowLt ks) cs → Q (.ref l) (upd H l (.lst (cs.map V.ref)))
def txtV : V → Str
  | .str x => x
  | _ => ⟨#[]⟩
def rowKey (H : Hp) (b : Addr) : List Str := match H b with
  | some (.tup xs) => xs.map txtV
  | _ => []
theorem rowKey_of {b : Addr} {k : List Str} (h : H b = some (.tup (k.map V.str))) : rowKey H b = k := by
  unfold rowKey
  rw [h]
  show (k.map V.str).map txtV = k
  rw [List.map_map]
  exact List.map_id'' (fun _ => rfl) k
theorem keys_rows : ∀ {kvs : List (List Key × V)} {ks : List (List Str)} {bs : List Addr}, IsKeys H kvs bs → kvs.map (·.1) = ks.map (·.map Sum.inr) → bs.map (rowKey H) = ks ∧ ∀ b ∈ bs, H b = some (.tup ((rowKey H b).map V.str)) := by
  intro kvs ks bs h
  unfold IsKeys at h
  induction h generalizing ks with
  | nil =>
    intro e
    cases ks with
    | nil => exact ⟨rfl, fun b hb => by cases hb⟩
    | cons k ks => cases e
  | @cons p b kvs bs h1 _ ih =>
    intro e
    cases ks with
    | nil => cases e
    | cons k ks =>
      obtain ⟨e1, e2⟩ := List.cons.inj e
      obtain ⟨i1, i2⟩ := ih e2
      have hb : H b = some (.tup (k.map V.str)) := by
        have e1' : p.1 = k.map Sum.inr := e1
        rw [h1, e1', List.map_map] <;> rfl
      have hk := rowKey_of hb
      refine ⟨by rw [List.map_cons, hk, i1], fun c hc => ?_⟩
      rcases List.mem_cons.mp hc with rfl | hc
      · rw [hk]; exact hb
      · exact i2 c hc
theorem paired_map {α β : Type} {R : α → β → Prop} {f : β → α} : ∀ {cs : List β}, (∀ c ∈ cs, R (f c) c) → Paired R (cs.map f) cs
  | [], _ => .nil
  | c :: cs, h => .cons (h c List.mem_cons_self) (paired_map fun x hx => h x (List.mem_cons_of_mem _ hx))
theorem cr_sortDT (hc : X.calm = true) : CallR X (.builtin "sorted") (rSortDT X.K) := by
  intro pins s σ H xs us Q I r h
  obtain ⟨d, kvs, ks, rfl, hd, e, ne, hz, q⟩ := h
  rw [Vals.ref1 r]
  obtain ⟨bs, ik, G⟩ := gath_dT hc I hd
  obtain ⟨e1, e2⟩ := keys_rows ik e
  have hl : bs.length = kvs.length := by
    have := congrArg List.length e1
    have := congrArg List.length e
    simp at *
    omega
  refine sort_rows (key := rowKey H) I G (by omega) (fun b hb => ⟨.inl (.inl (e2 b hb)), ne _ (e1 ▸ List.mem_map.mpr ⟨b, hb, rfl⟩)⟩) fun l cs hn hp hk => q l cs hn ?_
  rw [e1] at hk
  rw [← hk]
  exact paired_map fun c hc => e2 c (hp.mem_iff.mp hc)
/-- rows of texts by their texts alone -/
def rSortQ (K : PySem.W.Frag) : List V → Hp → VK → Prop := fun vs H Q => ∃ (p : Addr) (bs : List Addr) (ks : List (List Str)), vs = [.ref p] ∧ RowSrc K H p bs ∧ bs.length ≤ sizeLine ∧ Paired (fun k b => RowAt K H b k) ks bs ∧ (∀ k ∈ ks, k ≠ []) ∧
  ∀ (l : Addr) (cs : List Addr), H l = none → Paired (fun k b => RowAt K H b k) (isort rowLt ks) cs → Q (.ref l) (upd H l (.lst (cs.map V.ref)))
open Classical in
noncomputable def keyAt (K : PySem.W.Frag) (H : Hp) (b : Addr) : List Str := if h : ∃ k, RowAt K H b k then h.choose else []
theorem keyAt_of {b : Addr} {k : List Str} (I : L2.Inv X pins σ H s) (h : RowAt X.K H b k) : keyAt X.K H b = k := by
  have hex : ∃ k, RowAt X.K H b k := ⟨k, h⟩
  have h1 : RowAt X.K H b (keyAt X.K H b) := by
    unfold keyAt
    rw [dif_pos hex]
    exact hex.choose_spec
  have e := I.tuple_inj h1 h
  have : ∀ a b : List Str, a.map V.str = b.map V.str → a = b := by
    intro a
    induction a with
    | nil => intro b e; cases b with
      | nil => rfl
      | cons _ _ => cases e
    | cons x a ih => intro b e; cases b with
      | nil => cases e
      | cons y b =>
        obtain ⟨e1, e2⟩ := List.cons.inj e
        rw [V.str.inj e1, ih b e2]
  exact this _ _ e
theorem cr_sortQ : CallR X (.builtin "sorted") (rSortQ X.K) := by
  intro pins s σ H xs us Q I r h
  obtain ⟨p, bs, ks, rfl, src, hz, hk, ne, q⟩ := h
  rw [Vals.ref1 r]
  have both : ∀ {ks : List (List Str)} {bs : List Addr}, Paired (fun k b => RowAt X.K H b k) ks bs → bs.map (keyAt X.K H) = ks ∧ ∀ b ∈ bs, RowAt X.K H b (keyAt X.K H b) := by
    intro ks bs h
    induction h with
    | nil => exact ⟨rfl, fun b hb => by cases hb⟩
    | @cons k b ks bs h1 _ ih =>
      have e := keyAt_of I h1
      refine ⟨by rw [List.map_cons, e, ih.1], fun c hc => ?_⟩
      rcases List.mem_cons.mp hc with rfl | hc
      · rw [e]; exact h1
      · exact ih.2 c hc
  obtain ⟨e1, e2⟩ := both hk
  refine sort_rows (key := keyAt X.K H) I (gath_seq I src) hz (fun b hb => ⟨e2 b hb, ne _ (e1 ▸ List.mem_map.mpr ⟨b, hb, rfl⟩)⟩) fun l cs hn hp hkk => q l cs hn ?_
  rw [e1] at hkk
  rw [← hkk]
  exact paired_map fun c hc => e2 c (hp.mem_iff.mp hc)
end
end Rs
set_option Elab.async false
set_option linter.all false
set_option maxRecDepth 100000
set_option maxHeartbeats 2000000
/-! isinstance of a caught error that has fields of its own. -/
namespace Rs
open PySem PySem.Spec PySem.W PySem.Calls PyProof.Rows
section
variable {prog : Program} {w : World} {A : Around} {E : Value → Shared → Prop} {s : Shared} {K : Frag} {x D : Addr} {ox : Obj} {od : Option Obj}
theorem findObj_any {C : Addr} {name : Str} {a g : Value} (hc : (clsIn K C).isSome = true) (ha : findIn K (.ref C) name = some (some a)) (hg : specialIn K a "__get__" = some (some g)) (ht : takesIn K a = some true) : findObj K C od name = some (.bind g a) := by
  cases od with
  | none => exact findObj_dataN hc ha hg ht
  | some o => exact findObj_data hc ha hg ht
theorem class_of_exc {Q : Option Value → Shared → Prop} (C : L2.ExcC K D) (X : K.In s.heap) (I : PySem.W.InstAt s.heap x ox D od) (h : Q (some (.ref D)) { s with toks := s.toks + 1 }) : wpAny (model prog w) A (getAttr? (.ref x) "__class__") Q E s := by
  have hf : findObj K D od "__class__" = some (.bind (.builtin "getset_descriptor.__get__") (.builtin "object.__class__")) := findObj_any (by obtain ⟨cd, hc, _⟩ := any_some C.hd; rw [hc]; rfl) C.ha C.hn C.ht
  obtain ⟨hp, g, d, t, os⟩ := s
  have T0 := I.type (M := model prog w)
  have T1 := looks_findIn (M := model prog w) X C.hg
  have T2 := looks_findIn (M := model prog w) X C.hk
  have T3 := looks_find (M := model prog w) X I hf
  have sub : Looks (model prog w) hp (isInstance (.ref x) (.type "BaseException")) true := T0.andThen (looks_subIn X C.hs)
  have ne : (Value.builtin "BaseException.__getattribute__" == Value.builtin "object.__getattribute__") = false := by decide +kernel
  unfold getAttr? getAttrBy? getAttrBy
  refine wpAny_bind (wpAny_mkText (wpAny_bind (wpAny_attempt (wpAny_holding (wpAny_bind (T0.at (wpAny_bind (T1.at ?_))))))))
  show wpAny _ _ (if (onTheHeap (Value.ref D) && Value.builtin "BaseException.__getattribute__" == Value.builtin "object.__getattribute__") = true then _ else _) _ _ _
  rw [if_neg (by rw [ne]; simp)]
  unfold getAttrByItsOwn hookBefore
  refine wpAny_bind ?_
  rw [if_pos (show onTheHeap (Value.ref D) = true from rfl)]
  refine T2.at (wpAny_bind (wpAny_attempt (wpAny_holding ?_)))
  unfold callGetattribute
  rw [if_neg (by show ¬ (false && onTheHeap (Value.builtin "BaseException.__getattribute__")) = true; exact Bool.false_ne_true)]
  unfold boundAndCalled
  rw [PySem.F.excAttr_ValueError.ga.bind (.ref x)]
  refine wpAny_bind (wpAny_pure ?_)
  show wpAny _ _ (call (.builtin "BaseException.__getattribute__") [.ref x, .str "__class__" t]) _ _ _
  refine wpAny_call (codeAny_call_builtin PySem.F.excAttr_ValueError.ga.plain PySem.F.entry_bexc_ga ?_)
  refine @check_slot (model prog w) _ _ ⟨hp, g, d, t + 1, os⟩ "BaseException.__getattribute__" "BaseException" "__getattribute__" (.ref x) [.str "__class__" t] [] _ (by decide +kernel) (by decide +kernel) sub (PySem.F.args_bexc_ga (.ref x) (.str "__class__" t)) ?_
  unfold Builtin.«object.__getattribute__»
  refine wpAny_bind (wpAny_of_eq (a := ((Value.ref x : Value), [Value.str "__class__" t])) (by first | rfl | (simp only [slotArgs]; rfl)) ?_)
  refine wpAny_bind (wpAny_pure (wpAny_bind (T0.at (wpAny_bind (T3.at ?_)))))
  show wpAny _ _ (holding [Value.builtin "object.__class__"] (call (.builtin "getset_descriptor.__get__") [.builtin "object.__class__", .ref x, .ref D]) >>= ret) _ _ _
  refine wpAny_bind (wpAny_holding (wpAny_call (class_get (s := ⟨hp, g, d, t + 1, os⟩) X I C.hm ?_)))
  refine wpAny_pure ?_
  show wpAny _ _ (handedOut (.ref D)) _ _ _
  rw [handedOut_of (v := .ref D) rfl]
  exact wpAny_pure (wpAny_pure h)
theorem kit_exc (C : L2.ExcC K D) : KitX K (.ref x) (.ref D) (fun h => PySem.W.InstAt h x ox D od) where
  ty := fun _ _ _ I => I.type
  it := fun _ _ X _ => by
    obtain ⟨cdD, hcD, _⟩ := any_some C.hd
    unfold clsIn at hcD
    split at hcD
    · rename_i c' d' cd' sl' ho
      intro A' Q' E' s' k q
      unfold isType loadHead
      exact wpAny_bind (wpAny_loadPart (k _ _ (X _ _ ho)) (wpAny_pure q))
    · cases hcD
  ne := fun h tp dd its n sl X htp => by
    obtain ⟨cdD, hcD, _⟩ := any_some C.hd
    refine Bool.eq_false_iff.mpr fun q => ?_
    have e : D = tp := Value.ref.inj (beq_iff_eq.mp q)
    subst e
    unfold clsIn at hcD
    split at hcD
    · rename_i c' d' cd' sl' ho
      cases (X _ _ ho).symm.trans htp
    · cases hcD
  ca := fun X I k => class_of_exc C X I k
end
open L2
/-- isinstance(e, c), e the exception in hand, its fields at d (or none) -/
def rIsX (K : PySem.W.Frag) (D a : Addr) (d : Option Addr) : List V → Hp → VK → Prop := fun xs H Q => ∃ (c : V) (cv : Value) (b : Bool), xs = [.ref a, c] ∧ (∀ u, L2.RelV c u → u = cv) ∧ PySem.W.kitOne K (.ref D) cv = some b ∧ (∀ dd, d = some dd → ∃ fs, H dd = some (.xd fs)) ∧ Q (.bl b) H
theorem call_isX {X : Cx} {a D : Addr} {d : Option Addr} {oe : Obj} {pn : List (Addr × Obj)} (C : ExcC X.K D) (hz : Zc (.ref D) d oe) (hf : ∃ vs, oe.data = .fields vs) : CallR (X.suite a ((a, oe) :: pn)) (.builtin "isinstance") (rIsX X.K D a d) := by
  intro pins s σ H xs us Q I r h
  obtain ⟨c, cv, b, rfl, hcv, e, hd, q⟩ := h
  cases r with
  | cons rx rr =>
    cases rr with
    | cons rt rr =>
      cases rr
      cases rx
      cases hcv _ rt
      obtain ⟨hget, _⟩ := I.pin (a, oe) (List.mem_append.mpr (.inl List.mem_cons_self))
      obtain ⟨vs, hv⟩ := hf
      have J : ∃ od, PySem.W.InstAt s.heap a oe D od := by
        obtain ⟨oc, odi, oda, osl⟩ := oe
        obtain ⟨h1, h2⟩ := hz
        dsimp only at h1 h2 hv
        subst h1 h2 hv
        cases odi with
        | none => exact ⟨none, hget, rfl, rfl, trivial⟩
        | some dd =>
          obtain ⟨fs, ho⟩ := hd dd rfl
          obtain ⟨mA, ⟨od, _, _, hod, _⟩, _⟩ := I.hok dd _ ho
          exact ⟨some od, hget, rfl, rfl, hod⟩
      obtain ⟨od, J⟩ := J
      exact PySem.W.kia_one (kit_exc C) I.kIn J e (fun z => nomatch z) fun tk => ⟨.bl b, H, I.kept (t' := tk) fun _ _ z => z, rfl, q⟩
end Rs
set_option Elab.async false
set_option linter.all false
set_option maxRecDepth 100000
set_option maxHeartbeats 2000000
/-! The head's facts: any tests of the written part, and defs at any address. -/
namespace Rs
open PySem PySem.Spec PySem.W PyProof.Rows L2
abbrev Tst := Frag → Bool
def obsR (fa : List Tst) (fn : List He5.DefA) (K : Frag) : He.AlD := ((fa.all fun f => f K) && fn.all fun d => d.ok K, fn.map fun d => He5.fnA K (d.at_ K))
def valR (fn : List He5.DefA) : He.AlD := (true, fn.map He5.DefA.val)
def SaysR (fa : List Tst) (fn : List He5.DefA) (K : Frag) : Prop := obsR fa fn K = valR fn
def obsRG (n : Nat) (fa : List Tst) (fn : List He5.DefA) (g : Addr → Option Obj) : He.AlD := obsR fa fn (He.frG g (He5.asA g n))
def hookR (n : Nat) (fa : List Tst) (fn : List He5.DefA) : PySem.W.Hook where
  α := He.AlD
  obs := fun s => obsRG n fa fn s.heap.get?
  val := fun _ => valR fn
  says := fun _ h => ∃ K : Frag, K.In h ∧ SaysR fa fn K
  of := fun _ _ e => ⟨_, He.frG_in, e⟩
  keeps := fun _ _ _ ⟨K, hK, c⟩ k => ⟨K, Frag.In.keeps hK k, c⟩
theorem obsRG_eq {n : Nat} {fa : List Tst} {fn : List He5.DefA} {g : Addr → Option Obj} {s : Shared} (h : ∀ a, g a = s.heap.get? a) : obsRG n fa fn g = (hookR n fa fn).obs s := by
  have e : g = s.heap.get? := funext h
  rw [e] <;> rfl
section
variable {fa : List Tst} {fn : List He5.DefA} {K : Frag}
theorem SaysR.fact (c : SaysR fa fn K) (i : Nat) {f : Tst} (h : fa[i]? = some f := by rfl) : f K = true := by
  have c1 := (He.ba (show ((fa.all fun f => f K) && fn.all fun d => d.ok K) = true from congrArg (fun z : He.AlD => z.1) c)).1
  exact List.all_eq_true.mp c1 f (List.mem_of_getElem? h)
theorem SaysR.def_ (c : SaysR fa fn K) (i : Nat) {d : He5.DefA} (h : fn[i]? = some d := by rfl) : ∃ fd, L2.FunD K d.name d.qual d.params d.body d.scope (d.dvs K) (d.kws K) (d.at_ K) fd := by
  have c2 := (He.ba (show ((fa.all fun f => f K) && fn.all fun d => d.ok K) = true from congrArg (fun z : He.AlD => z.1) c)).2
  have e : fn.map (fun d => He5.fnA K (d.at_ K)) = fn.map He5.DefA.val := congrArg (fun z : He.AlD => z.2) c
  have e2 : (fn.map fun d => He5.fnA K (d.at_ K))[i]? = (fn.map He5.DefA.val)[i]? := by rw [e]
  rw [List.getElem?_map, List.getElem?_map, h] at e2
  exact He5.DefA.funD (Option.some.inj e2) (List.all_eq_true.mp c2 d (List.mem_of_getElem? h))
end
/-! ### tests -/
/-- the getter of a property -/
def propAt (K : Frag) (C : Addr) (f : PySem.Str) : Addr := match recIn K (He.ma K C f) "property" with
  | some (.ref g :: _) => g
  | _ => 0
/-- and its setter -/
def setrAt (K : Frag) (C : Addr) (f : PySem.Str) : Addr := match recIn K (He.ma K C f) "property" with
  | some (_ :: .ref g :: _) => g
  | _ => 0
def tProp? (x f : PySem.Str) : Tst := fun K => He.eqO (findIn K (.ref (He.ga K x)) f) (some (some (.ref (He.ma K (He.ga K x) f)))) && (He.eqO (specialIn K (.ref (He.ma K (He.ga K x) f)) "__get__") (some (some (.builtin "property.__get__"))) &&
  (decide (takesIn K (.ref (He.ma K (He.ga K x) f)) = some true) && (match recIn K (He.ma K (He.ga K x) f) "property" with
    | some (.ref g :: _) => true
    | _ => false)))
theorem prop_ok {K : Frag} {x f : PySem.Str} (c : tProp? x f K = true) : PropOf K (He.ga K x) f (He.ma K (He.ga K x) f) (propAt K (He.ga K x) f) := by
  obtain ⟨c1, c⟩ := He.ba c
  obtain ⟨c2, c⟩ := He.ba c
  obtain ⟨c3, c4⟩ := He.ba c
  refine ⟨He.eqO_ok c1, He.eqO_ok c2, of_decide_eq_true c3, ?_⟩
  unfold propAt
  generalize recIn K (He.ma K (He.ga K x) f) "property" = r at c4 ⊢
  match r, c4 with
  | some (.ref g :: rest), _ => exact ⟨rest, rfl⟩
def tDun (x m : PySem.Str) : Tst := fun K => He.eqO (findIn K (.ref (He.ga K x)) m) (some (some (.ref (He.ma K (He.ga K x) m)))) && (isFn K (.ref (He.ma K (He.ga K x) m)) && fnIn K (He.ma K (He.ga K x) m))
theorem dun_ok {K : Frag} {x m : PySem.Str} (c : tDun x m K = true) : Dun K (He.ga K x) m (He.ma K (He.ga K x) m) := by
  obtain ⟨c1, c⟩ := He.ba c
  obtain ⟨c2, c3⟩ := He.ba c
  exact ⟨He.eqO_ok c1, c2, c3⟩
/-- an own error class over ValueError -/
def clsVE (K : Frag) (C : Addr) : Bool := match K.lookup C with
  | some ⟨.type "type", _, .cls cd, sl⟩ => (match cd.mro, sl.toList with
    | .ref C' :: bm, [_, _, _, _, some (.builtin n), _] => decide (C' = C) && (decide (n = "ValueError.__new__") && (!cd.hasDel && (cd.hasDict && PySem.HandSPX.refsVE bm)))
    | _, _ => false)
  | _ => false
theorem clsVE_ok {K : Frag} {C : Addr} (c : clsVE K C = true) : ∃ nm q N bs bm sn sub ab col dd k0 k1 k2 k3 k5, K.lookup C = some (excClassObj nm q C N bs bm true sn sub ab col dd k0 k1 k2 k3 k5 "ValueError.__new__") ∧ PySem.HandSPX.refsVE bm = true := by
  unfold clsVE at c
  split at c
  · rename_i dd cd sl ho
    split at c
    · rename_i C' bm k0 k1 k2 k3 n k5 hm hs
      obtain ⟨c1, c⟩ := He.ba c
      obtain ⟨c2, c⟩ := He.ba c
      obtain ⟨c3, c⟩ := He.ba c
      obtain ⟨c4, c5⟩ := He.ba c
      replace c1 := of_decide_eq_true c1
      replace c2 := of_decide_eq_true c2
      replace c3 : cd.hasDel = false := by simpa using c3
      obtain ⟨nm, bs, mro, ns, qn, hd, sn, sub, ab, col, del⟩ := cd
      dsimp only at hm c3 c4
      subst c1 c2 hm c3 c4
      have hsl : sl = #[k0, k1, k2, k3, some (.builtin "ValueError.__new__"), k5] := by
        obtain ⟨l⟩ := sl
        simp only at hs
        rw [hs]
      subst hsl
      exact ⟨nm, qn, ns, bs, bm, sn, sub, ab, col, dd, k0, k1, k2, k3, k5, ho, c5⟩
    · cases c
  · cases c
def tOex (x : PySem.Str) : Tst := fun K => clsVE K (He.ga K x) && (He.eqO (findIn K (.ref (He.ga K x)) "__setattr__") (some (some (.builtin "object.__setattr__"))) && (decide (subIn K (.ref (He.ga K x)) (.type "BaseException") = some true) &&
  (decide (typeIn K (.ref (He.ga K x)) = some (.type "type")) && keepIn K (.ref (He.ga K x)))))
theorem oex_ok {K : Frag} {x : PySem.Str} (c : tOex x K = true) : OexC K (He.ga K x) := by
  obtain ⟨c1, c⟩ := He.ba c
  obtain ⟨c2, c⟩ := He.ba c
  obtain ⟨c3, c⟩ := He.ba c
  obtain ⟨c4, c5⟩ := He.ba c
  exact ⟨clsVE_ok c1, He.eqO_ok c2, of_decide_eq_true c3, of_decide_eq_true c4, c5⟩
def tExc (x : PySem.Str) : Tst := fun K => He.eqO (findIn K (.ref (He.ga K x)) "__getattribute__") (some (some (.builtin "BaseException.__getattribute__"))) && (He.eqO (findIn K (.ref (He.ga K x)) "__getattr__") (some none) &&
  (decide (subIn K (.ref (He.ga K x)) (.type "BaseException") = some true) && (hasDictIn K (He.ga K x) && (He.eqO (findIn K (.ref (He.ga K x)) "__class__") (some (some (.builtin "object.__class__"))) &&
  (He.eqO (specialIn K (.builtin "object.__class__") "__get__") (some (some (.builtin "getset_descriptor.__get__"))) && (decide (takesIn K (.builtin "object.__class__") = some true) && decide (mroIn K (He.ga K x) (.type "object") = some true)))))))
theorem exc_ok {K : Frag} {x : PySem.Str} (c : tExc x K = true) : ExcC K (He.ga K x) := by
  obtain ⟨c1, c⟩ := He.ba c
  obtain ⟨c2, c⟩ := He.ba c
  obtain ⟨c3, c⟩ := He.ba c
  obtain ⟨c4, c⟩ := He.ba c
  obtain ⟨c5, c⟩ := He.ba c
  obtain ⟨c6, c⟩ := He.ba c
  obtain ⟨c7, c8⟩ := He.ba c
  exact ⟨He.eqO_ok c1, He.eqO_ok c2, of_decide_eq_true c3, c4, He.eqO_ok c5, He.eqO_ok c6, of_decide_eq_true c7, of_decide_eq_true c8⟩
theorem xf_ok {K : Frag} {x : PySem.Str} (c : tExc x K = true) : XfC K (He.ga K x) := by
  have e := exc_ok c
  exact ⟨e.hg, e.hk, e.hs, e.hd⟩
/-- isinstance, except: one class against another -/
def tKit (x y : PySem.Str) (b : Bool) : Tst := fun K => decide (kitOne K (.ref (He.ga K x)) (.ref (He.ga K y)) = some b)
def tExm (x y : PySem.Str) (b : Bool) : Tst := fun K => decide (exmOne K (.ref (He.ga K x)) (.ref (He.ga K y)) = some b)
/-- an own __init__ of an error -/
def tIni (x : PySem.Str) : Tst := fun K => He.eqO (findIn K (.ref (He.ga K x)) "__init__") (some (some (.ref (He.ma K (He.ga K x) "__init__")))) && decide (typeIn K (.ref (He.ma K (He.ga K x) "__init__")) = some (.type "function"))
theorem ini_ok {K : Frag} {x : PySem.Str} (c : tIni x K = true) : findIn K (.ref (He.ga K x)) "__init__" = some (some (.ref (He.ma K (He.ga K x) "__init__"))) ∧ typeIn K (.ref (He.ma K (He.ga K x) "__init__")) = some (.type "function") := by
  obtain ⟨c1, c2⟩ := He.ba c
  exact ⟨He.eqO_ok c1, of_decide_eq_true c2⟩
/-- a global that is a tuple of texts -/
def tTupS (x : PySem.Str) (ss : List PySem.Str) : Tst := fun K => match nsIn K mainGlobals x with
  | some (some (.ref a)) => (match K.lookup a with
    | some ⟨.type "tuple", _, .seq its _, _⟩ => decide (its.toList.map (fun v => match v with | .str y _ => some y | _ => none) = ss.map some)
    | _ => false)
  | _ => false
/-- a def, as a global or in a class -/
abbrev dfG (x : PySem.Str) (st : Stmt) : He5.DefA := ⟨fun K => He.ga K x, x, x, defArgs st, defBody st, defScope st, [], []⟩
abbrev dfM (c m q : PySem.Str) (st : Stmt) : He5.DefA := ⟨fun K => He.ma K (He.ga K c) m, m, q, defArgs st, defBody st, defScope st, [], []⟩
abbrev dfP (c m q : PySem.Str) (st : Stmt) : He5.DefA := ⟨fun K => propAt K (He.ga K c) m, m, q, defArgs st, defBody st, defScope st, [], []⟩
abbrev dfW (c m q : PySem.Str) (st : Stmt) : He5.DefA := ⟨fun K => setrAt K (He.ga K c) m, m, q, defArgs st, defBody st, defScope st, [], []⟩
abbrev fF (f : He.Fa) : Tst := fun K => f.ok K
end Rs
set_option Elab.async false
set_option linter.all false
set_option maxRecDepth 100000
set_option maxHeartbeats 2000000
/-! Calls of defs by what is known of them, uniformly: W is what the place wishes of an error. -/
namespace Rs
open PySem PySem.Spec PyProof.Rows L2
theorem tTupS_ok {K : PySem.W.Frag} {h : Heap} {mg : PySem.Str → Option Value} (X : K.In h) (G : h.Ns mainGlobals mg) {x : PySem.Str} {ss : List PySem.Str} (c : tTupS x ss K = true) (hz : ss.length ≤ 1000 := by decide) :
    ∃ a, mg x = some (.ref a) ∧ ∀ H, SqT K H a (ss.map V.str) := by
  unfold tTupS at c
  split at c
  · rename_i a e
    split at c
    · rename_i dd its n sl ho
      replace c := of_decide_eq_true c
      refine ⟨a, PySem.W.mg_of X G e, fun H => .inr ⟨_, its, n, ho, rfl, rfl, ?_, ?_⟩⟩
      · have := congrArg List.length c
        simp at this
        rw [sizeLine_eq]
        omega
      · generalize its.toList = l at c
        induction l generalizing ss with
        | nil =>
          cases ss with
          | nil => exact .nil
          | cons s ss => cases c
        | cons v l ih =>
          cases ss with
          | nil => cases c
          | cons s ss =>
            obtain ⟨c1, c2⟩ := List.cons.inj c
            refine .cons ?_ (ih (by simp at hz; omega) c2)
            clear c c2 ih
            cases v with
            | str y t =>
              cases Option.some.inj c1
              exact ⟨_, rfl⟩
            | _ => cases c1
    · cases c
  · cases c
theorem PE.slots {X : Cx} {e : Expr} {t : L2.St → TE} (h : ∀ σ, PE X e (t σ)) : PE X e (fun σ H Q => t σ σ H Q) := ⟨fun pins s σ H Q I hw => (h σ).run pins s σ H Q I hw⟩
abbrev at_ (W : WX) (σ : L2.St) : XK := fun cls d H => W cls d σ H
abbrev W0 : WX := fun _ _ _ _ => False
section
variable (P : Program) (w : World) (K : PySem.W.Frag) (mg : PySem.Str → Option Value) (base : Heap)
/-- a def of the module under the name x -/
structure Cal (k : Nat) (x : PySem.Str) (ps : List PySem.Str) (sp : Sp) : Prop where
  ex : ∃ f fd, FnOk P w K mg base (L2.CX P w) k f fd ps sp ∧ mg x = some (.ref f) ∧ PySem.W.keepIn K (.ref f) = true ∧ L2.Binds K fd ps []
/-- a method m of the class at C -/
structure CalM (k : Nat) (C : Addr) (m : PySem.Str) (ps : List PySem.Str) (sp : Sp) : Prop where
  ex : ∃ f fd, FnOk P w K mg base (L2.CX P w) k f fd ps sp ∧ Meth K C m f ∧ L2.Binds K fd ps []
/-- the making of an instance of the class x at C -/
structure CalI (k : Nat) (C : Addr) (x : PySem.Str) (ps : List PySem.Str) (sp : Sp) : Prop where
  ex : ∃ f fd, FnOk P w K mg base (L2.CX P w) k f fd ps sp ∧ Mk K C f ∧ mg x = some (.ref C) ∧ L2.Binds K fd ps []
/-- a property f of the class at C -/
structure CalP (k : Nat) (C : Addr) (f : PySem.Str) (sp : Sp) : Prop where
  ex : ∃ p g fd, FnOk P w K mg base (L2.CX P w) k g fd ["self"] sp ∧ PropOf K C f p g ∧ L2.Binds K fd ["self"] []
/-- a special method of the class at C -/
structure CalD (k : Nat) (C : Addr) (m : PySem.Str) (ps : List PySem.Str) (sp : Sp) : Prop where
  ex : ∃ f fd, FnOk P w K mg base (L2.CX P w) k f fd ps sp ∧ Dun K C m f ∧ L2.Binds K fd ps []
/-- an own error class x at C, with its __init__ -/
structure CalE (k : Nat) (C : Addr) (x : PySem.Str) (ps : List PySem.Str) (sp : Sp) : Prop where
  ex : ∃ f fd, FnOk P w K mg base (L2.CX P w) k f fd ps sp ∧ OexC K C ∧ PySem.W.findIn K (.ref C) "__init__" = some (some (.ref f)) ∧ PySem.W.typeIn K (.ref f) = some (.type "function") ∧ mg x = some (.ref C) ∧ L2.Binds K fd ps []
end
section
variable {X : Cx} {k : Nat} {C : Addr} {x m : PySem.Str} {ps : List PySem.Str} {sp : Sp} {W : WX} {p pos apos : Pos} {e o : Expr} {es : List Expr} {ta : TE} {t : TA}
theorem pass_at (tk : Takes X W) (σ : L2.St) : PassesAt (L2.CX X.prog X.w) X σ (at_ W σ) := passAt tk σ
def tCalW (sp : Sp) (W : WX) (t : TA) : TE := fun σ H Q => t σ H fun vs H1 => sp vs H1 Q (at_ W σ)
theorem pe_cal (c : Cal X.prog X.w X.K X.mg X.base k x ps sp) (hr : Room k X.A) (tk : Takes X W) (ha : PA X (e :: es) t) (hg : Gl X x := by rfl)
    (hdb : (x == ("__debug__" : PySem.Str)) = false := by decide) (he : starEach (e :: es) X.env = (false, eval e X.env) :: starEach es X.env := by rfl) (hpl : (backTo pos (starEach es X.env)).any (·.1) = false := by rfl) :
    PE X (.Call (.Name x p) (e :: es) [] pos) (tCalW sp W t) := by
  obtain ⟨f, fd, F, hm, hk, hb⟩ := c.ex
  exact pe_callS (E := at_ W) F hr hg hm hk hb (fun σ => pass_at tk σ) ha hdb he hpl
/-- o.m(e, ..) -/
def tMethW (C : Addr) (m : PySem.Str) (sp : Sp) (W : WX) (ta : TE) (t : TA) : TE := fun σ H Q => ta σ H fun x H1 => ∃ a dx fs, x = .ref a ∧ H1 a = some (.ins C dx fs) ∧ fs.lookup m = none ∧ t σ H1 fun vs H2 => sp (.ref a :: vs) H2 Q (at_ W σ)
theorem pe_calm {pl : Sem Bool} (c : CalM X.prog X.w X.K X.mg X.base k C m ps sp) (cl : Cls X.K C) (hr : Room k X.A) (tk : Takes X W) (he : PE X o ta) (ha : PA X (e :: es) t)
    (hst : starEach (e :: es) X.env = (false, eval e X.env) :: starEach es X.env := by rfl) (hpl : (backTo pos (starEach es X.env)).any (·.1) = false := by rfl)
    (ht : eval (.Call (.Attribute o m apos) (e :: es) [] pos) X.env = (do
      let ov ← eval o X.env
      standAt apos.atName
      let (f, first) ← holding [ov] (getMethod ov m pl)
      callWith pos f first (backTo pos (starEach (e :: es) X.env)) (backToKw pos (keywordEach [] X.env))) := by rfl) :
    PE X (.Call (.Attribute o m apos) (e :: es) [] pos) (tMethW C m sp W ta t) := by
  obtain ⟨f, fd, F, hm, hb⟩ := c.ex
  refine ⟨fun pins s σ H Q I h => ?_⟩
  refine PySem.W.methodCall_KW (pl := pl) (thn (he.run pins s σ H _ I h) fun u s1 ⟨x, H1, I1, rx, a, dx, fs, ex, ea, l, q⟩ => ?_) ht
  subst ex
  obtain rfl : u = Value.ref a := rx
  refine getmeth_ok I1 ea cl hm l (PySem.W.callWith_K (first := [.ref a]) (h₀ := X.base) I.ok.mod.kin hm.kp (thn (ha.run pos pins s1 σ H1 _ I1 q) fun us s2 ⟨vs, H2, I2, r, q2⟩ => ⟨I2.kIn, ?_⟩) hst hpl)
  exact run_fnS (us := .ref a :: us) (vs := .ref a :: vs) (E := at_ W) F hr hb (pass_at tk σ) I2 (.cons rfl r) q2
theorem pe_calm0 {pl : Sem Bool} (c : CalM X.prog X.w X.K X.mg X.base k C m ps sp) (cl : Cls X.K C) (hr : Room k X.A) (tk : Takes X W) (he : PE X o ta)
    (ht : eval (.Call (.Attribute o m apos) [] [] pos) X.env = (do
      let ov ← eval o X.env
      standAt apos.atName
      let (f, first) ← holding [ov] (getMethod ov m pl)
      callWith pos f first (backTo pos (starEach [] X.env)) (backToKw pos (keywordEach [] X.env))) := by rfl) :
    PE X (.Call (.Attribute o m apos) [] [] pos) (tMethW C m sp W ta tNil) := by
  obtain ⟨f, fd, F, hm, hb⟩ := c.ex
  refine ⟨fun pins s σ H Q I h => ?_⟩
  refine PySem.W.methodCall_KW (pl := pl) (thn (he.run pins s σ H _ I h) fun u s1 ⟨x, H1, I1, rx, a, dx, fs, ex, ea, l, q⟩ => ?_) ht
  subst ex
  obtain rfl : u = Value.ref a := rx
  exact getmeth_ok I1 ea cl hm l (PySem.W.callWith_K0 (first := [.ref a]) I1.kIn hm.kp (run_fnS (us := [.ref a]) (vs := [.ref a]) (E := at_ W) F hr hb (pass_at tk σ) I1 (.cons rfl .nil) q))
/-- C(e, ..) -/
def tMakeW (C : Addr) (sp : Sp) (W : WX) (t : TA) : TE := fun σ H Q => t σ H fun vs H1 => ∀ x dx, H1 x = none → H1 dx = none → dx ≠ x → sp (.ref x :: vs) (upd (upd H1 dx (.own x)) x (.ins C dx [])) (fun v H2 => v = .non ∧ Q (.ref x) H2) (at_ W σ)
theorem run_mkS {pins : List (Addr × Obj)} {σ : L2.St} {H : Hp} {s : Shared} {Q : VK} {us : List Value} {vs : List V} {f : Addr} {fd : FuncData} (M : Mk X.K C f) (F : FnOk X.prog X.w X.K X.mg X.base (L2.CX X.prog X.w) k f fd ps sp) (hr : Room (k + 1) X.A) (hb : L2.Binds X.K fd ps [])
    (tk : Takes X W) (I : L2.Inv X pins σ H s) (r : Vals vs us)
    (h : ∀ x dx, H x = none → H dx = none → dx ≠ x → sp (.ref x :: vs) (upd (upd H dx (.own x)) x (.ins C dx [])) (fun v H2 => v = .non ∧ Q (.ref x) H2) (at_ W σ)) :
    wpAny (model X.prog X.w) X.A (call (.ref C) us) (EP X pins σ Q) X.xe s := by
  have hq := h (s.heap.objs.size + 1) s.heap.objs.size (I.hok.fresh (Nat.le_succ _)) (I.hok.fresh (Nat.le_refl _)) (Nat.ne_of_lt (Nat.lt_succ_self _))
  have I2 := L2.Inv.made (C := C) I
  have r2 : Vals (V.ref (s.heap.objs.size + 1) :: vs) (Value.ref (s.heap.objs.size + 1) :: us) := .cons rfl r
  have hl : (Value.ref (s.heap.objs.size + 1) :: us ++ []).length = ps.length := by
    rw [← F.len _ _ _ _ hq, List.append_nil]
    exact r2.length.symm
  have hb' := hb _ (Value.ref (s.heap.objs.size + 1) :: us) I2.kIn hl
  rw [List.append_nil] at hb'
  refine wpAny_call (make_map (f := f) I.kIn M.makes M.init (beq_iff_eq.mp M.fn) (codeAny_mono (F.run _ X.stack _ _ ⟨Value.ref (s.heap.objs.size + 1) :: us, []⟩ _ _ _ _ (hr.make C us []) (I2.env0.make C us []) hb' r2 hq) fun r s' hq' => ?_))
  cases r with
  | error e => exact pass_at tk σ pins _ _ e s' I2 hq'
  | ok fl =>
    cases fl with
    | ret u =>
      obtain ⟨v, H', I3, rv, ev, q3⟩ := I2.after hq'
      subst ev
      exact ⟨rv, ⟨V.ref (s.heap.objs.size + 1), H', I3, rfl, q3⟩⟩
    | next => exact False.elim hq'
    | brk => exact False.elim hq'
    | cont => exact False.elim hq'
theorem pe_cali (c : CalI X.prog X.w X.K X.mg X.base k C x ps sp) (hr : Room (k + 1) X.A) (tk : Takes X W) (ha : PA X (e :: es) t) (hg : Gl X x := by rfl)
    (hdb : (x == ("__debug__" : PySem.Str)) = false := by decide) (he : starEach (e :: es) X.env = (false, eval e X.env) :: starEach es X.env := by rfl) (hpl : (backTo pos (starEach es X.env)).any (·.1) = false := by rfl) :
    PE X (.Call (.Name x p) (e :: es) [] pos) (tMakeW C sp W t) := by
  obtain ⟨f, fd, F, M, hm, hb⟩ := c.ex
  refine ⟨fun pins s σ H Q I h => ?_⟩
  refine wpAny_Call_Name_kw (ld_glob I hg hm ?_ hdb)
  exact PySem.W.callWith_K (h₀ := X.base) I.ok.mod.kin M.kp (thn (ha.run pos pins s σ H _ I h) fun us s1 ⟨vs, H1, I1, r, q⟩ => ⟨I1.kIn, run_mkS M F hr hb tk I1 r q⟩) he hpl
/-- e.f, a property -/
theorem pe_calp {f : PySem.Str} (c : CalP X.prog X.w X.K X.mg X.base k C f sp) (cl : Cls X.K C) (hr : Room (k + 1) X.A) (he : PE X e ta) (hab : attributeBase e f X.env (eval e X.env) = eval e X.env := by rfl) :
    PE X (.Attribute e f pos) (tProp C sp [] E0 ta) := by
  obtain ⟨p, g, fd, F, hp, hb⟩ := c.ex
  exact pe_prop he cl hp F hr hb .nil passL hab
theorem op_calin (c : CalD X.prog X.w X.K X.mg X.base k C "__contains__" ps sp) (hr : Room k X.A) : OpR X (compareOp .In) (rInO C sp E0 false) := by
  obtain ⟨f, fd, F, d, hb⟩ := c.ex
  exact op_inO d F hr hb passL
theorem op_calnot (c : CalD X.prog X.w X.K X.mg X.base k C "__contains__" ps sp) (hr : Room k X.A) : OpR X (compareOp .NotIn) (rInO C sp E0 true) := by
  obtain ⟨f, fd, F, d, hb⟩ := c.ex
  exact op_notInO d F hr hb passL
theorem pe_calsub {a b : Expr} {ta tb : TE} (c : CalD X.prog X.w X.K X.mg X.base k C "__getitem__" ps sp) (hr : Room (k + 1) X.A) (ha : PE X a ta) (hb : PE X b tb)
    (hs : ∀ x y, subscripted b true x y = runValue (.builtin "lifetime.subscript" ⟨[x, y], []⟩) := by intro _ _; rfl) : PE X (.Subscript a b pos) (tOp (rSubO C sp E0) ta tb) := by
  obtain ⟨f, fd, F, d, hb'⟩ := c.ex
  exact pe_subO d F hr hb' passL ha hb hs
/-- o(e, ..), o an instance with its own __call__ -/
def tCallOW (C : Addr) (sp : Sp) (W : WX) (tf : TE) (t : TA) : TE := fun σ H Q => tf σ H fun y H1 => ∃ a, y = V.ref a ∧ t σ H1 fun vs H2 => (∃ dx fs, H2 a = some (.ins C dx fs)) ∧ sp (V.ref a :: vs) H2 Q (at_ W σ)
theorem pe_calo {fe : Expr} {tf : TE} (c : CalD X.prog X.w X.K X.mg X.base k C "__call__" ps sp) (hr : Room k X.A) (tk : Takes X W) (hf : PE X fe tf) (ha : PA X (e :: es) t)
    (ht : eval (.Call fe (e :: es) [] pos) X.env = (do callWith pos (← eval fe X.env) [] (backTo pos (starEach (e :: es) X.env)) (backToKw pos (keywordEach [] X.env))) := by rfl)
    (he : starEach (e :: es) X.env = (false, eval e X.env) :: starEach es X.env := by rfl) (hpl : (backTo pos (starEach es X.env)).any (·.1) = false := by rfl) : PE X (.Call fe (e :: es) [] pos) (tCallOW C sp W tf t) := by
  obtain ⟨g, fd, F, d, hb⟩ := c.ex
  refine ⟨fun pins s σ H Q I h => ?_⟩
  refine Call_ (thn (hf.run pins s σ H _ I h) fun u s1 ⟨y, H1, I1, ry, a, ey, q⟩ => ?_) ht
  subst ey
  obtain rfl : u = Value.ref a := ry
  refine StX.callO_with (thn (ha.run pos pins s1 σ H1 _ I1 q) fun us s2 ⟨vs, H2, I2, r, ⟨dx, fs, hi⟩, q2⟩ => ?_) he hpl
  obtain ⟨ox, od, J, hd⟩ := StX.insC_at I2 (.inr ⟨dx, fs, hi⟩)
  have r2 : Vals (V.ref a :: vs) (Value.ref a :: us) := .cons rfl r
  have hl : (Value.ref a :: us ++ []).length = ps.length := by
    rw [← F.len _ _ _ _ q2, List.append_nil]
    exact r2.length.symm
  have hb' := hb s2 (Value.ref a :: us) I2.kIn hl
  rw [List.append_nil] at hb'
  refine ⟨⟨C, ox, od, J, hd⟩, wpAny_call (PySem.W.kco_code I2.kIn J hd d.at_ d.fn d.fi (codeAny_mono (F.run X.A X.stack s2 H2 ⟨Value.ref a :: us, []⟩ _ _ Q (at_ W σ) hr I2.env0 hb' r2 q2) fun r s' hq => ?_))⟩
  cases r with
  | error e => exact pass_at tk σ pins H2 s2 e s' I2 hq
  | ok fl =>
    cases fl with
    | ret u => exact I2.after hq
    | next => exact False.elim hq
    | brk => exact False.elim hq
    | cont => exact False.elim hq
/-- raise C(e, ..) -/
theorem ps_cale (c : CalE X.prog X.w X.K X.mg X.base k C x ps sp) (hr : Room (k + 1) X.A) (tk : Takes X W) (ha : PA X (e :: es) t) (hc : X.calm = true := by rfl) (hg : Gl X x := by rfl)
    (hdb : (x == ("__debug__" : PySem.Str)) = false := by decide) (he : starEach (e :: es) X.env = (false, eval e X.env) :: starEach es X.env := by rfl) (hpl : (backTo pos (starEach es X.env)).any (·.1) = false := by rfl) :
    PS X (.Raise (some (.Call (.Name x p) (e :: es) [] pos)) none apos) (fun _ σ H => tMkO C sp [] t σ H fun cls d H' => W cls d σ H') := by
  obtain ⟨f, fd, F, T, iC, tI, hm, hb⟩ := c.ex
  exact ps_raise hc tk (pmk_oex T iC tI F hr hb .nil passL hg hm ha hdb he hpl)
end
/-! ### heaps that grow -/
theorem Same.new {H : Hp} {p : Addr} {o : HO} (h : H p = none) : Same H (upd H p o) := fun a u e => by
  rw [upd_ne (ne_of_none e h)]
  exact e
theorem Same.tq {K : PySem.W.Frag} {H H' : Hp} {a : Addr} {xs : List V} (e : Same H H') (h : SqT K H a xs) : SqT K H' a xs :=
  h.elim (fun h => .inl (h.elim (fun h => .inl (e _ _ h)) fun ⟨o, h⟩ => .inr ⟨o, e _ _ h⟩)) fun h => .inr h
/-! ### sorts of things -/
def sorts : List String := ["NoneType", "bool", "int", "str", "list", "tuple", "dict"]
abbrev Srt (K : PySem.W.Frag) (H : Hp) (v : V) (n : String) : Prop := TyX K H v (.type n) ∧ n ∈ sorts
theorem kit_b {K : PySem.W.Frag} (a : String) (ha : a ∈ sorts) (n : String) (hn : n ∈ ["int", "bool", "str", "list", "tuple", "dict"]) : PySem.W.kitOne K (.type a) (.type n) = some (decide (a = n) || (decide (a = "bool") && decide (n = "int"))) := by
  refine kit_ty ?_
  have : ∀ a ∈ sorts, ∀ n ∈ ["int", "bool", "str", "list", "tuple", "dict"], kitB a n = some (decide (a = n) || (decide (a = "bool") && decide (n = "int"))) := by decide +kernel
  exact this a ha n hn
theorem Srt.same {K : PySem.W.Frag} {H H' : Hp} {v : V} {n : String} (e : Same H H') (h : Srt K H v n) : Srt K H' v n := by
  refine ⟨?_, h.2⟩
  cases h.1 with
  | base b =>
    refine .base ?_
    cases b with
    | non => exact .non
    | bl y => exact .bl y
    | int i => exact .int i
    | str y => exact .str y
    | flt y => exact .flt y
    | lst ea => exact .lst (e _ _ ea)
    | frz ea => exact .frz (e _ _ ea)
    | tup ea => exact .tup (e _ _ ea)
    | dK ea => exact .dK (e _ _ ea)
    | dT ea => exact .dT (e _ _ ea)
  | byt b => exact .byt b
  | set ea => exact .set (e _ _ ea)
  | kList a c => exact .kList a c
  | kTuple a c => exact .kTuple a c
  | kDict a c => exact .kDict a c
  | fTuple ea => exact .fTuple (e _ _ ea)
  | fDict ea => exact .fDict (e _ _ ea)
theorem list_tuple_b {K : PySem.W.Frag} (n : String) (hn : n ∈ sorts) : PySem.W.kitAny K (.type n) [.type "list", .type "tuple"] = some (decide (n = "list") || decide (n = "tuple")) := by
  refine kitAny_cons (b := decide (n = "list")) (by have := kit_b (K := K) n hn "list" (by decide); simpa using this) (fun e => ?_) (fun e => by simp [e])
  refine kitAny_cons (b := decide (n = "tuple")) (by have := kit_b (K := K) n hn "tuple" (by decide); simpa using this) (fun e2 => ?_) (fun e2 => by simp [e2])
  rw [e, e2]
  rfl
theorem srt_str {K : PySem.W.Frag} {H : Hp} (x : PySem.Str) : Srt K H (.str x) "str" := ⟨.base (.str x), by decide⟩
theorem srt_non {K : PySem.W.Frag} {H : Hp} : Srt K H .non "NoneType" := ⟨.base .non, by decide⟩
theorem srt_bl {K : PySem.W.Frag} {H : Hp} (b : Bool) : Srt K H (.bl b) "bool" := ⟨.base (.bl b), by decide⟩
theorem srt_int {K : PySem.W.Frag} {H : Hp} (i : Int) : Srt K H (.int i) "int" := ⟨.base (.int i), by decide⟩
theorem srt_lst {K : PySem.W.Frag} {H : Hp} {a : Addr} {xs : List V} (h : H a = some (.lst xs)) : Srt K H (.ref a) "list" := ⟨.base (.lst h), by decide⟩
theorem srt_tup {K : PySem.W.Frag} {H : Hp} {a : Addr} {xs : List V} (h : H a = some (.tup xs)) : Srt K H (.ref a) "tuple" := ⟨.base (.tup h), by decide⟩
theorem srt_dK {K : PySem.W.Frag} {H : Hp} {a : Addr} {xs : List (Key × V)} (h : H a = some (.dK xs)) : Srt K H (.ref a) "dict" := ⟨.base (.dK h), by decide⟩
theorem srt_dT {K : PySem.W.Frag} {H : Hp} {a : Addr} {xs : List (List Key × V)} (h : H a = some (.dT xs)) : Srt K H (.ref a) "dict" := ⟨.base (.dT h), by decide⟩
theorem srt_tq {K : PySem.W.Frag} {H : Hp} {a : Addr} {xs : List V} (h : SqT K H a xs) : Srt K H (.ref a) "tuple" := by
  rcases h with (h | ⟨o, h⟩) | ⟨o, its, n, hk, hc, _⟩
  · exact srt_tup h
  · exact ⟨.fTuple h, by decide⟩
  · exact ⟨.kTuple hk hc, by decide⟩
theorem srt_lq {K : PySem.W.Frag} {H : Hp} {a : Addr} {xs : List V} (h : SqL K H a xs) : Srt K H (.ref a) "list" := by
  rcases h with (h | ⟨o, h⟩) | ⟨o, its, n, hk, hc, _⟩
  · exact srt_lst h
  · exact ⟨.base (.frz h), by decide⟩
  · exact ⟨.kList hk hc, by decide⟩
theorem srt_is_str {K : PySem.W.Frag} {H : Hp} {v : V} (h : Srt K H v "str") : ∃ z, v = .str z := by
  obtain ⟨ty, _⟩ := h
  generalize ht : Value.type "str" = t at ty
  cases ty with
  | base b => cases b <;> first | exact ⟨_, rfl⟩ | exact absurd (Value.type.inj ht) (by decide) | cases ht
  | _ => exact absurd (Value.type.inj ht) (by decide)
theorem all_range {α : Type} [Inhabited α] (l : List α) {n : Nat} (hn : n = l.length) (p : α → Bool) (d : α := default) : l.all p = (List.range n).all (id ∘ fun i => p (l.getD i d)) := by
  subst hn
  induction l with
  | nil => rfl
  | cons x l ih =>
    rw [List.length_cons, List.range_succ_eq_map, List.all_cons, List.all_cons, List.all_map, ih]
    rfl
section
variable {P : Program} {w : World} {K : PySem.W.Frag} {mg : PySem.Str → Option Value} {base : Heap}
theorem cal_of {x : PySem.Str} {st : Stmt} {f : Addr} {fd : FuncData} {ps : List PySem.Str} {k : Nat} {sp : Sp} (F : FunD K x x (defArgs st) (defBody st) (defScope st) [] [] f fd) (g : mg x = some (.ref f)) (hb : L2.Binds K fd ps []) (ok : FnOk P w K mg base (L2.CX P w) k f fd ps sp) :
    Cal P w K mg base k x ps sp := ⟨f, fd, ok, g, F.kp, hb⟩
/-- what a test of any thing says, leaving what stands -/
def spTest (R : PySem.W.Frag → Hp → V → Bool → Prop) (K : PySem.W.Frag) : Sp := fun vs H Q _ => ∃ v b, vs = [v] ∧ R K H v b ∧ ∀ H', Same H H' → Q (.bl b) H'
end
/-- isinstance of a thing whose sort is known -/
theorem isi_of {K : PySem.W.Frag} {H : Hp} {v : V} {n m : String} {Q : VK} (h : Srt K H v n) (hm : m ∈ ["int", "bool", "str", "list", "tuple", "dict"]) (q : Q (.bl (decide (n = m) || (decide (n = "bool") && decide (m = "int")))) H) : rIsi K [v, .ty m] H Q :=
  ⟨v, .ty m, _, _, _, rfl, .ty _, h.1, kit_b n h.2 m hm, q⟩
/-! ### comprehensions that only make things -/
theorem range_map_succ {α : Type} (f : Nat → α) (i : Nat) : (List.range (i + 1)).map f = (List.range i).map f ++ [f i] := by
  rw [List.range_succ, List.map_append] <;> rfl
/-- what the machine asks of a comprehension's loop -/
abbrev LcW (J : It) (g : TG) (tt : TT) (te : TE) (vs : List Nat) (σ : L2.St) (D : Addr) (H0 : Hp) (Qd : Hp → Prop) : Prop :=
  ∃ W : Nat → Nat → Hp → Prop, (∃ m, W 0 m H0) ∧ ∀ i m H, W i m H →
      (J.stop i H ∧ Qd H) ∨ (J.go i H ∧ ∃ Nx : Hp → Prop, (∀ H', Nx H' → ∃ m', m' < m ∧ W (i + 1) m' H') ∧ ∀ x H', J.yld i H x H' → g x (wipe σ vs) H' fun σ2 H2 => wipe σ2 vs = wipe σ vs ∧ tt σ2 H2 fun b H3 =>
        if b = true then te σ2 H3 fun y H4 => ∃ acc, H4 D = some (.lst acc) ∧ acc.length < sizeLine ∧ Nx (upd H4 D (.lst (acc ++ [y]))) else Nx H3)
theorem lc_map {J : It} {n : Nat} {G : Hp → Prop} {Y : Nat → Hp → V → Hp → Prop} (w : Walk J n G Y) {g : TG} {te : TE} {vs : List Nat} {σ : L2.St} {H1 : Hp} {D : Addr} {Qd : Hp → Prop} (hD : H1 D = none) (f : Nat → V) (hn : n ≤ sizeLine)
    (hG : ∀ H, Same H1 H → G H)
    (turn : ∀ i x H H', i < n → Same H1 H → Y i H x H' → Same H H' ∧ ∀ Kt : V → Hp → Prop, (∀ H4, Same H' H4 → Kt (f i) H4) → g x (wipe σ vs) H' fun σ2 H2 => wipe σ2 vs = wipe σ vs ∧ te σ2 H2 Kt)
    (mono : ∀ (σ : L2.St) (H : Hp) (x : V) (A B : L2.St → Hp → Prop), (∀ σ H, A σ H → B σ H) → g x σ H A → g x σ H B := by intro σ H x A B h z; exact h _ _ z)
    (hd : ∀ H, Same H1 H → H D = some (.lst ((List.range n).map f)) → Qd H) : LcW J g tYes te vs σ D (upd H1 D (.lst [])) Qd := by
  refine lc_it w (fun i H => Same H1 H ∧ H D = some (.lst ((List.range i).map f))) ⟨Same.new hD, upd_same⟩ (fun i H _ p => hG H p.1) (fun i x H H' hi p y => ?_) (fun H p => hd H p.1 p.2)
  obtain ⟨sy, t⟩ := turn i x H H' hi p.1 y
  refine mono _ _ _ _ _ (fun σ2 H2 z => ⟨z.1, ?_⟩) (t (fun y H4 => ∃ acc, H4 D = some (.lst acc) ∧ acc.length < sizeLine ∧ (Same H1 (upd H4 D (.lst (acc ++ [y]))) ∧ (upd H4 D (.lst (acc ++ [y]))) D = some (.lst ((List.range (i + 1)).map f)))) fun H4 s4 => ?_)
  · exact z.2
  · refine ⟨_, s4 _ _ (sy _ _ p.2), by simp; omega, ?_, ?_⟩
    · intro a o e
      rw [upd_ne (ne_of_none e hD)]
      exact s4 _ _ (sy _ _ (p.1 _ _ e))
    · rw [upd_same, range_map_succ]
/-! ### what a test of a sort says -/
theorem sort_is {n m : String} (hn : n ∈ sorts) (hm : m ∈ ["bool", "str", "list", "tuple", "dict"]) : (decide (n = m) || (decide (n = "bool") && decide (m = "int"))) = decide (n = m) := by
  have : ∀ m ∈ ["bool", "str", "list", "tuple", "dict"], decide (m = "int") = false := by decide
  rw [this m hm, Bool.and_false, Bool.or_false]
theorem isi_is {K : PySem.W.Frag} {H : Hp} {v : V} {n m : String} {Q : VK} (h : Srt K H v n) (hm : m ∈ ["bool", "str", "list", "tuple", "dict"]) (q : Q (.bl (decide (n = m))) H) : rIsi K [v, .ty m] H Q := by
  refine isi_of h (List.mem_cons_of_mem _ hm) ?_
  rw [sort_is h.2 hm]
  exact q
theorem srt_str_eq {K : PySem.W.Frag} {H : Hp} {z : PySem.Str} {n : String} (h : Srt K H (.str z) n) : n = "str" := by
  cases h.1 with
  | base b => cases b; rfl
theorem str_beq (a b : PySem.Str) : (a == b) = decide (b = a) := by
  by_cases e : b = a
  · subst e; simp
  · rw [decide_eq_false e]
    exact beq_eq_false_iff_ne.mpr (Ne.symm e)
/-- a local that holds a def of the module -/
theorem pe_calL {X : Cx} {k i : Nat} {y x : PySem.Str} {f : Addr} {ps : List PySem.Str} {sp : Sp} {p pos : Pos} {e : Expr} {es : List Expr} {t : TA} (c : Cal X.prog X.w X.K X.mg X.base k y ps sp) (g : X.mg y = some (.ref f)) (hr : Room k X.A) (hN : X.N[i]? = some x) (hv : Vis X.env.scope x) (ha : PA X (e :: es) t)
    (hdb : (x == ("__debug__" : PySem.Str)) = false := by decide) (hcd : (x == ("__classdict__" : PySem.Str)) = false := by decide)
    (he : starEach (e :: es) X.env = (false, eval e X.env) :: starEach es X.env := by rfl) (hpl : (backTo pos (starEach es X.env)).any (·.1) = false := by rfl) : PE X (.Call (.Name x p) (e :: es) [] pos) (tCallL i f sp [] E0 t) := by
  obtain ⟨f', fd, F, hm, hk, hb⟩ := c.ex
  cases Option.some.inj (hm.symm.trans g)
  exact pe_callL F hr hN hv hk hb .nil passL ha hdb hcd he hpl
/-! ### readings by their names -/
def rLenQ (K : PySem.W.Frag) : List V → Hp → VK → Prop := fun xs H Q => ∃ p ys, xs = [.ref p] ∧ (SqL K H p ys ∨ SqT K H p ys) ∧ Q (.int ys.length) H
theorem call_lenQ {X : Cx} : CallR X (.builtin "len") (rLenQ X.K) := call_len_seq
def rTupOf (K : PySem.W.Frag) : List V → Hp → VK → Prop := fun xs H Q => ∃ p ys, xs = [V.ref p] ∧ ((SqL K H p ys ∧ ∀ (l : Addr), H l = none → Q (V.ref l) (upd H l (HO.tup ys))) ∨ SqT K H p ys ∧ Q (V.ref p) H)
theorem call_tupOf {X : Cx} : CallR X (.type "tuple") (rTupOf X.K) := call_tuple_of
end Rs
set_option Elab.async false
set_option linter.all false
set_option maxRecDepth 100000
set_option maxHeartbeats 2000000
/-! len({x for x in xs}): how many unlike ones there are. -/
namespace Rs
open PySem PySem.Spec PyProof.Rows L2
section
variable {α : Type} [DecidableEq α]
/-- how many unlike elements -/
def cnt : List α → Nat
  | [] => 0
  | x :: l => (if x ∈ l then 0 else 1) + cnt l
theorem cnt_snoc (x : α) : ∀ l : List α, cnt (l ++ [x]) = cnt l + if x ∈ l then 0 else 1
  | [] => by simp [cnt]
  | y :: l => by
    rw [List.cons_append, cnt, cnt, cnt_snoc x l]
    by_cases hx : x ∈ l
    · have h1 : (y ∈ l ++ [x]) ↔ y ∈ l := by
        simp only [List.mem_append, List.mem_singleton]
        exact ⟨fun h => h.elim id fun e => e ▸ hx, .inl⟩
      simp only [h1, hx, List.mem_cons, or_true, if_true]
      omega
    · by_cases hy : y = x
      · subst hy
        simp [hx]
        omega
      · have h1 : (y ∈ l ++ [x]) ↔ y ∈ l := by
          simp only [List.mem_append, List.mem_singleton, hy, or_false]
        have h2 : ¬ x ∈ y :: l := by simp [hx, Ne.symm hy]
        simp only [h1, hx, h2, if_false]
        omega
theorem cnt_le : ∀ l : List α, cnt l ≤ l.length
  | [] => Nat.le_refl _
  | x :: l => by
    have := cnt_le l
    rw [cnt, List.length_cons]
    split <;> omega
theorem cnt_all : ∀ l : List α, cnt l = l.length ↔ l.Nodup
  | [] => by simp [cnt]
  | x :: l => by
    have := cnt_le l
    rw [cnt, List.length_cons, List.nodup_cons, ← cnt_all l]
    by_cases h : x ∈ l
    · simp only [h, if_true, not_true, false_and, iff_false]
      omega
    · simp only [h, if_false, not_false_eq_true, true_and]
      omega
theorem cnt_take {l : List α} {i : Nat} {x : α} (h : l[i]? = some x) : cnt (l.take (i + 1)) = cnt (l.take i) + if x ∈ l.take i then 0 else 1 := by
  rw [take_next h, cnt_snoc]
end
/-- the loop of a set comprehension -/
abbrev ScW (J : It) (Z : Addr → HO) (ad : V → List V → Hp → VK → Prop) (g : TG) (tt : TT) (te : TE) (vs : List Nat) (σ : L2.St) (D : Addr) (H0 : Hp) (Qd : Hp → Prop) : Prop :=
  ∃ W : Nat → Nat → Hp → Prop, (∃ m, W 0 m H0) ∧ ∀ i m H, W i m H →
      (J.stop i H ∧ Qd H) ∨ (J.go i H ∧ ∃ Nx : Hp → Prop, (∀ H', Nx H' → ∃ m', m' < m ∧ W (i + 1) m' H') ∧ ∀ x H', J.yld i H x H' → g x (wipe σ vs) H' fun σ2 H2 => wipe σ2 vs = wipe σ vs ∧ tt σ2 H2 fun b H3 =>
        if b = true then te σ2 H3 fun y H4 => ad (.ref D) [y] H4 fun _ H5 => Nx H5 else Nx H3)
theorem sc_it {J : It} {n : Nat} {G : Hp → Prop} {Y : Nat → Hp → V → Hp → Prop} (w : Walk J n G Y) {Z : Addr → HO} {ad : V → List V → Hp → VK → Prop} {g : TG} {tt : TT} {te : TE} {vs : List Nat} {σ : L2.St} {D : Addr} {H0 : Hp} {Qd : Hp → Prop} (Pv : Nat → Hp → Prop) (h0 : Pv 0 H0) (hG : ∀ i H, i ≤ n → Pv i H → G H)
    (hs : ∀ i x H H', i < n → Pv i H → Y i H x H' → g x (wipe σ vs) H' fun σ2 H2 => wipe σ2 vs = wipe σ vs ∧ tt σ2 H2 fun b H3 =>
      if b = true then te σ2 H3 fun y H4 => ad (.ref D) [y] H4 fun _ H5 => Pv (i + 1) H5 else Pv (i + 1) H3) (hd : ∀ H, Pv n H → Qd H) : ScW J Z ad g tt te vs σ D H0 Qd := by
  refine ⟨fun i m H => m = n - i ∧ i ≤ n ∧ Pv i H, ⟨n, by simp, Nat.zero_le _, h0⟩, ?_⟩
  rintro i m H ⟨rfl, hi, p⟩
  have q := hG i H hi p
  by_cases hlt : i < n
  · exact .inr ⟨w.goes i H hlt q, Pv (i + 1), fun H' p' => ⟨n - (i + 1), by omega, rfl, hlt, p'⟩, fun x H' y => hs i x H H' hlt p (w.yields i H x H' hlt q y)⟩
  · have e : i = n := by omega
    subst e
    exact .inl ⟨w.stops H q, hd H p⟩
section
variable {P : Program} {w : World} {K : PySem.W.Frag}
abbrev Zk (P : Program) (w : World) : Addr → HO := fun D => SetK P w D (fun _ => false) 0
abbrev Zt (P : Program) (w : World) : Addr → HO := fun D => SetT P w D []
theorem walk_lm {α : Type} {a : Addr} {f : α → V} {ss : List α} : Walk (Itl K a) ss.length (fun H => SqL K H a (ss.map f)) (YAt (ss.map f)) := by
  have := walk_list (K := K) (a := a) (xs := ss.map f)
  rwa [List.length_map] at this
theorem walk_tm {α : Type} {a : Addr} {f : α → V} {ss : List α} : Walk (Itt K a) ss.length (fun H => SqT K H a (ss.map f)) (YAt (ss.map f)) := by
  have := walk_tup (K := K) (a := a) (xs := ss.map f)
  rwa [List.length_map] at this
def inTx (l : List PySem.Str) : Key → Bool
  | .inr z => decide (z ∈ l)
  | .inl _ => false
/-- the texts of a row, each as it is -/
theorem sc_txts {J : It} {ss : List PySem.Str} {G : Hp → Prop} (wk : Walk J ss.length G (YAt (ss.map V.str))) {j : Nat} {σ : L2.St} {H1 : Hp} {D : Addr} {Qd : Hp → Prop} (hD : H1 D = none) (hG : ∀ H, Same H1 H → G H) (hj : j < σ.length) (hn : ss.length + 1 < scanBound)
    (hd : ∀ H S, Same H1 H → H D = some (SetK P w D S (cnt ss)) → Qd H) : ScW J (Zk P w) (rSAddK P w) (gName j) tYes (tVar j) [j] σ D (upd H1 D (Zk P w D)) Qd := by
  refine sc_it wk (fun i H => Same H1 H ∧ H D = some (SetK P w D (inTx (ss.take i)) (cnt (ss.take i)))) ⟨Same.new hD, ?_⟩ (fun i H _ p => hG H p.1) (fun i x H H' hi p y => ?_) (fun H p => hd H _ p.1 (by have := p.2; rw [List.take_length] at this; exact this))
  · rw [upd_same]
    have : (fun _ => false) = inTx (ss.take 0) := by funext k; cases k <;> simp [inTx]
    show some (SetK P w D _ _) = _
    rw [this]
    rfl
  · obtain ⟨rfl, hx⟩ := y
    rw [List.getElem?_map] at hx
    obtain ⟨z, hz⟩ : ∃ z, ss[i]? = some z := ⟨_, List.getElem?_eq_getElem hi⟩
    rw [hz] at hx
    cases Option.some.inj hx
    refine ⟨by simp [wipe, List.set_set], ?_⟩
    refine ⟨.str z, ?_, D, Sum.inr z, _, _, rfl, rfl, p.2, ?_, ?_, ?_⟩
    · rw [List.getElem?_set_self (by rw [wipe_length]; exact hj)]
    · have := cnt_le (ss.take i)
      have := List.length_take_le i ss
      omega
    · intro a o e
      rw [upd_ne (ne_of_none e hD)]
      exact p.1 _ _ e
    · rw [upd_same]
      congr 1
      have e1 : (fun j : Key => inTx (ss.take i) j || decide (j = (Sum.inr z : Key))) = inTx (ss.take (i + 1)) := by
        funext k
        rw [take_next hz]
        cases k with
        | inl a => simp [inTx]
        | inr a => simp [inTx, List.mem_append, Bool.decide_or]
      have e2 : (if inTx (ss.take i) (Sum.inr z) = true then cnt (ss.take i) else cnt (ss.take i) + 1) = cnt (ss.take (i + 1)) := by
        rw [cnt_take hz]
        by_cases h : z ∈ ss.take i
        · simp [inTx, h]
        · simp [inTx, h]
      show SetK P w D _ _ = SetK P w D _ _
      rw [e1, e2]
theorem map_inj {α β : Type} {f : α → β} (hf : ∀ x y, f x = f y → x = y) : ∀ {l m : List α}, l.map f = m.map f → l = m
  | [], [], _ => rfl
  | [], _ :: _, e => nomatch e
  | _ :: _, [], e => nomatch e
  | x :: l, y :: m, e => by
    obtain ⟨e1, e2⟩ := List.cons.inj e
    rw [hf x y e1, map_inj hf e2]
/-- the rows of a row -/
theorem sc_rows {J : It} {bs : List Addr} {ks : List (List PySem.Str)} {G : Hp → Prop} (wk : Walk J bs.length G (YAt (bs.map V.ref))) {j : Nat} {σ : L2.St} {H1 : Hp} {D : Addr} {Qd : Hp → Prop} (hD : H1 D = none) (hG : ∀ H, Same H1 H → G H) (hj : j < σ.length) (hn : bs.length < 63)
    (hk : Paired (fun k b => RowAt K H1 b k) ks bs)
    (hd : ∀ H L, Same H1 H → H D = some (SetT P w D L) → L.length = cnt ks → Qd H) : ScW J (Zt P w) (rAddT K P w) (gName j) tYes (tVar j) [j] σ D (upd H1 D (Zt P w D)) Qd := by
  have hlen : ks.length = bs.length := Paired.length hk
  have at_ : ∀ {ks : List (List PySem.Str)} {bs : List Addr}, Paired (fun k b => RowAt K H1 b k) ks bs → ∀ (i : Nat) (b : Addr), bs[i]? = some b → ∃ k, ks[i]? = some k ∧ RowAt K H1 b k := by
    intro ks bs h
    induction h with
    | nil => intro i b e; simp at e
    | cons h1 _ ih =>
      intro i b e
      cases i with
      | zero => simp at e; subst e; exact ⟨_, rfl, h1⟩
      | succ i => simp at e; obtain ⟨k, e1, e2⟩ := ih i b e; exact ⟨k, by simpa using e1, e2⟩
  let toK : List PySem.Str → List Key := fun k => k.map Sum.inr
  have inj : ∀ a b : List PySem.Str, toK a = toK b → a = b := fun a b e => map_inj (fun x y h => Sum.inr.inj h) e
  have kvmap : ∀ k : List PySem.Str, (toK k).map kV = k.map V.str := fun k => by simp [toK, kV, Function.comp_def]
  refine sc_it wk (fun i H => Same H1 H ∧ ∃ L : List (Addr × List Key), H D = some (SetT P w D L) ∧ L.length = cnt (ks.take i) ∧ (∀ p ∈ L, SqT K H1 p.1 (p.2.map kV)) ∧ ∀ k, k ∈ L.map (·.2) ↔ k ∈ (ks.take i).map toK)
    ⟨Same.new hD, [], upd_same, by simp [cnt], fun p hp => by simp at hp, by simp⟩ (fun i H _ p => hG H p.1) (fun i x H H' hi p y => ?_) (fun H p => ?_)
  · obtain ⟨rfl, hx⟩ := y
    rw [List.getElem?_map] at hx
    obtain ⟨b, hb⟩ : ∃ b, bs[i]? = some b := ⟨_, List.getElem?_eq_getElem hi⟩
    rw [hb] at hx
    cases Option.some.inj hx
    obtain ⟨s1, L, hL, hl, hq, hm⟩ := p
    obtain ⟨k, ek, hr⟩ := at_ hk i b hb
    refine ⟨by simp [wipe, List.set_set], ?_⟩
    have hle := cnt_le (ks.take i)
    have hle2 := List.length_take_le i ks
    refine ⟨.ref b, List.getElem?_set_self (by rw [wipe_length]; exact hj), D, b, toK k, L, rfl, rfl, hL, ?_, fun p hp => Same.tq s1 (hq p hp), by omega, fun L' h1 h2 => ⟨?_, L', upd_same, ?_, ?_, ?_⟩⟩
    · rw [kvmap]
      exact Same.tq s1 hr
    · intro a o e
      rw [upd_ne (ne_of_none e hD)]
      exact s1 _ _ e
    · rw [cnt_take ek]
      by_cases h : k ∈ ks.take i
      · rw [h1 ((hm _).mpr (List.mem_map.mpr ⟨k, h, rfl⟩)), hl, if_pos h, Nat.add_zero]
      · rw [(h2 fun z => h (by obtain ⟨k', h', e'⟩ := List.mem_map.mp ((hm _).mp z); exact inj _ _ e' ▸ h')).length_eq, List.length_cons, hl, if_neg h]
    · intro p hp
      by_cases h : k ∈ ks.take i
      · rw [h1 ((hm _).mpr (List.mem_map.mpr ⟨k, h, rfl⟩))] at hp
        exact hq p hp
      · rcases List.mem_cons.mp ((h2 fun z => h (by obtain ⟨k', h', e'⟩ := List.mem_map.mp ((hm _).mp z); exact inj _ _ e' ▸ h')).mem_iff.mp hp) with rfl | hp
        · rw [kvmap]; exact hr
        · exact hq p hp
    · intro k2
      rw [take_next ek, List.map_append, List.mem_append, ← hm k2]
      by_cases h : k ∈ ks.take i
      · rw [h1 ((hm _).mpr (List.mem_map.mpr ⟨k, h, rfl⟩))]
        refine ⟨.inl, fun z => z.elim id fun z => ?_⟩
        rw [List.map_cons, List.map_nil, List.mem_singleton] at z
        rw [z]
        exact (hm _).mpr (List.mem_map.mpr ⟨k, h, rfl⟩)
      · rw [((h2 fun z => h (by obtain ⟨k', h', e'⟩ := List.mem_map.mp ((hm _).mp z); exact inj _ _ e' ▸ h')).map (·.2)).mem_iff]
        simp only [List.map_cons, List.map_nil, List.mem_cons, List.not_mem_nil, or_false]
        exact Or.comm
  · obtain ⟨s1, L, hL, hl, _⟩ := p
    rw [← hlen, List.take_length] at hl
    exact hd H L s1 hL hl
end
end Rs
set_option Elab.async false
set_option linter.all false
set_option maxRecDepth 100000
set_option maxHeartbeats 2000000
/-! d.values() of a dict whose keys are tuples. -/
namespace Rs
open PySem PySem.Spec PyProof.Rows L2
def Itdt (d : Addr) (o : Obj) (kvs : List (List Key × V)) : It :=
  ⟨fun i H => H d = some (.frz o (.dT kvs)) ∧ i < kvs.length, fun i H x H' => H' = H ∧ ∃ k, kvs[i]? = some (k, x), fun i H => H d = some (.frz o (.dT kvs)) ∧ kvs.length ≤ i⟩
theorem walk_valuesT {d : Addr} {o : Obj} {kvs : List (List Key × V)} : Walk (Itdt d o kvs) kvs.length (fun H => H d = some (.frz o (.dT kvs))) (fun i H x H' => H' = H ∧ ∃ k, kvs[i]? = some (k, x)) :=
  ⟨fun _ _ hi q => ⟨q, hi⟩, fun _ q => ⟨q, Nat.le_refl _⟩, fun _ _ _ _ _ _ y => y⟩
theorem frzT_val {X : Cx} {pins : List (Addr × Obj)} {σ : L2.St} {H : Hp} {s : Shared} {d : Addr} {o : Obj} {kvs : List (List Key × V)} (I : L2.Inv X pins σ H s) (h : H d = some (.frz o (.dT kvs))) :
    (d == sysModules) = false ∧ ∃ (es : Array DictEntry) (ep : Nat), o.data = .dict es ep ∧ s.heap.DictRaw d es ep ∧ es.size = kvs.length ∧
      ∀ (i : Nat) (k : List Key) (v : V), kvs[i]? = some (k, v) → ∃ (en : DictEntry), es[i]? = some en ∧ RelV v en.val := by
  obtain ⟨hd, z, hs, xs, pr, o', es, ep, ho, hx, hdt, he, _⟩ := I.hok d _ h
  rw [hd] at ho
  cases ho
  refine ⟨hs, es, ep, hdt, ⟨o, hd, hx, hdt⟩, ?_, fun i k v e => ?_⟩
  · have l1 : es.size = xs.length := size_of_entries he
    have l2 : kvs.length = xs.length := Paired.length pr
    omega
  · obtain ⟨b, hb, e1, e2, e3⟩ := L2.paired_get pr e
    have q := entry_at he i
    rw [hb] at q
    exact ⟨_, q, e3⟩
theorem turn_valsT {P : Program} {w : World} {K : PySem.W.Frag} {tg : Expr} {d : Addr} {o : Obj} {es : Array DictEntry} {ep : Nat} {kvs : List (List Key × V)} (it : Addr) (hod : o.data = .dict es ep) : Turn P w K tg (Itdt d o kvs) [it] it (fun i h => h.IsValIter it d i kvs.length ep) where
  mem := by simp
  obj := fun i h st b hb => by
    cases (show b = it by simpa using hb)
    obtain ⟨oi, e, c, dd⟩ := st
    exact ⟨oi, e, fun v z => by rw [dd] at z; cases z⟩
  keep := fun i h h' st k => st.at fun oi e => k it (by simp) oi e
  item := by
    intro X hP hw hK hc i pins s σ H E I hf st hg
    subst hP hw hK
    obtain ⟨hd, hi⟩ := hg
    obtain ⟨f0, f1, f2, f3, f4, f5⟩ := hf it (by simp)
    obtain ⟨hs, es', ep', hdt, raw, hsz, ent⟩ := frzT_val I hd
    obtain ⟨rfl, rfl⟩ := dict_ep hod hdt
    obtain ⟨⟨k, v⟩, hkv⟩ : ∃ p, kvs[i]? = some p := ⟨kvs[i], List.getElem?_eq_getElem hi⟩
    obtain ⟨en, hen, hv⟩ := ent i k v hkv
    rw [← hsz] at st
    refine wpAny_pyNext_values_item_raw st raw (by omega) fun h' st' sb => ?_
    have I1 : L2.Inv X pins σ H { s with heap := h' } := I.turned (t' := s.toks) (fun b ob hb e => (sb.2 b hb).trans e) f0 f1 f3 f4 f5
    obtain ⟨oi, e, c, dd⟩ := id st'
    have hval : es'[i].val = en.val := by
      rw [Array.getElem?_eq_getElem (by omega)] at hen
      rw [Option.some.inj hen]
    refine ⟨_, rfl, go_of (s := { s with heap := h' }) e c dd (by decide) ⟨v, H, I1, by rw [hval]; exact hv, ⟨rfl, k, hkv⟩, by rw [← hsz]; exact st', fun b hb => (hf b hb).1⟩⟩
  done := by
    intro X hP hw hK hc i pins s σ H E I hf st hg
    subst hP hw hK
    obtain ⟨hd, hi⟩ := hg
    obtain ⟨f0, f1, f2, f3, f4, f5⟩ := hf it (by simp)
    obtain ⟨hs, es', ep', hdt, raw, hsz, ent⟩ := frzT_val I hd
    obtain ⟨rfl, rfl⟩ := dict_ep hod hdt
    rw [← hsz] at st
    exact wpAny_pyNext_values_end_raw (I.ok.hd hc) st raw (by omega) fun h' eb => ⟨rfl, I.turned (t' := s.toks) (fun b ob hb e => eb b ob hb e) f0 f1 f3 f4 f5⟩
  self := fun A i s Q E st h => wpAny_pyIter_valiter st h
def iValsT (td : TE) : TI := fun σ H R => td σ H fun x H1 => ∃ d o kvs, x = .ref d ∧ H1 d = some (.frz o (.dT kvs)) ∧ R (Itdt d o kvs) H1
theorem pi_valuesT {X : Cx} {tg e : Expr} {td : TE} {apos cpos : Pos} (he : PE X e td) (hbase : attributeBase e "values" X.env (eval e X.env) = eval e X.env := by rfl) (hline : (apos.endLine == cpos.line) = true := by rfl) : PI X tg (.Call (.Attribute e "values" apos) [] [] cpos) (iValsT td) := by
  refine ⟨fun pins s σ H R I h => ?_⟩
  refine wpAny_Call_method (T := "dict") (id := "dict.values") hbase rfl hline F.plainAttrs_dict F.slot_dict_values F.type_dict_values (thn (he.run pins s σ H _ I h) fun u s1 ⟨x, H1, I1, rx, d, o, kvs, ex, hd, q⟩ => ?_)
  subst ex
  obtain rfl : u = Value.ref d := rx
  obtain ⟨hs, es, ep, hdt, raw, hsz, ent⟩ := frzT_val I1 hd
  obtain ⟨o', ho', hx', hd'⟩ := id raw
  refine ⟨raw.typeIs, fun a e => by cases e; exact ⟨o', ho', hx'.2.1⟩, ?_⟩
  have I2 : L2.Inv X pins σ H1 { s1 with heap := s1.heap.push { cls := .type "dict_values", data := .fields #[.ref d] } } := I1.kept (t' := s1.toks) fun b ob q => Heap.get?_push_of_some _ q
  have fin : wpAny (model X.prog X.w) X.A (pyIter (.ref s1.heap.objs.size)) (PIE X pins σ tg R) X.xe { s1 with heap := s1.heap.push { cls := .type "dict_values", data := .fields #[.ref d] } } := by
    refine wpAny_pyIter_values_raw (d := d) ⟨_, Heap.get?_push_size _ rfl, rfl, rfl⟩ (raw.at fun ob e => Heap.get?_push_of_some _ e) (pi_one (tk := s1.toks) I2 _ (turn_valsT _ hdt) ⟨_, Heap.get?_push_size _ rfl, rfl, ?_⟩ q)
    rw [hsz] <;> rfl
  show wpAny _ _ (callWith cpos (.builtin "dict.values") [.ref d] [] []) _ X.xe s1
  exact method_meetsIn F.slot_dict_values F.entry_dict_values rfl (PySem.evalArgs_none ⟨rfl, raw.typeIs, F.args_dict_values_1 _, _, meets_dict_values_raw d hs, ⟨es, ep, raw⟩, fin⟩)
end Rs
set_option Elab.async false
set_option linter.all false
set_option maxRecDepth 100000
set_option maxHeartbeats 2000000
/-! for x in row, the row a list or a tuple. -/
namespace Rs
open PySem PySem.Spec PyProof.Rows L2
def iSeq (K : PySem.W.Frag) (tl : TE) : TI := fun σ H R => tl σ H fun x H1 => ∃ a, x = .ref a ∧ (((∃ xs, SqL K H1 a xs) ∧ R (Itl K a) H1) ∨ ((∃ xs, SqT K H1 a xs) ∧ R (Itt K a) H1))
theorem pi_seq {X : Cx} {tg l : Expr} {tl : TE} (hl : PE X l tl) : PI X tg l (iSeq X.K tl) := by
  refine ⟨fun pins s σ H R I h => thn (hl.run pins s σ H _ I h) fun v s1 ⟨x, H1, I1, r1, a, e, hor⟩ => ?_⟩
  subst e
  cases r1
  have fresh : ∀ b ∈ [s1.heap.objs.size], FpOk X pins H1 b := fun b hb => by
    cases (show b = s1.heap.objs.size by simpa using hb)
    exact I1.fpOk (Nat.le_refl _) (I1.hok.fresh (Nat.le_refl _))
  rcases hor with ⟨⟨xs, hq⟩, q⟩ | ⟨⟨xs, hq⟩, q⟩
  · obtain ⟨its, rv, p, hz⟩ := I1.list hq
    exact wpAny_pyIter_list p.isList ⟨s1.heap.objs.size, [s1.heap.objs.size], _, _, H1, rfl, I1.kept (t' := s1.toks) fun b o e => Heap.get?_push_of_some _ e, turn_list a _, ⟨_, Heap.get?_push_size _ rfl, rfl, rfl⟩, fresh, q⟩
  · obtain ⟨its, rv, p, hz⟩ := I1.tuple hq
    exact wpAny_pyIter_tuple (show s1.heap.IsTuple a its.toArray from p) ⟨s1.heap.objs.size, [s1.heap.objs.size], _, _, H1, rfl, I1.kept (t' := s1.toks) fun b o e => Heap.get?_push_of_some _ e, turn_tuple a _, ⟨_, Heap.get?_push_size _ rfl, rfl, rfl⟩, fresh, q⟩
end Rs
set_option Elab.async false
set_option linter.all false
set_option maxRecDepth 100000
set_option maxHeartbeats 2000000
/-! for i, x in enumerate(row), the row a list or a tuple. -/
namespace Rs
open PySem PySem.Spec PyProof.Rows L2
open Sem (wp)
open AutoSeq1 (wpAny_loadPart')
theorem meets_enumT (l : Addr) (items : Array Value) (n : Nat) (dct : Option Addr) (sl : Array (Option Value)) :
    Meets (Builtin.«enumerate.__new__» ⟨[.type "enumerate", .ref l], []⟩) (fun _ R s => s.heap.get? l = some { cls := .type "tuple", dict := dct, data := .seq items n, slots := sl } ∧
      R (.ok (.ret (.ref (s.heap.push { cls := .type "tuple_iterator", data := .fields #[.ref l, .int 0 0] }).objs.size)))
        { s with heap := (s.heap.push { cls := .type "tuple_iterator", data := .fields #[.ref l, .int 0 0] }).push { cls := .type "enumerate", data := .fields #[.none, .bool false, .ref s.heap.objs.size, rawInt 0, .none, .none] } }) :=
  .of_wp fun prog w A R s h => by
    obtain ⟨hp, g, d, tk, os⟩ := s; obtain ⟨hl, h⟩ := h
    have hsub := sub_enumerate
    have hL : Heap.IsTuple (Shared.heap ⟨hp, g, d, tk, os⟩) l items := ⟨_, hl, rfl, n, rfl⟩
    wp_walk using wpAny_loadPart' hl
    refine wpAny_stack_any fun st => wpAny_pure ?_
    split
    · rename_i c _ _ _ _ _
      cases (c == Value.type "enumerate")
      · wp_walk using wpAny_loadPart' hl, wpAny_pyIter_tuple hL
        exact ⟨_, rfl, h⟩
      · wp_walk using wpAny_loadPart' hl, wpAny_pyIter_tuple hL
        exact ⟨_, rfl, h⟩
    · wp_walk using wpAny_loadPart' hl, wpAny_pyIter_tuple hL
      exact ⟨_, rfl, h⟩
section
variable {prog : Program} {w : World} {A : Around} {E : Value → Shared → Prop} {s : Shared}
theorem call_enumT {l : Addr} {items : Array Value} {Q : Value → Shared → Prop} (hL : s.heap.IsTuple l items)
    (h : ∀ h', IsEnum h' (s.heap.objs.size + 1) s.heap.objs.size 0 .none → h'.IsTupleIter s.heap.objs.size l 0 → h'.objs.size = s.heap.objs.size + 2 →
      (∀ b o, s.heap.get? b = some o → h'.get? b = some o) → Q (.ref (s.heap.objs.size + 1)) { s with heap := h' }) :
    wpAny (model prog w) A (call (.type "enumerate") [.ref l]) Q E s := by
  obtain ⟨⟨c, dct, dt, sl⟩, hl, hc, n, hd⟩ := hL
  replace hc : c = .type "tuple" := hc
  replace hd : dt = .seq items n := hd
  subst hc hd
  refine callType_new F.called_enumerate (by decide) (F.typeCall_enumerate_1 _) (F.newCall_enumerate_1 _) (fun obj => F.args_object_init_2 obj _) F.entry_enumerate_new
    (meets_enumT l items n dct sl) ⟨hl, ?_⟩
  have hz : (s.heap.push { cls := .type "tuple_iterator", data := .fields #[.ref l, .int 0 0] }).objs.size = s.heap.objs.size + 1 := Heap.size_push ..
  show _ ∧ _
  rw [hz]
  have he : IsEnum ((s.heap.push { cls := .type "tuple_iterator", data := .fields #[.ref l, .int 0 0] }).push
      { cls := .type "enumerate", data := .fields #[.none, .bool false, .ref s.heap.objs.size, rawInt 0, .none, .none] }) (s.heap.objs.size + 1) s.heap.objs.size 0 .none := by
    have := Heap.get?_push_size (s.heap.push { cls := .type "tuple_iterator", data := .fields #[.ref l, .int 0 0] })
      (o := { cls := .type "enumerate", data := .fields #[.none, .bool false, .ref s.heap.objs.size, rawInt 0, .none, .none] }) rfl
    rw [hz] at this; exact this
  refine ⟨⟨_, he, rfl⟩, h _ he ⟨_, Heap.get?_push_of_some _ (Heap.get?_push_size _ rfl), rfl, rfl⟩ (by rw [Heap.size_push, hz]) fun b o x => Heap.get?_push_of_some _ (Heap.get?_push_of_some _ x)⟩
end
/-- the tuple at a, each item in a new pair -/
def Itet (K : PySem.W.Frag) (a : Addr) : It :=
  ⟨fun i H => ∃ (xs : List V) (x : V), SqT K H a xs ∧ xs[i]? = some x, fun i H v H' => ∃ T x, v = .ref T ∧ H T = none ∧ H' = upd H T (.tup [.int (i : Nat), x]) ∧ ∀ xs, SqT K H a xs → xs[i]? = some x, fun i H => ∃ xs : List V, SqT K H a xs ∧ xs.length = i⟩
theorem turn_enumT {P : Program} {w : World} {K : PySem.W.Frag} {elts : List Expr} {kk : Nat} {tpos : Pos} (a e it : Addr) :
    Turn P w K (.Tuple elts kk tpos) (Itet K a) [e, it] e (fun i h => (∃ old, IsEnum h e it ((i : Nat) : Int) old) ∧ h.IsTupleIter it a i ∧ e ≠ it) where
  mem := by simp
  obj := fun i h st b hb => by
    obtain ⟨⟨old, he⟩, ⟨o, ho, hc, hd⟩, _⟩ := st
    have e' : b = e ∨ b = it := by simpa using hb
    rcases e' with z | z
    · rw [z]; exact ⟨_, he, fun v q => nomatch q⟩
    · rw [z]; exact ⟨o, ho, fun v q => by rw [hd] at q; cases q⟩
  keep := fun i h h' st k => let ⟨⟨old, he⟩, hi, hne⟩ := st; ⟨⟨old, k e (by simp) _ he⟩, hi.at fun o q => k it (by simp) o q, hne⟩
  item := by
    intro X hP hw hK hc i pins s σ H E I hf st hg
    subst hP hw hK
    obtain ⟨⟨old, he⟩, hit, hne⟩ := st
    obtain ⟨xs, x, hq, hx⟩ := hg
    obtain ⟨its, rv, p, hz⟩ := I.tuple hq
    obtain ⟨u, hu, ru⟩ := rv.get hx
    have p' : s.heap.IsTuple a its.toArray := p
    have hel : e < s.heap.objs.size := Heap.lt_size he
    have hil : it < s.heap.objs.size := by obtain ⟨_, q, _⟩ := hit; exact Heap.lt_size q
    have nia : a ≠ it := by
      rintro rfl
      obtain ⟨o1, q1, c1, _⟩ := hit
      obtain ⟨o2, q2, c2, _⟩ := p'
      rw [q1] at q2
      cases Option.some.inj q2
      rw [c1] at c2
      exact absurd (Value.type.inj c2) (by decide)
    have nea : a ≠ e := by
      rintro rfl
      obtain ⟨o2, q2, c2, _⟩ := p'
      have he' : s.heap.get? a = some _ := he
      rw [he'] at q2
      cases Option.some.inj q2
      exact absurd (Value.type.inj c2) (by decide)
    have hlt : i < its.toArray.size := by have := (List.getElem?_eq_some_iff.mp hu).1; simpa using this
    have hh : X.A.in1.handled = none := I.ok.hd hc
    have D : Draws X.prog X.w X.A.in1 it [it, a] its.toArray.size (fun i v => its.toArray[i]? = some v) (fun i h => h.IsTupleIter it a i ∧ h.IsTuple a its.toArray) := Draws.tuple hh it a nia its.toArray
    refine wpAny_pyNext_enum_itemD D he ⟨hit, p'⟩ hlt hne (by simp; exact ⟨hne, nea.symm⟩) fun y h' tk hy ho hit' hT hsz hk => ?_
    have ey : u = y := by
      have : its[i]? = some y := by simpa using hy
      rw [hu] at this
      exact Option.some.inj this
    subst ey
    refine ⟨_, rfl, wpAny_letOwnedTupleGo_enum (s := { s with heap := h', toks := tk + 1 }) ho fun h'' he' sb => ?_⟩
    have hT2 : h''.get? s.heap.objs.size = some { cls := .type "tuple", data := .seq #[.int i tk, u] } := (sb.2 _ (Nat.ne_of_gt hel)).trans hT
    have new : ObjOk X.prog X.w (upd H s.heap.objs.size (.tup [.int (i : Nat), x])) h'' s.heap.objs.size (.tup [.int (i : Nat), x]) :=
      ⟨by show 2 ≤ sizeLine; decide, [.int i tk, u], .cons ⟨_, rfl⟩ (.cons ru .nil), ⟨_, hT2, rfl, _, rfl⟩⟩
    have I1 : Inv X pins σ (upd H s.heap.objs.size (.tup [.int (i : Nat), x])) { s with heap := h'', toks := tk + 1 } :=
      I.turnedNew (ch := [e, it]) (fun b ob hb q => (sb.2 b (fun z => hb (by simp [z]))).trans (hk b ob (fun z => hb (by simp [z])) (fun z => hb (by simp [z])) q)) hf (Nat.le_refl _) new
    refine ⟨.ref s.heap.objs.size, _, I1, rfl, ⟨_, x, rfl, I.hok.fresh (Nat.le_refl _), rfl, fun ys hy => by rw [I.tuple_inj hy hq]; exact hx⟩, ⟨⟨u, ?_⟩, hit'.1.at fun o q => (sb.2 it (Ne.symm hne)).trans q, hne⟩, fun b hb => ?_⟩
    · have e1 : ((i + 1 : Nat) : Int) = (i : Int) + 1 := by omega
      rw [e1]; exact he'
    · have hb' : b < s.heap.objs.size := by
        have e' : b = e ∨ b = it := by simpa using hb
        rcases e' with z | z
        · rw [z]; exact hel
        · rw [z]; exact hil
      rw [upd_ne (Nat.ne_of_lt hb')]
      exact (hf b hb).1
  done := by
    intro X hP hw hK hc i pins s σ H E I hf st hg
    subst hP hw hK
    obtain ⟨⟨old, he⟩, hit, hne⟩ := st
    obtain ⟨xs, hq, hx⟩ := hg
    obtain ⟨its, rv, p, hz⟩ := I.tuple hq
    have p' : s.heap.IsTuple a its.toArray := p
    have nia : a ≠ it := by
      rintro rfl
      obtain ⟨o1, q1, c1, _⟩ := hit
      obtain ⟨o2, q2, c2, _⟩ := p'
      rw [q1] at q2
      cases Option.some.inj q2
      rw [c1] at c2
      exact absurd (Value.type.inj c2) (by decide)
    obtain ⟨f0, f1, f2, f3, f4, f5⟩ := hf it (by simp)
    have hl := rv.length
    have ei : i = its.toArray.size := by simp; omega
    have hh : X.A.in1.handled = none := I.ok.hd hc
    have D : Draws X.prog X.w X.A.in1 it [it, a] its.toArray.size (fun i v => its.toArray[i]? = some v) (fun i h => h.IsTupleIter it a i ∧ h.IsTuple a its.toArray) := Draws.tuple hh it a nia its.toArray
    subst ei
    exact wpAny_pyNext_enum_endD D he ⟨hit, p'⟩ fun h' eb => ⟨rfl, I.turned (t' := s.toks) (fun b o hb q => eb b o hb q) f0 f1 f3 f4 f5⟩
  self := fun A i s Q E st h => let ⟨⟨_, he⟩, _⟩ := st; wpAny_pyIter_enum he h
theorem walk_enumT {K : PySem.W.Frag} {a : Addr} {xs : List V} : Walk (Itet K a) xs.length (fun H => SqT K H a xs) (YPair (fun i => some (.int (i : Nat))) (fun i => xs[i]?)) := by
  refine ⟨fun i _ hi q => ⟨xs, xs[i], q, by simp [hi]⟩, fun _ q => ⟨xs, q, rfl⟩, fun i H v H' _ q y => ?_⟩
  obtain ⟨T, x, h1, h2, h3, h4⟩ := y
  exact ⟨T, .int (i : Nat), x, h1, h2, h3, rfl, h4 xs q⟩
def iEnumQ (K : PySem.W.Frag) (ta : TA) : TI := fun σ H R => ta σ H fun vs H1 => ∃ a, vs = [.ref a] ∧ (((∃ xs, SqL K H1 a xs) ∧ R (Ite K a) H1) ∨ ((∃ xs, SqT K H1 a xs) ∧ R (Itet K a) H1))
theorem pi_enumQ {X : Cx} {e : Expr} {ta : TA} {p pos tpos : Pos} {elts : List Expr} {kk : Nat} (hg : Gl X "enumerate") (hm : X.mg "enumerate" = none) (ha : PA X [e] ta) (hs : starEach [e] X.env = [(false, eval e X.env)] := by rfl) :
    PI X (.Tuple elts kk tpos) (.Call (.Name "enumerate" p) [e] [] pos) (iEnumQ X.K ta) := by
  refine ⟨fun pins s σ H R I h => ?_⟩
  refine Call_ (ld_blt I hg hm boot_enumerate (PyProof.Rows.callWith_type1 (thn (ha.run pos pins s σ H _ I h) fun us s1 ⟨vs, H1, I1, r1, q1⟩ => ?_) hs rfl))
  obtain ⟨a, ex, q⟩ := q1
  subst ex
  cases r1 with
  | cons r rr =>
    cases rr
    cases r
    have fp : ∀ b ∈ [s1.heap.objs.size + 1, s1.heap.objs.size], FpOk X pins H1 b := fun b hb => by
      have e' : b = s1.heap.objs.size + 1 ∨ b = s1.heap.objs.size := by simpa using hb
      have hle : s1.heap.objs.size ≤ b := by
        rcases e' with z | z
        · rw [z]; exact Nat.le_add_right _ _
        · rw [z]; exact Nat.le_refl _
      exact I1.fpOk hle (I1.hok.fresh hle)
    rcases q with ⟨⟨xs, hq⟩, q⟩ | ⟨⟨xs, hq⟩, q⟩
    · obtain ⟨its, rv, p', hz⟩ := I1.list hq
      refine call_enumerate_list p'.isList fun h' he hit hsz hk => wpAny_pyIter_enum he ?_
      have I2 : Inv X pins σ H1 { s1 with heap := h' } := I1.kept (t' := s1.toks) hk
      exact ⟨s1.heap.objs.size + 1, [s1.heap.objs.size + 1, s1.heap.objs.size], _, _, H1, rfl, I2, turn_enum a (s1.heap.objs.size + 1) s1.heap.objs.size, ⟨⟨.none, he⟩, hit, Nat.succ_ne_self _⟩, fp, q⟩
    · obtain ⟨its, rv, p', hz⟩ := I1.tuple hq
      refine call_enumT (show s1.heap.IsTuple a its.toArray from p') fun h' he hit hsz hk => wpAny_pyIter_enum he ?_
      have I2 : Inv X pins σ H1 { s1 with heap := h' } := I1.kept (t' := s1.toks) hk
      exact ⟨s1.heap.objs.size + 1, [s1.heap.objs.size + 1, s1.heap.objs.size], _, _, H1, rfl, I2, turn_enumT a (s1.heap.objs.size + 1) s1.heap.objs.size, ⟨⟨.none, he⟩, hit, Nat.succ_ne_self _⟩, fp, q⟩
end Rs
set_option Elab.async false
set_option linter.all false
set_option maxRecDepth 100000
set_option maxHeartbeats 2000000
/-! Sets of texts that can be walked: their members in the order in which they came. -/
namespace Rs
open PySem PySem.Spec PyProof.Rows L2
abbrev hT (P : Program) (w : World) (x : PySem.Str) : Int := (mixKind P w).hash (Sum.inr x)
/-- an entry that is a text -/
def EntT (P : Program) (w : World) (e : Int × Value) : Prop := ∃ x t, e.2 = Value.str x t ∧ e.1 = hT P w x
abbrev entTxt (e : Int × Value) : PySem.Str := txtOf e.2
structure SetSR (P : Program) (w : World) (h : Heap) (a : Addr) (ss : List PySem.Str) (o : Obj) (es : Array (Int × Value)) (ep : Nat) (t : SetTable) : Prop where
  ob : h.get? a = some o
  ex : o.ExactSet
  dt : o.data = .set es ep t
  ent : ∀ e ∈ es.toList, EntT P w e
  mem : (es.toList.map entTxt).Perm ss
  nd : ss.Nodup
  few : es.size < scanBound
  fit : t.fits es.size = true
  ris : Ris t.place.toList
  led : w.params.followText "set-order" = true ∨ t.led = true
def SetSO (P : Program) (w : World) (a : Addr) (ss : List PySem.Str) : HO := .ext fun h => ∃ o es ep t, SetSR P w h a ss o es ep t
section
variable {P : Program} {w : World} {h h' : Heap} {a : Addr} {ss : List PySem.Str} {o : Obj} {es : Array (Int × Value)} {ep : Nat} {t : SetTable}
theorem SetSR.at (R : SetSR P w h a ss o es ep t) (k : ∀ u, h.get? a = some u → h'.get? a = some u) : SetSR P w h' a ss o es ep t :=
  { R with ob := k _ R.ob }
theorem setS_ok {H : Hp} (R : ∃ o es ep t, SetSR P w h a ss o es ep t) : ObjOk P w H h a (SetSO P w a ss) :=
  ⟨R, let ⟨o, _, _, _, r⟩ := R; ⟨o, r.ob⟩, fun _ _ ⟨o, es, ep, t, r⟩ k => ⟨o, es, ep, t, r.at k⟩⟩
theorem ent_elems {l : List (Int × Value)} (g : ∀ e ∈ l, EntT P w e) : ElemsOf (mixKind P w) l := by
  intro e he
  obtain ⟨x, t, h1, h2⟩ := g e he
  refine ⟨⟨.inr x, ?_, h2⟩, ?_⟩
  · rw [h1]; exact mixKind_str P w x t
  · rw [h1] <;> rfl
theorem ent_is {e : Int × Value} (g : EntT P w e) (x : PySem.Str) : (mixKind P w).is (.inr x) e.2 = true ↔ entTxt e = x := by
  obtain ⟨y, t, h1, _⟩ := g
  show keyIs (.inr x) e.2 = true ↔ txtOf e.2 = x
  rw [h1]
  constructor
  · intro z
    rcases keyIs_shape z with ⟨i, t', e1, e2⟩ | ⟨y', t', e1, e2⟩
    · cases e1
    · cases e1
      cases e2
      rfl
  · intro z
    have z' : y = x := z
    subst z'
    exact keyIs_str y t
theorem setS_lay (H : Hp) (h : Heap) : ObjOk P w H (h.push (set0 w)) h.objs.size (SetSO P w h.objs.size []) := by
  refine setS_ok ⟨_, #[], 0, _, ⟨Heap.get?_push_size _ rfl, ⟨rfl, rfl, rfl⟩, rfl, fun e he => by simp at he, List.Perm.refl _, List.nodup_nil, by decide, by rfl, List.Pairwise.nil, ?_⟩⟩
  show _ ∨ (!w.params.followText "set-order") = true
  generalize w.params.followText "set-order" = b
  cases b <;> decide
end
section
variable {P : Program} {w : World} {A : Around} {E : Value → Shared → Prop} {s : Shared} {a : Addr} {ss : List PySem.Str}
/-- what storing new entries leaves -/
theorem setS_put {g : Bool → Sem Unit} (hg : ∀ (b : Bool) (s' : Shared) (Q' : Unit → Shared → Prop), Q' () s' → wpAny (model P w) A (g b) Q' E s') {o : Obj} {es es1 : Array (Int × Value)} {ep : Nat} {t t1 : SetTable} {ss1 : List PySem.Str} {b1 : Bool} {Q : Option Bool → Shared → Prop}
    (ho : s.heap.get? a = some o) (hex : o.ExactSet) (hd : o.data = .set es ep t) (ent : ∀ e ∈ es1.toList, EntT P w e) (mem : (es1.toList.map entTxt).Perm ss1) (nd : ss1.Nodup) (few : es1.size < scanBound)
    (fit : t1.fits es1.size = true) (ris : Ris t1.place.toList) (led : w.params.followText "set-order" = true ∨ t1.led = true)
    (q : ∀ h', Heap.SameBut a s.heap h' → (∃ o es ep t, SetSR P w h' a ss1 o es ep t) → Q (some true) { s with heap := h' }) :
    wpAny (model P w) A (do
        storeSet a es1 t1
        if (!b1 && t1.tooFull) = true then do
            g (relayAll t1 es1 (SetTable.grown es1.size)).2.2
            storeSet a (relayAll t1 es1 (SetTable.grown es1.size)).1 (relayAll t1 es1 (SetTable.grown es1.size)).2.1
            pure (some true)
          else pure (some true)) Q E s := by
  have o1 := store_at (es' := es1) (t' := t1) ho hd
  have c1 := Heap.SameBut.update s.heap a (Obj.putSet es1 t1)
  refine wpAny_bind (wpAny_storeSet_of ho hd ?_ (fits_of_scanBound few))
  by_cases hfull : (!b1 && t1.tooFull) = true
  · rw [if_pos hfull]
    have p2 := relayAll_perm t1 es1 (SetTable.grown es1.size)
    have f2 := relayAll_fits t1 es1 (SetTable.grown es1.size)
    have r2 := relayAll_ris t1 es1 (SetTable.grown es1.size)
    have l2 := relayAll_led t1 es1 (SetTable.grown es1.size)
    generalize relayAll t1 es1 (SetTable.grown es1.size) = Y at p2 f2 r2 l2 ⊢
    obtain ⟨es2, t2, _⟩ := Y
    dsimp only at p2 f2 r2 l2 ⊢
    have few2 : es2.size < scanBound := by
      have e := p2.length_eq
      rw [Array.length_toList, Array.length_toList] at e
      omega
    refine wpAny_bind (hg _ _ _ (wpAny_bind (wpAny_storeSet_of o1 rfl (wpAny_pure (q _ (c1.trans (Heap.SameBut.update _ a _)) ?_)) (fits_of_scanBound few2))))
    exact ⟨_, es2, _, t2, store_at o1 rfl, hex, rfl, fun e he => ent e (p2.mem_iff.mp he), (p2.map entTxt).trans mem, nd, few2, f2, r2, led.imp id fun z => l2.trans z⟩
  · rw [if_neg hfull]
    exact wpAny_pure (q _ c1 ⟨_, es1, _, t1, o1, hex, rfl, ent, mem, nd, few, fit, ris, led⟩)
def addS (ss : List PySem.Str) (x : PySem.Str) : List PySem.Str := if x ∈ ss then ss else ss ++ [x]
theorem setS_hashed {x : PySem.Str} {tk : Tok} {Q : Bool → Shared → Prop} (R : ∃ o es ep t, SetSR P w s.heap a ss o es ep t) (room : ss.length + 1 < scanBound)
    (q : ∀ b h', Heap.SameBut a s.heap h' → (∃ o es ep t, SetSR P w h' a (addS ss x) o es ep t) → Q b { s with heap := h' }) :
    wpAny (model P w) A (setAddHashed a (.str x tk) (hT P w x)) Q E s := by
  obtain ⟨o, es, ep, t, R⟩ := R
  have hk : (mixKind P w).is (.inr x) (.str x tk) = true := mixKind_str P w x tk
  have sc : (Value.str x tk).scannable = true := rfl
  have el : ElemsOf (mixKind P w) es.toList := ent_elems R.ent
  have hlen : es.size = ss.length := by rw [← R.mem.length_eq, List.length_map, Array.length_toList]
  unfold setAddHashed setAddHashedIn
  refine wpAny_holding (wpAny_bind (wpAny_setState_of R.ob R.dt R.fit ?_))
  dsimp only
  rw [byScan_of sc R.few el]
  simp only [↓reduceIte]
  unfold setAddByScan
  refine wpAny_bind (wpAny_bind (wpAny_rule (wpAny_bind (wpAny_setScan_of hk R.ob R.dt R.fit el ?_))))
  have hin : x ∈ ss ↔ ∃ e ∈ es.toList, (mixKind P w).is (.inr x) e.2 = true := by
    rw [← R.mem.mem_iff, List.mem_map]
    exact ⟨fun ⟨e, he, z⟩ => ⟨e, he, (ent_is (R.ent e he) x).mpr z⟩, fun ⟨e, he, z⟩ => ⟨e, he, (ent_is (R.ent e he) x).mp z⟩⟩
  cases hfi : List.findIdx? (fun e => (mixKind P w).is (.inr x) e.2) es.toList with
  | some j =>
    dsimp only
    obtain ⟨hj, pj, _⟩ := List.findIdx?_eq_some_iff_getElem.mp hfi
    have hx : x ∈ ss := hin.mpr ⟨es.toList[j], List.getElem_mem hj, pj⟩
    have z := q false s.heap (Heap.SameBut.refl a s.heap) ⟨o, es, ep, t, by rw [addS, if_pos hx]; exact R⟩
    exact wpAny_pure (wpAny_pure z)
  | none =>
    dsimp only
    have hx : x ∉ ss := fun z => by
      obtain ⟨e, he, z⟩ := hin.mp z
      have c := List.findIdx?_eq_none_iff.mp hfi e he
      rw [z] at c
      cases c
    have pm := layNew_perm t es (hT P w x) (.str x tk)
    have fm := layNew_fits t es (hT P w x) (.str x tk)
    have rm := layNew_ris t es (hT P w x) (.str x tk) R.ris
    have lm := layNew_led t es (hT P w x) (.str x tk)
    generalize layNew t es (hT P w x) (.str x tk) = Y at pm fm rm lm ⊢
    obtain ⟨es1, t1, b1, b2⟩ := Y
    dsimp only at pm fm rm lm ⊢
    rw [Array.toList_push] at pm
    have ent1 : ∀ e ∈ es1.toList, EntT P w e := fun e he => by
      rcases List.mem_append.mp (pm.mem_iff.mp he) with z | z
      · exact R.ent e z
      · rw [List.mem_singleton.mp z]; exact ⟨x, tk, rfl, rfl⟩
    have mem1 : (es1.toList.map entTxt).Perm (addS ss x) := by
      have z := pm.map entTxt
      rw [List.map_append] at z
      rw [addS, if_neg hx]
      exact z.trans (R.mem.append_right _)
    have nd1 : (addS ss x).Nodup := by
      rw [addS, if_neg hx]
      exact List.nodup_append.mpr ⟨R.nd, by simp, fun y hy z hz e => hx (by rw [← List.mem_singleton.mp hz, ← e]; exact hy)⟩
    have few1 : es1.size < scanBound := by
      have e := pm.length_eq
      rw [Array.length_toList, List.length_append, Array.length_toList, List.length_singleton] at e
      omega
    have led1 : w.params.followText "set-order" = true ∨ t1.led = true := R.led.imp id fun z => lm.trans z
    have giv : ∀ (b : Bool) (s' : Shared) (Q' : Unit → Shared → Prop), Q' () s' → wpAny (model P w) A (match b with | true => rule "set.scan.the-table-gave-way" | false => pure ()) Q' E s' := by
      intro b s' Q' z
      cases b
      · exact wpAny_pure z
      · exact wpAny_rule z
    refine wpAny_bind (giv _ _ _ ?_)
    split
    · rw [hashByValue_scannable 8 sc]
      refine wpAny_bind (wpAny_pure ?_)
      refine setS_put giv R.ob R.ex R.dt ent1 mem1 nd1 few1 ?_ ?_ ?_ (fun h' sb r => ?_)
      · first | (split <;> first | exact fm | exact SetTable.fits_plain_off fm) | exact fm
      · first | (split <;> exact rm) | exact rm
      · first | (split <;> exact led1) | exact led1
      · dsimp only; exact wpAny_pure (q true h' sb r)
    · refine wpAny_bind (wpAny_pure ?_)
      simp only [↓reduceIte]
      exact setS_put giv R.ob R.ex R.dt ent1 mem1 nd1 few1 fm rm led1 (fun h' sb r => by dsimp only; exact wpAny_pure (q true h' sb r))
end
end Rs
set_option Elab.async false
set_option linter.all false
set_option maxRecDepth 100000
set_option maxHeartbeats 3200000
/-! Sets of texts: add, set(row), sorted(set), len. -/
namespace Rs
open PySem PySem.Spec PyProof.Rows L2
theorem addS_len (ss : List PySem.Str) (x : PySem.Str) : (addS ss x).length ≤ ss.length + 1 := by
  unfold addS
  split
  · omega
  · simp
def addAll (ss : List PySem.Str) : List PySem.Str → List PySem.Str
  | [] => ss
  | x :: r => addAll (addS ss x) r
theorem mem_addS {ss : List PySem.Str} {x y : PySem.Str} : y ∈ addS ss x ↔ y ∈ ss ∨ y = x := by
  unfold addS
  split
  · rename_i h
    exact ⟨.inl, fun z => z.elim id fun e => e ▸ h⟩
  · simp
theorem nodup_addS {ss : List PySem.Str} {x : PySem.Str} (h : ss.Nodup) : (addS ss x).Nodup := by
  unfold addS
  split
  · exact h
  · rename_i hx
    exact List.nodup_append.mpr ⟨h, by simp, fun y hy z hz e => hx (by rw [← List.mem_singleton.mp hz, ← e]; exact hy)⟩
/-- the unlike ones of a row, in the order in which they come first -/
def uniq (xs : List PySem.Str) : List PySem.Str := xs.foldl addS []
theorem mem_foldS {xs : List PySem.Str} : ∀ {ss : List PySem.Str} {y : PySem.Str}, y ∈ xs.foldl addS ss ↔ y ∈ ss ∨ y ∈ xs := by
  induction xs with
  | nil => intro ss y; simp
  | cons x xs ih =>
    intro ss y
    rw [List.foldl_cons, ih, mem_addS, List.mem_cons, or_assoc]
theorem nodup_foldS {xs : List PySem.Str} : ∀ {ss : List PySem.Str}, ss.Nodup → (xs.foldl addS ss).Nodup := by
  induction xs with
  | nil => intro ss h; exact h
  | cons x xs ih => intro ss h; exact ih (nodup_addS h)
theorem foldS_len {xs : List PySem.Str} : ∀ {ss : List PySem.Str}, (xs.foldl addS ss).length ≤ ss.length + xs.length := by
  induction xs with
  | nil => intro ss; simp
  | cons x xs ih =>
    intro ss
    have h1 := ih (ss := addS ss x)
    have h2 := addS_len ss x
    rw [List.foldl_cons, List.length_cons]
    omega
theorem mem_uniq {xs : List PySem.Str} {y : PySem.Str} : y ∈ uniq xs ↔ y ∈ xs := by
  rw [uniq, mem_foldS]
  simp
theorem nodup_uniq (xs : List PySem.Str) : (uniq xs).Nodup := nodup_foldS List.nodup_nil
theorem uniq_len (xs : List PySem.Str) : (uniq xs).length ≤ xs.length := by
  have := foldS_len (xs := xs) (ss := [])
  rw [List.length_nil, Nat.zero_add] at this
  exact this
theorem uniq_snoc (xs : List PySem.Str) (x : PySem.Str) : uniq (xs ++ [x]) = addS (uniq xs) x := by
  rw [uniq, List.foldl_append] <;> rfl
section
variable {X : Cx}
theorem setS_get {pins : List (Addr × Obj)} {σ : L2.St} {H : Hp} {s : Shared} {a : Addr} {ss : List PySem.Str} (I : L2.Inv X pins σ H s) (ha : H a = some (SetSO X.prog X.w a ss)) : ∃ o es ep t, SetSR X.prog X.w s.heap a ss o es ep t := (I.hok a _ ha).1
def rAddS (P : Program) (w : World) : V → List V → Hp → VK → Prop := fun x xs H Q => ∃ (a : Addr) (y : PySem.Str) (ss : List PySem.Str), x = V.ref a ∧ xs = [.str y] ∧ H a = some (SetSO P w a ss) ∧ ss.length + 1 < scanBound ∧ Q .non (upd H a (SetSO P w a (addS ss y)))
theorem mt_addS : MtR X "set.add" (rAddS X.prog X.w) := by
  intro pins s σ H x xs v us Q I rx rxs h
  obtain ⟨a, y, ss, rfl, rfl, ha, room, q⟩ := h
  cases rx
  cases rxs with
  | cons ry rt =>
    cases rt
    obtain ⟨tk, rfl⟩ := ry
    obtain ⟨o, es, ep, t, R⟩ := setS_get I ha
    refine wpAny_call_entry F.slot_set_add (⟨o, R.ob, R.ex.1⟩ : s.TypeIs (.ref a) "set") F.entry_set_add ?_ (F.args_set_add_2 _ _)
    unfold Builtin.«set.add» Builtin.Frozenset.oneOther
    simp only [List.isEmpty_nil, bind_assoc]
    unfold Builtin.Frozenset.addrOf setAdd
    refine wpAny_bind (wpAny_pure ?_)
    refine wpAny_bind (wpAny_pure (wpAny_bind (wpAny_holding ?_)))
    refine wpAny_bind ((mixKind X.prog X.w).pyHash (k := .inr y) (mixKind_str _ _ _ _) ?_)
    refine setS_hashed (s := { s with toks := s.toks + 1 }) ⟨o, es, ep, t, R⟩ room fun b h' sb R' => ?_
    refine wpAny_pure ⟨Value.none, rfl, ?_⟩
    have he : ∃ u, h'.get? a = some u := let ⟨o, _, _, _, r⟩ := R'; ⟨o, r.ob⟩
    exact ⟨.non, upd H a (SetSO X.prog X.w a (addS ss y)), I.write (e := a) (t' := s.toks + 1) (by rw [ha]; trivial) (.inl rfl) (fun b u hb hu => (sb.2 b hb).trans hu) he (setS_ok R'), rfl, q⟩
/-- len of such a set -/
def rLenS (P : Program) (w : World) : List V → Hp → VK → Prop := fun xs H Q => ∃ a ss, xs = [.ref a] ∧ H a = some (SetSO P w a ss) ∧ Q (.int (ss.length : Nat)) H
theorem cr_lenS : CallR X (.builtin "len") (rLenS X.prog X.w) := by
  intro pins s σ H xs us Q I r h
  obtain ⟨a, ss, rfl, ha, q⟩ := h
  rw [Vals.ref1 r]
  obtain ⟨o, es, ep, t, R⟩ := setS_get I ha
  have : (scanBound : Int) < 2 ^ 63 := by decide
  have few := R.few
  have hl : es.size = ss.length := by rw [← R.mem.length_eq, List.length_map, Array.length_toList]
  exact call_len_set R.ob R.ex R.dt R.fit (by omega) ⟨.int (ss.length : Nat), H, I.tok _, ⟨_, by rw [hl]⟩, q⟩
/-- sorted of such a set -/
def rSortSet (P : Program) (w : World) : List V → Hp → VK → Prop := fun xs H Q => ∃ a ss, xs = [.ref a] ∧ H a = some (SetSO P w a ss) ∧ ∀ l, H l = none → Q (.ref l) (upd H l (.lst ((isort strLt ss).map V.str)))
theorem cr_sortSet (hc : X.calm = true) : CallR X (.builtin "sorted") (rSortSet X.prog X.w) := by
  intro pins s σ H xs us Q I r h
  obtain ⟨p, ss, rfl, ha, q⟩ := h
  rw [Vals.ref1 r]
  obtain ⟨o, es, ep, t, R⟩ := setS_get I ha
  refine Calls.call_function_entry kind_sorted plain_sorted entry_sorted (args_sorted1 _) ?_
  unfold Builtin.«sorted»
  refine wpAny_bind (m := checkCount "sorted" 1 1 _) (wpAny_pure ?_)
  refine wpAny_bind (collect_set (A := X.A.in1) (I.ok.hd hc) ⟨o, R.ob, R.ex.1, R.dt⟩ R.fit R.few R.ris R.led fun s' vs kp _ hg ho pm => ?_)
  have J : L2.Inv X pins σ H s' := I.call' (ch := []) ho (Un.kept kp) (I.hok.kept kp) (by rw [hg]; exact I.bare) (fun _ z => nomatch z)
  have hall : ∀ v ∈ vs, ∃ x t, v = Value.str x t := fun v hv => by
    obtain ⟨e, he, z⟩ := List.mem_map.mp (pm.mem_iff.mp hv)
    obtain ⟨x, t, h1, _⟩ := R.ent e he
    exact ⟨x, t, by rw [← z]; exact h1⟩
  have pss : (vs.map txtOf).Perm ss := by
    have z := pm.map txtOf
    rw [List.map_map] at z
    exact z.trans R.mem
  have hlen : vs.length = es.size := by rw [pm.length_eq, List.length_map, Array.length_toList]
  refine sort_tail J (swo_of strLt_tot txtOf) (by rw [hlen]; exact fits_of_scanBound R.few) (fun h2 h₁ a _ _ => sortable_txt h2 (strs_vals (vals_txt hall))) fun out l hs hp hn => ?_
  refine ⟨(out.map txtOf).map V.str, vals_txt fun v hv => hall v (hp.mem_iff.mp hv), ?_⟩
  rw [isort_of strLt_tot (up_map.mp hs) (hp.map txtOf), isort_congr strLt_tot pss]
  exact q l hn
end
/-! ### set(row) of texts -/
section
variable {P : Program} {w : World} {A : Around} {E : Value → Shared → Prop} {s : Shared}
theorem set_update_txts {I : Addr} {fp wr : List Addr} {G : Array GenState → Array GenState → Prop} {n : Nat} {Pv : Nat → Value → Prop} {St : Nat → Shared → Prop} {R : Result → Shared → Prop}
    (W : WalksS P w A.in1 I fp wr G n Pv St) (S : Addr) (hSf : S ∉ fp) (xs : List PySem.Str) (hn : n = xs.length) (hb : xs.length + 1 < scanBound) (hval : ∀ i v, Pv i v → ∃ x t, xs[i]? = some x ∧ v = .str x t) :
    ∀ (k i : Nat) (s : Shared), n - i = k → i ≤ n → St i s → (∃ o es ep t, SetSR P w s.heap S (uniq (xs.take i)) o es ep t) →
      (∀ s', Moved (S :: wr) G s s' → (∃ o es ep t, SetSR P w s'.heap S (uniq xs) o es ep t) → R (.ok (.ret .none)) s') →
      codeAny (model P w) A (.builtin "set.update.loop" ⟨[.ref S, .ref I], []⟩) R s := by
  have nw : S ∉ wr := fun h => hSf (W.sub _ h)
  have sub : ∀ b ∈ wr, b ∈ S :: wr := fun b hb => List.mem_cons_of_mem _ hb
  intro k
  induction k with
  | zero =>
    intro i s hk hi hst hS hR
    obtain rfl : i = n := by omega
    refine codeAny_builtin F.entry_set_update_loop ?_
    rw [Around.under_plainId F.plain_set_update_loop _]
    show wpAny _ A.in1 (pyNext (.ref I) >>= _) _ _ s
    refine wpAny_bind (W.done s _ _ hst fun s1 hm => ?_)
    show wpAny _ A.in1 (ret Value.none) _ _ s1
    rw [List.take_of_length_le (by omega)] at hS
    obtain ⟨o, es, ep, t, r⟩ := hS
    exact wpAny_pure (hR s1 (hm.mono sub) ⟨o, es, ep, t, r.at fun u e => hm.heap S u nw e⟩)
  | succ k ih =>
    intro i s hk hi hst hS hR
    have hlt : i < n := by omega
    refine codeAny_builtin F.entry_set_update_loop ?_
    rw [Around.under_plainId F.plain_set_update_loop _]
    show wpAny _ A.in1 (pyNext (.ref I) >>= _) _ _ s
    refine wpAny_bind (W.item i s _ _ hlt hst fun v s1 hP hst1 hm => ?_)
    obtain ⟨x, t, hx, rfl⟩ := hval i v hP
    have hS1 : ∃ o es ep t, SetSR P w s1.heap S (uniq (xs.take i)) o es ep t := let ⟨o, es, ep, t, r⟩ := hS; ⟨o, es, ep, t, r.at fun u e => hm.heap S u nw e⟩
    show wpAny _ A.in1 (holding [Value.str x t] (setAdd S (.str x t)) >>= _) _ _ s1
    refine wpAny_bind (wpAny_holding ?_)
    unfold setAdd
    refine wpAny_holding (wpAny_bind ((mixKind P w).pyHash (k := .inr x) (mixKind_str _ _ _ _) ?_))
    have hl := uniq_len (xs.take i)
    rw [List.length_take] at hl
    refine setS_hashed (s := { s1 with toks := s1.toks + 1 }) hS1 (by omega) fun b h2 sb R2 => ?_
    rw [← uniq_snoc] at R2
    have et : xs.take i ++ [x] = xs.take (i + 1) := by rw [List.take_add_one, hx] <;> rfl
    rw [et] at R2
    refine wpAny_pure ⟨plainId_quiet F.plain_set_update_loop _, ih (i + 1) _ (by omega) hlt (W.frame _ s1 _ _ hst1 (Nat.le_succ _) fun c hc u e => ?_) R2 fun s3 hm3 R3 => ?_⟩
    · rw [sb.2 c (fun z : c = S => hSf (z ▸ hc))]; exact e
    · refine hR s3 (Moved.trans W.gtrans ((hm.mono sub).then_heap (Nat.le_succ _) fun c u hc e => ?_) hm3) R3
      rw [sb.2 c (fun z : c = S => hc (z ▸ List.mem_cons_self))]; exact e
end
end Rs
set_option Elab.async false
set_option linter.all false
set_option maxRecDepth 100000
set_option maxHeartbeats 3200000
/-! set(row) of a list of texts. -/
namespace Rs
open PySem PySem.Spec PyProof.Rows L2
section
variable {P : Program} {w : World} {A : Around} {E : Value → Shared → Prop} {s : Shared}
theorem setS_start {h : Heap} {a : Addr} (ho : h.get? a = some (set0 w)) : ∃ o es ep t, SetSR P w h a [] o es ep t := by
  refine ⟨_, #[], 0, _, ho, ⟨rfl, rfl, rfl⟩, rfl, fun e he => by simp at he, List.Perm.refl _, List.nodup_nil, by decide, by rfl, List.Pairwise.nil, ?_⟩
  show _ ∨ (!w.params.followText "set-order") = true
  generalize w.params.followText "set-order" = b
  cases b <;> decide
theorem strs_nth : ∀ {us : List Value} {xs : List PySem.Str}, StrsAre us xs → ∀ (i : Nat) (v : Value), us[i]? = some v → ∃ x t, xs[i]? = some x ∧ v = .str x t
  | _, _, .nil, i, v, h => by simp at h
  | _, _, .cons x t r, 0, v, h => by
    simp at h
    exact ⟨x, t, rfl, h.symm⟩
  | _, _, .cons x t r, i + 1, v, h => by
    obtain ⟨y, t', h1, h2⟩ := strs_nth r i v (by simpa using h)
    exact ⟨y, t', by simpa using h1, h2⟩
theorem set_of_txts {l : Addr} {its : Array Value} (xs : List PySem.Str) {Q : Value → Shared → Prop} (hh : A.handled = none) (hl : s.heap.IsList l its) (hit : StrsAre its.toList xs) (hb : xs.length + 1 < scanBound)
    (q : ∀ (h1 : Heap) (tk : Nat), (∃ o es ep t, SetSR P w h1 s.heap.objs.size (uniq xs) o es ep t) → (∀ b o, s.heap.get? b = some o → h1.get? b = some o) → Q (.ref s.heap.objs.size) { s with heap := h1, toks := tk }) :
    wpAny (model P w) A (call (.type "set") [.ref l]) Q E s := by
  have hsz : its.size = xs.length := by rw [← Array.length_toList]; exact StrsAre.len_eq hit
  obtain ⟨c, tl, hmro⟩ := F.called_set.mro
  have m1 := F.called_set.made
  have m2 := F.called_set.sub
  refine wpAny_call (codeAny_of_tree ?_)
  show wpAny _ _ (callAny (.type "set") _) _ _ _
  refine wpAny_pure ⟨Code.quiet_builtin _ (by decide +kernel), codeAny_builtin F.entry_type_call ?_⟩
  rw [Around.under_plain (weight_type_call_type "set" [.ref l] []) rfl]
  have m3 := F.called_set.notType
  have m4 := F.called_set.canCreate
  have m5 := F.typeCall_set_1 (.ref l)
  repeat (any_goals (first | assumption | wp_step))
  refine codeAny_mono (code_set_led1 (.ref l) (E := E) (Q₁ := fun v s1 => v = .ref s.heap.objs.size ∧ s1 = { s with heap := s.heap.push (set0 w) }) ⟨rfl, rfl⟩) fun r s1 hr => ?_
  cases r with
  | error e => exact hr
  | ok fl =>
    cases fl with
    | ret v =>
      obtain ⟨rfl, rfl⟩ := hr
      have hS : (s.heap.push (set0 w)).get? s.heap.objs.size = some (set0 w) := Heap.get?_push_size _ rfl
      have hT : Shared.TypeIs { s with heap := s.heap.push (set0 w) } (.ref s.heap.objs.size) "set" := ⟨_, hS, rfl⟩
      have i1 := F.called_set.init.lookup
      have i2 := F.called_set.init.bind (.ref s.heap.objs.size)
      repeat (any_goals (first | assumption | wp_step))
      refine codeAny_mono (codeAny_call_builtin (R := wants (fun r s2 => r = .none ∧ ∃ h1 tk, s2 = { s with heap := h1, toks := tk } ∧ (∃ o es ep t, SetSR P w h1 s.heap.objs.size (uniq xs) o es ep t) ∧ ∀ b o, s.heap.get? b = some o → h1.get? b = some o) E) F.called_set.init.plain F.entry_set_init (check_set_init_1 hT ?_)) fun r2 s2 hr2 => ?_
      · obtain ⟨⟨oc, od, ot, os⟩, hol, hcl, nl, hdl⟩ := hl
        simp only at hcl hdl
        subst hcl hdl
        have hol1 : (s.heap.push (set0 w)).get? l = some { cls := .type "list", dict := od, data := .seq its nl, slots := os } := Heap.get?_push_of_some _ hol
        have u1 := F.sub_list_set
        have u2 := F.sub_list_frozenset
        have u3 : (Value.type "list" == Value.type "dict") = false := by decide
        have hl1 : (s.heap.push (set0 w)).IsList l its := ⟨_, hol1, rfl, nl, rfl⟩
        unfold Builtin.«set.__init__» noKeywords Builtin.Frozenset.updateFrom
        generalize hPI : pyIter = PI
        wp_walk
        subst hPI
        refine wpAny_pyIter_list hl1 (wpAny_bind (wpAny_runValue ?_))
        have hlS : l < s.heap.objs.size := Heap.lt_size hol
        have hh3 : A.in1.in1.in1.handled = none := by simp [hh]
        have zS : (s.heap.push (set0 w)).objs.size = s.heap.objs.size + 1 := Heap.size_push ..
        have nI : l ≠ (s.heap.push (set0 w)).objs.size := by rw [zS]; exact Nat.ne_of_lt (Nat.lt_succ_of_lt hlS)
        have nS : s.heap.objs.size ∉ [(s.heap.push (set0 w)).objs.size, l] := by
          rw [zS]
          simp only [List.mem_cons, List.not_mem_nil, or_false, not_or]
          exact ⟨Nat.ne_of_lt (Nat.lt_succ_self _), Nat.ne_of_gt hlS⟩
        have hval : ∀ (i : Nat) (v : Value), its[i]? = some v → ∃ x t, xs[i]? = some x ∧ v = .str x t := fun i v hv => strs_nth hit i v (by rw [Array.getElem?_toList]; exact hv)
        refine set_update_txts ((Walks.list hh3 _ l nI its).toS) s.heap.objs.size nS xs hsz hb hval (its.size - 0) 0 _ (by omega) (Nat.zero_le _)
          ⟨⟨_, Heap.get?_push_size _ rfl, rfl, rfl⟩, (hl1.push _)⟩ ?st ?fin
        case st => exact setS_start (Heap.get?_push_of_some _ hS)
        case fin =>
          intro s3 hm R3
          obtain ⟨h3, g3, d3, t3, o3⟩ := s3
          obtain rfl : g3 = s.gens := hm.gens
          obtain rfl : d3 = s.drawn := hm.drawn
          obtain rfl : o3 = s.os := hm.os
          show wpAny _ _ _ _ _ _
          refine wpAny_pure ?_
          show wpAny _ _ (ret Value.none) _ _ _
          refine wpAny_pure ⟨rfl, h3, t3, rfl, R3, fun b o e => ?_⟩
          have hb0 : b < s.heap.objs.size := Heap.lt_size e
          exact hm.heap b o (by simp only [List.mem_cons, List.not_mem_nil, or_false, not_or]; rw [zS]; exact ⟨Nat.ne_of_lt hb0, Nat.ne_of_lt (Nat.lt_succ_of_lt hb0)⟩) (Heap.get?_push_of_some _ (Heap.get?_push_of_some _ e))
      · cases r2 with
        | error e => exact hr2
        | ok fl2 =>
          cases fl2 with
          | ret r =>
            obtain ⟨rfl, h1, tk, rfl, R3, k3⟩ := hr2
            repeat (any_goals (first | assumption | wp_step))
            exact q _ _ R3 k3
          | _ => exact hr2.elim
    | _ => exact hr.elim
end
def rSetOfS (K : PySem.W.Frag) (P : Program) (w : World) : List V → Hp → VK → Prop := fun vs H Q => ∃ (l : Addr) (xs : List PySem.Str), vs = [.ref l] ∧ SqL K H l (xs.map V.str) ∧ xs.length + 1 < scanBound ∧ ∀ a, H a = none → Q (.ref a) (upd H a (SetSO P w a (uniq xs)))
theorem cr_setOfS {X : Cx} (hc : X.calm = true) : CallR X (.type "set") (rSetOfS X.K X.prog X.w) := by
  intro pins s σ H vs us Q I r h
  obtain ⟨l, xs, rfl, hl, hb, q⟩ := h
  rw [Vals.ref1 r]
  obtain ⟨its, rv, pl, hz⟩ := I.list hl
  refine set_of_txts (P := X.prog) (w := X.w) xs (I.ok.hd hc) pl.isList (by simpa using strs_vals rv) hb fun h1 tk R k => ?_
  exact ⟨.ref s.heap.objs.size, upd H s.heap.objs.size (SetSO X.prog X.w s.heap.objs.size (uniq xs)), I.laid (t' := tk) k (Nat.le_refl _) (setS_ok R), rfl, q _ (I.hok.fresh (Nat.le_refl _))⟩
end Rs
set_option Elab.async false
set_option linter.all false
set_option maxRecDepth 100000
set_option maxHeartbeats 2000000
namespace Rs
open PySem PySem.Spec PyProof.Rows L2
section
variable {P : Program} {w : World} {K : PySem.W.Frag} {mg : PySem.Str → Option Value} {base : Heap}
/-! ### errors with one field -/
def sp_err (C : Addr) (f : PySem.Str) : Sp := fun vs H Q _ => ∃ a y, vs = [.ref a, y] ∧ H a = some (exo a C none) ∧ ∀ dx, H dx = none → dx ≠ a → Q .non (upd (upd H dx (exd dx [(f, y)])) a (exo a C (some dx)))
/-- what is raised: the class, and its one field in a new dict -/
def Raised (C : Addr) (f : PySem.Str) (y : V) (H : Hp) (E : XK) : Prop := ∀ H' d, Same H H' → H d = none → H' d = some (.xd [(f, y)]) → E (.ref C) (some d) H'
theorem Raised.same {C : Addr} {f : PySem.Str} {y : V} {H H1 : Hp} {E : XK} (s : Same H H1) (h : Raised C f y H E) : Raised C f y H1 E := fun H' d s' hd e => h H' d (s.trans s') (s.free hd) e
theorem err_made {C : Addr} {f : PySem.Str} {y : V} {H : Hp} {E : XK} (h : Raised C f y H E) : ∀ a, H a = none → sp_err C f [.ref a, y] (upd H a (exo a C none))
    (fun v H2 => v = .non ∧ ∃ d : Addr, H2 a = some (exo a C (some d)) ∧ ∃ fs : List (PySem.Str × V), H2 d = some (exd d fs) ∧ H d = none ∧ E (.ref C) (some d) (upd (del H2 a) d (.xd fs))) (fun _ _ _ => False) := by
  intro a ha
  refine ⟨a, y, rfl, upd_same, fun dx hdx ne => ⟨rfl, dx, upd_same, _, by rw [upd_ne ne]; exact upd_same, by rw [upd_ne ne] at hdx; exact hdx, ?_⟩⟩
  have hd : H dx = none := by rw [upd_ne ne] at hdx; exact hdx
  refine h _ dx (fun b u e => ?_) hd upd_same
  have nb : b ≠ a := ne_of_none e ha
  have nd : b ≠ dx := ne_of_none e hd
  rw [upd_ne nd, del_ne nb, upd_ne nb, upd_ne nd, upd_ne nb]
  exact e
theorem err_raw {C : Addr} {f : PySem.Str} {y : V} {H : Hp} {E : XK} (h : Raised C f y H E) : ∀ a, H a = none → sp_err C f [.ref a, y] (upd H a (exo a C none))
    (fun v H2 => v = .non ∧ ∃ (d : Addr) (fs : List (PySem.Str × V)), H2 a = some (exo a C (some d)) ∧ H2 d = some (exd d fs) ∧ H d = none ∧ E (.ref C) (some d) (upd (del H2 a) d (.xd fs))) (fun _ _ _ => False) := by
  intro a ha
  obtain ⟨b, y', e, h1, h2⟩ := err_made h a ha
  refine ⟨b, y', e, h1, fun dx n1 n2 => ?_⟩
  obtain ⟨z1, d, z2, fs, z3, z4, z5⟩ := h2 dx n1 n2
  exact ⟨z1, d, fs, z2, z3, z4, z5⟩
end
end Rs
set_option Elab.async false
set_option linter.all false
set_option maxRecDepth 100000
set_option maxHeartbeats 2000000
/-! a, b = row, the row a list or a tuple. -/
namespace Rs
open PySem PySem.Spec PyProof.Rows L2
def gRow (K : PySem.W.Frag) (n : Nat) (t : TGs) : TG := fun v σ H Q => ∃ a xs, v = .ref a ∧ (SqL K H a xs ∨ SqT K H a xs) ∧ xs.length = n ∧ t xs σ H Q
theorem pg_row {X : Cx} {es : List Expr} {k : Nat} {t : TGs} {n : Nat} {pos : Pos} (hc : X.calm = true) (h : PGs X es t)
    (hn : (assignEach es X.env).length = n := by rfl) (hst : (assignEach es X.env).findIdx? (·.1) = none := by rfl) : PG X (.Tuple es k pos) (gRow X.K n t) := by
  refine ⟨fun pins s σ H v u Q I r hw => ?_⟩
  obtain ⟨a, xs, e, hq, hl, hw⟩ := hw
  rcases hq with hq | hq
  · exact (pg_lst hc h hn hst).run pins s σ H v u Q I r ⟨a, xs, e, hq, hl, hw⟩
  · exact (pg_tup hc h hn hst).run pins s σ H v u Q I r ⟨a, xs, e, hq, hl, hw⟩
end Rs
set_option Elab.async false
set_option linter.all false
set_option maxRecDepth 100000
set_option maxHeartbeats 2000000
/-! == of texts, pairs of texts and rows of them. -/
namespace Rs
open PySem PySem.Spec PyProof.Rows L2
abbrev TxOk (x : PySem.Str) : Prop := (PyData.str x).canLay0 = true
abbrev dPr (o : PySem.Str × PySem.Str) : PyData := .tuple [.str o.1, .str o.2]
theorem eqv_txt (x y : PySem.Str) : PyData.eqv (.str x) (.str y) = decide (x = y) := by
  show (x == y) = _
  by_cases e : x = y
  · subst e; simp
  · rw [decide_eq_false e]; exact beq_eq_false_iff_ne.mpr e
theorem eqvAll_txts : ∀ (xs ys : List PySem.Str), PyData.eqvAll (xs.map PyData.str) (ys.map PyData.str) = decide (xs = ys)
  | [], [] => rfl
  | [], _ :: _ => rfl
  | _ :: _, [] => rfl
  | x :: xs, y :: ys => by
    show (PyData.eqv (.str x) (.str y) && PyData.eqvAll (xs.map PyData.str) (ys.map PyData.str)) = _
    rw [eqv_txt, eqvAll_txts xs ys]
    simp [Bool.decide_and]
theorem eqv_pr (o p : PySem.Str × PySem.Str) : PyData.eqv (dPr o) (dPr p) = decide (o = p) := by
  show (PyData.eqv (.str o.1) (.str p.1) && (PyData.eqv (.str o.2) (.str p.2) && true)) = _
  rw [eqv_txt, eqv_txt, Bool.and_true]
  obtain ⟨a, b⟩ := o
  obtain ⟨c, d⟩ := p
  simp [Bool.decide_and]
theorem eqvAll_prs : ∀ (xs ys : List (PySem.Str × PySem.Str)), PyData.eqvAll (xs.map dPr) (ys.map dPr) = decide (xs = ys)
  | [], [] => rfl
  | [], _ :: _ => rfl
  | _ :: _, [] => rfl
  | x :: xs, y :: ys => by
    show (PyData.eqv (dPr x) (dPr y) && PyData.eqvAll (xs.map dPr) (ys.map dPr)) = _
    rw [eqv_pr, eqvAll_prs xs ys]
    simp [Bool.decide_and]
theorem lay_all : ∀ (ds : List PyData), (∀ d ∈ ds, d.canLay0 = true) → PyData.canLayAll0 ds = true
  | [], _ => rfl
  | d :: ds, h => by
    show (d.canLay0 && PyData.canLayAll0 ds) = true
    rw [h d List.mem_cons_self, lay_all ds fun e he => h e (List.mem_cons_of_mem _ he)] <;> rfl
theorem depth_all {n : Nat} : ∀ (ds : List PyData), (∀ d ∈ ds, d.depth ≤ n) → PyData.depthAll ds ≤ n
  | [], _ => Nat.zero_le _
  | d :: ds, h => by
    show max d.depth (PyData.depthAll ds) ≤ n
    have h1 := h d List.mem_cons_self
    have h2 := depth_all ds fun e he => h e (List.mem_cons_of_mem _ he)
    omega
theorem shaped_of {d : PyData} (h1 : d.canLay0 = true) (h2 : d.depth ≤ 64) : SeqAt.shaped d = true := by
  unfold SeqAt.shaped
  rw [h1, decide_eq_true h2] <;> rfl
theorem pr_lay {o : PySem.Str × PySem.Str} (h1 : TxOk o.1) (h2 : TxOk o.2) : (dPr o).canLay0 = true := by
  show ((PyData.str o.1).canLay0 && ((PyData.str o.2).canLay0 && true)) = true
  rw [h1, h2] <;> rfl
theorem pr_depth (o : PySem.Str × PySem.Str) : (dPr o).depth ≤ 1 := by
  show max 0 (max 0 0) + 1 ≤ 1
  decide
theorem shaped_txt {x : PySem.Str} (h : TxOk x) : SeqAt.shaped (.str x) = true := shaped_of h (by show 0 ≤ 64; decide)
theorem shaped_ltx {ss : List PySem.Str} (h : ∀ x ∈ ss, TxOk x) : SeqAt.shaped (.list (ss.map PyData.str)) = true := by
  refine shaped_of (lay_all _ fun d hd => ?_) ?_
  · obtain ⟨x, hx, rfl⟩ := List.mem_map.mp hd
    exact h x hx
  · show PyData.depthAll _ + 1 ≤ 64
    have := depth_all (n := 0) (ss.map PyData.str) fun d hd => by obtain ⟨x, hx, rfl⟩ := List.mem_map.mp hd; exact Nat.le_refl _
    omega
theorem shaped_pr {o : PySem.Str × PySem.Str} (h1 : TxOk o.1) (h2 : TxOk o.2) : SeqAt.shaped (dPr o) = true := shaped_of (pr_lay h1 h2) (by have := pr_depth o; omega)
theorem lay_prs {os : List (PySem.Str × PySem.Str)} (h : ∀ o ∈ os, TxOk o.1 ∧ TxOk o.2) : PyData.canLayAll0 (os.map dPr) = true := lay_all _ fun d hd => by
  obtain ⟨o, ho, rfl⟩ := List.mem_map.mp hd
  exact pr_lay (h o ho).1 (h o ho).2
theorem depth_prs (os : List (PySem.Str × PySem.Str)) : PyData.depthAll (os.map dPr) ≤ 1 := depth_all _ fun d hd => by
  obtain ⟨o, _, rfl⟩ := List.mem_map.mp hd
  exact pr_depth o
theorem shaped_lpr {os : List (PySem.Str × PySem.Str)} (h : ∀ o ∈ os, TxOk o.1 ∧ TxOk o.2) : SeqAt.shaped (.list (os.map dPr)) = true :=
  shaped_of (lay_prs h) (by show PyData.depthAll _ + 1 ≤ 64; have := depth_prs os; omega)
theorem shaped_tpr {os : List (PySem.Str × PySem.Str)} (h : ∀ o ∈ os, TxOk o.1 ∧ TxOk o.2) : SeqAt.shaped (.tuple (os.map dPr)) = true :=
  shaped_of (lay_prs h) (by show PyData.depthAll _ + 1 ≤ 64; have := depth_prs os; omega)
section
variable {K : PySem.W.Frag} {H : Hp}
theorem dp_txts : ∀ (ss : List PySem.Str), DpAll K H (ss.map V.str) (ss.map PyData.str)
  | [] => .nil
  | x :: ss => .cons (.str x) (dp_txts ss)
theorem dp_pr {b : Addr} {o : PySem.Str × PySem.Str} (h : SqT K H b [.str o.1, .str o.2]) : Dp K H (.ref b) (dPr o) := .tup h (.cons (.str _) (.cons (.str _) .nil))
theorem dp_prs : ∀ {os : List (PySem.Str × PySem.Str)} {cs : List Addr}, Paired (fun o b => SqT K H b [.str o.1, .str o.2]) os cs → DpAll K H (cs.map V.ref) (os.map dPr)
  | _, _, .nil => .nil
  | _, _, .cons h t => .cons (dp_pr h) (dp_prs t)
end
theorem any_prs (os : List (PySem.Str × PySem.Str)) (o : PySem.Str × PySem.Str) : ((os.map dPr).any fun z => PyData.eqv z (dPr o)) = decide (o ∈ os) := by
  rw [List.any_map]
  by_cases h : o ∈ os
  · rw [decide_eq_true h, List.any_eq_true]
    exact ⟨o, h, by show PyData.eqv (dPr o) (dPr o) = true; rw [eqv_pr]; simp⟩
  · rw [decide_eq_false h, List.any_eq_false]
    intro p hp
    show ¬ PyData.eqv (dPr p) (dPr o) = true
    rw [eqv_pr]
    intro z
    exact h (of_decide_eq_true z ▸ hp)
end Rs
set_option Elab.async false
set_option linter.all false
set_option maxRecDepth 100000
set_option maxHeartbeats 2000000
/-! A local that holds a def of the module, which may raise; isinstance of the error in hand. -/
namespace Rs
open PySem PySem.Spec PyProof.Rows L2
def tCalLW (i : Nat) (f : Addr) (sp : Sp) (W : WX) (t : TA) : TE := fun σ H Q => σ[i]? = some (some (.ref f)) ∧ t σ H fun vs H1 => sp vs H1 Q (at_ W σ)
theorem pe_calLW {X : Cx} {k i : Nat} {y x : PySem.Str} {f : Addr} {ps : List PySem.Str} {sp : Sp} {W : WX} {p pos : Pos} {e : Expr} {es : List Expr} {t : TA} (c : Cal X.prog X.w X.K X.mg X.base k y ps sp) (g : X.mg y = some (.ref f)) (hr : Room k X.A) (tk : Takes X W) (hN : X.N[i]? = some x) (hv : Vis X.env.scope x) (ha : PA X (e :: es) t)
    (hdb : (x == ("__debug__" : PySem.Str)) = false := by decide) (hcd : (x == ("__classdict__" : PySem.Str)) = false := by decide)
    (he : starEach (e :: es) X.env = (false, eval e X.env) :: starEach es X.env := by rfl) (hpl : (backTo pos (starEach es X.env)).any (·.1) = false := by rfl) : PE X (.Call (.Name x p) (e :: es) [] pos) (tCalLW i f sp W t) := by
  obtain ⟨f', fd, F, hm, hk, hb⟩ := c.ex
  cases Option.some.inj (hm.symm.trans g)
  refine ⟨fun pins s σ H Q I h => ?_⟩
  obtain ⟨hs, ht⟩ := h
  refine wpAny_Call_Name_kw (thn ((pe_var (pos := p) hN hv hdb hcd).run pins s σ H (fun v H1 => v = .ref f ∧ H1 = H) I ⟨.ref f, hs, rfl, rfl⟩) fun u s1 ⟨v, H1, I1, r1, q1⟩ => ?_)
  obtain ⟨rfl, rfl⟩ := q1
  cases r1
  exact PySem.W.callWith_K (h₀ := X.base) I.ok.mod.kin hk (thn (ha.run pos pins s1 σ _ _ I1 ht) fun us s2 ⟨vs, H2, I2, r, q⟩ => ⟨I2.kIn, run_fnS (E := at_ W) F hr hb (pass_at tk σ) I2 r q⟩) he hpl
/-- isinstance of the error in hand, of the class D -/
def rIsXd (K : PySem.W.Frag) (D a : Addr) (cls : Value) (d : Option Addr) : List V → Hp → VK → Prop := fun xs H Q => cls = .ref D ∧ rIsX K D a d xs H Q
theorem call_isXd {X : Cx} {a D : Addr} {d : Option Addr} {oe : Obj} {cls : Value} {pn : List (Addr × Obj)} (C : ExcC X.K D) (hz : Zc cls d oe) (hf : ∃ vs, oe.data = .fields vs) : CallR (X.suite a ((a, oe) :: pn)) (.builtin "isinstance") (rIsXd X.K D a cls d) := by
  intro pins s σ H xs us Q I r h
  obtain ⟨rfl, h⟩ := h
  exact call_isX C hz hf pins s σ H xs us Q I r h
def rListOf (K : PySem.W.Frag) : List V → Hp → VK → Prop := fun xs H Q => ∃ p ys, xs = [.ref p] ∧ (SqL K H p ys ∨ SqT K H p ys) ∧ ∀ l, H l = none → Q (.ref l) (upd H l (.lst ys))
theorem call_listOf {X : Cx} : CallR X (.type "list") (rListOf X.K) := call_list_of
end Rs
set_option Elab.async false
set_option linter.all false
set_option maxRecDepth 100000
set_option maxHeartbeats 0
namespace Rs
open PySem PySem.Spec PyProof.Rows L2
def top (i : Nat) : Stmt := PySem.Challenge.pw_rightstate_k03_histories_of_kinds.main.body.getD i (.Pass ⟨0, 0, 0, 0⟩)
abbrev s_BadKind_init : Stmt := inClass (top 3) 0
abbrev s_BadHistory_init : Stmt := inClass (top 4) 0
abbrev s_is_row : Stmt := top 10
abbrev s_is_text_of : Stmt := top 11
abbrev s_is_name : Stmt := top 12
abbrev s_is_error : Stmt := top 13
abbrev s_is_word : Stmt := top 14
abbrev s_are_unlike : Stmt := top 15
abbrev s_is_pair : Stmt := top 20
abbrev s_is_key : Stmt := top 21
abbrev s_are_ends : Stmt := top 22
abbrev s_are_outcomes : Stmt := top 23
abbrev s_are_moves : Stmt := top 24
abbrev s_Kind_init : Stmt := inClass (top 25) 0
abbrev s_Kind_name : Stmt := inClass (top 25) 1
abbrev s_Kind_start : Stmt := inClass (top 25) 2
abbrev s_Kind_ends : Stmt := inClass (top 25) 3
abbrev s_Kind_states : Stmt := inClass (top 25) 4
abbrev s_Kind_methods : Stmt := inClass (top 25) 5
abbrev s_Kind_moves : Stmt := inClass (top 25) 6
abbrev s_Kind_getitem : Stmt := inClass (top 25) 8
abbrev s_Kind_contains : Stmt := inClass (top 25) 9
abbrev s_Kind_iter : Stmt := inClass (top 25) 10
abbrev s_Kind_eq : Stmt := inClass (top 25) 11
abbrev s_look_history : Stmt := top 26
abbrev s_led : Stmt := top 27
abbrev s_after : Stmt := top 28
abbrev s_allowed : Stmt := top 29
abbrev s_l_source : Stmt := top 31
abbrev s_l_draw : Stmt := top 32
abbrev s_l_pick : Stmt := top 33
abbrev s_l_words : Stmt := top 34
abbrev s_l_sort : Stmt := top 35
abbrev s_l_sorts : Stmt := top 36
abbrev s_l_led : Stmt := top 37
abbrev s_l_history : Stmt := top 38
abbrev s_l_said : Stmt := top 39
abbrev s_law : Stmt := top 40
def faT0 : List Tst := [fF (.free "isinstance"), fF (.free "list"), fF (.free "tuple"), fF (.free "str"), fF (.free "all"), fF (.free "len"), fF (.free "dict"), fF (.free "sorted"), fF (.free "property"), fF (.free "TypeError"), fF (.free "enumerate"), fF (.free "int"), fF (.free "range"), fF (.free "set"), fF (.str "SMALL" "abcdefghijklmnopqrstuvwxyz"), fF (.str "LARGE" "ABCDEFGHIJKLMNOPQRSTUVWXYZ"), fF (.int "MOST_SIGNS" 8), tTupS "ANSWERS" ["yes", "no"], fF (.int "MOST_STATES" 60), fF (.int "MOST_METHODS" 8)]
def faT1 : List Tst := [fF (.int "MOST_OUTCOMES" 8), fF (.glo "RightError"), tOex "RightError", tExc "RightError", fF (.glo "BadKind"), tOex "BadKind", tExc "BadKind", tIni "BadKind", fF (.noat "BadKind" "part"), fF (.glo "BadHistory"), tOex "BadHistory", tExc "BadHistory", tIni "BadHistory", fF (.noat "BadHistory" "index"), fF (.glo "Kind"), fF (.cls "Kind"), fF (.mkr "Kind"), fF (.noat "Kind" "called"), fF (.noat "Kind" "begin"), fF (.noat "Kind" "last")]
def faT2 : List Tst := [fF (.noat "Kind" "table"), tProp? "Kind" "name", tProp? "Kind" "start", tProp? "Kind" "ends", fF (.meth "Kind" "states"), fF (.meth "Kind" "methods"), fF (.meth "Kind" "moves"), tDun "Kind" "__getitem__", tDun "Kind" "__contains__", tDun "Kind" "__iter__", tDun "Kind" "__eq__", tKit "BadHistory" "BadHistory" true, tExm "BadHistory" "RightError" true, fF (.glo "is_row"), fF (.glo "is_text_of"), fF (.glo "is_name"), fF (.glo "is_error"), fF (.glo "is_word"), fF (.glo "are_unlike"), fF (.glo "is_pair")]
def faT3 : List Tst := [fF (.glo "is_key"), fF (.glo "are_ends"), fF (.glo "are_outcomes"), fF (.glo "are_moves"), fF (.glo "look_history"), fF (.glo "led"), fF (.glo "after"), fF (.glo "allowed"), fF (.glo "_law_source"), fF (.glo "_law_draw"), fF (.glo "_law_pick"), fF (.glo "_law_words"), fF (.glo "_law_sort"), fF (.glo "_law_sorts"), fF (.glo "_law_led"), fF (.glo "_law_history"), fF (.glo "_law_said"), fF (.glo "law")]
def faT : List Tst := faT0 ++ faT1 ++ faT2 ++ faT3
def fnT0 : List He5.DefA := [dfM "BadKind" "__init__" "BadKind.__init__" s_BadKind_init, dfM "BadHistory" "__init__" "BadHistory.__init__" s_BadHistory_init, dfG "is_row" s_is_row, dfG "is_text_of" s_is_text_of, dfG "is_name" s_is_name, dfG "is_error" s_is_error, dfG "is_word" s_is_word, dfG "are_unlike" s_are_unlike, dfG "is_pair" s_is_pair, dfG "is_key" s_is_key, dfG "are_ends" s_are_ends, dfG "are_outcomes" s_are_outcomes, dfG "are_moves" s_are_moves, dfM "Kind" "__init__" "Kind.__init__" s_Kind_init, dfP "Kind" "name" "Kind.name" s_Kind_name, dfP "Kind" "start" "Kind.start" s_Kind_start, dfP "Kind" "ends" "Kind.ends" s_Kind_ends, dfM "Kind" "states" "Kind.states" s_Kind_states, dfM "Kind" "methods" "Kind.methods" s_Kind_methods, dfM "Kind" "moves" "Kind.moves" s_Kind_moves]
def fnT1 : List He5.DefA := [dfM "Kind" "__getitem__" "Kind.__getitem__" s_Kind_getitem, dfM "Kind" "__contains__" "Kind.__contains__" s_Kind_contains, dfM "Kind" "__iter__" "Kind.__iter__" s_Kind_iter, dfM "Kind" "__eq__" "Kind.__eq__" s_Kind_eq, dfG "look_history" s_look_history, dfG "led" s_led, dfG "after" s_after, dfG "allowed" s_allowed, dfG "_law_source" s_l_source, dfG "_law_draw" s_l_draw, dfG "_law_pick" s_l_pick, dfG "_law_words" s_l_words, dfG "_law_sort" s_l_sort, dfG "_law_sorts" s_l_sorts, dfG "_law_led" s_l_led, dfG "_law_history" s_l_history, dfG "_law_said" s_l_said, dfG "law" s_law]
def fnT : List He5.DefA := fnT0 ++ fnT1
abbrev RT : PySem.W.OpenRow := PySem.W.OpenLaw.row PySem.Challenge.rw_rightstate_k03_histories_of_kinds
abbrev hkT : PySem.W.Hook := hookR 5 faT fnT
def obT (s : PySem.W.SharedT) : He.AlD := obsRG 5 faT fnT (HandSHeadRun.getT s)
theorem obT_eq (s : PySem.W.SharedT) : obT s = hkT.obs s.abs := obsRG_eq (HandSHeadRun.getT_eq s)
def nmT0 : List PySem.Str := ["_wall", "__name__", "RightError", "BadKind", "BadHistory", "SMALL", "LARGE", "MOST_SIGNS", "ANSWERS", "is_row", "is_text_of", "is_name", "is_error", "is_word", "are_unlike", "MOST_STATES", "MOST_METHODS", "MOST_OUTCOMES", "is_pair", "is_key", "are_ends", "are_outcomes", "are_moves", "Kind", "look_history", "led", "after", "allowed", "_law_source", "_law_draw"]
def nmT1 : List PySem.Str := ["_law_pick", "_law_words", "_law_sort", "_law_sorts", "_law_led", "_law_history", "_law_said"]
def looseT : List PySem.Str := nmT0 ++ nmT1
abbrev lawAt : Nat := 40
structure Txt (K : PySem.W.Frag) (mg : PySem.Str → Option Value) : Prop where
  c : SaysR faT fnT K
  h : ∃ h : Heap, K.In h ∧ h.Ns mainGlobals mg
section
variable {K : PySem.W.Frag} {mg : PySem.Str → Option Value}
theorem Txt.b_isinstance (T : Txt K mg) : mg "isinstance" = none := let ⟨h, X, G⟩ := T.h; He.free_ok X G (T.c.fact 0)
theorem Txt.b_list (T : Txt K mg) : mg "list" = none := let ⟨h, X, G⟩ := T.h; He.free_ok X G (T.c.fact 1)
theorem Txt.b_tuple (T : Txt K mg) : mg "tuple" = none := let ⟨h, X, G⟩ := T.h; He.free_ok X G (T.c.fact 2)
theorem Txt.b_str (T : Txt K mg) : mg "str" = none := let ⟨h, X, G⟩ := T.h; He.free_ok X G (T.c.fact 3)
theorem Txt.b_all (T : Txt K mg) : mg "all" = none := let ⟨h, X, G⟩ := T.h; He.free_ok X G (T.c.fact 4)
theorem Txt.b_len (T : Txt K mg) : mg "len" = none := let ⟨h, X, G⟩ := T.h; He.free_ok X G (T.c.fact 5)
theorem Txt.b_dict (T : Txt K mg) : mg "dict" = none := let ⟨h, X, G⟩ := T.h; He.free_ok X G (T.c.fact 6)
theorem Txt.b_sorted (T : Txt K mg) : mg "sorted" = none := let ⟨h, X, G⟩ := T.h; He.free_ok X G (T.c.fact 7)
theorem Txt.b_property (T : Txt K mg) : mg "property" = none := let ⟨h, X, G⟩ := T.h; He.free_ok X G (T.c.fact 8)
theorem Txt.b_TypeError (T : Txt K mg) : mg "TypeError" = none := let ⟨h, X, G⟩ := T.h; He.free_ok X G (T.c.fact 9)
theorem Txt.b_enumerate (T : Txt K mg) : mg "enumerate" = none := let ⟨h, X, G⟩ := T.h; He.free_ok X G (T.c.fact 10)
theorem Txt.b_int (T : Txt K mg) : mg "int" = none := let ⟨h, X, G⟩ := T.h; He.free_ok X G (T.c.fact 11)
theorem Txt.b_range (T : Txt K mg) : mg "range" = none := let ⟨h, X, G⟩ := T.h; He.free_ok X G (T.c.fact 12)
theorem Txt.b_set (T : Txt K mg) : mg "set" = none := let ⟨h, X, G⟩ := T.h; He.free_ok X G (T.c.fact 13)
theorem Txt.c_SMALL (T : Txt K mg) : ∃ t, mg "SMALL" = some (.str "abcdefghijklmnopqrstuvwxyz" t) := let ⟨h, X, G⟩ := T.h; He.str_ok X G (T.c.fact 14)
theorem Txt.c_LARGE (T : Txt K mg) : ∃ t, mg "LARGE" = some (.str "ABCDEFGHIJKLMNOPQRSTUVWXYZ" t) := let ⟨h, X, G⟩ := T.h; He.str_ok X G (T.c.fact 15)
theorem Txt.c_MOST_SIGNS (T : Txt K mg) : ∃ t, mg "MOST_SIGNS" = some (.int 8 t) := let ⟨h, X, G⟩ := T.h; He.int_ok X G (T.c.fact 16)
theorem Txt.c_ANSWERS (T : Txt K mg) : ∃ a, mg "ANSWERS" = some (.ref a) ∧ ∀ H, SqT K H a ((["yes", "no"] : List PySem.Str).map V.str) := let ⟨h, X, G⟩ := T.h; tTupS_ok X G (T.c.fact 17)
theorem Txt.c_MOST_STATES (T : Txt K mg) : ∃ t, mg "MOST_STATES" = some (.int 60 t) := let ⟨h, X, G⟩ := T.h; He.int_ok X G (T.c.fact 18)
theorem Txt.c_MOST_METHODS (T : Txt K mg) : ∃ t, mg "MOST_METHODS" = some (.int 8 t) := let ⟨h, X, G⟩ := T.h; He.int_ok X G (T.c.fact 19)
theorem Txt.c_MOST_OUTCOMES (T : Txt K mg) : ∃ t, mg "MOST_OUTCOMES" = some (.int 8 t) := let ⟨h, X, G⟩ := T.h; He.int_ok X G (T.c.fact 20)
theorem Txt.g_RightError (T : Txt K mg) : mg "RightError" = some (.ref (He.ga K "RightError")) := let ⟨h, X, G⟩ := T.h; He.glo_ok X G (T.c.fact 21)
theorem Txt.oex_RightError (T : Txt K mg) : OexC K (He.ga K "RightError") := oex_ok (T.c.fact 22)
theorem Txt.exc_RightError (T : Txt K mg) : tExc "RightError" K = true := (T.c.fact 23)
theorem Txt.g_BadKind (T : Txt K mg) : mg "BadKind" = some (.ref (He.ga K "BadKind")) := let ⟨h, X, G⟩ := T.h; He.glo_ok X G (T.c.fact 24)
theorem Txt.oex_BadKind (T : Txt K mg) : OexC K (He.ga K "BadKind") := oex_ok (T.c.fact 25)
theorem Txt.exc_BadKind (T : Txt K mg) : tExc "BadKind" K = true := (T.c.fact 26)
theorem Txt.ini_BadKind (T : Txt K mg) : tIni "BadKind" K = true := (T.c.fact 27)
theorem Txt.no_BadKind_part (T : Txt K mg) : NoAttr K (He.ga K "BadKind") "part" := He.noat_ok (T.c.fact 28)
theorem Txt.g_BadHistory (T : Txt K mg) : mg "BadHistory" = some (.ref (He.ga K "BadHistory")) := let ⟨h, X, G⟩ := T.h; He.glo_ok X G (T.c.fact 29)
theorem Txt.oex_BadHistory (T : Txt K mg) : OexC K (He.ga K "BadHistory") := oex_ok (T.c.fact 30)
theorem Txt.exc_BadHistory (T : Txt K mg) : tExc "BadHistory" K = true := (T.c.fact 31)
theorem Txt.ini_BadHistory (T : Txt K mg) : tIni "BadHistory" K = true := (T.c.fact 32)
theorem Txt.no_BadHistory_index (T : Txt K mg) : NoAttr K (He.ga K "BadHistory") "index" := He.noat_ok (T.c.fact 33)
theorem Txt.g_Kind (T : Txt K mg) : mg "Kind" = some (.ref (He.ga K "Kind")) := let ⟨h, X, G⟩ := T.h; He.glo_ok X G (T.c.fact 34)
theorem Txt.cl_Kind (T : Txt K mg) : Cls K (He.ga K "Kind") := He.cls_ok (T.c.fact 35)
theorem Txt.mk_Kind (T : Txt K mg) : Mk K (He.ga K "Kind") (He.ma K (He.ga K "Kind") "__init__") := He.mkr_ok (T.c.fact 36)
theorem Txt.no_Kind_called (T : Txt K mg) : NoAttr K (He.ga K "Kind") "called" := He.noat_ok (T.c.fact 37)
theorem Txt.no_Kind_begin (T : Txt K mg) : NoAttr K (He.ga K "Kind") "begin" := He.noat_ok (T.c.fact 38)
theorem Txt.no_Kind_last (T : Txt K mg) : NoAttr K (He.ga K "Kind") "last" := He.noat_ok (T.c.fact 39)
theorem Txt.no_Kind_table (T : Txt K mg) : NoAttr K (He.ga K "Kind") "table" := He.noat_ok (T.c.fact 40)
theorem Txt.pr_Kind_name (T : Txt K mg) : PropOf K (He.ga K "Kind") "name" (He.ma K (He.ga K "Kind") "name") (propAt K (He.ga K "Kind") "name") := prop_ok (T.c.fact 41)
theorem Txt.pr_Kind_start (T : Txt K mg) : PropOf K (He.ga K "Kind") "start" (He.ma K (He.ga K "Kind") "start") (propAt K (He.ga K "Kind") "start") := prop_ok (T.c.fact 42)
theorem Txt.pr_Kind_ends (T : Txt K mg) : PropOf K (He.ga K "Kind") "ends" (He.ma K (He.ga K "Kind") "ends") (propAt K (He.ga K "Kind") "ends") := prop_ok (T.c.fact 43)
theorem Txt.me_Kind_states (T : Txt K mg) : Meth K (He.ga K "Kind") "states" (He.ma K (He.ga K "Kind") "states") := He.meth_ok (T.c.fact 44)
theorem Txt.me_Kind_methods (T : Txt K mg) : Meth K (He.ga K "Kind") "methods" (He.ma K (He.ga K "Kind") "methods") := He.meth_ok (T.c.fact 45)
theorem Txt.me_Kind_moves (T : Txt K mg) : Meth K (He.ga K "Kind") "moves" (He.ma K (He.ga K "Kind") "moves") := He.meth_ok (T.c.fact 46)
theorem Txt.du_Kind_getitem (T : Txt K mg) : Dun K (He.ga K "Kind") "__getitem__" (He.ma K (He.ga K "Kind") "__getitem__") := dun_ok (T.c.fact 47)
theorem Txt.du_Kind_contains (T : Txt K mg) : Dun K (He.ga K "Kind") "__contains__" (He.ma K (He.ga K "Kind") "__contains__") := dun_ok (T.c.fact 48)
theorem Txt.du_Kind_iter (T : Txt K mg) : Dun K (He.ga K "Kind") "__iter__" (He.ma K (He.ga K "Kind") "__iter__") := dun_ok (T.c.fact 49)
theorem Txt.du_Kind_eq (T : Txt K mg) : Dun K (He.ga K "Kind") "__eq__" (He.ma K (He.ga K "Kind") "__eq__") := dun_ok (T.c.fact 50)
theorem Txt.kit_BadHistory_BadHistory (T : Txt K mg) : PySem.W.kitOne K (.ref (He.ga K "BadHistory")) (.ref (He.ga K "BadHistory")) = some true := of_decide_eq_true (T.c.fact 51)
theorem Txt.exm_BadHistory_RightError (T : Txt K mg) : PySem.W.exmOne K (.ref (He.ga K "BadHistory")) (.ref (He.ga K "RightError")) = some true := of_decide_eq_true (T.c.fact 52)
theorem Txt.g_is_row (T : Txt K mg) : mg "is_row" = some (.ref (He.ga K "is_row")) := let ⟨h, X, G⟩ := T.h; He.glo_ok X G (T.c.fact 53)
theorem Txt.g_is_text_of (T : Txt K mg) : mg "is_text_of" = some (.ref (He.ga K "is_text_of")) := let ⟨h, X, G⟩ := T.h; He.glo_ok X G (T.c.fact 54)
theorem Txt.g_is_name (T : Txt K mg) : mg "is_name" = some (.ref (He.ga K "is_name")) := let ⟨h, X, G⟩ := T.h; He.glo_ok X G (T.c.fact 55)
theorem Txt.g_is_error (T : Txt K mg) : mg "is_error" = some (.ref (He.ga K "is_error")) := let ⟨h, X, G⟩ := T.h; He.glo_ok X G (T.c.fact 56)
theorem Txt.g_is_word (T : Txt K mg) : mg "is_word" = some (.ref (He.ga K "is_word")) := let ⟨h, X, G⟩ := T.h; He.glo_ok X G (T.c.fact 57)
theorem Txt.g_are_unlike (T : Txt K mg) : mg "are_unlike" = some (.ref (He.ga K "are_unlike")) := let ⟨h, X, G⟩ := T.h; He.glo_ok X G (T.c.fact 58)
theorem Txt.g_is_pair (T : Txt K mg) : mg "is_pair" = some (.ref (He.ga K "is_pair")) := let ⟨h, X, G⟩ := T.h; He.glo_ok X G (T.c.fact 59)
theorem Txt.g_is_key (T : Txt K mg) : mg "is_key" = some (.ref (He.ga K "is_key")) := let ⟨h, X, G⟩ := T.h; He.glo_ok X G (T.c.fact 60)
theorem Txt.g_are_ends (T : Txt K mg) : mg "are_ends" = some (.ref (He.ga K "are_ends")) := let ⟨h, X, G⟩ := T.h; He.glo_ok X G (T.c.fact 61)
theorem Txt.g_are_outcomes (T : Txt K mg) : mg "are_outcomes" = some (.ref (He.ga K "are_outcomes")) := let ⟨h, X, G⟩ := T.h; He.glo_ok X G (T.c.fact 62)
theorem Txt.g_are_moves (T : Txt K mg) : mg "are_moves" = some (.ref (He.ga K "are_moves")) := let ⟨h, X, G⟩ := T.h; He.glo_ok X G (T.c.fact 63)
theorem Txt.g_look_history (T : Txt K mg) : mg "look_history" = some (.ref (He.ga K "look_history")) := let ⟨h, X, G⟩ := T.h; He.glo_ok X G (T.c.fact 64)
theorem Txt.g_led (T : Txt K mg) : mg "led" = some (.ref (He.ga K "led")) := let ⟨h, X, G⟩ := T.h; He.glo_ok X G (T.c.fact 65)
theorem Txt.g_after (T : Txt K mg) : mg "after" = some (.ref (He.ga K "after")) := let ⟨h, X, G⟩ := T.h; He.glo_ok X G (T.c.fact 66)
theorem Txt.g_allowed (T : Txt K mg) : mg "allowed" = some (.ref (He.ga K "allowed")) := let ⟨h, X, G⟩ := T.h; He.glo_ok X G (T.c.fact 67)
theorem Txt.g_law_source (T : Txt K mg) : mg "_law_source" = some (.ref (He.ga K "_law_source")) := let ⟨h, X, G⟩ := T.h; He.glo_ok X G (T.c.fact 68)
theorem Txt.g_law_draw (T : Txt K mg) : mg "_law_draw" = some (.ref (He.ga K "_law_draw")) := let ⟨h, X, G⟩ := T.h; He.glo_ok X G (T.c.fact 69)
theorem Txt.g_law_pick (T : Txt K mg) : mg "_law_pick" = some (.ref (He.ga K "_law_pick")) := let ⟨h, X, G⟩ := T.h; He.glo_ok X G (T.c.fact 70)
theorem Txt.g_law_words (T : Txt K mg) : mg "_law_words" = some (.ref (He.ga K "_law_words")) := let ⟨h, X, G⟩ := T.h; He.glo_ok X G (T.c.fact 71)
theorem Txt.g_law_sort (T : Txt K mg) : mg "_law_sort" = some (.ref (He.ga K "_law_sort")) := let ⟨h, X, G⟩ := T.h; He.glo_ok X G (T.c.fact 72)
theorem Txt.g_law_sorts (T : Txt K mg) : mg "_law_sorts" = some (.ref (He.ga K "_law_sorts")) := let ⟨h, X, G⟩ := T.h; He.glo_ok X G (T.c.fact 73)
theorem Txt.g_law_led (T : Txt K mg) : mg "_law_led" = some (.ref (He.ga K "_law_led")) := let ⟨h, X, G⟩ := T.h; He.glo_ok X G (T.c.fact 74)
theorem Txt.g_law_history (T : Txt K mg) : mg "_law_history" = some (.ref (He.ga K "_law_history")) := let ⟨h, X, G⟩ := T.h; He.glo_ok X G (T.c.fact 75)
theorem Txt.g_law_said (T : Txt K mg) : mg "_law_said" = some (.ref (He.ga K "_law_said")) := let ⟨h, X, G⟩ := T.h; He.glo_ok X G (T.c.fact 76)
theorem Txt.g_law (T : Txt K mg) : mg "law" = some (.ref (He.ga K "law")) := let ⟨h, X, G⟩ := T.h; He.glo_ok X G (T.c.fact 77)
theorem Txt.d_BadKind_init (T : Txt K mg) : ∃ fd, FunD K "__init__" "BadKind.__init__" (defArgs s_BadKind_init) (defBody s_BadKind_init) (defScope s_BadKind_init) [] [] (He.ma K (He.ga K "BadKind") "__init__") fd := T.c.def_ 0
theorem Txt.d_BadHistory_init (T : Txt K mg) : ∃ fd, FunD K "__init__" "BadHistory.__init__" (defArgs s_BadHistory_init) (defBody s_BadHistory_init) (defScope s_BadHistory_init) [] [] (He.ma K (He.ga K "BadHistory") "__init__") fd := T.c.def_ 1
theorem Txt.d_is_row (T : Txt K mg) : ∃ fd, FunD K "is_row" "is_row" (defArgs s_is_row) (defBody s_is_row) (defScope s_is_row) [] [] (He.ga K "is_row") fd := T.c.def_ 2
theorem Txt.d_is_text_of (T : Txt K mg) : ∃ fd, FunD K "is_text_of" "is_text_of" (defArgs s_is_text_of) (defBody s_is_text_of) (defScope s_is_text_of) [] [] (He.ga K "is_text_of") fd := T.c.def_ 3
theorem Txt.d_is_name (T : Txt K mg) : ∃ fd, FunD K "is_name" "is_name" (defArgs s_is_name) (defBody s_is_name) (defScope s_is_name) [] [] (He.ga K "is_name") fd := T.c.def_ 4
theorem Txt.d_is_error (T : Txt K mg) : ∃ fd, FunD K "is_error" "is_error" (defArgs s_is_error) (defBody s_is_error) (defScope s_is_error) [] [] (He.ga K "is_error") fd := T.c.def_ 5
theorem Txt.d_is_word (T : Txt K mg) : ∃ fd, FunD K "is_word" "is_word" (defArgs s_is_word) (defBody s_is_word) (defScope s_is_word) [] [] (He.ga K "is_word") fd := T.c.def_ 6
theorem Txt.d_are_unlike (T : Txt K mg) : ∃ fd, FunD K "are_unlike" "are_unlike" (defArgs s_are_unlike) (defBody s_are_unlike) (defScope s_are_unlike) [] [] (He.ga K "are_unlike") fd := T.c.def_ 7
theorem Txt.d_is_pair (T : Txt K mg) : ∃ fd, FunD K "is_pair" "is_pair" (defArgs s_is_pair) (defBody s_is_pair) (defScope s_is_pair) [] [] (He.ga K "is_pair") fd := T.c.def_ 8
theorem Txt.d_is_key (T : Txt K mg) : ∃ fd, FunD K "is_key" "is_key" (defArgs s_is_key) (defBody s_is_key) (defScope s_is_key) [] [] (He.ga K "is_key") fd := T.c.def_ 9
theorem Txt.d_are_ends (T : Txt K mg) : ∃ fd, FunD K "are_ends" "are_ends" (defArgs s_are_ends) (defBody s_are_ends) (defScope s_are_ends) [] [] (He.ga K "are_ends") fd := T.c.def_ 10
theorem Txt.d_are_outcomes (T : Txt K mg) : ∃ fd, FunD K "are_outcomes" "are_outcomes" (defArgs s_are_outcomes) (defBody s_are_outcomes) (defScope s_are_outcomes) [] [] (He.ga K "are_outcomes") fd := T.c.def_ 11
theorem Txt.d_are_moves (T : Txt K mg) : ∃ fd, FunD K "are_moves" "are_moves" (defArgs s_are_moves) (defBody s_are_moves) (defScope s_are_moves) [] [] (He.ga K "are_moves") fd := T.c.def_ 12
theorem Txt.d_Kind_init (T : Txt K mg) : ∃ fd, FunD K "__init__" "Kind.__init__" (defArgs s_Kind_init) (defBody s_Kind_init) (defScope s_Kind_init) [] [] (He.ma K (He.ga K "Kind") "__init__") fd := T.c.def_ 13
theorem Txt.d_Kind_name (T : Txt K mg) : ∃ fd, FunD K "name" "Kind.name" (defArgs s_Kind_name) (defBody s_Kind_name) (defScope s_Kind_name) [] [] (propAt K (He.ga K "Kind") "name") fd := T.c.def_ 14
theorem Txt.d_Kind_start (T : Txt K mg) : ∃ fd, FunD K "start" "Kind.start" (defArgs s_Kind_start) (defBody s_Kind_start) (defScope s_Kind_start) [] [] (propAt K (He.ga K "Kind") "start") fd := T.c.def_ 15
theorem Txt.d_Kind_ends (T : Txt K mg) : ∃ fd, FunD K "ends" "Kind.ends" (defArgs s_Kind_ends) (defBody s_Kind_ends) (defScope s_Kind_ends) [] [] (propAt K (He.ga K "Kind") "ends") fd := T.c.def_ 16
theorem Txt.d_Kind_states (T : Txt K mg) : ∃ fd, FunD K "states" "Kind.states" (defArgs s_Kind_states) (defBody s_Kind_states) (defScope s_Kind_states) [] [] (He.ma K (He.ga K "Kind") "states") fd := T.c.def_ 17
theorem Txt.d_Kind_methods (T : Txt K mg) : ∃ fd, FunD K "methods" "Kind.methods" (defArgs s_Kind_methods) (defBody s_Kind_methods) (defScope s_Kind_methods) [] [] (He.ma K (He.ga K "Kind") "methods") fd := T.c.def_ 18
theorem Txt.d_Kind_moves (T : Txt K mg) : ∃ fd, FunD K "moves" "Kind.moves" (defArgs s_Kind_moves) (defBody s_Kind_moves) (defScope s_Kind_moves) [] [] (He.ma K (He.ga K "Kind") "moves") fd := T.c.def_ 19
theorem Txt.d_Kind_getitem (T : Txt K mg) : ∃ fd, FunD K "__getitem__" "Kind.__getitem__" (defArgs s_Kind_getitem) (defBody s_Kind_getitem) (defScope s_Kind_getitem) [] [] (He.ma K (He.ga K "Kind") "__getitem__") fd := T.c.def_ 20
theorem Txt.d_Kind_contains (T : Txt K mg) : ∃ fd, FunD K "__contains__" "Kind.__contains__" (defArgs s_Kind_contains) (defBody s_Kind_contains) (defScope s_Kind_contains) [] [] (He.ma K (He.ga K "Kind") "__contains__") fd := T.c.def_ 21
theorem Txt.d_Kind_iter (T : Txt K mg) : ∃ fd, FunD K "__iter__" "Kind.__iter__" (defArgs s_Kind_iter) (defBody s_Kind_iter) (defScope s_Kind_iter) [] [] (He.ma K (He.ga K "Kind") "__iter__") fd := T.c.def_ 22
theorem Txt.d_Kind_eq (T : Txt K mg) : ∃ fd, FunD K "__eq__" "Kind.__eq__" (defArgs s_Kind_eq) (defBody s_Kind_eq) (defScope s_Kind_eq) [] [] (He.ma K (He.ga K "Kind") "__eq__") fd := T.c.def_ 23
theorem Txt.d_look_history (T : Txt K mg) : ∃ fd, FunD K "look_history" "look_history" (defArgs s_look_history) (defBody s_look_history) (defScope s_look_history) [] [] (He.ga K "look_history") fd := T.c.def_ 24
theorem Txt.d_led (T : Txt K mg) : ∃ fd, FunD K "led" "led" (defArgs s_led) (defBody s_led) (defScope s_led) [] [] (He.ga K "led") fd := T.c.def_ 25
theorem Txt.d_after (T : Txt K mg) : ∃ fd, FunD K "after" "after" (defArgs s_after) (defBody s_after) (defScope s_after) [] [] (He.ga K "after") fd := T.c.def_ 26
theorem Txt.d_allowed (T : Txt K mg) : ∃ fd, FunD K "allowed" "allowed" (defArgs s_allowed) (defBody s_allowed) (defScope s_allowed) [] [] (He.ga K "allowed") fd := T.c.def_ 27
theorem Txt.d_l_source (T : Txt K mg) : ∃ fd, FunD K "_law_source" "_law_source" (defArgs s_l_source) (defBody s_l_source) (defScope s_l_source) [] [] (He.ga K "_law_source") fd := T.c.def_ 28
theorem Txt.d_l_draw (T : Txt K mg) : ∃ fd, FunD K "_law_draw" "_law_draw" (defArgs s_l_draw) (defBody s_l_draw) (defScope s_l_draw) [] [] (He.ga K "_law_draw") fd := T.c.def_ 29
theorem Txt.d_l_pick (T : Txt K mg) : ∃ fd, FunD K "_law_pick" "_law_pick" (defArgs s_l_pick) (defBody s_l_pick) (defScope s_l_pick) [] [] (He.ga K "_law_pick") fd := T.c.def_ 30
theorem Txt.d_l_words (T : Txt K mg) : ∃ fd, FunD K "_law_words" "_law_words" (defArgs s_l_words) (defBody s_l_words) (defScope s_l_words) [] [] (He.ga K "_law_words") fd := T.c.def_ 31
theorem Txt.d_l_sort (T : Txt K mg) : ∃ fd, FunD K "_law_sort" "_law_sort" (defArgs s_l_sort) (defBody s_l_sort) (defScope s_l_sort) [] [] (He.ga K "_law_sort") fd := T.c.def_ 32
theorem Txt.d_l_sorts (T : Txt K mg) : ∃ fd, FunD K "_law_sorts" "_law_sorts" (defArgs s_l_sorts) (defBody s_l_sorts) (defScope s_l_sorts) [] [] (He.ga K "_law_sorts") fd := T.c.def_ 33
theorem Txt.d_l_led (T : Txt K mg) : ∃ fd, FunD K "_law_led" "_law_led" (defArgs s_l_led) (defBody s_l_led) (defScope s_l_led) [] [] (He.ga K "_law_led") fd := T.c.def_ 34
theorem Txt.d_l_history (T : Txt K mg) : ∃ fd, FunD K "_law_history" "_law_history" (defArgs s_l_history) (defBody s_l_history) (defScope s_l_history) [] [] (He.ga K "_law_history") fd := T.c.def_ 35
theorem Txt.d_l_said (T : Txt K mg) : ∃ fd, FunD K "_law_said" "_law_said" (defArgs s_l_said) (defBody s_l_said) (defScope s_l_said) [] [] (He.ga K "_law_said") fd := T.c.def_ 36
theorem Txt.d_law (T : Txt K mg) : ∃ fd, FunD K "law" "law" (defArgs s_law) (defBody s_law) (defScope s_law) [] [] (He.ga K "law") fd := T.c.def_ 37
end
theorem sc_BadKind_init : FnScope ["self", "part"] ["self", "part"] (defScope s_BadKind_init) := ⟨rfl, rfl, rfl, by decide +kernel, rfl, by decide +kernel, by decide +kernel⟩
theorem sc_BadHistory_init : FnScope ["self", "index"] ["self", "index"] (defScope s_BadHistory_init) := ⟨rfl, rfl, rfl, by decide +kernel, rfl, by decide +kernel, by decide +kernel⟩
theorem sc_is_row : FnScope ["thing"] ["thing"] (defScope s_is_row) := ⟨rfl, rfl, rfl, by decide +kernel, rfl, by decide +kernel, by decide +kernel⟩
theorem sc_is_text_of : FnScope ["thing", "signs", "sign"] ["thing", "signs"] (defScope s_is_text_of) := ⟨rfl, rfl, rfl, by decide +kernel, rfl, by decide +kernel, by decide +kernel⟩
theorem sc_is_name : FnScope ["thing"] ["thing"] (defScope s_is_name) := ⟨rfl, rfl, rfl, by decide +kernel, rfl, by decide +kernel, by decide +kernel⟩
theorem sc_is_error : FnScope ["thing"] ["thing"] (defScope s_is_error) := ⟨rfl, rfl, rfl, by decide +kernel, rfl, by decide +kernel, by decide +kernel⟩
theorem sc_is_word : FnScope ["thing"] ["thing"] (defScope s_is_word) := ⟨rfl, rfl, rfl, by decide +kernel, rfl, by decide +kernel, by decide +kernel⟩
theorem sc_are_unlike : FnScope ["some", "one"] ["some"] (defScope s_are_unlike) := ⟨rfl, rfl, rfl, by decide +kernel, rfl, by decide +kernel, by decide +kernel⟩
theorem sc_is_pair : FnScope ["thing", "first", "second"] ["thing", "first", "second"] (defScope s_is_pair) := ⟨rfl, rfl, rfl, by decide +kernel, rfl, by decide +kernel, by decide +kernel⟩
theorem sc_is_key : FnScope ["thing"] ["thing"] (defScope s_is_key) := ⟨rfl, rfl, rfl, by decide +kernel, rfl, by decide +kernel, by decide +kernel⟩
theorem sc_are_ends : FnScope ["thing", "one"] ["thing"] (defScope s_are_ends) := ⟨rfl, rfl, rfl, by decide +kernel, rfl, by decide +kernel, by decide +kernel⟩
theorem sc_are_outcomes : FnScope ["thing", "one"] ["thing"] (defScope s_are_outcomes) := ⟨rfl, rfl, rfl, by decide +kernel, rfl, by decide +kernel, by decide +kernel⟩
theorem sc_are_moves : FnScope ["thing", "at"] ["thing"] (defScope s_are_moves) := ⟨rfl, rfl, rfl, by decide +kernel, rfl, by decide +kernel, by decide +kernel⟩
theorem sc_Kind_init : FnScope ["self", "name", "start", "ends", "moves", "at", "one"] ["self", "name", "start", "ends", "moves"] (defScope s_Kind_init) := ⟨rfl, rfl, rfl, by decide +kernel, rfl, by decide +kernel, by decide +kernel⟩
theorem sc_Kind_name : FnScope ["self"] ["self"] (defScope s_Kind_name) := ⟨rfl, rfl, rfl, by decide +kernel, rfl, by decide +kernel, by decide +kernel⟩
theorem sc_Kind_start : FnScope ["self"] ["self"] (defScope s_Kind_start) := ⟨rfl, rfl, rfl, by decide +kernel, rfl, by decide +kernel, by decide +kernel⟩
theorem sc_Kind_ends : FnScope ["self"] ["self"] (defScope s_Kind_ends) := ⟨rfl, rfl, rfl, by decide +kernel, rfl, by decide +kernel, by decide +kernel⟩
theorem sc_Kind_states : FnScope ["self", "found", "one", "state", "method", "outcomes", "word"] ["self"] (defScope s_Kind_states) := ⟨rfl, rfl, rfl, by decide +kernel, rfl, by decide +kernel, by decide +kernel⟩
theorem sc_Kind_methods : FnScope ["self", "state", "method"] ["self"] (defScope s_Kind_methods) := ⟨rfl, rfl, rfl, by decide +kernel, rfl, by decide +kernel, by decide +kernel⟩
theorem sc_Kind_moves : FnScope ["self", "at"] ["self"] (defScope s_Kind_moves) := ⟨rfl, rfl, rfl, by decide +kernel, rfl, by decide +kernel, by decide +kernel⟩
theorem sc_Kind_getitem : FnScope ["self", "at"] ["self", "at"] (defScope s_Kind_getitem) := ⟨rfl, rfl, rfl, by decide +kernel, rfl, by decide +kernel, by decide +kernel⟩
theorem sc_Kind_contains : FnScope ["self", "at"] ["self", "at"] (defScope s_Kind_contains) := ⟨rfl, rfl, rfl, by decide +kernel, rfl, by decide +kernel, by decide +kernel⟩
theorem sc_Kind_iter : FnScope ["self"] ["self"] (defScope s_Kind_iter) := ⟨rfl, rfl, rfl, by decide +kernel, rfl, by decide +kernel, by decide +kernel⟩
theorem sc_Kind_eq : FnScope ["self", "other"] ["self", "other"] (defScope s_Kind_eq) := ⟨rfl, rfl, rfl, by decide +kernel, rfl, by decide +kernel, by decide +kernel⟩
theorem sc_look_history : FnScope ["history", "index", "one"] ["history"] (defScope s_look_history) := ⟨rfl, rfl, rfl, by decide +kernel, rfl, by decide +kernel, by decide +kernel⟩
theorem sc_led : FnScope ["kind", "states", "method", "word", "found", "state", "told", "later"] ["kind", "states", "method", "word"] (defScope s_led) := ⟨rfl, rfl, rfl, by decide +kernel, rfl, by decide +kernel, by decide +kernel⟩
theorem sc_after : FnScope ["kind", "history", "states", "method", "word"] ["kind", "history"] (defScope s_after) := ⟨rfl, rfl, rfl, by decide +kernel, rfl, by decide +kernel, by decide +kernel⟩
theorem sc_allowed : FnScope ["kind", "history", "states", "method", "state"] ["kind", "history"] (defScope s_allowed) := ⟨rfl, rfl, rfl, by decide +kernel, rfl, by decide +kernel, by decide +kernel⟩
theorem sc_l_source : FnScope ["_law_cell", "_law_number"] ["_law_cell"] (defScope s_l_source) := ⟨rfl, rfl, rfl, by decide +kernel, rfl, by decide +kernel, by decide +kernel⟩
theorem sc_l_draw : FnScope ["_law_well", "_law_many", "_law_found", "_law_number"] ["_law_well", "_law_many"] (defScope s_l_draw) := ⟨rfl, rfl, rfl, by decide +kernel, rfl, by decide +kernel, by decide +kernel⟩
theorem sc_l_pick : FnScope ["_law_well", "_law_some"] ["_law_well", "_law_some"] (defScope s_l_pick) := ⟨rfl, rfl, rfl, by decide +kernel, rfl, by decide +kernel, by decide +kernel⟩
theorem sc_l_words : FnScope ["_law_well", "_law_many", "_law_some", "_law_signs", "_law_found", "_law_start", "_law_k", "_law_way", "_law_word", "_law_turn", "_law_stem"] ["_law_well", "_law_many", "_law_some"] (defScope s_l_words) := ⟨rfl, rfl, rfl, by decide +kernel, rfl, by decide +kernel, by decide +kernel⟩
theorem sc_l_sort : FnScope ["_law_well", "_law_name", "_law_methods", "_law_errors", "_law_size", "_law_states", "_law_moves", "_law_state", "_law_method", "_law_outcomes", "_law_k", "_law_one", "_law_ends"] ["_law_well", "_law_name", "_law_methods", "_law_errors", "_law_size"] (defScope s_l_sort) := ⟨rfl, rfl, rfl, by decide +kernel, rfl, by decide +kernel, by decide +kernel⟩
theorem sc_l_sorts : FnScope ["_law_well", "_law_many", "_law_size", "_law_names", "_law_methods", "_law_errors", "_law_name", "_law_kinds"] ["_law_well", "_law_many", "_law_size"] (defScope s_l_sorts) := ⟨rfl, rfl, rfl, by decide +kernel, rfl, by decide +kernel, by decide +kernel⟩
theorem sc_l_led : FnScope ["_law_moves", "_law_states", "_law_method", "_law_word", "_law_found", "_law_state", "_law_told", "_law_later"] ["_law_moves", "_law_states", "_law_method", "_law_word"] (defScope s_l_led) := ⟨rfl, rfl, rfl, by decide +kernel, rfl, by decide +kernel, by decide +kernel⟩
theorem sc_l_history : FnScope ["_law_well", "_law_start", "_law_moves", "_law_methods", "_law_words_here", "_law_found", "_law_states", "_law_turn", "_law_method", "_law_word", "_law_some", "_law_state"] ["_law_well", "_law_start", "_law_moves", "_law_methods", "_law_words_here"] (defScope s_l_history) := ⟨rfl, rfl, rfl, by decide +kernel, rfl, by decide +kernel, by decide +kernel⟩
theorem sc_l_said : FnScope ["_law_ask", "_law_kind", "_law_history_here", "e"] ["_law_ask", "_law_kind", "_law_history_here"] (defScope s_l_said) := ⟨rfl, rfl, rfl, by decide +kernel, rfl, by decide +kernel, by decide +kernel⟩
theorem sc_law : FnScope ["_law_script", "_law_cell", "_law_well", "_law_kinds", "_law_methods", "_law_errors", "_law_name", "_law_start", "_law_ends", "_law_moves", "_law_kind", "_law_turn", "_law_history_here", "_law_states", "_law_it", "_law_at", "_law_due", "_law_one", "_law_rows", "_law_odd", "_law_bad"] ["_law_script"] (defScope s_law) := ⟨rfl, rfl, rfl, by decide +kernel, rfl, by decide +kernel, by decide +kernel⟩
end Rs
set_option Elab.async false
set_option linter.all false
set_option maxRecDepth 100000
set_option maxHeartbeats 2000000
namespace Rs
open PySem PySem.Spec PyProof.Rows L2
local macro_rules | `(tactic| walk_at "rd") => `(tactic| simp only [L2.tRet, L2.tRetN, L2.tSeq, L2.tNext, L2.tIfS, L2.tAsg, L2.gName, L2.gNil, L2.gCons, L2.tVar, L2.tC, L2.tOp, L2.tUn, L2.tCB, L2.tCons, L2.tNil, L2.tAndV, L2.tOrV, L2.tNotV, L2.tAnd, L2.tOr, L2.tNot, L2.tB, L2.tTest, L2.tIf, L2.tChain, L2.tTup, L2.tLst, L2.tDrop, L2.start, L2.cxOf, L2.Cx.nox, L2.Cx.wish, L2.rI0, L2.rI, L2.tYes, Rs.tCalW, List.getElem?_cons_zero, List.getElem?_cons_succ, Option.some.injEq, exists_eq_left', exists_eq_left, exists_and_left, List.cons.injEq, and_true, true_and, L2.V.bl.injEq, L2.V.int.injEq, L2.V.str.injEq, L2.V.ref.injEq, List.set_cons_zero, List.set_cons_succ, List.map_cons, List.map_nil, List.length_cons, List.length_nil, List.replicate, List.cons_append, List.nil_append, List.append_nil, Nat.reduceSub, Nat.reduceAdd])
section
variable {P : Program} {w : World} {K : PySem.W.Frag} {mg : PySem.Str → Option Value} {base : Heap}
/-! ### is_integer, is_row -/
def isRow (n : String) : Bool := decide (n = "list") || decide (n = "tuple")
def sp_is_row (K : PySem.W.Frag) : Sp := fun vs H Q _ => ∃ v n, vs = [v] ∧ Srt K H v n ∧ ∀ H', Same H H' → Q (.bl (isRow n)) H'
theorem ok_is_row (T : Txt K mg) : Cal P w K mg base 1 "is_row" ["thing"] (sp_is_row K) := by
  obtain ⟨fd, F⟩ := T.d_is_row
  refine cal_of F T.g_is_row (F.bindsN fun _ _ _ _ _ _ us hl => match us, hl with | [_], _ => rfl) ?_
  refine F.ok sc_is_row (fun vs H Q E h => ?_) (fun cdv A outer s H vs Q E hr h => ?_)
  · obtain ⟨v, n, rfl, _⟩ := h
    rfl
  · refine ⟨_, PSs.nox (pss_one (ps_ret (pe_callB call_isiT rfl T.b_isinstance (by decide +kernel) (pa_cons (pv 0) (pa_cons (pe_tup (pa_cons (pe_bltn (v := .ty "list") rfl T.b_list (by decide +kernel) rfl) (pa_cons (pe_bltn (v := .ty "tuple") rfl T.b_tuple (by decide +kernel) rfl) pa_nil))) pa_nil))))), ?_⟩
    obtain ⟨v, n, rfl, sr, q⟩ := h
    walk_at "rd"
    refine ⟨by decide, fun p hp => ?_⟩
    exact ⟨v, p, _, _, _, _, rfl, upd_same, .cons (.ty _) (.cons (.ty _) .nil), (Srt.same (Same.new hp) sr).1, list_tuple_b n sr.2, q _ (Same.new hp)⟩
/-! ### is_text_of -/
def isTx (signs : PySem.Str) : V → Bool
  | .str s => decide (1 ≤ s.length) && (decide (s.length ≤ 8) && s.cps.toList.all fun c => decide (c ∈ signs.cps.toList))
  | _ => false
def sp_is_text_of (K : PySem.W.Frag) : Sp := fun vs H Q _ => ∃ v n signs, vs = [v, .str signs] ∧ Srt K H v n ∧ (∀ s, v = .str s → s.length ≤ sizeLine) ∧ ∀ H', Same H H' → Q (.bl (isTx signs v)) H'
theorem ok_is_text_of (T : Txt K mg) : Cal P w K mg base 1 "is_text_of" ["thing", "signs"] (sp_is_text_of K) := by
  obtain ⟨fd, F⟩ := T.d_is_text_of
  obtain ⟨tk, h_MOST_SIGNS⟩ := T.c_MOST_SIGNS
  refine cal_of F T.g_is_text_of (F.bindsN fun _ _ _ _ _ _ us hl => match us, hl with | [_, _], _ => rfl) ?_
  refine F.ok sc_is_text_of (fun vs H Q E h => ?_) (fun cdv A outer s H vs Q E hr h => ?_)
  · obtain ⟨v, n, sg, rfl, _⟩ := h
    rfl
  · refine ⟨_, PSs.nox (pss_one (ps_ret (pe_and (pe_callB (r := rIsi K) call_isi rfl T.b_isinstance (by decide +kernel) (pa_cons (pv 0) (pa_cons (pe_bltn (v := .ty "str") rfl T.b_str (by decide +kernel) rfl) pa_nil))) (pe_and (pe_chain op_le op_le pe_int (pe_callB call_len rfl T.b_len (by decide +kernel) (pa_cons (pv 0) pa_nil)) (pe_glob (v := .int 8) rfl h_MOST_SIGNS ⟨_, rfl⟩)) (pe_one (pe_callB (cr_all rfl) rfl T.b_all (by decide +kernel) (pa_cons (pe_lc (own := [("sign", 2)]) (g := gName 2) (tt := tYes) rfl sc_is_text_of.nd (pi_str (pv 0)) (blkOk_by (own := [("sign", 2)]) (N := ["thing", "signs", "sign"]) (sc := defScope s_is_text_of) (by decide +kernel)) (fun _ _ _ _ _ => (pg_name (i := 2) sc_is_text_of.nd rfl (Or.inl rfl))) (fun _ _ _ _ _ => pts_nil) (fun _ _ _ _ _ => (pe_cmpR op_in_sign (pv 2) (pv 1) rfl))) pa_nil))))))), ?_⟩
    obtain ⟨v, n, sg, rfl, sr, hl, q⟩ := h
    walk_at "rd"
    refine isi_of sr (by decide) ?_
    walk_at "rd"
    refine ite2 (fun e => ?_) (fun e => ?_)
    · have hs : ∃ z, v = .str z := by
        have : n = "str" := by
          have : ∀ n ∈ sorts, (decide (n = "str") || (decide (n = "bool") && decide ("str" = "int"))) = true → n = "str" := by decide +kernel
          exact this n sr.2 e
        subst this
        exact srt_is_str sr
      obtain ⟨z, rfl⟩ := hs
      have hz := hl z rfl
      refine ⟨z.length, ⟨hz, rfl⟩, ?_⟩
      have len : z.length = z.cps.toList.length := by simp [PySem.Str.length]
      refine ite2 (fun e1 => ?_) (fun e1 => ?_)
      · have e1 : 1 ≤ z.length := by have := of_decide_eq_true e1; omega
        refine ite2 (fun e2 => ?_) (fun e2 => ?_)
        · have e2 : z.length ≤ 8 := by have := of_decide_eq_true e2; omega
          refine ⟨_, rfl, z, rfl, fun D hD => lc_map (walk_str (z := z)) hD (fun i => .bl (decide (z.cps.toList.getD i 0 ∈ sg.cps.toList))) (by rw [sizeLine_eq]; have : z.cps.size = z.length := rfl; omega) (fun _ _ => trivial) (fun i x H2 H3 hi s2 y => ?_) (hd := fun H2 s2 h2 => ?_)⟩
          · obtain ⟨rfl, c, hc, rfl⟩ := y
            refine ⟨Same.refl _, fun Kt hK => ⟨rfl, _, rfl, _, rfl, c, rfl, sg, rfl, ?_⟩⟩
            have : z.cps.toList.getD i 0 = c := by
              rw [List.getD_eq_getElem?_getD, Array.getElem?_toList, hc] <;> rfl
            have hk := hK _ (Same.refl _)
            rw [this] at hk
            exact hk
          · refine ⟨D, (List.range z.cps.size).map (fun i => decide (z.cps.toList.getD i 0 ∈ sg.cps.toList)), rfl, SqL.of (by rw [h2, List.map_map] <;> rfl), ?_⟩
            have := q H2 s2
            have e3 : isTx sg (.str z) = ((List.range z.cps.size).map (fun i => decide (z.cps.toList.getD i 0 ∈ sg.cps.toList))).all id := by
              show (decide (1 ≤ z.length) && (decide (z.length ≤ 8) && z.cps.toList.all fun c => decide (c ∈ sg.cps.toList))) = _
              rw [decide_eq_true e1, decide_eq_true e2, Bool.true_and, Bool.true_and, List.all_map]
              exact all_range z.cps.toList (by simp) _
            rw [e3] at this
            exact this
        · have e2 : ¬ z.length ≤ 8 := by simp at e2; omega
          have := q H (Same.refl H)
          simp only [isTx, decide_eq_false e2, Bool.false_and, Bool.and_false] at this
          exact this
      · have e1 : ¬ 1 ≤ z.length := by simp at e1; omega
        have := q H (Same.refl H)
        simp only [isTx, decide_eq_false e1, Bool.false_and] at this
        exact this
    · have := q H (Same.refl H)
      have e3 : isTx sg v = false := by
        cases v with
        | str z =>
          have : n = "str" := by
            cases sr.1 with
            | base b => cases b; rfl
          subst this
          exact absurd rfl e
        | _ => rfl
      rw [e3] at this
      exact this
end
end Rs
set_option Elab.async false
set_option linter.all false
set_option maxRecDepth 100000
set_option maxHeartbeats 2000000
namespace Rs
open PySem PySem.Spec PyProof.Rows L2
local macro_rules | `(tactic| walk_at "rd") => `(tactic| simp only [L2.tRet, L2.tRetN, L2.tSeq, L2.tNext, L2.tIfS, L2.tAsg, L2.gName, L2.gNil, L2.gCons, L2.tVar, L2.tC, L2.tOp, L2.tUn, L2.tCB, L2.tCons, L2.tNil, L2.tAndV, L2.tOrV, L2.tNotV, L2.tAnd, L2.tOr, L2.tNot, L2.tB, L2.tTest, L2.tIf, L2.tChain, L2.tTup, L2.tLst, L2.tDrop, L2.start, L2.cxOf, L2.Cx.nox, L2.Cx.wish, L2.rI0, L2.rI, L2.tYes, Rs.tCalW, List.getElem?_cons_zero, List.getElem?_cons_succ, Option.some.injEq, exists_eq_left', exists_eq_left, exists_and_left, List.cons.injEq, and_true, true_and, L2.V.bl.injEq, L2.V.int.injEq, L2.V.str.injEq, L2.V.ref.injEq, List.set_cons_zero, List.set_cons_succ, List.map_cons, List.map_nil, List.length_cons, List.length_nil, List.replicate, List.cons_append, List.nil_append, List.append_nil, Nat.reduceSub, Nat.reduceAdd])
section
variable {P : Program} {w : World} {K : PySem.W.Frag} {mg : PySem.Str → Option Value} {base : Heap}
abbrev StrOk (v : V) : Prop := ∀ s, v = .str s → s.length ≤ sizeLine
abbrev smallS : PySem.Str := "abcdefghijklmnopqrstuvwxyz"
abbrev largeS : PySem.Str := "ABCDEFGHIJKLMNOPQRSTUVWXYZ"
abbrev isName (v : V) : Bool := isTx smallS v
abbrev isError (v : V) : Bool := isTx largeS v
def isWord (v : V) : Bool := isError v || (decide (v = .str "yes") || decide (v = .str "no"))
def sp_is_name (K : PySem.W.Frag) : Sp := fun vs H Q _ => ∃ v n, vs = [v] ∧ Srt K H v n ∧ StrOk v ∧ ∀ H', Same H H' → Q (.bl (isName v)) H'
def sp_is_error (K : PySem.W.Frag) : Sp := fun vs H Q _ => ∃ v n, vs = [v] ∧ Srt K H v n ∧ StrOk v ∧ ∀ H', Same H H' → Q (.bl (isError v)) H'
def sp_is_word (K : PySem.W.Frag) : Sp := fun vs H Q _ => ∃ v n, vs = [v] ∧ Srt K H v n ∧ StrOk v ∧ ∀ H', Same H H' → Q (.bl (isWord v)) H'
theorem ok_is_name (T : Txt K mg) : Cal P w K mg base 2 "is_name" ["thing"] (sp_is_name K) := by
  have c_is_text_of := ok_is_text_of (P := P) (w := w) (base := base) T
  obtain ⟨fd, F⟩ := T.d_is_name
  obtain ⟨tk, h_SMALL⟩ := T.c_SMALL
  refine cal_of F T.g_is_name (F.bindsN fun _ _ _ _ _ _ us hl => match us, hl with | [_], _ => rfl) ?_
  refine F.ok sc_is_name (fun vs H Q E h => ?_) (fun cdv A outer s H vs Q E hr h => ?_)
  · obtain ⟨v, n, rfl, _⟩ := h
    rfl
  · refine ⟨_, PSs.nox (pss_one (ps_ret (pe_cal c_is_text_of (hr.mono (by decide)) takes0 (pa_cons (pv 0) (pa_cons (pe_glob (v := .str "abcdefghijklmnopqrstuvwxyz") rfl h_SMALL ⟨_, rfl⟩) pa_nil))))), ?_⟩
    obtain ⟨v, n, rfl, sr, ok, q⟩ := h
    walk_at "rd"
    exact ⟨v, n, _, rfl, sr, ok, q⟩
theorem ok_is_error (T : Txt K mg) : Cal P w K mg base 2 "is_error" ["thing"] (sp_is_error K) := by
  have c_is_text_of := ok_is_text_of (P := P) (w := w) (base := base) T
  obtain ⟨fd, F⟩ := T.d_is_error
  obtain ⟨tk, h_LARGE⟩ := T.c_LARGE
  refine cal_of F T.g_is_error (F.bindsN fun _ _ _ _ _ _ us hl => match us, hl with | [_], _ => rfl) ?_
  refine F.ok sc_is_error (fun vs H Q E h => ?_) (fun cdv A outer s H vs Q E hr h => ?_)
  · obtain ⟨v, n, rfl, _⟩ := h
    rfl
  · refine ⟨_, PSs.nox (pss_one (ps_ret (pe_cal c_is_text_of (hr.mono (by decide)) takes0 (pa_cons (pv 0) (pa_cons (pe_glob (v := .str "ABCDEFGHIJKLMNOPQRSTUVWXYZ") rfl h_LARGE ⟨_, rfl⟩) pa_nil))))), ?_⟩
    obtain ⟨v, n, rfl, sr, ok, q⟩ := h
    walk_at "rd"
    exact ⟨v, n, _, rfl, sr, ok, q⟩
theorem ok_is_word (T : Txt K mg) : Cal P w K mg base 3 "is_word" ["thing"] (sp_is_word K) := by
  have c_is_error := ok_is_error (P := P) (w := w) (base := base) T
  obtain ⟨fd, F⟩ := T.d_is_word
  obtain ⟨a_ANSWERS, h_ANSWERS, tA⟩ := T.c_ANSWERS
  refine cal_of F T.g_is_word (F.bindsN fun _ _ _ _ _ _ us hl => match us, hl with | [_], _ => rfl) ?_
  refine F.ok sc_is_word (fun vs H Q E h => ?_) (fun cdv A outer s H vs Q E hr h => ?_)
  · obtain ⟨v, n, rfl, _⟩ := h
    rfl
  · refine ⟨_, PSs.nox (pss_one (ps_ret (pe_or (pe_cal c_is_error (hr.mono (by decide)) takes0 (pa_cons (pv 0) pa_nil)) (pe_one (pe_and (pe_callB (r := rIsi K) call_isi rfl T.b_isinstance (by decide +kernel) (pa_cons (pv 0) (pa_cons (pe_bltn (v := .ty "str") rfl T.b_str (by decide +kernel) rfl) pa_nil))) (pe_one (pe_cmpR op_in_seq (pv 0) (pe_glob (v := .ref a_ANSWERS) rfl h_ANSWERS rfl) rfl))))))), ?_⟩
    obtain ⟨v, n, rfl, sr, ok, q⟩ := h
    walk_at "rd"
    refine ⟨v, n, rfl, sr, ok, fun H1 s1 => ?_⟩
    walk_at "rd"
    refine ite2 (fun e => ?_) (fun e => ?_)
    · have := q H1 s1
      rw [isWord, e, Bool.true_or] at this
      exact this
    · refine isi_is (Srt.same s1 sr) (by decide) ?_
      walk_at "rd"
      have e' : isError v = false := by simpa using e
      have q1 := q H1 s1
      rw [isWord, e', Bool.false_or] at q1
      refine ite2 (fun e1 => ?_) (fun e1 => ?_)
      · have := of_decide_eq_true e1
        subst this
        obtain ⟨z, rfl⟩ := srt_is_str sr
        refine ⟨a_ANSWERS, _, rfl, .inr (tA H1), rfl, rfl, ?_⟩
        have e2 : inV (.str z) (List.map V.str ["yes", "no"]) = (decide (V.str z = .str "yes") || decide (V.str z = .str "no")) := by
          simp only [inV, List.map_cons, List.map_nil, List.any_cons, List.any_nil, Bool.or_false, eqV, str_beq, V.str.injEq]
        show Q (.bl (inV (.str z) (List.map V.str ["yes", "no"]))) H1
        rw [e2]
        exact q1
      · have e2 : (decide (v = .str "yes") || decide (v = .str "no")) = false := by
          cases v with
          | str z => exact absurd (decide_eq_true (srt_str_eq sr)) e1
          | _ => rfl
        rw [e2] at q1
        exact q1
/-! ### are_unlike -/
theorem unlike_dec {α : Type} [DecidableEq α] (l : List α) : decide (V.int (cnt l : Nat) = V.int (l.length : Nat)) = decide l.Nodup := by
  have h := cnt_all l
  by_cases e : l.Nodup
  · rw [decide_eq_true e, h.mpr e]
    simp
  · rw [decide_eq_false e]
    refine decide_eq_false fun z => e (h.mp ?_)
    have := V.int.inj z
    omega
def sp_are_unlike (K : PySem.W.Frag) : Sp := fun vs H Q _ => ∃ p, vs = [.ref p] ∧
  ((∃ ss : List PySem.Str, (SqL K H p (ss.map V.str) ∨ SqT K H p (ss.map V.str)) ∧ ss.length ≤ 4000 ∧ ∀ H', Same H H' → Q (.bl (decide ss.Nodup)) H') ∨
   (∃ (bs : List Addr) (ks : List (List PySem.Str)), SqL K H p (bs.map V.ref) ∧ bs.length < 60 ∧ Paired (fun k b => RowAt K H b k) ks bs ∧ ∀ H', Same H H' → Q (.bl (decide ks.Nodup)) H'))
theorem ok_are_unlike (T : Txt K mg) : Cal P w K mg base 1 "are_unlike" ["some"] (sp_are_unlike K) := by
  obtain ⟨fd, F⟩ := T.d_are_unlike
  refine cal_of F T.g_are_unlike (F.bindsN fun _ _ _ _ _ _ us hl => match us, hl with | [_], _ => rfl) ?_
  refine F.ok sc_are_unlike (fun vs H Q E h => ?_) (fun cdv A outer s H vs Q E hr h => ?_)
  · obtain ⟨v, rfl, _⟩ := h
    rfl
  · have hu := hu_of hr
    obtain ⟨p, rfl, ⟨ss, hp | hp, hz, q⟩ | ⟨bs, ks, hp, hz, hk, q⟩⟩ := h
    · refine ⟨_, PSs.nox (pss_one (ps_ret (pe_cmpR op_eq (pe_callB cr_lenSet rfl T.b_len (by decide +kernel) (pa_cons (pe_scg (own := [("one", 1)]) (g := gName 1) (tt := tYes) (Z := Zk P w) (ad := rSAddK P w) setK_lay (fun _ _ _ _ => mt_saddK) rfl sc_are_unlike.nd (pi_list (pv 0)) (blkOk_by (own := [("one", 1)]) (N := ["some", "one"]) (sc := defScope s_are_unlike) (by decide +kernel)) (fun _ _ _ _ _ => (pg_name (i := 1) sc_are_unlike.nd rfl (Or.inl rfl))) (fun _ _ _ _ _ => pts_nil) (fun _ _ _ _ _ => (pv 1))) pa_nil)) (pe_callB call_len_seq rfl T.b_len (by decide +kernel) (pa_cons (pv 0) pa_nil)) (nomark _)))), ?_⟩
      walk_at "rd"
      refine ⟨.ref p, rfl, p, rfl, ⟨_, hp⟩, fun D hD => sc_txts (ss := ss) walk_lm hD (fun H2 s2 => Same.seq s2 hp) (by simp) (by show _ < 4096; omega) fun H2 S s2 h2 => ?_⟩
      refine ⟨D, cnt ss, rfl, .inr ⟨S, h2⟩, _, .inl (Same.seq s2 hp), rfl, ?_⟩
      rw [List.length_map, unlike_dec]
      exact q H2 s2
    · refine ⟨_, PSs.nox (pss_one (ps_ret (pe_cmpR op_eq (pe_callB cr_lenSet rfl T.b_len (by decide +kernel) (pa_cons (pe_scg (own := [("one", 1)]) (g := gName 1) (tt := tYes) (Z := Zk P w) (ad := rSAddK P w) setK_lay (fun _ _ _ _ => mt_saddK) rfl sc_are_unlike.nd (pi_tup (pv 0)) (blkOk_by (own := [("one", 1)]) (N := ["some", "one"]) (sc := defScope s_are_unlike) (by decide +kernel)) (fun _ _ _ _ _ => (pg_name (i := 1) sc_are_unlike.nd rfl (Or.inl rfl))) (fun _ _ _ _ _ => pts_nil) (fun _ _ _ _ _ => (pv 1))) pa_nil)) (pe_callB call_len_seq rfl T.b_len (by decide +kernel) (pa_cons (pv 0) pa_nil)) (nomark _)))), ?_⟩
      walk_at "rd"
      refine ⟨.ref p, rfl, p, rfl, ⟨_, hp⟩, fun D hD => sc_txts (ss := ss) walk_tm hD (fun H2 s2 => Same.tq s2 hp) (by simp) (by show _ < 4096; omega) fun H2 S s2 h2 => ?_⟩
      refine ⟨D, cnt ss, rfl, .inr ⟨S, h2⟩, _, .inr (Same.tq s2 hp), rfl, ?_⟩
      rw [List.length_map, unlike_dec]
      exact q H2 s2
    · refine ⟨_, PSs.nox (pss_one (ps_ret (pe_cmpR op_eq (pe_callB cr_lenSet rfl T.b_len (by decide +kernel) (pa_cons (pe_scg (own := [("one", 1)]) (g := gName 1) (tt := tYes) (Z := Zt P w) (ad := rAddT K P w) setT_lay (fun _ _ _ _ => mt_addT (by exact hu)) rfl sc_are_unlike.nd (pi_list (pv 0)) (blkOk_by (own := [("one", 1)]) (N := ["some", "one"]) (sc := defScope s_are_unlike) (by decide +kernel)) (fun _ _ _ _ _ => (pg_name (i := 1) sc_are_unlike.nd rfl (Or.inl rfl))) (fun _ _ _ _ _ => pts_nil) (fun _ _ _ _ _ => (pv 1))) pa_nil)) (pe_callB call_len_seq rfl T.b_len (by decide +kernel) (pa_cons (pv 0) pa_nil)) (nomark _)))), ?_⟩
      walk_at "rd"
      refine ⟨.ref p, rfl, p, rfl, ⟨_, hp⟩, fun D hD => sc_rows (ks := ks) (bs := bs) walk_lm hD (fun H2 s2 => Same.seq s2 hp) (by simp) (by omega) hk fun H2 L s2 h2 hl => ?_⟩
      refine ⟨D, cnt ks, rfl, .inl ⟨L, h2, hl.symm⟩, _, .inl (Same.seq s2 hp), rfl, ?_⟩
      rw [List.length_map, ← Paired.length hk, unlike_dec]
      exact q H2 s2
end
end Rs
set_option Elab.async false
set_option linter.all false
set_option maxRecDepth 100000
set_option maxHeartbeats 2000000
namespace Rs
open PySem PySem.Spec PyProof.Rows L2
local macro_rules | `(tactic| walk_at "rd") => `(tactic| simp only [L2.tRet, L2.tRetN, L2.tSeq, L2.tNext, L2.tIfS, L2.tAsg, L2.gName, L2.gNil, L2.gCons, L2.tVar, L2.tC, L2.tOp, L2.tUn, L2.tCB, L2.tCons, L2.tNil, L2.tAndV, L2.tOrV, L2.tNotV, L2.tAnd, L2.tOr, L2.tNot, L2.tB, L2.tTest, L2.tIf, L2.tChain, L2.tTup, L2.tLst, L2.tDrop, L2.start, L2.cxOf, L2.Cx.nox, L2.Cx.wish, L2.rI0, L2.rI, L2.tYes, Rs.tCalW, List.getElem?_cons_zero, List.getElem?_cons_succ, Option.some.injEq, exists_eq_left', exists_eq_left, exists_and_left, List.cons.injEq, and_true, true_and, L2.V.bl.injEq, L2.V.int.injEq, L2.V.str.injEq, L2.V.ref.injEq, List.set_cons_zero, List.set_cons_succ, List.map_cons, List.map_nil, List.length_cons, List.length_nil, List.replicate, List.cons_append, List.nil_append, List.append_nil, Nat.reduceSub, Nat.reduceAdd])

section
variable {P : Program} {w : World} {K : PySem.W.Frag} {mg : PySem.Str → Option Value} {base : Heap}
/-- a thing of which we know the sort, and, if it is a text, that it fits -/
def Any (K : PySem.W.Frag) (H : Hp) (x : V) : Prop := (∃ m, Srt K H x m) ∧ StrOk x
theorem Any.same {H H' : Hp} {x : V} (e : Same H H') (h : Any K H x) : Any K H' x := ⟨h.1.imp fun _ z => Srt.same e z, h.2⟩
abbrev SqR (K : PySem.W.Frag) (H : Hp) (p : Addr) (xs : List V) : Prop := SqL K H p xs ∨ SqT K H p xs
theorem SqR.same {H H' : Hp} {p : Addr} {xs : List V} (e : Same H H') (h : SqR K H p xs) : SqR K H' p xs := h.elim (fun h => .inl (Same.seq e h)) fun h => .inr (Same.tq e h)
theorem SqR.srt {H : Hp} {p : Addr} {xs : List V} (h : SqR K H p xs) : ∃ n, Srt K H (.ref p) n ∧ isRow n = true := h.elim (fun h => ⟨_, srt_lq h, rfl⟩) fun h => ⟨_, srt_tq h, rfl⟩
/-! ### is_pair, of a row -/
def pairB (p1 p2 : V → Bool) : List V → Bool
  | [a, b] => p1 a && p2 b
  | _ => false
def sp_is_pair (K : PySem.W.Frag) (f1 f2 : Addr) (p1 p2 : V → Bool) : Sp := fun vs H Q _ => ∃ v n, vs = [v, .ref f1, .ref f2] ∧ Srt K H v n ∧ ((isRow n = false ∧ ∀ H', Same H H' → Q (.bl false) H') ∨
  ∃ p xs, v = .ref p ∧ SqR K H p xs ∧ (xs.length = 2 → ∀ x ∈ xs, Any K H x) ∧ ∀ H', Same H H' → Q (.bl (pairB p1 p2 xs)) H')
/-- a test of any thing -/
def spAny (K : PySem.W.Frag) (p : V → Bool) : Sp := fun vs H Q _ => ∃ v n, vs = [v] ∧ Srt K H v n ∧ StrOk v ∧ ∀ H', Same H H' → Q (.bl (p v)) H'
theorem pair_shape {xs : List V} (h : xs.length = 2) : ∃ a b, xs = [a, b] := by
  match xs, h with
  | [a, b], _ => exact ⟨a, b, rfl⟩
theorem pairB_no {p1 p2 : V → Bool} {xs : List V} (h : xs.length ≠ 2) : pairB p1 p2 xs = false := by
  match xs, h with
  | [], _ => rfl
  | [_], _ => rfl
  | [_, _], h => exact absurd rfl h
  | _ :: _ :: _ :: _, _ => rfl
theorem ok_is_pair {k : Nat} {x1 x2 : PySem.Str} {f1 f2 : Addr} {p1 p2 : V → Bool} (T : Txt K mg) (c_1 : Cal P w K mg base 3 x1 ["thing"] (spAny K p1)) (c_2 : Cal P w K mg base 3 x2 ["thing"] (spAny K p2)) (g1 : mg x1 = some (.ref f1)) (g2 : mg x2 = some (.ref f2)) :
    Cal P w K mg base 4 "is_pair" ["thing", "first", "second"] (sp_is_pair K f1 f2 p1 p2) := by
  have c_is_row := ok_is_row (P := P) (w := w) (base := base) T
  obtain ⟨fd, F⟩ := T.d_is_pair
  refine cal_of F T.g_is_pair (F.bindsN fun _ _ _ _ _ _ us hl => match us, hl with | [_, _, _], _ => rfl) ?_
  refine F.ok sc_is_pair (fun vs H Q E h => ?_) (fun cdv A outer s H vs Q E hr h => ?_)
  · obtain ⟨v, n, rfl, _⟩ := h
    rfl
  · obtain ⟨v, n, rfl, sr, ⟨hn, q⟩ | ⟨p, xs, rfl, hp, hx, q⟩⟩ := h
    · refine ⟨_, PSs.nox (pss_one (ps_ret (pe_and (pe_cal c_is_row (hr.mono (by decide)) takes0 (pa_cons (pv 0) pa_nil)) (pe_and (pe_cmpR op_eq (pe_callB call_len_seq rfl T.b_len (by decide +kernel) (pa_cons (pv 0) pa_nil)) pe_int (nomark _)) (pe_and (pe_calL (i := 1) c_1 g1 (hr.mono (by decide)) rfl (.inl rfl) (pa_cons (pe_ix ix_list (pv 0) pe_int (fun _ _ => rfl)) pa_nil)) (pe_one (pe_calL (i := 2) c_2 g2 (hr.mono (by decide)) rfl (.inl rfl) (pa_cons (pe_ix ix_list (pv 0) pe_int (fun _ _ => rfl)) pa_nil)))))))), ?_⟩
      walk_at "rd"
      refine ⟨v, n, rfl, sr, fun H1 s1 => ?_⟩
      walk_at "rd"
      rw [if_neg (by rw [hn]; exact Bool.false_ne_true)]
      exact q H1 s1
    · obtain ⟨n', sr', hn'⟩ := hp.srt
      rcases hp with hp | hp
      · refine ⟨_, PSs.nox (pss_one (ps_ret (pe_and (pe_cal c_is_row (hr.mono (by decide)) takes0 (pa_cons (pv 0) pa_nil)) (pe_and (pe_cmpR op_eq (pe_callB call_len_seq rfl T.b_len (by decide +kernel) (pa_cons (pv 0) pa_nil)) pe_int (nomark _)) (pe_and (pe_calL (i := 1) c_1 g1 (hr.mono (by decide)) rfl (.inl rfl) (pa_cons (pe_ix ix_list (pv 0) pe_int (fun _ _ => rfl)) pa_nil)) (pe_one (pe_calL (i := 2) c_2 g2 (hr.mono (by decide)) rfl (.inl rfl) (pa_cons (pe_ix ix_list (pv 0) pe_int (fun _ _ => rfl)) pa_nil)))))))), ?_⟩
        walk_at "rd"
        refine ⟨_, n', rfl, sr', fun H1 s1 => ?_⟩
        walk_at "rd"
        rw [if_pos hn']
        refine ⟨xs, .inl (Same.seq s1 hp), rfl, _, rfl, ?_⟩
        by_cases hl : xs.length = 2
        · obtain ⟨a, b, rfl⟩ := pair_shape hl
          have ha := hx rfl a List.mem_cons_self
          have hb := hx rfl b (List.mem_cons_of_mem _ List.mem_cons_self)
          obtain ⟨⟨ma, sa⟩, oa⟩ := ha
          obtain ⟨⟨mb, sb⟩, ob⟩ := hb
          rw [if_pos (decide_eq_true (show V.int (([a, b] : List V).length : Nat) = V.int 2 from rfl))]
          refine ⟨rfl, _, rfl, p, [a, b], 0, a, rfl, rfl, Same.seq s1 hp, rfl, a, ma, rfl, Srt.same s1 sa, oa, fun H2 s2 => ⟨_, rfl, ?_⟩⟩
          have q2 := q H2 (s1.trans s2)
          cases e1 : p1 a with
          | false =>
            rw [if_neg (by decide)]
            simp only [pairB, e1, Bool.false_and] at q2
            exact q2
          | true =>
            rw [if_pos rfl]
            refine ⟨rfl, _, rfl, p, [a, b], 1, b, rfl, rfl, Same.seq (s1.trans s2) hp, rfl, b, mb, rfl, Srt.same (s1.trans s2) sb, ob, fun H3 s3 => ?_⟩
            have q3 := q H3 ((s1.trans s2).trans s3)
            simp only [pairB, e1, Bool.true_and] at q3
            exact q3
        · rw [if_neg (by intro z; exact hl (by have := V.int.inj (of_decide_eq_true z); omega))]
          have q1 := q H1 s1
          rw [pairB_no hl] at q1
          exact q1
      · refine ⟨_, PSs.nox (pss_one (ps_ret (pe_and (pe_cal c_is_row (hr.mono (by decide)) takes0 (pa_cons (pv 0) pa_nil)) (pe_and (pe_cmpR op_eq (pe_callB call_len_seq rfl T.b_len (by decide +kernel) (pa_cons (pv 0) pa_nil)) pe_int (nomark _)) (pe_and (pe_calL (i := 1) c_1 g1 (hr.mono (by decide)) rfl (.inl rfl) (pa_cons (pe_ix ix_tup (pv 0) pe_int (fun _ _ => rfl)) pa_nil)) (pe_one (pe_calL (i := 2) c_2 g2 (hr.mono (by decide)) rfl (.inl rfl) (pa_cons (pe_ix ix_tup (pv 0) pe_int (fun _ _ => rfl)) pa_nil)))))))), ?_⟩
        walk_at "rd"
        refine ⟨_, n', rfl, sr', fun H1 s1 => ?_⟩
        walk_at "rd"
        rw [if_pos hn']
        refine ⟨xs, .inr (Same.tq s1 hp), rfl, _, rfl, ?_⟩
        by_cases hl : xs.length = 2
        · obtain ⟨a, b, rfl⟩ := pair_shape hl
          have ha := hx rfl a List.mem_cons_self
          have hb := hx rfl b (List.mem_cons_of_mem _ List.mem_cons_self)
          obtain ⟨⟨ma, sa⟩, oa⟩ := ha
          obtain ⟨⟨mb, sb⟩, ob⟩ := hb
          rw [if_pos (decide_eq_true (show V.int (([a, b] : List V).length : Nat) = V.int 2 from rfl))]
          refine ⟨rfl, _, rfl, p, [a, b], 0, a, rfl, rfl, Same.tq s1 hp, rfl, a, ma, rfl, Srt.same s1 sa, oa, fun H2 s2 => ⟨_, rfl, ?_⟩⟩
          have q2 := q H2 (s1.trans s2)
          cases e1 : p1 a with
          | false =>
            rw [if_neg (by decide)]
            simp only [pairB, e1, Bool.false_and] at q2
            exact q2
          | true =>
            rw [if_pos rfl]
            refine ⟨rfl, _, rfl, p, [a, b], 1, b, rfl, rfl, Same.tq (s1.trans s2) hp, rfl, b, mb, rfl, Srt.same (s1.trans s2) sb, ob, fun H3 s3 => ?_⟩
            have q3 := q H3 ((s1.trans s2).trans s3)
            simp only [pairB, e1, Bool.true_and] at q3
            exact q3
        · rw [if_neg (by intro z; exact hl (by have := V.int.inj (of_decide_eq_true z); omega))]
          have q1 := q H1 s1
          rw [pairB_no hl] at q1
          exact q1
/-! ### is_key -/
def sp_is_key (K : PySem.W.Frag) : Sp := fun vs H Q _ => ∃ v n, vs = [v] ∧ Srt K H v n ∧ ((n ≠ "tuple" ∧ ∀ H', Same H H' → Q (.bl false) H') ∨
  ∃ p xs, v = .ref p ∧ SqT K H p xs ∧ (xs.length = 2 → ∀ x ∈ xs, Any K H x) ∧ ∀ H', Same H H' → Q (.bl (pairB isName isName xs)) H')
theorem ok_is_key (T : Txt K mg) : Cal P w K mg base 3 "is_key" ["thing"] (sp_is_key K) := by
  have c_is_name := ok_is_name (P := P) (w := w) (base := base) T
  obtain ⟨fd, F⟩ := T.d_is_key
  refine cal_of F T.g_is_key (F.bindsN fun _ _ _ _ _ _ us hl => match us, hl with | [_], _ => rfl) ?_
  refine F.ok sc_is_key (fun vs H Q E h => ?_) (fun cdv A outer s H vs Q E hr h => ?_)
  · obtain ⟨v, n, rfl, _⟩ := h
    rfl
  · refine ⟨_, PSs.nox (pss_one (ps_ret (pe_and (pe_callB (r := rIsi K) call_isi rfl T.b_isinstance (by decide +kernel) (pa_cons (pv 0) (pa_cons (pe_bltn (v := .ty "tuple") rfl T.b_tuple (by decide +kernel) rfl) pa_nil))) (pe_and (pe_cmpR op_eq (pe_callB call_len_seq rfl T.b_len (by decide +kernel) (pa_cons (pv 0) pa_nil)) pe_int (nomark _)) (pe_and (pe_cal c_is_name (hr.mono (by decide)) takes0 (pa_cons (pe_ix ix_tup (pv 0) pe_int (fun _ _ => rfl)) pa_nil)) (pe_one (pe_cal c_is_name (hr.mono (by decide)) takes0 (pa_cons (pe_ix ix_tup (pv 0) pe_int (fun _ _ => rfl)) pa_nil)))))))), ?_⟩
    obtain ⟨v, n, rfl, sr, ⟨hn, q⟩ | ⟨p, xs, rfl, hp, hx, q⟩⟩ := h
    · walk_at "rd"
      refine isi_is sr (by decide) ⟨_, rfl, ?_⟩
      rw [if_neg (by simpa using hn)]
      exact q H (Same.refl H)
    · walk_at "rd"
      refine isi_is (srt_tq hp) (by decide) ⟨_, rfl, ?_⟩
      rw [if_pos (by decide)]
      refine ⟨xs, .inr hp, rfl, _, rfl, ?_⟩
      by_cases hl : xs.length = 2
      · obtain ⟨a, b, rfl⟩ := pair_shape hl
        obtain ⟨⟨ma, sa⟩, oa⟩ := hx rfl a List.mem_cons_self
        obtain ⟨⟨mb, sb⟩, ob⟩ := hx rfl b (List.mem_cons_of_mem _ List.mem_cons_self)
        rw [if_pos (decide_eq_true (show V.int (([a, b] : List V).length : Nat) = V.int 2 from rfl))]
        refine ⟨p, [a, b], 0, a, rfl, rfl, hp, rfl, a, ma, rfl, sa, oa, fun H2 s2 => ⟨_, rfl, ?_⟩⟩
        have q2 := q H2 s2
        cases e1 : isName a with
        | false =>
          rw [if_neg (by decide)]
          simp only [pairB, e1, Bool.false_and] at q2
          exact q2
        | true =>
          rw [if_pos rfl]
          refine ⟨p, [a, b], 1, b, rfl, rfl, Same.tq s2 hp, rfl, b, mb, rfl, Srt.same s2 sb, ob, fun H3 s3 => ?_⟩
          have q3 := q H3 (s2.trans s3)
          simp only [pairB, e1, Bool.true_and] at q3
          exact q3
      · rw [if_neg (by intro z; exact hl (by have := V.int.inj (of_decide_eq_true z); omega))]
        have q1 := q H (Same.refl H)
        rw [pairB_no hl] at q1
        exact q1
end
end Rs
set_option Elab.async false
set_option linter.all false
set_option maxRecDepth 100000
set_option maxHeartbeats 2000000
namespace Rs
open PySem PySem.Spec PyProof.Rows L2
local macro_rules | `(tactic| walk_at "rd") => `(tactic| simp only [L2.tRet, L2.tRetN, L2.tSeq, L2.tNext, L2.tIfS, L2.tAsg, L2.gName, L2.gNil, L2.gCons, L2.tVar, L2.tC, L2.tOp, L2.tUn, L2.tCB, L2.tCons, L2.tNil, L2.tAndV, L2.tOrV, L2.tNotV, L2.tAnd, L2.tOr, L2.tNot, L2.tB, L2.tTest, L2.tIf, L2.tChain, L2.tTup, L2.tLst, L2.tDrop, L2.start, L2.cxOf, L2.Cx.nox, L2.Cx.wish, L2.rI0, L2.rI, L2.tYes, Rs.tCalW, List.getElem?_cons_zero, List.getElem?_cons_succ, Option.some.injEq, exists_eq_left', exists_eq_left, exists_and_left, List.cons.injEq, and_true, true_and, L2.V.bl.injEq, L2.V.int.injEq, L2.V.str.injEq, L2.V.ref.injEq, List.set_cons_zero, List.set_cons_succ, List.map_cons, List.map_nil, List.length_cons, List.length_nil, List.replicate, List.cons_append, List.nil_append, List.append_nil, Nat.reduceSub, Nat.reduceAdd])

section
variable {P : Program} {w : World} {K : PySem.W.Frag} {mg : PySem.Str → Option Value} {base : Heap}
theorem lock_same {H H' : Hp} {d : Addr} {u : HO} {od : Obj} (h : H d = some u) (e : Same (upd H d (.frz od u)) H') : Same H (upd H' d u) := fun a o ea => by
  by_cases z : a = d
  · subst z
    rw [h] at ea
    cases ea
    exact upd_same
  · rw [upd_ne z]
    exact e a o (by rw [upd_ne z]; exact ea)
theorem getD_of {α : Type} {l : List α} {i : Nat} {x d : α} (h : l[i]? = some x) : l.getD i d = x := by rw [List.getD_eq_getElem?_getD, h] <;> rfl
theorem all_names (ss : List PySem.Str) (p : V → Bool) : ((List.range ss.length).map fun i => p (.str (ss.getD i default))).all id = ss.all fun x => p (.str x) := by
  rw [List.all_map]
  exact (all_range ss rfl (fun x => p (.str x)) default).symm
/-- a test of each of a row's texts: [p(x) for x in row] -/
theorem lc_txts {J : It} {ss : List PySem.Str} {G : Hp → Prop} (wk : Walk J ss.length G (YAt (ss.map V.str))) {j : Nat} {te : TE} {σ : L2.St} {H1 : Hp} {D : Addr} {Qd : Hp → Prop} (p : V → Bool) (hD : H1 D = none) (hG : ∀ H, Same H1 H → G H) (hn : ss.length ≤ sizeLine)
    (turn : ∀ x H, x ∈ ss → Same H1 H → ∀ Kt : V → Hp → Prop, (∀ H4, Same H H4 → Kt (.bl (p (.str x))) H4) → te ((wipe σ [j]).set j (some (.str x))) H Kt)
    (hd : ∀ H, Same H1 H → H D = some (.lst (((List.range ss.length).map fun i => p (.str (ss.getD i default))).map V.bl)) → Qd H) : LcW J (gName j) tYes te [j] σ D (upd H1 D (.lst [])) Qd := by
  refine lc_map wk hD (fun i => .bl (p (.str (ss.getD i default)))) hn hG (fun i x H H' hi s1 y => ?_) (hd := fun H s1 h => hd H s1 (by rw [h, List.map_map] <;> rfl))
  obtain ⟨rfl, hx⟩ := y
  obtain ⟨z, hz⟩ : ∃ z, ss[i]? = some z := ⟨_, List.getElem?_eq_getElem hi⟩
  rw [List.getElem?_map, hz] at hx
  cases Option.some.inj hx
  refine ⟨Same.refl _, fun Kt hK => ⟨by simp [wipe, List.set_set], ?_⟩⟩
  refine turn z H' (List.mem_of_getElem? hz) s1 Kt fun H4 s4 => ?_
  have := hK H4 s4
  rw [getD_of hz] at this
  exact this
/-! ### are_ends, of a row of texts -/
def sp_are_ends (K : PySem.W.Frag) : Sp := fun vs H Q _ => ∃ (p : Addr) (ss : List PySem.Str), vs = [.ref p] ∧ SqR K H p (ss.map V.str) ∧ ss.length ≤ 4000 ∧ (∀ x ∈ ss, x.length ≤ sizeLine) ∧ ∀ H', Same H H' → Q (.bl ((ss.all fun x => isName (.str x)) && decide ss.Nodup)) H'
theorem ok_are_ends (T : Txt K mg) : Cal P w K mg base 3 "are_ends" ["thing"] (sp_are_ends K) := by
  have c_is_name := ok_is_name (P := P) (w := w) (base := base) T
  have c_is_row := ok_is_row (P := P) (w := w) (base := base) T
  have c_are_unlike := ok_are_unlike (P := P) (w := w) (base := base) T
  obtain ⟨fd, F⟩ := T.d_are_ends
  refine cal_of F T.g_are_ends (F.bindsN fun _ _ _ _ _ _ us hl => match us, hl with | [_], _ => rfl) ?_
  refine F.ok sc_are_ends (fun vs H Q E h => ?_) (fun cdv A outer s H vs Q E hr h => ?_)
  · obtain ⟨p, ss, rfl, _⟩ := h
    rfl
  · obtain ⟨p, ss, rfl, hp, hz, hs, q⟩ := h
    have tail : ∀ H1, Same H H1 → ∀ D H2, Same H1 H2 → H2 D = some (.lst (((List.range ss.length).map fun i => isName (.str (ss.getD i default))).map V.bl)) →
        (rAll K [.ref D] H2 fun x H3 => ∃ c, x = V.bl c ∧ if c = true then sp_are_unlike K [.ref p] H3 Q (at_ W0 [some (.ref p), none]) else Q (.bl false) H3) := by
      intro H1 s1 D H2 s2 h2
      refine ⟨D, _, rfl, SqL.of h2, _, rfl, ?_⟩
      rw [all_names ss isName]
      cases e : ss.all fun x => isName (.str x) with
      | false =>
        rw [if_neg (by decide)]
        have := q H2 (s1.trans s2)
        rw [e, Bool.false_and] at this
        exact this
      | true =>
        rw [if_pos rfl]
        refine ⟨p, rfl, .inl ⟨ss, SqR.same (s1.trans s2) hp, hz, fun H3 s3 => ?_⟩⟩
        have := q H3 ((s1.trans s2).trans s3)
        rw [e, Bool.true_and] at this
        exact this
    have turn : ∀ (H1 : Hp), Same H H1 → ∀ x H2, x ∈ ss → Same H1 H2 → ∀ Kt : V → Hp → Prop, (∀ H4, Same H2 H4 → Kt (.bl (isName (.str x))) H4) → sp_is_name K [.str x] H2 Kt (at_ W0 ((wipe [some (.ref p), none] [1]).set 1 (some (.str x)))) := by
      intro H1 s1 x H2 hx s2 Kt hK
      exact ⟨.str x, _, rfl, srt_str x, fun z e => by cases e; exact hs x hx, hK⟩
    obtain ⟨n', sr', hn'⟩ := hp.srt
    have hz' : ss.length ≤ sizeLine := by rw [sizeLine_eq]; omega
    rcases hp with hp | hp
    · refine ⟨_, PSs.nox (pss_one (ps_ret (pe_and (pe_cal c_is_row (hr.mono (by decide)) takes0 (pa_cons (pv 0) pa_nil)) (pe_and (pe_callB (cr_all rfl) rfl T.b_all (by decide +kernel) (pa_cons (pe_lc (own := [("one", 1)]) (g := gName 1) (tt := tYes) rfl sc_are_ends.nd (pi_list (pv 0)) (blkOk_by (own := [("one", 1)]) (N := ["thing", "one"]) (sc := defScope s_are_ends) (by decide +kernel)) (fun _ _ _ _ _ => (pg_name (i := 1) sc_are_ends.nd rfl (Or.inl rfl))) (fun _ _ _ _ _ => pts_nil) (fun _ _ _ _ _ => (pe_cal c_is_name (hr.mono (by decide)) takes0 (pa_cons (pv 1) pa_nil)))) pa_nil)) (pe_one (pe_cal c_are_unlike (hr.mono (by decide)) takes0 (pa_cons (pv 0) pa_nil))))))), ?_⟩
      walk_at "rd"
      refine ⟨_, n', rfl, sr', fun H1 s1 => ⟨_, rfl, ?_⟩⟩
      rw [if_pos hn']
      refine ⟨_, rfl, p, rfl, ⟨_, Same.seq s1 hp⟩, fun D hD => lc_txts walk_lm isName hD (fun H2 s2 => Same.seq (s1.trans s2) hp) hz' (fun x H2 hx s2 Kt hK => ?_) fun H2 s2 h2 => ?_⟩
      · exact ⟨_, rfl, turn H1 s1 x H2 hx s2 Kt hK⟩
      · exact tail H1 s1 D H2 s2 h2
    · refine ⟨_, PSs.nox (pss_one (ps_ret (pe_and (pe_cal c_is_row (hr.mono (by decide)) takes0 (pa_cons (pv 0) pa_nil)) (pe_and (pe_callB (cr_all rfl) rfl T.b_all (by decide +kernel) (pa_cons (pe_lc (own := [("one", 1)]) (g := gName 1) (tt := tYes) rfl sc_are_ends.nd (pi_tup (pv 0)) (blkOk_by (own := [("one", 1)]) (N := ["thing", "one"]) (sc := defScope s_are_ends) (by decide +kernel)) (fun _ _ _ _ _ => (pg_name (i := 1) sc_are_ends.nd rfl (Or.inl rfl))) (fun _ _ _ _ _ => pts_nil) (fun _ _ _ _ _ => (pe_cal c_is_name (hr.mono (by decide)) takes0 (pa_cons (pv 1) pa_nil)))) pa_nil)) (pe_one (pe_cal c_are_unlike (hr.mono (by decide)) takes0 (pa_cons (pv 0) pa_nil))))))), ?_⟩
      walk_at "rd"
      refine ⟨_, n', rfl, sr', fun H1 s1 => ⟨_, rfl, ?_⟩⟩
      rw [if_pos hn']
      refine ⟨_, rfl, p, rfl, ⟨_, Same.tq s1 hp⟩, fun D hD => lc_txts walk_tm isName hD (fun H2 s2 => Same.tq (s1.trans s2) hp) hz' (fun x H2 hx s2 Kt hK => ?_) fun H2 s2 h2 => ?_⟩
      · exact ⟨_, rfl, turn H1 s1 x H2 hx s2 Kt hK⟩
      · exact tail H1 s1 D H2 s2 h2
end
end Rs
set_option Elab.async false
set_option linter.all false
set_option maxRecDepth 100000
set_option maxHeartbeats 2000000
namespace Rs
open PySem PySem.Spec PyProof.Rows L2
local macro_rules | `(tactic| walk_at "rd") => `(tactic| simp only [L2.tRet, L2.tRetN, L2.tSeq, L2.tNext, L2.tIfS, L2.tAsg, L2.gName, L2.gNil, L2.gCons, L2.tVar, L2.tC, L2.tOp, L2.tUn, L2.tCB, L2.tCons, L2.tNil, L2.tAndV, L2.tOrV, L2.tNotV, L2.tAnd, L2.tOr, L2.tNot, L2.tB, L2.tTest, L2.tIf, L2.tChain, L2.tTup, L2.tLst, L2.tDrop, L2.start, L2.cxOf, L2.Cx.nox, L2.Cx.wish, L2.rI0, L2.rI, L2.tYes, Rs.tCalW, List.getElem?_cons_zero, List.getElem?_cons_succ, Option.some.injEq, exists_eq_left', exists_eq_left, exists_and_left, List.cons.injEq, and_true, true_and, L2.V.bl.injEq, L2.V.int.injEq, L2.V.str.injEq, L2.V.ref.injEq, List.set_cons_zero, List.set_cons_succ, List.map_cons, List.map_nil, List.length_cons, List.length_nil, List.replicate, List.cons_append, List.nil_append, List.append_nil, Nat.reduceSub, Nat.reduceAdd])

section
variable {P : Program} {w : World} {K : PySem.W.Frag} {mg : PySem.Str → Option Value} {base : Heap}
theorem tq_upd {H : Hp} {D b : Addr} {xs ys : List V} {o : HO} (hD : H D = some (.lst ys)) (h : SqT K H b xs) : SqT K (upd H D o) b xs := by
  rcases h with (h | ⟨ob, h⟩) | h
  · exact .inl (.inl (by rw [upd_ne (ne_of h hD (by intro z; cases z))]; exact h))
  · exact .inl (.inr ⟨ob, by rw [upd_ne (ne_of h hD (by intro z; cases z))]; exact h⟩)
  · exact .inr h
theorem Paired.imp {α β : Type} {R S : α → β → Prop} : ∀ {l : List α} {m : List β}, Paired R l m → (∀ a b, R a b → S a b) → Paired S l m
  | _, _, .nil, _ => .nil
  | _, _, .cons h t, f => .cons (f _ _ h) (Paired.imp t f)
theorem Paired.snoc {α β : Type} {R : α → β → Prop} : ∀ {l : List α} {m : List β} {a : α} {b : β}, Paired R l m → R a b → Paired R (l ++ [a]) (m ++ [b])
  | _, _, _, _, .nil, h => .cons h .nil
  | _, _, _, _, .cons h t, h' => .cons h (Paired.snoc t h')
theorem Paired.at {α β : Type} {R : α → β → Prop} : ∀ {l : List α} {m : List β} {i : Nat} {b : β}, Paired R l m → m[i]? = some b → ∃ a, l[i]? = some a ∧ R a b
  | _, _, _, _, .nil, e => by simp at e
  | _, _, 0, _, .cons h _, e => by simp at e; subst e; exact ⟨_, rfl, h⟩
  | _, _, i + 1, _, .cons _ t, e => by
    obtain ⟨a, e1, e2⟩ := Paired.at (i := i) t (by simpa using e)
    exact ⟨a, by simpa using e1, e2⟩
/-! ### are_outcomes, of a row of pairs of texts -/
abbrev PairAt (K : PySem.W.Frag) (H : Hp) (o : PySem.Str × PySem.Str) (b : Addr) : Prop := SqR K H b [.str o.1, .str o.2]
abbrev okOut (o : PySem.Str × PySem.Str) : Bool := isWord (.str o.1) && isName (.str o.2)
def outsB (os : List (PySem.Str × PySem.Str)) : Bool := decide (os.length ≤ 8) && (os.all okOut && decide os.Nodup)
def sp_are_outcomes (K : PySem.W.Frag) : Sp := fun vs H Q _ => ∃ (p : Addr) (bs : List Addr) (os : List (PySem.Str × PySem.Str)), vs = [.ref p] ∧ SqR K H p (bs.map V.ref) ∧ Paired (PairAt K H) os bs ∧ bs.length ≤ 4000 ∧ (∀ o ∈ os, o.1.length ≤ sizeLine ∧ o.2.length ≤ sizeLine) ∧
  ∀ H', Same H H' → Q (.bl (outsB os)) H'
/-- a test of each item of a row -/
theorem lc_tests {J : It} {xs : List V} {G : Hp → Prop} {n : Nat} (wk : Walk J n G (YAt xs)) {j : Nat} {te : TE} {σ : L2.St} {H1 : Hp} {D : Addr} {Qd : Hp → Prop} (f : Nat → Bool) (hD : H1 D = none) (hG : ∀ H, Same H1 H → G H) (hn : n ≤ sizeLine)
    (turn : ∀ (i : Nat) x H, i < n → xs[i]? = some x → Same H1 H → ∀ Kt : V → Hp → Prop, (∀ H4, Same H H4 → Kt (.bl (f i)) H4) → te ((wipe σ [j]).set j (some x)) H Kt)
    (hd : ∀ H, Same H1 H → H D = some (.lst (((List.range n).map f).map V.bl)) → Qd H) : LcW J (gName j) tYes te [j] σ D (upd H1 D (.lst [])) Qd := by
  refine lc_map wk hD (fun i => .bl (f i)) hn hG (fun i x H H' hi s1 y => ?_) (hd := fun H s1 h => hd H s1 (by rw [h, List.map_map] <;> rfl))
  obtain ⟨rfl, hx⟩ := y
  exact ⟨Same.refl _, fun Kt hK => ⟨by simp [wipe, List.set_set], turn i x H' hi hx s1 Kt hK⟩⟩
/-- [tuple(x) for x in row], of pairs of texts -/
theorem lc_tuples {J : It} {bs : List Addr} {os : List (PySem.Str × PySem.Str)} {G : Hp → Prop} (wk : Walk J bs.length G (YAt (bs.map V.ref))) {j : Nat} {σ : L2.St} {H1 : Hp} {D : Addr} {Qd : Hp → Prop} (hD : H1 D = none) (hG : ∀ H, Same H1 H → G H) (hn : bs.length ≤ 4000)
    (hk : Paired (PairAt K H1) os bs) (hj : j < σ.length) (hd : ∀ H cs, Same H1 H → H D = some (.lst (cs.map V.ref)) → Paired (fun k b => RowAt K H b k) (os.map fun o => [o.1, o.2]) cs → Qd H) :
    LcW J (gName j) tYes (tCB (rTupOf K) (tCons (tVar j) tNil)) [j] σ D (upd H1 D (.lst [])) Qd := by
  have hlen : os.length = bs.length := Paired.length hk
  refine lc_it wk (fun i H => Same H1 H ∧ ∃ cs : List Addr, H D = some (.lst (cs.map V.ref)) ∧ cs.length = i ∧ Paired (fun k b => RowAt K H b k) ((os.take i).map fun o => [o.1, o.2]) cs)
    ⟨Same.new hD, [], upd_same, rfl, by rw [List.take_zero]; exact .nil⟩ (fun i H _ p => hG H p.1) (fun i x H H' hi p y => ?_) (fun H p => ?_)
  · obtain ⟨rfl, hx⟩ := y
    obtain ⟨b, hb⟩ : ∃ b, bs[i]? = some b := ⟨_, List.getElem?_eq_getElem hi⟩
    rw [List.getElem?_map, hb] at hx
    cases Option.some.inj hx
    obtain ⟨s1, cs, hc, hl, hp⟩ := p
    obtain ⟨o, eo, ho⟩ := Paired.at hk hb
    refine ⟨by simp [wipe, List.set_set], ?_⟩
    have next : ∀ c H2, Same H' H2 → RowAt K H2 c [o.1, o.2] → ∃ acc, H2 D = some (.lst acc) ∧ acc.length < sizeLine ∧ (Same H1 (upd H2 D (.lst (acc ++ [.ref c]))) ∧ ∃ cs : List Addr, (upd H2 D (.lst (acc ++ [.ref c]))) D = some (.lst (cs.map V.ref)) ∧ cs.length = i + 1 ∧
        Paired (fun k b => RowAt K (upd H2 D (.lst (acc ++ [.ref c]))) b k) ((os.take (i + 1)).map fun o => [o.1, o.2]) cs) := by
      intro c H2 s2 hr
      have hD2 := s2 _ _ hc
      refine ⟨_, hD2, by rw [List.length_map, sizeLine_eq]; omega, fun a u e => by rw [upd_ne (ne_of_none e hD)]; exact s2 _ _ (s1 _ _ e), cs ++ [c], by rw [upd_same, List.map_append] <;> rfl, by simp [hl], ?_⟩
      rw [take_next eo, List.map_append]
      exact Paired.snoc (Paired.imp hp fun k b h => tq_upd hD2 (Same.tq s2 h)) (tq_upd hD2 hr)
    refine ⟨.ref b, List.getElem?_set_self (by rw [wipe_length]; exact hj), b, [.str o.1, .str o.2], rfl, ?_⟩
    rcases ho with ho | ho
    · exact .inl ⟨Same.seq s1 ho, fun l hl => next l _ (Same.new hl) (SqT.of upd_same)⟩
    · exact .inr ⟨Same.tq s1 ho, next b H' (Same.refl _) (Same.tq s1 ho)⟩
  · obtain ⟨s1, cs, hc, hl, hp⟩ := p
    rw [← hlen, List.take_length] at hp
    exact hd H cs s1 hc hp
theorem row_nodup (os : List (PySem.Str × PySem.Str)) : (os.map fun o => [o.1, o.2]).Nodup ↔ os.Nodup := by
  unfold List.Nodup
  rw [List.pairwise_map]
  refine ⟨fun h => h.imp fun hne e => hne (by rw [e]), fun h => h.imp fun hne e => hne ?_⟩
  obtain ⟨e1, e2⟩ := List.cons.inj e
  exact Prod.ext e1 (List.cons.inj e2).1
theorem ok_are_outcomes (T : Txt K mg) : Cal P w K mg base 5 "are_outcomes" ["thing"] (sp_are_outcomes K) := by
  have c_is_name : Cal P w K mg base 3 "is_name" ["thing"] (spAny K isName) := by
    obtain ⟨f, fd, F, r⟩ := (ok_is_name (P := P) (w := w) (base := base) T).ex
    exact ⟨f, fd, F.mono (by decide), r⟩
  have c_is_word : Cal P w K mg base 3 "is_word" ["thing"] (spAny K isWord) := ok_is_word (P := P) (w := w) (base := base) T
  have c_is_row := ok_is_row (P := P) (w := w) (base := base) T
  have c_is_pair := ok_is_pair (k := 0) T c_is_word c_is_name T.g_is_word T.g_is_name
  have c_are_unlike := ok_are_unlike (P := P) (w := w) (base := base) T
  obtain ⟨fd, F⟩ := T.d_are_outcomes
  obtain ⟨tk, h_MOST_OUTCOMES⟩ := T.c_MOST_OUTCOMES
  refine cal_of F T.g_are_outcomes (F.bindsN fun _ _ _ _ _ _ us hl => match us, hl with | [_], _ => rfl) ?_
  refine F.ok sc_are_outcomes (fun vs H Q E h => ?_) (fun cdv A outer s H vs Q E hr h => ?_)
  · obtain ⟨p, bs, os, rfl, _⟩ := h
    rfl
  · obtain ⟨p, bs, os, rfl, hp, hk, hz, hs, q⟩ := h
    obtain ⟨n', sr', hn'⟩ := hp.srt
    have hlen : os.length = bs.length := Paired.length hk
    -- both readings are the same but for how the row is walked
    have last : ∀ H1, Same H H1 → os.length ≤ 8 → outsB os = decide os.Nodup → ∀ {J : It} {G : Hp → Prop}, Walk J bs.length G (YAt (bs.map V.ref)) → (∀ H2, Same H H2 → G H2) → ∀ D, H1 D = none →
        LcW J (gName 1) tYes (tCB (rTupOf K) (tCons (tVar 1) tNil)) [1] [some (.ref p), none] D (upd H1 D (.lst [])) (fun H2 => sp_are_unlike K [.ref D] H2 Q (at_ (fun _ _ _ _ => False) [some (.ref p), none])) := by
      intro H1 s1 h8 eo J G wk hG D hD
      refine lc_tuples wk hD (fun H2 s2 => hG H2 (s1.trans s2)) hz (Paired.imp hk fun o b h => SqR.same s1 h) (by simp) fun H2 cs s2 h2 h3 => ?_
      have hcl : cs.length = bs.length := by rw [← Paired.length h3, List.length_map]; exact hlen
      refine ⟨D, rfl, .inr ⟨cs, _, SqL.of h2, by omega, h3, fun H3 s3 => ?_⟩⟩
      have := q H3 ((s1.trans s2).trans s3)
      rw [eo] at this
      rw [show decide ((os.map fun o => [o.1, o.2]).Nodup) = decide os.Nodup from by simp only [row_nodup]]
      exact this
    have first : ∀ H1, Same H H1 → os.length ≤ 8 → ∀ {J : It} {G : Hp → Prop}, Walk J bs.length G (YAt (bs.map V.ref)) → (∀ H2, Same H H2 → G H2) → ∀ D, H1 D = none → ∀ Qd : Hp → Prop, (∀ H2, Same H1 H2 → H2 D = some (.lst (((List.range bs.length).map fun i => okOut (os.getD i default)).map V.bl)) → Qd H2) →
        LcW J (gName 1) tYes (tCalW (sp_is_pair K (He.ga K "is_word") (He.ga K "is_name") isWord isName) (fun _ _ _ _ => False) (tCons (tVar 1) (tCons (tC (.ref (He.ga K "is_word"))) (tCons (tC (.ref (He.ga K "is_name"))) tNil)))) [1] [some (.ref p), none] D (upd H1 D (.lst [])) Qd := by
      intro H1 s1 h8 J G wk hG D hD Qd hd
      refine lc_tests wk (fun i => okOut (os.getD i default)) hD (fun H2 s2 => hG H2 (s1.trans s2)) (by rw [sizeLine_eq]; omega) (fun i x H2 hi hx s2 Kt hK => ?_) hd
      obtain ⟨b, hb⟩ : ∃ b, bs[i]? = some b := ⟨_, List.getElem?_eq_getElem hi⟩
      rw [List.getElem?_map, hb] at hx
      cases Option.some.inj hx
      obtain ⟨o, eo, ho⟩ := Paired.at hk hb
      rw [getD_of eo] at hK
      have ho' : PairAt K H2 o b := SqR.same (s1.trans s2) ho
      obtain ⟨m, sm, hm⟩ := ho'.srt
      refine ⟨.ref b, rfl, .ref b, m, rfl, sm, .inr ⟨b, _, rfl, ho', fun _ x hx => ?_, hK⟩⟩
      obtain ⟨l1, l2⟩ := hs o (List.mem_of_getElem? eo)
      rcases List.mem_cons.mp hx with rfl | hx
      · exact ⟨⟨_, srt_str _⟩, fun z e => by cases e; exact l1⟩
      · rcases List.mem_cons.mp hx with rfl | hx
        · exact ⟨⟨_, srt_str _⟩, fun z e => by cases e; exact l2⟩
        · cases hx
    have allOut : ((List.range bs.length).map fun i => okOut (os.getD i default)).all id = os.all okOut := by
      rw [List.all_map]
      exact (all_range os hlen.symm okOut default).symm
    rcases hp with hp | hp
    · refine ⟨_, PSs.nox (pss_cons (ps_if (PW.pt (pw_or (pt_not (pt_val (pe_cal c_is_row (hr.mono (by decide)) takes0 (pa_cons (pv 0) pa_nil)))) (pw_or (pt_cmpR op_gt (pe_callB (r := rLenQ K) call_lenQ rfl T.b_len (by decide +kernel) (pa_cons (pv 0) pa_nil)) (pe_glob (v := .int 8) rfl h_MOST_OUTCOMES ⟨_, rfl⟩) (nomark _)) (pw_or1 (pt_not (pt_val (pe_callB (cr_all rfl) rfl T.b_all (by decide +kernel) (pa_cons (pe_lc (own := [("one", 1)]) (g := gName 1) (tt := tYes) rfl sc_are_outcomes.nd (pi_list (pv 0)) (blkOk_by (own := [("one", 1)]) (N := ["thing", "one"]) (sc := defScope s_are_outcomes) (by decide +kernel)) (fun _ _ _ _ _ => (pg_name (i := 1) sc_are_outcomes.nd rfl (Or.inl rfl))) (fun _ _ _ _ _ => pts_nil) (fun _ _ _ _ _ => (pe_cal c_is_pair (hr.mono (by decide)) takes0 (pa_cons (pv 1) (pa_cons (pe_glob (v := .ref (He.ga K "is_word")) rfl T.g_is_word rfl) (pa_cons (pe_glob (v := .ref (He.ga K "is_name")) rfl T.g_is_name rfl) pa_nil)))))) pa_nil)))))))) (pss_one (ps_ret pe_bl)) pss_nil)
      (pss_one (ps_ret (pe_cal c_are_unlike (hr.mono (by decide)) takes0 (pa_cons (pe_lc (own := [("one", 1)]) (g := gName 1) (tt := tYes) rfl sc_are_outcomes.nd (pi_list (pv 0)) (blkOk_by (own := [("one", 1)]) (N := ["thing", "one"]) (sc := defScope s_are_outcomes) (by decide +kernel)) (fun _ _ _ _ _ => (pg_name (i := 1) sc_are_outcomes.nd rfl (Or.inl rfl))) (fun _ _ _ _ _ => pts_nil) (fun _ _ _ _ _ => (pe_callTy (r := rTupOf K) call_tupOf rfl T.b_tuple (by decide +kernel) (pa_cons (pv 1) pa_nil)))) pa_nil))))), ?_⟩
      walk_at "rd"
      refine ⟨_, n', rfl, sr', fun H1 s1 => ⟨_, rfl, ?_⟩⟩
      simp only [hn', Bool.not_true, Bool.false_eq_true, if_false]
      refine ⟨p, _, rfl, .inl (Same.seq s1 hp), _, rfl, ?_⟩
      rw [List.length_map]
      by_cases h8 : os.length ≤ 8
      · rw [if_neg (by simp; omega)]
        refine ⟨_, rfl, p, rfl, ⟨_, Same.seq s1 hp⟩, fun D hD => first H1 s1 h8 walk_lm (fun H2 s2 => Same.seq s2 hp) D hD _ fun H2 s2 h2 => ?_⟩
        refine ⟨D, _, rfl, SqL.of h2, _, rfl, ?_⟩
        rw [allOut]
        cases e : os.all okOut with
        | false =>
          simp only [Bool.not_false, if_true]
          have := q H2 (s1.trans s2)
          rw [outsB, e, Bool.false_and, Bool.and_false] at this
          exact this
        | true =>
          simp only [Bool.not_true, Bool.false_eq_true, if_false]
          exact ⟨_, rfl, p, rfl, ⟨_, Same.seq (s1.trans s2) hp⟩, fun D2 hD2 => last H2 (s1.trans s2) h8 (by rw [outsB, e, decide_eq_true h8, Bool.true_and, Bool.true_and]) walk_lm (fun H3 s3 => Same.seq s3 hp) D2 hD2⟩
      · rw [if_pos (by simp; omega), if_pos trivial]
        have := q H1 s1
        rw [outsB, decide_eq_false h8, Bool.false_and] at this
        exact this
    · refine ⟨_, PSs.nox (pss_cons (ps_if (PW.pt (pw_or (pt_not (pt_val (pe_cal c_is_row (hr.mono (by decide)) takes0 (pa_cons (pv 0) pa_nil)))) (pw_or (pt_cmpR op_gt (pe_callB (r := rLenQ K) call_lenQ rfl T.b_len (by decide +kernel) (pa_cons (pv 0) pa_nil)) (pe_glob (v := .int 8) rfl h_MOST_OUTCOMES ⟨_, rfl⟩) (nomark _)) (pw_or1 (pt_not (pt_val (pe_callB (cr_all rfl) rfl T.b_all (by decide +kernel) (pa_cons (pe_lc (own := [("one", 1)]) (g := gName 1) (tt := tYes) rfl sc_are_outcomes.nd (pi_tup (pv 0)) (blkOk_by (own := [("one", 1)]) (N := ["thing", "one"]) (sc := defScope s_are_outcomes) (by decide +kernel)) (fun _ _ _ _ _ => (pg_name (i := 1) sc_are_outcomes.nd rfl (Or.inl rfl))) (fun _ _ _ _ _ => pts_nil) (fun _ _ _ _ _ => (pe_cal c_is_pair (hr.mono (by decide)) takes0 (pa_cons (pv 1) (pa_cons (pe_glob (v := .ref (He.ga K "is_word")) rfl T.g_is_word rfl) (pa_cons (pe_glob (v := .ref (He.ga K "is_name")) rfl T.g_is_name rfl) pa_nil)))))) pa_nil)))))))) (pss_one (ps_ret pe_bl)) pss_nil)
      (pss_one (ps_ret (pe_cal c_are_unlike (hr.mono (by decide)) takes0 (pa_cons (pe_lc (own := [("one", 1)]) (g := gName 1) (tt := tYes) rfl sc_are_outcomes.nd (pi_tup (pv 0)) (blkOk_by (own := [("one", 1)]) (N := ["thing", "one"]) (sc := defScope s_are_outcomes) (by decide +kernel)) (fun _ _ _ _ _ => (pg_name (i := 1) sc_are_outcomes.nd rfl (Or.inl rfl))) (fun _ _ _ _ _ => pts_nil) (fun _ _ _ _ _ => (pe_callTy (r := rTupOf K) call_tupOf rfl T.b_tuple (by decide +kernel) (pa_cons (pv 1) pa_nil)))) pa_nil))))), ?_⟩
      walk_at "rd"
      refine ⟨_, n', rfl, sr', fun H1 s1 => ⟨_, rfl, ?_⟩⟩
      simp only [hn', Bool.not_true, Bool.false_eq_true, if_false]
      refine ⟨p, _, rfl, .inr (Same.tq s1 hp), _, rfl, ?_⟩
      rw [List.length_map]
      by_cases h8 : os.length ≤ 8
      · rw [if_neg (by simp; omega)]
        refine ⟨_, rfl, p, rfl, ⟨_, Same.tq s1 hp⟩, fun D hD => first H1 s1 h8 walk_tm (fun H2 s2 => Same.tq s2 hp) D hD _ fun H2 s2 h2 => ?_⟩
        refine ⟨D, _, rfl, SqL.of h2, _, rfl, ?_⟩
        rw [allOut]
        cases e : os.all okOut with
        | false =>
          simp only [Bool.not_false, if_true]
          have := q H2 (s1.trans s2)
          rw [outsB, e, Bool.false_and, Bool.and_false] at this
          exact this
        | true =>
          simp only [Bool.not_true, Bool.false_eq_true, if_false]
          exact ⟨_, rfl, p, rfl, ⟨_, Same.tq (s1.trans s2) hp⟩, fun D2 hD2 => last H2 (s1.trans s2) h8 (by rw [outsB, e, decide_eq_true h8, Bool.true_and, Bool.true_and]) walk_tm (fun H3 s3 => Same.tq s3 hp) D2 hD2⟩
      · rw [if_pos (by simp; omega), if_pos trivial]
        have := q H1 s1
        rw [outsB, decide_eq_false h8, Bool.false_and] at this
        exact this
end
end Rs
set_option Elab.async false
set_option linter.all false
set_option maxRecDepth 100000
set_option maxHeartbeats 2000000
namespace Rs
open PySem PySem.Spec PyProof.Rows L2
local macro_rules | `(tactic| walk_at "rd") => `(tactic| simp only [L2.tRet, L2.tRetN, L2.tSeq, L2.tNext, L2.tIfS, L2.tAsg, L2.gName, L2.gNil, L2.gCons, L2.tVar, L2.tC, L2.tOp, L2.tUn, L2.tCB, L2.tCons, L2.tNil, L2.tAndV, L2.tOrV, L2.tNotV, L2.tAnd, L2.tOr, L2.tNot, L2.tB, L2.tTest, L2.tIf, L2.tChain, L2.tTup, L2.tLst, L2.tDrop, L2.start, L2.cxOf, L2.Cx.nox, L2.Cx.wish, L2.rI0, L2.rI, L2.tYes, Rs.tCalW, List.getElem?_cons_zero, List.getElem?_cons_succ, Option.some.injEq, exists_eq_left', exists_eq_left, exists_and_left, List.cons.injEq, and_true, true_and, L2.V.bl.injEq, L2.V.int.injEq, L2.V.str.injEq, L2.V.ref.injEq, List.set_cons_zero, List.set_cons_succ, List.map_cons, List.map_nil, List.length_cons, List.length_nil, List.replicate, List.cons_append, List.nil_append, List.append_nil, Nat.reduceSub, Nat.reduceAdd])

section
variable {P : Program} {w : World} {K : PySem.W.Frag} {mg : PySem.Str → Option Value} {base : Heap}
/-! ### moves -/
abbrev Outs := List (PySem.Str × PySem.Str)
abbrev Mv := (PySem.Str × PySem.Str) × Outs
def MvAt (K : PySem.W.Frag) (H : Hp) (m : Mv) (kv : List Key × V) : Prop := kv.1 = [Sum.inr m.1.1, Sum.inr m.1.2] ∧ ∃ p bs, kv.2 = .ref p ∧ SqR K H p (bs.map V.ref) ∧ Paired (PairAt K H) m.2 bs
def MovesAt (K : PySem.W.Frag) (H : Hp) (d : Addr) (mv : List Mv) : Prop := ∃ kvs, H d = some (.dT kvs) ∧ Paired (MvAt K H) mv kvs ∧ (mv.map (·.1)).Nodup
structure MovesOk (mv : List Mv) : Prop where
  keys : ∀ m ∈ mv, isName (.str m.1.1) = true ∧ isName (.str m.1.2) = true
  outs : ∀ m ∈ mv, outsB m.2 = true
  few : cnt (mv.map (·.1.2)) ≤ 8
  size : mv.length ≤ 4000
theorem name_len {x : PySem.Str} (h : isName (.str x) = true) : x.length ≤ sizeLine := by
  have : x.length ≤ 8 := by
    simp only [isTx, Bool.and_eq_true, decide_eq_true_eq] at h
    exact h.2.1
  rw [sizeLine_eq]; omega
theorem tx_len {x s : PySem.Str} (h : isTx s (.str x) = true) : x.length ≤ 8 := by
  simp only [isTx, Bool.and_eq_true, decide_eq_true_eq] at h
  exact h.2.1
theorem word_len {x : PySem.Str} (h : isWord (.str x) = true) : x.length ≤ sizeLine := by
  unfold isWord at h
  rw [Bool.or_eq_true, Bool.or_eq_true] at h
  rw [sizeLine_eq]
  rcases h with h | h | h
  · have := tx_len h; omega
  · have e : x = "yes" := V.str.inj (of_decide_eq_true h)
    subst e; decide
  · have e : x = "no" := V.str.inj (of_decide_eq_true h)
    subst e; decide
theorem outs_len {os : Outs} (h : outsB os = true) : os.length ≤ 8 ∧ ∀ o ∈ os, o.1.length ≤ sizeLine ∧ o.2.length ≤ sizeLine := by
  simp only [outsB, Bool.and_eq_true, decide_eq_true_eq, List.all_eq_true] at h
  exact ⟨h.1, fun o ho => ⟨word_len (h.2.1 o ho).1, name_len (h.2.1 o ho).2⟩⟩
theorem MvAt.same {H H' : Hp} {m : Mv} {kv : List Key × V} (e : Same H H') (h : MvAt K H m kv) : MvAt K H' m kv := by
  obtain ⟨h1, p, bs, h2, h3, h4⟩ := h
  exact ⟨h1, p, bs, h2, SqR.same e h3, Paired.imp h4 fun o b z => SqR.same e z⟩
/-- what is not d stands also while d is locked -/
theorem sqR_lock {H : Hp} {d p : Addr} {u : HO} {od : Obj} {xs : List V} (hd : H d = some u) (hu : ∀ xs, u ≠ .lst xs ∧ u ≠ .tup xs) (hf : ∀ o v, u ≠ .frz o v) (h : SqR K H p xs) : SqR K (upd H d (.frz od u)) p xs := by
  have ne : ∀ o, H p = some o → (o ≠ u) → p ≠ d := fun o ho hne z => by subst z; rw [hd] at ho; exact hne (Option.some.inj ho).symm
  rcases h with ((h | ⟨o, h⟩) | h) | ((h | ⟨o, h⟩) | h)
  · exact .inl (.inl (.inl (by rw [upd_ne (ne _ h (fun z => (hu _).1 z.symm))]; exact h)))
  · exact .inl (.inl (.inr ⟨o, by rw [upd_ne (ne _ h (fun z => hf _ _ z.symm))]; exact h⟩))
  · exact .inl (.inr h)
  · exact .inr (.inl (.inl (by rw [upd_ne (ne _ h (fun z => (hu _).2 z.symm))]; exact h)))
  · exact .inr (.inl (.inr ⟨o, by rw [upd_ne (ne _ h (fun z => hf _ _ z.symm))]; exact h⟩))
  · exact .inr (.inr h)
theorem mvAt_lock {H : Hp} {d : Addr} {kvs : List (List Key × V)} {od : Obj} {m : Mv} {kv : List Key × V} (hd : H d = some (.dT kvs)) (h : MvAt K H m kv) : MvAt K (upd H d (.frz od (.dT kvs))) m kv := by
  obtain ⟨h1, p, bs, h2, h3, h4⟩ := h
  have hu : ∀ xs, HO.dT kvs ≠ .lst xs ∧ HO.dT kvs ≠ .tup xs := fun xs => ⟨(fun z => by cases z), (fun z => by cases z)⟩
  have hf : ∀ (o : Obj) (v : HO), HO.dT kvs ≠ .frz o v := fun o v z => by cases z
  exact ⟨h1, p, bs, h2, sqR_lock hd hu hf h3, Paired.imp h4 fun o b z => sqR_lock hd hu hf z⟩
def sp_are_moves (K : PySem.W.Frag) : Sp := fun vs H Q _ => ∃ (d : Addr) (mv : List Mv), vs = [.ref d] ∧ MovesAt K H d mv ∧ MovesOk mv ∧ ∀ H', Same H H' → Q (.bl true) H'
theorem valV_at {kvs : List (List Key × V)} {mv : List Mv} {kv : List Key × V} {H : Hp} (hp : Paired (MvAt K H) mv kvs) (nd : (mv.map (·.1)).Nodup) (h : kv ∈ kvs) : valV kvs kv.1 = some kv.2 := by
  unfold valV
  induction hp with
  | nil => cases h
  | @cons m k0 mv kvs h1 ht ih =>
    obtain ⟨n1, n2⟩ := List.nodup_cons.mp nd
    by_cases e : k0.1 = kv.1
    · rw [List.find?_cons_of_pos (by simpa using e)]
      rcases List.mem_cons.mp h with rfl | h
      · rfl
      · exfalso
        obtain ⟨i, hi⟩ := List.getElem?_of_mem h
        obtain ⟨m', em, hm⟩ := Paired.at ht hi
        refine n1 (List.mem_map.mpr ⟨m', List.mem_of_getElem? em, ?_⟩)
        rw [h1.1, hm.1] at e
        obtain ⟨e1, e2⟩ := List.cons.inj e
        obtain ⟨e2, _⟩ := List.cons.inj e2
        exact (Prod.ext (Sum.inr.inj e1) (Sum.inr.inj e2)).symm
    · rw [List.find?_cons_of_neg (by simpa using e)]
      rcases List.mem_cons.mp h with rfl | h
      · exact absurd rfl e
      · exact ih n2 h
theorem same_loc {H H' : Hp} {d : Addr} {u : HO} {od : Obj} (h : Same (upd H d (.frz od u)) H') : H' d = some (.frz od u) := h _ _ upd_same
/-- the methods of a dict's keys, as a set -/
theorem sc_meths {d : Addr} {od : Obj} {kvs : List (List Key × V)} {mv : List Mv} {H0 : Hp} (hp : Paired (MvAt K H0) mv kvs) {j : Nat} {σ : L2.St} {H1 : Hp} {D : Addr} {Qd : Hp → Prop} (hD : H1 D = none) (hG : H1 d = some (.frz od (.dT kvs))) (hj : j < σ.length) (hn : mv.length ≤ 4000)
    (hd : ∀ H S, Same H1 H → H D = some (SetK P w D S (cnt (mv.map (·.1.2)))) → Qd H) : ScW (Itkt d od kvs) (Zk P w) (rSAddK P w) (gName j) tYes (tOp (rIxT K) (tVar j) (tC (.int 1))) [j] σ D (upd H1 D (Zk P w D)) Qd := by
  have hlen : mv.length = kvs.length := Paired.length hp
  have hl2 : (mv.map (·.1.2)).length = kvs.length := by rw [List.length_map]; exact hlen
  refine sc_it walk_keysT (fun i H => Same H1 H ∧ H D = some (SetK P w D (inTx ((mv.map (·.1.2)).take i)) (cnt ((mv.map (·.1.2)).take i)))) ⟨Same.new hD, ?_⟩ (fun i H _ p => p.1 _ _ hG) (fun i x H H' hi p y => ?_) (fun H p => hd H _ p.1 (by have := p.2; rw [← hl2, List.take_length] at this; exact this))
  · rw [upd_same]
    have : (fun _ => false) = inTx ((mv.map (·.1.2)).take 0) := by funext k; cases k <;> simp [inTx]
    show some (SetK P w D _ _) = _
    rw [this]
    rfl
  · obtain ⟨rfl, k, v, b, hk, rfl, hb⟩ := y
    obtain ⟨m, em, h1, _⟩ := Paired.at hp hk
    have hz : (mv.map (·.1.2))[i]? = some m.1.2 := by rw [List.getElem?_map, em] <;> rfl
    rw [show k = [Sum.inr m.1.1, Sum.inr m.1.2] from h1] at hb
    refine ⟨by simp [wipe, List.set_set], ?_⟩
    refine ⟨.ref b, List.getElem?_set_self (by rw [wipe_length]; exact hj), b, [.str m.1.1, .str m.1.2], 1, .str m.1.2, rfl, rfl, SqT.of hb, rfl, D, Sum.inr m.1.2, _, _, rfl, rfl, p.2, ?_, ?_, ?_⟩
    · have := cnt_le ((mv.map (·.1.2)).take i)
      have := List.length_take_le i (mv.map (·.1.2))
      show _ < 4096
      omega
    · intro a o e
      rw [upd_ne (ne_of_none e hD)]
      exact p.1 _ _ e
    · rw [upd_same]
      congr 1
      have e1 : (fun j : Key => inTx ((mv.map (·.1.2)).take i) j || decide (j = (Sum.inr m.1.2 : Key))) = inTx ((mv.map (·.1.2)).take (i + 1)) := by
        funext k
        rw [take_next hz]
        cases k with
        | inl a => simp [inTx]
        | inr a => simp [inTx, List.mem_append, Bool.decide_or]
      have e2 : (if inTx ((mv.map (·.1.2)).take i) (Sum.inr m.1.2) = true then cnt ((mv.map (·.1.2)).take i) else cnt ((mv.map (·.1.2)).take i) + 1) = cnt ((mv.map (·.1.2)).take (i + 1)) := by
        rw [cnt_take hz]
        by_cases h : m.1.2 ∈ (mv.map (·.1.2)).take i
        · rw [if_pos (by simpa [inTx] using h), if_pos h, Nat.add_zero]
        · rw [if_neg (by simpa [inTx] using h), if_neg h]
      show SetK P w D _ _ = SetK P w D _ _
      rw [e1, e2]
theorem ok_are_moves (T : Txt K mg) : Cal P w K mg base 6 "are_moves" ["thing"] (sp_are_moves K) := by
  have c_is_key := ok_is_key (P := P) (w := w) (base := base) T
  have c_are_outcomes := ok_are_outcomes (P := P) (w := w) (base := base) T
  obtain ⟨fd, F⟩ := T.d_are_moves
  obtain ⟨tk, h_MOST_METHODS⟩ := T.c_MOST_METHODS
  refine cal_of F T.g_are_moves (F.bindsN fun _ _ _ _ _ _ us hl => match us, hl with | [_], _ => rfl) ?_
  refine F.ok sc_are_moves (fun vs H Q E h => ?_) (fun cdv A outer s H vs Q E hr h => ?_)
  · obtain ⟨p, mv, rfl, _⟩ := h
    rfl
  · have hu := hu_of hr
    refine ⟨_, PSs.nox (pss_cons (ps_if (pt_not (pt_val (pe_callB (r := rIsi K) call_isi rfl T.b_isinstance (by decide +kernel) (pa_cons (pv 0) (pa_cons (pe_bltn (v := .ty "dict") rfl T.b_dict (by decide +kernel) rfl) pa_nil))))) (pss_one (ps_ret pe_bl)) pss_nil)
      (pss_cons (ps_lock (ps_for PassesOwn.never rfl (pi_keys (pv 0)) (pg_name (i := 1) sc_are_moves.nd rfl (Or.inl rfl)) (pss_one (ps_if (PW.pt (pw_or (pt_not (pt_val (pe_cal c_is_key (hr.mono (by decide)) takes0 (pa_cons (pv 1) pa_nil)))) (pw_or1 (pt_not (pt_val (pe_cal c_are_outcomes (hr.mono (by decide)) takes0 (pa_cons (pe_dget hu (pv 0) (pv 1) (fun _ _ => rfl)) pa_nil))))))) (pss_one (ps_ret pe_bl)) pss_nil))))
      (pss_one (ps_ret (pe_cmpR op_le (pe_callB cr_lenSet rfl T.b_len (by decide +kernel) (pa_cons (pe_lock (pe_scg (own := [("at", 1)]) (g := gName 1) (tt := tYes) (Z := Zk P w) (ad := rSAddK P w) setK_lay (fun _ _ _ _ => mt_saddK) rfl sc_are_moves.nd (pi_keys (pv 0)) (blkOk_by (own := [("at", 1)]) (N := ["thing", "at"]) (sc := defScope s_are_moves) (by decide +kernel)) (fun _ _ _ _ _ => (pg_name (i := 1) sc_are_moves.nd rfl (Or.inl rfl))) (fun _ _ _ _ _ => pts_nil) (fun _ _ _ _ _ => (pe_ix (r := rIxT K) ix_tup (pv 1) pe_int (fun _ _ => rfl))))) pa_nil)) (pe_glob (v := .int 8) rfl h_MOST_METHODS ⟨_, rfl⟩) (nomark _)))))), ?_⟩
    obtain ⟨d, mv, rfl, ⟨kvs, hd, hp, nd⟩, ok, q⟩ := h
    walk_at "rd"
    refine isi_is (srt_dT hd) (by decide) ⟨_, rfl, ?_⟩
    rw [if_neg (by decide)]
    have hp' : ∀ od, Paired (MvAt K (upd H d (.frz od (.dT kvs)))) mv kvs := fun od => Paired.imp hp fun m kv h => mvAt_lock hd h
    refine ⟨d, _, hd, trivial, fun od => ?_⟩
    refine ⟨_, rfl, d, od, rfl, .inr ⟨kvs, same_loc (Same.refl _), ?_⟩⟩
    refine for_it walk_keysT (fun i σ H1 => (∃ v, σ = [some (.ref d), v]) ∧ Same (upd H d (.frz od (.dT kvs))) H1) ⟨⟨none, rfl⟩, Same.refl _⟩ (fun i σ H1 _ p => same_loc p.2) (fun i x σ H1 H2 hi p y => ?_) (fun σ H1 p => ?_)
    · obtain ⟨⟨v0, rfl⟩, s1⟩ := p
      obtain ⟨rfl, k, v, b, hk, rfl, hb⟩ := y
      obtain ⟨m, em, h1, pp, bs, e2, h3, h4⟩ := Paired.at (hp' od) hk
      have hm := List.mem_of_getElem? em
      have e1 : k = [Sum.inr m.1.1, Sum.inr m.1.2] := h1
      have e2' : v = .ref pp := e2
      subst e1 e2'
      obtain ⟨k1, k2⟩ := ok.keys m hm
      have hb' : SqT K H2 b [.str m.1.1, .str m.1.2] := SqT.of hb
      walk_at "rd"
      refine ⟨.ref b, _, rfl, srt_tq hb', .inr ⟨b, _, rfl, hb', fun _ x hx => ?_, fun H3 s3 => ?_⟩⟩
      · rcases List.mem_cons.mp hx with rfl | hx
        · exact ⟨⟨_, srt_str _⟩, fun z e => by cases e; exact name_len k1⟩
        · rcases List.mem_cons.mp hx with rfl | hx
          · exact ⟨⟨_, srt_str _⟩, fun z e => by cases e; exact name_len k2⟩
          · cases hx
      · refine ⟨_, rfl, ?_⟩
        have ep : pairB isName isName [.str m.1.1, .str m.1.2] = true := by simp only [pairB, k1, k2, Bool.and_true]
        rw [if_neg (by rw [ep]; decide)]
        have s13 := s1.trans s3
        refine ⟨.ref d, rfl, .ref b, rfl, d, .ref pp, rfl, .inr ⟨kvs, _, b, .inr ⟨od, same_loc s13⟩, rfl, s3 _ _ hb, ?_⟩, ?_⟩
        · exact (valV_at hp nd (List.mem_of_getElem? hk)).symm
        · obtain ⟨l8, ll⟩ := outs_len (ok.outs m hm)
          refine ⟨pp, bs, m.2, rfl, SqR.same s13 h3, Paired.imp h4 (fun o b z => SqR.same s13 z), ?_, ll, fun H4 s4 => ⟨_, rfl, ?_⟩⟩
          · have := Paired.length h4
            omega
          · rw [if_neg (by rw [ok.outs m hm]; decide)]
            exact ⟨⟨_, rfl⟩, s13.trans s4⟩
    · obtain ⟨⟨v0, rfl⟩, s1⟩ := p
      refine ⟨same_loc s1, ?_⟩
      have s2 := lock_same hd s1
      generalize upd H1 d (.dT kvs) = H2 at s2
      have hd2 := s2 _ _ hd
      walk_at "rd"
      refine ⟨d, _, hd2, trivial, fun od2 => ⟨_, rfl, d, od2, rfl, .inr ⟨kvs, upd_same, fun D hD => sc_meths hp hD upd_same (by simp) ok.size fun H3 S s3 h3 => ?_⟩⟩⟩
      refine ⟨same_loc s3, ?_⟩
      have s4 := lock_same hd2 s3
      have hDd : D ≠ d := by
        rintro rfl
        rw [upd_same] at hD
        cases hD
      refine ⟨D, _, rfl, .inr ⟨S, by rw [upd_ne hDd]; exact h3⟩, _, rfl, ?_⟩
      have e8 : decide ((cnt (mv.map (·.1.2)) : Int) ≤ 8) = true := decide_eq_true (by have := ok.few; omega)
      rw [e8]
      exact q _ (s2.trans s4)
end
end Rs
set_option Elab.async false
set_option linter.all false
set_option maxRecDepth 100000
set_option maxHeartbeats 2000000
namespace Rs
open PySem PySem.Spec PyProof.Rows L2
local macro_rules | `(tactic| walk_at "rd") => `(tactic| simp only [L2.tRet, L2.tRetN, L2.tSeq, L2.tNext, L2.tIfS, L2.tAsg, L2.gName, L2.gNil, L2.gCons, L2.tVar, L2.tC, L2.tOp, L2.tUn, L2.tCB, L2.tCons, L2.tNil, L2.tAndV, L2.tOrV, L2.tNotV, L2.tAnd, L2.tOr, L2.tNot, L2.tB, L2.tTest, L2.tIf, L2.tChain, L2.tTup, L2.tLst, L2.tDrop, L2.tFld, L2.start, L2.cxOf, L2.Cx.nox, L2.Cx.wish, L2.rI0, L2.rI, L2.tYes, Rs.tCalW, List.getElem?_cons_zero, List.getElem?_cons_succ, Option.some.injEq, exists_eq_left', exists_eq_left, exists_and_left, List.cons.injEq, and_true, true_and, L2.V.bl.injEq, L2.V.int.injEq, L2.V.str.injEq, L2.V.ref.injEq, List.set_cons_zero, List.set_cons_succ, List.map_cons, List.map_nil, List.length_cons, List.length_nil, List.replicate, List.cons_append, List.nil_append, List.append_nil, Nat.reduceSub, Nat.reduceAdd])

section
variable {P : Program} {w : World} {K : PySem.W.Frag} {mg : PySem.Str → Option Value} {base : Heap}
/-! ### a kind, as it stands -/
structure KD where
  name : PySem.Str
  start : PySem.Str
  ends : List PySem.Str
  tab : List Mv
abbrev kC (K : PySem.W.Frag) : Addr := He.ga K "Kind"
abbrev kflds (name start : PySem.Str) (e tb : Addr) : List (PySem.Str × V) := [("called", .str name), ("begin", .str start), ("last", .ref e), ("table", .ref tb)]
/-- the outcomes of a move, in a tuple of tuples -/
def OutsAt (K : PySem.W.Frag) (H : Hp) (t : Addr) (os : Outs) : Prop := ∃ cs : List Addr, SqT K H t (cs.map V.ref) ∧ Paired (fun (o : PySem.Str × PySem.Str) b => RowAt K H b [o.1, o.2]) os cs
def TabE (K : PySem.W.Frag) (H : Hp) (m : Mv) (kv : List Key × V) : Prop := kv.1 = [Sum.inr m.1.1, Sum.inr m.1.2] ∧ ∃ t, kv.2 = .ref t ∧ OutsAt K H t m.2
def TabAt (K : PySem.W.Frag) (H : Hp) (tb : Addr) (tab : List Mv) : Prop := ∃ kvs, H tb = some (.dT kvs) ∧ Paired (TabE K H) tab kvs ∧ (tab.map (·.1)).Nodup ∧ tab.length ≤ 4000
def KindAt (K : PySem.W.Frag) (H : Hp) (p : Addr) (kd : KD) : Prop := ∃ dx e tb, H p = some (.ins (kC K) dx (kflds kd.name kd.start e tb)) ∧ SqT K H e (kd.ends.map V.str) ∧ TabAt K H tb kd.tab
theorem OutsAt.same {H H' : Hp} {t : Addr} {os : Outs} (e : Same H H') (h : OutsAt K H t os) : OutsAt K H' t os := let ⟨cs, h1, h2⟩ := h; ⟨cs, Same.tq e h1, Paired.imp h2 fun _ _ z => Same.tq e z⟩
theorem TabE.same {H H' : Hp} {m : Mv} {kv : List Key × V} (e : Same H H') (h : TabE K H m kv) : TabE K H' m kv := let ⟨h1, t, h2, h3⟩ := h; ⟨h1, t, h2, h3.same e⟩
theorem TabAt.same {H H' : Hp} {tb : Addr} {tab : List Mv} (e : Same H H') (h : TabAt K H tb tab) : TabAt K H' tb tab := let ⟨kvs, h1, h2, h3, h4⟩ := h; ⟨kvs, e _ _ h1, Paired.imp h2 fun _ _ z => z.same e, h3, h4⟩
theorem KindAt.same {H H' : Hp} {p : Addr} {kd : KD} (e : Same H H') (h : KindAt K H p kd) : KindAt K H' p kd := let ⟨dx, a, tb, h1, h2, h3⟩ := h; ⟨dx, a, tb, e _ _ h1, Same.tq e h2, h3.same e⟩
/-- the states that are named, in the order in which they are met -/
def statesOf (kd : KD) : List PySem.Str := kd.start :: (kd.ends ++ (kd.tab.map (·.1.1) ++ kd.tab.flatMap fun m => m.2.map (·.2)))
/-- the dict at f has just the texts of l as its keys -/
def Found (H : Hp) (f : Addr) (l : List PySem.Str) : Prop := ∃ (ks : List PySem.Str) (kvs : List (Key × V)), H f = some (.dK kvs) ∧ kvs.map (·.1) = ks.map Sum.inr ∧ ks.Nodup ∧ (∀ x, x ∈ ks ↔ x ∈ l) ∧ ks.length ≤ l.length
theorem putK_keys {kvs : List (Key × V)} {ks : List PySem.Str} {x : PySem.Str} {v : V} (h : kvs.map (·.1) = ks.map Sum.inr) : (putK kvs (Sum.inr x) v).map (·.1) = (if x ∈ ks then ks else ks ++ [x]).map Sum.inr := by
  have hm : (kvs.any fun kv => decide (kv.1 = (Sum.inr x : Key))) = true ↔ x ∈ ks := by
    rw [List.any_eq_true]
    constructor
    · rintro ⟨kv, hkv, e⟩
      have e := of_decide_eq_true e
      have : kv.1 ∈ ks.map Sum.inr := h ▸ List.mem_map.mpr ⟨kv, hkv, rfl⟩
      obtain ⟨y, hy, e2⟩ := List.mem_map.mp this
      rw [e] at e2
      cases Sum.inr.inj e2
      exact hy
    · intro hx
      have : (Sum.inr x : Key) ∈ kvs.map (·.1) := h ▸ List.mem_map.mpr ⟨x, hx, rfl⟩
      obtain ⟨kv, hkv, e⟩ := List.mem_map.mp this
      exact ⟨kv, hkv, decide_eq_true e⟩
  unfold putK
  by_cases hx : x ∈ ks
  · rw [if_pos (hm.mpr hx), if_pos hx, List.map_map, ← h]
    refine List.map_congr_left fun kv _ => ?_
    show (if kv.1 = Sum.inr x then (kv.1, v) else kv).1 = kv.1
    split <;> rfl
  · rw [if_neg fun z => hx (hm.mp z), if_neg hx, List.map_append, List.map_append, h] <;> rfl
theorem found_put {H : Hp} {f : Addr} {l : List PySem.Str} {x : PySem.Str} {v : V} (h : Found H f l) (hz : l.length < sizeLine) : ∃ o, DPut H f (.str x) v (upd H f o) ∧ Found (upd H f o) f (l ++ [x]) := by
  obtain ⟨ks, kvs, h1, h2, h3, h4, h5⟩ := h
  have hl : kvs.length = ks.length := by
    have := congrArg List.length h2
    simpa using this
  refine ⟨_, DPut.k (k := Sum.inr x) h1 (by omega), if x ∈ ks then ks else ks ++ [x], _, upd_same, putK_keys h2, ?_, fun y => ?_, ?_⟩
  · by_cases hx : x ∈ ks
    · rw [if_pos hx]; exact h3
    · rw [if_neg hx]
      exact List.nodup_append.mpr ⟨h3, (by simp), fun a ha b hb e => by rw [List.mem_singleton.mp hb] at e; subst e; exact hx ha⟩
  · rw [List.mem_append, List.mem_singleton, ← h4]
    by_cases hx : x ∈ ks
    · rw [if_pos hx]
      exact ⟨.inl, fun z => z.elim id fun e => e ▸ hx⟩
    · rw [if_neg hx, List.mem_append, List.mem_singleton]
  · by_cases hx : x ∈ ks
    · rw [if_pos hx, List.length_append]; exact Nat.le_add_right_of_le h5
    · rw [if_neg hx, List.length_append, List.length_append]; exact Nat.add_le_add_right h5 _
theorem found_upd {H : Hp} {f a : Addr} {l : List PySem.Str} {o : HO} (h : Found H f l) (ne : f ≠ a) : Found (upd H a o) f l := by
  obtain ⟨ks, kvs, h1, r⟩ := h
  exact ⟨ks, kvs, by rw [upd_ne ne]; exact h1, r⟩
theorem same_upd {H0 H : Hp} {f : Addr} {o : HO} (s : Same H0 H) (h : H0 f = none) : Same H0 (upd H f o) := fun a u e => by
  rw [upd_ne (ne_of_none e h)]
  exact s a u e
def sp_states (K : PySem.W.Frag) : Sp := fun vs H Q _ => ∃ p kd, vs = [.ref p] ∧ KindAt K H p kd ∧ (statesOf kd).length ≤ 100000 ∧ ∀ H' l ys, Same H H' → H l = none → H' l = some (.lst (ys.map V.str)) → Up strLt ys → ys.Nodup → (∀ x, x ∈ ys ↔ x ∈ statesOf kd) → Q (.ref l) H'
theorem ok_states (T : Txt K mg) : CalM P w K mg base 1 (kC K) "states" ["self"] (sp_states K) := by
  obtain ⟨fd, F⟩ := T.d_Kind_states
  refine ⟨_, fd, ?_, T.me_Kind_states, F.bindsN fun _ _ _ _ _ _ us hl => match us, hl with | [_], _ => rfl⟩
  refine F.ok sc_Kind_states (fun vs H Q E h => ?_) (fun cdv A outer s H vs Q E hr h => ?_)
  · obtain ⟨p, kd, rfl, _⟩ := h
    rfl
  · have hu := hu_of hr
    refine ⟨_, PSs.nox (pss_cons (ps_set (i := 1) sc_Kind_states.nd rfl (Or.inl rfl) (pe_disp (pps_cons (pe_fld (pv 0) rfl) pe_bl pps_nil) (by rfl) (by rfl) (fun z => by cases z) (by decide)))
      (pss_cons (ps_for PassesOwn.never rfl (pi_tup (pe_fld (pv 0) rfl)) (pg_name (i := 2) sc_Kind_states.nd rfl (Or.inl rfl))
      (pss_one (ps_dput hu (pv 1) (pv 2) pe_bl rfl)))
      (pss_cons (ps_lock (ps_for PassesOwn.never rfl (pi_keys (pe_fld (pv 0) rfl)) (pg_tup rfl (pgs_cons (pg_name (i := 3) sc_Kind_states.nd rfl (Or.inl rfl)) (pgs_cons (pg_name (i := 4) sc_Kind_states.nd rfl (Or.inl rfl)) pgs_nil))) (pss_one (ps_dput hu (pv 1) (pv 3) pe_bl rfl))))
      (pss_cons (ps_lock (ps_for PassesOwn.never rfl (pi_valuesT (pe_fld (pv 0) rfl)) (pg_name (i := 5) sc_Kind_states.nd rfl (Or.inl rfl)) (pss_one (ps_for PassesOwn.never rfl (pi_tup (pv 5)) (pg_tup rfl (pgs_cons (pg_name (i := 6) sc_Kind_states.nd rfl (Or.inl rfl)) (pgs_cons (pg_name (i := 3) sc_Kind_states.nd rfl (Or.inl rfl)) pgs_nil))) (pss_one (ps_dput hu (pv 1) (pv 3) pe_bl rfl))))))
      (pss_one (ps_ret (pe_callB (cr_sortS rfl) rfl T.b_sorted (by decide +kernel) (pa_cons (pv 1) pa_nil)))))))), ?_⟩
    obtain ⟨p, kd, rfl, ⟨dx, ea, tb, ho, he, ht⟩, hz, q⟩ := h
    walk_at "rd"
    refine fun f hf => ⟨_, rfl, p, kC K, dx, _, _, rfl, by rw [upd_ne (ne_of_none ho hf)]; exact ho, T.cl_Kind, T.no_Kind_begin, rfl, ?_⟩
    refine ⟨upd_same, [(Sum.inr kd.start, .bl true)], rfl, (by show 1 ≤ 15; decide), ?_⟩
    have hz : (statesOf kd).length ≤ 100000 := hz
    have hlen : (statesOf kd).length = 1 + (kd.ends.length + (kd.tab.length + (kd.tab.flatMap fun m => m.2.map (·.2)).length)) := by simp [statesOf]; omega
    have hline : sizeLine = 16777216 := sizeLine_eq
    obtain ⟨kvs, htb, hpt, nd, _⟩ := id ht
    have fd0 : Found (upd (upd H f (.dK [])) f (.dK (mergeK [] [(Sum.inr kd.start, .bl true)]))) f [kd.start] := ⟨[kd.start], _, upd_same, rfl, by simp, fun x => Iff.rfl, Nat.le_refl _⟩
    have sm0 : Same H (upd (upd H f (.dK [])) f (.dK (mergeK [] [(Sum.inr kd.start, .bl true)]))) := same_upd (Same.new hf) hf
    generalize (upd (upd H f (.dK [])) f (.dK (mergeK [] [(Sum.inr kd.start, .bl true)]))) = H1 at fd0 sm0
    have ntf : f ≠ tb := fun z => by subst z; rw [htb] at hf; cases hf
    have ntp : p ≠ tb := ne_of ho htb (by intro z; cases z)
    -- the ends
    refine ⟨_, rfl, p, kC K, dx, _, _, rfl, sm0 _ _ ho, T.cl_Kind, T.no_Kind_last, rfl, ea, rfl, ⟨_, Same.tq sm0 he⟩, for_it walk_tm (fun i σ H2 => (∃ a b c d e, σ = [some (.ref p), some (.ref f), a, b, c, d, e]) ∧ Same H H2 ∧ Found H2 f (kd.start :: kd.ends.take i))
      ⟨⟨_, _, _, _, _, rfl⟩, sm0, by simpa using fd0⟩ (fun i σ H2 _ q => Same.tq q.2.1 he) (fun i x σ H2 H3 hi pv y => ?_) (fun σ H2 pv => ?_)⟩
    · obtain ⟨⟨a, b, c, d, e, rfl⟩, s2, fd2⟩ := pv
      obtain ⟨rfl, hx⟩ := y
      obtain ⟨z, hz1⟩ : ∃ z, kd.ends[i]? = some z := ⟨_, List.getElem?_eq_getElem hi⟩
      rw [List.getElem?_map, hz1] at hx
      cases Option.some.inj hx
      have hi' : (kd.start :: kd.ends.take i).length < sizeLine := by simp; omega
      obtain ⟨o, dp, fd3⟩ := found_put (x := z) (v := .bl true) fd2 hi'
      refine ⟨.ref f, rfl, .str z, rfl, f, _, rfl, dp, ⟨_, _, _, _, _, rfl⟩, same_upd s2 hf, ?_⟩
      rw [take_next hz1]
      exact fd3
    obtain ⟨⟨a, b, c, d, e, rfl⟩, s2, fd2⟩ := pv
    rw [List.take_length] at fd2
    -- the table's keys
    refine ⟨tb, _, s2 _ _ htb, trivial, fun od => ⟨_, rfl, p, kC K, dx, _, _, rfl, by rw [upd_ne ntp]; exact s2 _ _ ho, T.cl_Kind, T.no_Kind_table, rfl, tb, od, rfl, .inr ⟨kvs, upd_same, ?_⟩⟩⟩
    refine for_it walk_keysT (fun i σ H3 => (∃ a b c d e, σ = [some (.ref p), some (.ref f), a, b, c, d, e]) ∧ Same (upd H tb (.frz od (.dT kvs))) H3 ∧ Found H3 f (kd.start :: (kd.ends ++ (kd.tab.take i).map (·.1.1))))
      ⟨⟨_, _, _, _, _, rfl⟩, fun a o e => ?_, by simpa using found_upd fd2 ntf⟩ (fun i σ H2 _ q => same_loc q.2.1) (fun i x σ H2 H3 hi pv y => ?_) (fun σ H3 pv => ?_)
    · by_cases z : a = tb
      · subst z; rw [upd_same] at e; cases e; exact upd_same
      · rw [upd_ne z] at e; rw [upd_ne z]; exact s2 _ _ e
    · obtain ⟨⟨a, b, c, d, e, rfl⟩, s3, fd3⟩ := pv
      obtain ⟨rfl, k, v, b', hk, rfl, hb⟩ := y
      obtain ⟨m, em, h1, _⟩ := Paired.at hpt hk
      have e1 : k = [Sum.inr m.1.1, Sum.inr m.1.2] := h1
      subst e1
      have hi' : (kd.start :: (kd.ends ++ (kd.tab.take i).map (·.1.1))).length < sizeLine := by simp; have := List.length_take_le i kd.tab; omega
      obtain ⟨o, dp, fd4⟩ := found_put (x := m.1.1) (v := .bl true) fd3 hi'
      refine ⟨b', [.str m.1.1, .str m.1.2], rfl, SqT.of hb, rfl, _, _, rfl, _, _, rfl, rfl, .ref f, rfl, .str m.1.1, rfl, f, _, rfl, dp, ⟨_, _, _, _, _, rfl⟩, same_upd s3 (by rw [upd_ne ntf]; exact hf), ?_⟩
      rw [take_next em, List.map_append]
      simpa using fd4
    obtain ⟨⟨a, b, c, d, e, rfl⟩, s3, fd3⟩ := pv
    refine ⟨same_loc s3, ?_⟩
    have s4 := lock_same htb s3
    have fd4 := found_upd (o := .dT kvs) fd3 ntf
    generalize upd H3 tb (.dT kvs) = H4 at s4 fd4
    have hkl : kd.tab.length = kvs.length := Paired.length hpt
    rw [← hkl, List.take_length] at fd4
    -- the outcomes
    refine ⟨tb, _, s4 _ _ htb, trivial, fun od2 => ⟨_, rfl, p, kC K, dx, _, _, rfl, by rw [upd_ne ntp]; exact s4 _ _ ho, T.cl_Kind, T.no_Kind_table, rfl, tb, od2, kvs, rfl, upd_same, ?_⟩⟩
    have hpt2 : Paired (TabE K (upd H tb (.frz od2 (.dT kvs)))) kd.tab kvs := Paired.imp hpt fun m kv h => by
      obtain ⟨h1, t, h2, cs, h3, h4⟩ := h
      have lk : ∀ {b : Addr} {xs : List V}, SqT K H b xs → SqT K (upd H tb (.frz od2 (.dT kvs))) b xs := fun {b xs} z => (sqR_lock htb (fun xs => ⟨(fun z => by cases z), (fun z => by cases z)⟩) (fun o v z => by cases z) (.inr z)).elim (fun y => by
        rcases z with (z | ⟨o, z⟩) | z
        · exact .inl (.inl (by rw [upd_ne (ne_of z htb (by intro q; cases q))]; exact z))
        · exact .inl (.inr ⟨o, by rw [upd_ne (ne_of z htb (by intro q; cases q))]; exact z⟩)
        · exact .inr z) id
      exact ⟨h1, t, h2, cs, lk h3, Paired.imp h4 fun _ _ z => lk z⟩
    refine for_it walk_valuesT (fun i σ H5 => (∃ a b c d e, σ = [some (.ref p), some (.ref f), a, b, c, d, e]) ∧ Same (upd H tb (.frz od2 (.dT kvs))) H5 ∧ Found H5 f (kd.start :: (kd.ends ++ (kd.tab.map (·.1.1) ++ (kd.tab.take i).flatMap fun m => m.2.map (·.2)))))
      ⟨⟨_, _, _, _, _, rfl⟩, fun a o e => ?_, by simpa using found_upd fd4 ntf⟩ (fun i σ H2 _ q => same_loc q.2.1) (fun i x σ H2 H5 hi pv y => ?_) (fun σ H5 pv => ?_)
    · by_cases z : a = tb
      · subst z; rw [upd_same] at e; cases e; exact upd_same
      · rw [upd_ne z] at e; rw [upd_ne z]; exact s4 _ _ e
    · obtain ⟨⟨a, b, c, d, e, rfl⟩, s5, fd5⟩ := pv
      obtain ⟨rfl, k, hk⟩ := y
      obtain ⟨m, em, h1, t, e2, cs, h3, h4⟩ := Paired.at hpt2 hk
      have e2' : x = .ref t := e2
      subst e2'
      have hcs : m.2.length = cs.length := Paired.length h4
      refine ⟨_, rfl, t, rfl, ⟨_, Same.tq s5 h3⟩, for_it walk_tm (fun j σ H6 => (∃ a b c d e, σ = [some (.ref p), some (.ref f), a, b, c, d, e]) ∧ Same (upd H tb (.frz od2 (.dT kvs))) H6 ∧ Found H6 f (kd.start :: (kd.ends ++ (kd.tab.map (·.1.1) ++ ((kd.tab.take i).flatMap (fun m => m.2.map (·.2)) ++ (m.2.take j).map (·.2))))))
        ⟨⟨_, _, _, _, _, rfl⟩, s5, by simpa using fd5⟩ (fun j σ H6 _ q => Same.tq q.2.1 h3) (fun j x σ H6 H7 hj pv y => ?_) (fun σ H6 pv => ?_)⟩
      · obtain ⟨⟨a, b, c, d, e, rfl⟩, s6, fd6⟩ := pv
        obtain ⟨rfl, hx⟩ := y
        obtain ⟨b', hb'⟩ : ∃ b', cs[j]? = some b' := ⟨_, List.getElem?_eq_getElem hj⟩
        rw [List.getElem?_map, hb'] at hx
        cases Option.some.inj hx
        obtain ⟨o, eo, hr⟩ := Paired.at h4 hb'
        have hi' : (kd.start :: (kd.ends ++ (kd.tab.map (·.1.1) ++ ((kd.tab.take i).flatMap (fun m => m.2.map (·.2)) ++ (m.2.take j).map (·.2))))).length < sizeLine := by
          have hsplit : (kd.tab.flatMap fun m => m.2.map (·.2)).length = ((kd.tab.take i).flatMap fun m => m.2.map (·.2)).length + ((kd.tab.drop i).flatMap fun m => m.2.map (·.2)).length := by
            rw [← List.length_append, ← List.flatMap_append, List.take_append_drop]
          have hd' : kd.tab.drop i = m :: kd.tab.drop (i + 1) := by
            obtain ⟨hlt, e⟩ := List.getElem?_eq_some_iff.mp em
            rw [← e]
            exact List.drop_eq_getElem_cons hlt
          rw [hd'] at hsplit
          simp only [List.flatMap_cons, List.length_append, List.length_map] at hsplit
          have := List.length_take_le j m.2
          simp only [List.length_cons, List.length_append, List.length_map]
          have h9 : (m.2.take j).length ≤ m.2.length := by rw [List.length_take]; omega
          omega
        obtain ⟨oo, dp, fd7⟩ := found_put (x := o.2) (v := .bl true) fd6 hi'
        refine ⟨b', [.str o.1, .str o.2], rfl, Same.tq s6 hr, rfl, _, _, rfl, _, _, rfl, rfl, .ref f, rfl, .str o.2, rfl, f, _, rfl, dp, ⟨_, _, _, _, _, rfl⟩, same_upd s6 (by rw [upd_ne ntf]; exact hf), ?_⟩
        rw [take_next eo, List.map_append]
        simpa using fd7
      · obtain ⟨⟨a, b, c, d, e, rfl⟩, s6, fd6⟩ := pv
        rw [← hcs, List.take_length] at fd6
        refine ⟨⟨_, _, _, _, _, rfl⟩, s6, ?_⟩
        rw [take_next em, List.flatMap_append]
        simpa using fd6
    obtain ⟨⟨a, b, c, d, e, rfl⟩, s5, fd5⟩ := pv
    refine ⟨same_loc s5, ?_⟩
    have s6 := lock_same htb s5
    have fd6 := found_upd (o := .dT kvs) fd5 ntf
    generalize upd H5 tb (.dT kvs) = H6 at s6 fd6
    rw [← hkl, List.take_length] at fd6
    obtain ⟨ks, kvs2, g1, g2, g3, g4, g5⟩ := fd6
    -- return sorted(found)
    have hks : ks.length ≤ sizeLine := by
      have : (kd.start :: (kd.ends ++ (kd.tab.map (·.1.1) ++ kd.tab.flatMap fun m => m.2.map (·.2)))).length = (statesOf kd).length := rfl
      omega
    refine ⟨.ref f, rfl, f, ks, rfl, .inr ⟨kvs2, .inl g1, g2⟩, hks, fun l hl => ?_⟩
    refine q _ l (isort strLt ks) (s6.trans (Same.new hl)) (s6.free hl) upd_same (isort_up strLt_tot ks) (nodup_isort.mpr g3) fun x => ?_
    rw [mem_isort, g4]
    exact Iff.rfl
end
end Rs
set_option Elab.async false
set_option linter.all false
set_option maxRecDepth 100000
set_option maxHeartbeats 2000000
namespace Rs
open PySem PySem.Spec PyProof.Rows L2
local macro_rules | `(tactic| walk_at "rd") => `(tactic| simp only [L2.tRet, L2.tRetN, L2.tSeq, L2.tNext, L2.tIfS, L2.tAsg, L2.gName, L2.gNil, L2.gCons, L2.tVar, L2.tC, L2.tOp, L2.tUn, L2.tCB, L2.tCons, L2.tNil, L2.tAndV, L2.tOrV, L2.tNotV, L2.tAnd, L2.tOr, L2.tNot, L2.tB, L2.tTest, L2.tIf, L2.tChain, L2.tTup, L2.tLst, L2.tDrop, L2.tFld, L2.start, L2.cxOf, L2.Cx.nox, L2.Cx.wish, L2.rI0, L2.rI, L2.tYes, Rs.tCalW, List.getElem?_cons_zero, List.getElem?_cons_succ, Option.some.injEq, exists_eq_left', exists_eq_left, exists_and_left, List.cons.injEq, and_true, true_and, L2.V.bl.injEq, L2.V.int.injEq, L2.V.str.injEq, L2.V.ref.injEq, List.set_cons_zero, List.set_cons_succ, List.map_cons, List.map_nil, List.length_cons, List.length_nil, List.replicate, List.cons_append, List.nil_append, List.append_nil, Nat.reduceSub, Nat.reduceAdd])

section
variable {P : Program} {w : World} {K : PySem.W.Frag} {mg : PySem.Str → Option Value} {base : Heap}
theorem kflds_no {m : PySem.Str} {name start : PySem.Str} {e tb : Addr} (h : ([("called" : PySem.Str), "begin", "last", "table"]).all (fun x => decide (m ≠ x)) = true) : (kflds name start e tb).lookup m = none := by
  simp only [List.all_cons, List.all_nil, Bool.and_true, Bool.and_eq_true, decide_eq_true_eq] at h
  obtain ⟨h1, h2, h3, h4⟩ := h
  have q : ∀ {a b : PySem.Str}, a ≠ b → (a == b) = false := fun h => beq_eq_false_iff_ne.mpr h
  simp only [kflds, List.lookup_cons, q h1, q h2, q h3, q h4, List.lookup_nil]
/-! ### start, [], in -/
def sp_start (K : PySem.W.Frag) : Sp := fun vs H Q _ => ∃ p kd, vs = [.ref p] ∧ KindAt K H p kd ∧ Q (.str kd.start) H
theorem ok_start (T : Txt K mg) : CalP P w K mg base 1 (kC K) "start" (sp_start K) := by
  obtain ⟨fd, F⟩ := T.d_Kind_start
  refine ⟨_, _, fd, ?_, T.pr_Kind_start, F.bindsN fun _ _ _ _ _ _ us hl => match us, hl with | [_], _ => rfl⟩
  refine F.ok sc_Kind_start (fun vs H Q E h => ?_) (fun cdv A outer s H vs Q E hr h => ?_)
  · obtain ⟨p, kd, rfl, _⟩ := h
    rfl
  · refine ⟨_, PSs.nox (pss_one (ps_ret (pe_fld (pv 0) rfl))), ?_⟩
    obtain ⟨p, kd, rfl, ⟨dx, ea, tb, ho, he, ht⟩, q⟩ := h
    exact ⟨_, rfl, p, kC K, dx, _, _, rfl, ho, T.cl_Kind, T.no_Kind_begin, rfl, q⟩
/-- what a pair of texts is looked up as -/
def look (tab : List Mv) (k : PySem.Str × PySem.Str) : Option Outs := (tab.find? fun m => decide (m.1 = k)).map (·.2)
/-- the key is a tuple of two texts -/
def sp_getitem (K : PySem.W.Frag) : Sp := fun vs H Q _ => ∃ p kd b x y, vs = [.ref p, .ref b] ∧ KindAt K H p kd ∧ H b = some (.tup [.str x, .str y]) ∧ x.length ≤ sizeLine ∧ y.length ≤ sizeLine ∧
  ∀ H', Same H H' → match (if isName (.str x) = true ∧ isName (.str y) = true then look kd.tab (x, y) else none) with
    | none => Q .non H'
    | some os => ∀ t, OutsAt K H' t os → Q (.ref t) H'
theorem tab_look {H : Hp} {tab : List Mv} {kvs : List (List Key × V)} (hp : Paired (TabE K H) tab kvs) (x y : PySem.Str) :
    match look tab (x, y) with
    | none => valV kvs [Sum.inr x, Sum.inr y] = none
    | some os => ∃ t, valV kvs [Sum.inr x, Sum.inr y] = some (.ref t) ∧ OutsAt K H t os := by
  unfold look valV
  induction hp with
  | nil => exact rfl
  | @cons m kv tab kvs h1 _ ih =>
    by_cases e : m.1 = (x, y)
    · have e2 : kv.1 = [Sum.inr x, Sum.inr y] := by rw [h1.1, e]
      rw [List.find?_cons_of_pos (by simpa using e), List.find?_cons_of_pos (by simpa using e2)]
      obtain ⟨_, t, e3, h3⟩ := h1
      exact ⟨t, by rw [← e3] <;> rfl, h3⟩
    · have e2 : kv.1 ≠ [Sum.inr x, Sum.inr y] := fun z => e (by
        rw [h1.1] at z
        obtain ⟨z1, z2⟩ := List.cons.inj z
        exact Prod.ext (Sum.inr.inj z1) (Sum.inr.inj (List.cons.inj z2).1))
      rw [List.find?_cons_of_neg (by simpa using e), List.find?_cons_of_neg (by simpa using e2)]
      exact ih
theorem any2 {H : Hp} {x y : PySem.Str} (lx : x.length ≤ sizeLine) (ly : y.length ≤ sizeLine) : ∀ v ∈ [V.str x, V.str y], Any K H v := fun v hv => by
  rcases List.mem_cons.mp hv with rfl | hv
  · exact ⟨⟨_, srt_str _⟩, fun z e => by cases e; exact lx⟩
  · rcases List.mem_cons.mp hv with rfl | hv
    · exact ⟨⟨_, srt_str _⟩, fun z e => by cases e; exact ly⟩
    · cases hv
theorem ok_getitem (T : Txt K mg) : CalD P w K mg base 4 (kC K) "__getitem__" ["self", "at"] (sp_getitem K) := by
  have c_is_key := ok_is_key (P := P) (w := w) (base := base) T
  obtain ⟨fd, F⟩ := T.d_Kind_getitem
  refine ⟨_, fd, ?_, T.du_Kind_getitem, F.bindsN fun _ _ _ _ _ _ us hl => match us, hl with | [_, _], _ => rfl⟩
  refine F.ok sc_Kind_getitem (fun vs H Q E h => ?_) (fun cdv A outer s H vs Q E hr h => ?_)
  · obtain ⟨p, kd, b, x, y, rfl, _⟩ := h
    rfl
  · have hu := hu_of hr
    refine ⟨_, PSs.nox (pss_one (ps_ret (pe_ifExp (pt_val (pe_cal c_is_key (hr.mono (by decide)) takes0 (pa_cons (pv 1) pa_nil))) (pe_dget1 hu (pe_fld (pv 0) rfl) (pv 1) ⟨rfl, rfl, rfl, rfl⟩) pe_non))), ?_⟩
    obtain ⟨p, kd, b, x, y, rfl, ⟨dx, ea, tb, ho, he, ht⟩, hb, lx, ly, q⟩ := h
    walk_at "rd"
    refine ⟨.ref b, _, rfl, srt_tup hb, .inr ⟨b, _, rfl, SqT.of hb, fun _ => any2 lx ly, fun H1 s1 => ⟨_, rfl, ?_⟩⟩⟩
    have q1 := q H1 s1
    obtain ⟨kvs, htb, hpt, nd, _⟩ := id ht
    by_cases hk : isName (.str x) = true ∧ isName (.str y) = true
    · rw [if_pos (by simp only [pairB, hk.1, hk.2, Bool.and_true])]
      rw [if_pos hk] at q1
      refine ⟨_, rfl, p, kC K, dx, _, _, rfl, s1 _ _ ho, T.cl_Kind, T.no_Kind_table, rfl, tb, rfl, .inr ⟨kvs, .inl (s1 _ _ htb)⟩, _, rfl, _, .inr ⟨kvs, [Sum.inr x, Sum.inr y], b, .inl (s1 _ _ htb), rfl, s1 _ _ hb, rfl⟩, ?_⟩
      have tl := tab_look hpt x y
      cases e : look kd.tab (x, y) with
      | none =>
        rw [e] at tl q1
        rw [show valV kvs [Sum.inr x, Sum.inr y] = none from tl]
        exact q1
      | some os =>
        rw [e] at tl q1
        obtain ⟨t, e1, e2⟩ := tl
        rw [e1]
        exact q1 t (e2.same s1)
    · rw [if_neg (by simp only [pairB, Bool.and_eq_true]; exact hk)]
      rw [if_neg hk] at q1
      exact q1
/-! the key a tuple of two texts, or anything else that is no text -/
def sp_contains (K : PySem.W.Frag) : Sp := fun vs H Q _ => ∃ p kd b x y, vs = [.ref p, .ref b] ∧ KindAt K H p kd ∧ H b = some (.tup [.str x, .str y]) ∧ x.length ≤ sizeLine ∧ y.length ≤ sizeLine ∧
  ∀ H', Same H H' → Q (.bl ((isName (.str x) && isName (.str y)) && (look kd.tab (x, y)).isSome)) H'
theorem ok_contains (T : Txt K mg) : CalD P w K mg base 4 (kC K) "__contains__" ["self", "at"] (sp_contains K) := by
  have c_is_key := ok_is_key (P := P) (w := w) (base := base) T
  obtain ⟨fd, F⟩ := T.d_Kind_contains
  refine ⟨_, fd, ?_, T.du_Kind_contains, F.bindsN fun _ _ _ _ _ _ us hl => match us, hl with | [_, _], _ => rfl⟩
  refine F.ok sc_Kind_contains (fun vs H Q E h => ?_) (fun cdv A outer s H vs Q E hr h => ?_)
  · obtain ⟨p, kd, b, x, y, rfl, _⟩ := h
    rfl
  · have hu := hu_of hr
    refine ⟨_, PSs.nox (pss_one (ps_ret (pe_and (pe_cal c_is_key (hr.mono (by decide)) takes0 (pa_cons (pv 1) pa_nil)) (pe_one (pe_cmp (pc_din hu (pv 1) (pe_fld (pv 0) rfl)) rfl))))), ?_⟩
    obtain ⟨p, kd, b, x, y, rfl, ⟨dx, ea, tb, ho, he, ht⟩, hb, lx, ly, q⟩ := h
    walk_at "rd"
    refine ⟨.ref b, _, rfl, srt_tup hb, .inr ⟨b, _, rfl, SqT.of hb, fun _ => any2 lx ly, fun H1 s1 => ⟨_, rfl, ?_⟩⟩⟩
    have q1 := q H1 s1
    obtain ⟨kvs, htb, hpt, nd, _⟩ := id ht
    cases hk : (isName (.str x) && isName (.str y)) with
    | true =>
      rw [if_pos (by simpa only [pairB] using hk)]
      rw [hk, Bool.true_and] at q1
      refine ⟨_, rfl, _, rfl, p, kC K, dx, _, _, rfl, s1 _ _ ho, T.cl_Kind, T.no_Kind_table, rfl, tb, _, rfl, .inr ⟨kvs, [Sum.inr x, Sum.inr y], b, .inl (s1 _ _ htb), rfl, s1 _ _ hb, rfl⟩, ?_⟩
      have tl := tab_look hpt x y
      cases e : look kd.tab (x, y) with
      | none =>
        rw [e] at tl q1
        rw [show valV kvs [Sum.inr x, Sum.inr y] = none from tl]
        exact q1
      | some os =>
        rw [e] at tl q1
        obtain ⟨t, e1, e2⟩ := tl
        rw [e1]
        exact q1
    | false =>
      rw [if_neg (by simp only [pairB, hk]; decide)]
      rw [hk, Bool.false_and] at q1
      exact q1
end
end Rs
set_option Elab.async false
set_option linter.all false
set_option maxRecDepth 100000
set_option maxHeartbeats 2000000
namespace Rs
open PySem PySem.Spec PyProof.Rows L2
local macro_rules | `(tactic| walk_at "rd") => `(tactic| simp only [L2.tRet, L2.tRetN, L2.tSeq, L2.tNext, L2.tIfS, L2.tAsg, L2.gName, L2.gNil, L2.gCons, L2.tVar, L2.tC, L2.tOp, L2.tUn, L2.tCB, L2.tCons, L2.tNil, L2.tAndV, L2.tOrV, L2.tNotV, L2.tAnd, L2.tOr, L2.tNot, L2.tB, L2.tTest, L2.tIf, L2.tChain, L2.tTup, L2.tLst, L2.tDrop, L2.tFld, L2.sFld, L2.start, L2.cxOf, L2.Cx.nox, L2.Cx.wish, L2.rI0, L2.rI, L2.tYes, Rs.tCalW, List.getElem?_cons_zero, List.getElem?_cons_succ, Option.some.injEq, exists_eq_left', exists_eq_left, exists_and_left, List.cons.injEq, and_true, true_and, L2.V.bl.injEq, L2.V.int.injEq, L2.V.str.injEq, L2.V.ref.injEq, List.set_cons_zero, List.set_cons_succ, List.map_cons, List.map_nil, List.length_cons, List.length_nil, List.replicate, List.cons_append, List.nil_append, List.append_nil, Nat.reduceSub, Nat.reduceAdd])

section
variable {P : Program} {w : World} {K : PySem.W.Frag} {mg : PySem.Str → Option Value} {base : Heap}
/-! ### what stands but for one -/
def SameX (x : Addr) (H H' : Hp) : Prop := ∀ a u, a ≠ x → H a = some u → H' a = some u
theorem SameX.of {x : Addr} {H H' : Hp} (h : Same H H') : SameX x H H' := fun a u _ e => h a u e
theorem SameX.trans {x : Addr} {H H' H'' : Hp} (h : SameX x H H') (h' : SameX x H' H'') : SameX x H H'' := fun a u n e => h' a u n (h a u n e)
theorem SameX.upd {x : Addr} {H H' : Hp} {o : HO} (h : SameX x H H') : SameX x H (upd H' x o) := fun a u n e => by rw [upd_ne n]; exact h a u n e
theorem SameX.self {x : Addr} {H : Hp} {o : HO} : SameX x H (L2.upd H x o) := fun a u n e => by rw [upd_ne n]; exact e
theorem SameX.same {x : Addr} {H0 H H' : Hp} (h : SameX x H H') (s : Same H0 H) (n : H0 x = none) : Same H0 H' := fun a u e => h a u (ne_of_none e n) (s a u e)
def isTupO : HO → Bool
  | .tup _ => true
  | .frz _ _ => true
  | .lst _ => true
  | _ => false
theorem SameX.tq {x : Addr} {H H' : Hp} {o : HO} {a : Addr} {xs : List V} (h : SameX x H H') (hx : H x = some o) (ho : isTupO o = false) (q : SqT K H a xs) : SqT K H' a xs := by
  have ne : ∀ u, H a = some u → isTupO u = true → a ≠ x := fun u hu hh z => by subst z; rw [hx] at hu; cases Option.some.inj hu; rw [ho] at hh; cases hh
  rcases q with (q | ⟨ob, q⟩) | q
  · exact .inl (.inl (h _ _ (ne _ q rfl) q))
  · exact .inl (.inr ⟨ob, h _ _ (ne _ q rfl) q⟩)
  · exact .inr q
theorem SameX.lq {x : Addr} {H H' : Hp} {o : HO} {a : Addr} {xs : List V} (h : SameX x H H') (hx : H x = some o) (ho : isTupO o = false) (q : SqL K H a xs) : SqL K H' a xs := by
  have ne : ∀ u, H a = some u → isTupO u = true → a ≠ x := fun u hu hh z => by subst z; rw [hx] at hu; cases Option.some.inj hu; rw [ho] at hh; cases hh
  rcases q with (q | ⟨ob, q⟩) | q
  · exact .inl (.inl (h _ _ (ne _ q rfl) q))
  · exact .inl (.inr ⟨ob, h _ _ (ne _ q rfl) q⟩)
  · exact .inr q
theorem SameX.rq {x : Addr} {H H' : Hp} {o : HO} {a : Addr} {xs : List V} (h : SameX x H H') (hx : H x = some o) (ho : isTupO o = false) (q : SqR K H a xs) : SqR K H' a xs := q.elim (fun q => .inl (h.lq hx ho q)) fun q => .inr (h.tq hx ho q)
theorem SameX.outs {x : Addr} {H H' : Hp} {o : HO} {t : Addr} {os : Outs} (h : SameX x H H') (hx : H x = some o) (ho : isTupO o = false) (q : OutsAt K H t os) : OutsAt K H' t os :=
  let ⟨cs, h1, h2⟩ := q; ⟨cs, h.tq hx ho h1, Paired.imp h2 fun _ _ z => h.tq hx ho z⟩
theorem SameX.tab {x : Addr} {H H' : Hp} {o : HO} {m : Mv} {kv : List Key × V} (h : SameX x H H') (hx : H x = some o) (ho : isTupO o = false) (q : TabE K H m kv) : TabE K H' m kv :=
  let ⟨h1, t, h2, h3⟩ := q; ⟨h1, t, h2, h.outs hx ho h3⟩
theorem SameX.mv {x : Addr} {H H' : Hp} {o : HO} {m : Mv} {kv : List Key × V} (h : SameX x H H') (hx : H x = some o) (ho : isTupO o = false) (q : MvAt K H m kv) : MvAt K H' m kv :=
  let ⟨h1, p, bs, h2, h3, h4⟩ := q; ⟨h1, p, bs, h2, h.rq hx ho h3, Paired.imp h4 fun _ _ z => h.rq hx ho z⟩
/-! ### outcomes and moves in order -/
abbrev row2 (o : PySem.Str × PySem.Str) : List PySem.Str := [o.1, o.2]
def un2 (r : List PySem.Str) : PySem.Str × PySem.Str := (r.getD 0 "", r.getD 1 "")
theorem un2_row2 (o : PySem.Str × PySem.Str) : un2 (row2 o) = o := rfl
def sortOuts (os : Outs) : Outs := (isort rowLt (os.map row2)).map un2
def sortTab (mv : List Mv) : List Mv := (isort rowLt (mv.map fun m => row2 m.1)).map fun k => (un2 k, sortOuts ((look mv (un2 k)).getD []))
theorem row_sorted {os : List (PySem.Str × PySem.Str)} {k : List PySem.Str} (h : k ∈ isort rowLt (os.map row2)) : row2 (un2 k) = k ∧ un2 k ∈ os := by
  obtain ⟨o, ho, rfl⟩ := List.mem_map.mp (mem_isort.mp h)
  exact ⟨rfl, ho⟩
theorem Paired.mapL {α β γ : Type} {R : α → β → Prop} {S : γ → β → Prop} {f : α → γ} : ∀ {l : List α} {m : List β}, Paired R l m → (∀ a ∈ l, ∀ b, R a b → S (f a) b) → Paired S (l.map f) m
  | _, _, .nil, _ => .nil
  | _, _, .cons h t, g => .cons (g _ List.mem_cons_self _ h) (Paired.mapL t fun a ha b => g a (List.mem_cons_of_mem _ ha) b)
theorem look_mem {mv : List Mv} {m : Mv} (nd : (mv.map (·.1)).Nodup) (h : m ∈ mv) : look mv m.1 = some m.2 := by
  unfold look
  induction mv with
  | nil => cases h
  | cons n mv ih =>
    obtain ⟨n1, n2⟩ := List.nodup_cons.mp nd
    rcases List.mem_cons.mp h with rfl | h
    · rw [List.find?_cons_of_pos (by simp)] <;> rfl
    · rw [List.find?_cons_of_neg (by
        simp only [decide_eq_true_eq]
        exact fun e => n1 (List.mem_map.mpr ⟨m, h, e.symm⟩))]
      exact ih n2 h
theorem putK_new {α : Type} [DecidableEq α] {kvs : List (α × V)} {k : α} {v : V} (h : k ∉ kvs.map (·.1)) : putK kvs k v = kvs ++ [(k, v)] := by
  unfold putK
  rw [if_neg]
  intro e
  obtain ⟨p, hp, e⟩ := List.any_eq_true.mp e
  exact h (List.mem_map.mpr ⟨p, hp, of_decide_eq_true e⟩)
theorem paired_keys {H : Hp} : ∀ {mv : List Mv} {kvs : List (List Key × V)}, Paired (MvAt K H) mv kvs → kvs.map (·.1) = (mv.map fun m => row2 m.1).map (·.map Sum.inr)
  | _, _, .nil => rfl
  | _, _, .cons h t => by rw [List.map_cons, List.map_cons, List.map_cons, paired_keys t, h.1] <;> rfl
theorem Paired.atL {α β : Type} {R : α → β → Prop} : ∀ {l : List α} {m : List β} {i : Nat} {a : α}, Paired R l m → l[i]? = some a → ∃ b, m[i]? = some b ∧ R a b
  | _, _, _, _, .nil, e => by simp at e
  | _, _, 0, _, .cons h _, e => by simp at e; subst e; exact ⟨_, rfl, h⟩
  | _, _, i + 1, _, .cons _ t, e => by
    obtain ⟨a, e1, e2⟩ := Paired.atL (i := i) t (by simpa using e)
    exact ⟨a, by simpa using e1, e2⟩
theorem sortTab_keys (mv : List Mv) : ((sortTab mv).map (·.1)).Perm (mv.map (·.1)) := by
  have h := (isort_perm (lt := rowLt) (mv.map fun m => row2 m.1)).map un2
  rw [sortTab, List.map_map]
  rw [List.map_map] at h
  exact h
theorem sortTab_nodup {mv : List Mv} (nd : (mv.map (·.1)).Nodup) : ((sortTab mv).map (·.1)).Nodup := (sortTab_keys mv).nodup_iff.mpr nd
theorem look_in {mv : List Mv} {k : PySem.Str × PySem.Str} {os : Outs} (h : look mv k = some os) : (k, os) ∈ mv := by
  unfold look at h
  obtain ⟨m, hm, e⟩ := Option.map_eq_some_iff.mp h
  have h1 := List.find?_some hm
  have h2 := List.mem_of_find?_eq_some hm
  have : m.1 = k := of_decide_eq_true h1
  rw [← this, ← e]
  exact h2
theorem sortTab_few {mv : List Mv} (h : ∀ m ∈ mv, outsB m.2 = true) : ∀ m ∈ sortTab mv, m.2.length ≤ 8 := by
  intro m hm
  obtain ⟨k, _, rfl⟩ := List.mem_map.mp hm
  show (sortOuts ((look mv (un2 k)).getD [])).length ≤ 8
  rw [sortOuts, List.length_map, length_isort, List.length_map]
  cases e : look mv (un2 k) with
  | none => exact Nat.zero_le _
  | some os => exact (outs_len (h _ (look_in e))).1
theorem outs_sum : ∀ (tab : List Mv), (∀ m ∈ tab, m.2.length ≤ 8) → (tab.flatMap fun m => m.2.map (·.2)).length ≤ 8 * tab.length
  | [], _ => by simp
  | m :: tab, h => by
    have h1 := outs_sum tab fun n hn => h n (List.mem_cons_of_mem _ hn)
    have h2 := h m List.mem_cons_self
    rw [List.flatMap_cons, List.length_append, List.length_map, List.length_cons]
    omega
theorem tab_new {H : Hp} {mv : List Mv} {m : Mv} {i : Nat} {kvs' : List (List Key × V)} (nd : (mv.map (·.1)).Nodup) (h : mv[i]? = some m) (hp : Paired (TabE K H) (mv.take i) kvs') : [Sum.inr m.1.1, Sum.inr m.1.2] ∉ kvs'.map (·.1) := by
  intro hm
  obtain ⟨kv, hkv, e⟩ := List.mem_map.mp hm
  obtain ⟨j, hj⟩ := List.getElem?_of_mem hkv
  obtain ⟨n, hn, e2, _⟩ := Paired.at hp hj
  rw [e] at e2
  obtain ⟨z1, z2⟩ := List.cons.inj e2
  have e3 : m.1 = n.1 := Prod.ext (Sum.inr.inj z1) (Sum.inr.inj (List.cons.inj z2).1)
  have h1 : (mv.take (i + 1)).map (·.1) = (mv.take i).map (·.1) ++ [m.1] := by rw [take_next h, List.map_append] <;> rfl
  have h2 : ((mv.take (i + 1)).map (·.1)).Nodup := by
    rw [List.map_take]
    exact nd.sublist (List.take_sublist _ _)
  rw [h1] at h2
  exact (List.nodup_append.mp h2).2.2 n.1 (List.mem_map.mpr ⟨n, List.mem_of_getElem? hn, rfl⟩) m.1 (by simp) e3.symm
abbrev kfl2 (name start : PySem.Str) : List (PySem.Str × V) := [("called", .str name), ("begin", .str start)]
def sp_kind (K : PySem.W.Frag) : Sp := fun vs H Q _ => ∃ (x : Addr) (name start : PySem.Str) (e d : Addr) (ends : List PySem.Str) (mv : List Mv) (dx : Addr), vs = [.ref x, .str name, .str start, .ref e, .ref d] ∧ H x = some (.ins (kC K) dx []) ∧
  isName (.str name) = true ∧ isName (.str start) = true ∧ SqR K H e (ends.map V.str) ∧ (∀ y ∈ ends, isName (.str y) = true) ∧ ends.Nodup ∧ ends.length ≤ 4000 ∧ MovesAt K H d mv ∧ MovesOk mv ∧
  (∀ ys : List PySem.Str, ys.Nodup → (∀ y ∈ ys, y ∈ statesOf ⟨name, start, isort strLt ends, sortTab mv⟩) → ys.length ≤ 60) ∧
  ∀ H', SameX x H H' → KindAt K H' x ⟨name, start, isort strLt ends, sortTab mv⟩ → Q .non H'
theorem ok_kind (T : Txt K mg) : CalI P w K mg base 7 (kC K) "Kind" ["self", "name", "start", "ends", "moves"] (sp_kind K) := by
  have c_is_name := ok_is_name (P := P) (w := w) (base := base) T
  have c_are_ends := ok_are_ends (P := P) (w := w) (base := base) T
  have c_are_moves := ok_are_moves (P := P) (w := w) (base := base) T
  have c_states := ok_states (P := P) (w := w) (base := base) T
  obtain ⟨fd, F⟩ := T.d_Kind_init
  obtain ⟨tk, h_MOST_STATES⟩ := T.c_MOST_STATES
  refine ⟨_, fd, ?_, T.mk_Kind, T.g_Kind, F.bindsN fun _ _ _ _ _ _ us hl => match us, hl with | [_, _, _, _, _], _ => rfl⟩
  refine F.ok sc_Kind_init (fun vs H Q E h => ?_) (fun cdv A outer s H vs Q E hr h => ?_)
  · obtain ⟨x, name, start, e, d, ends, mv, dx, rfl, _⟩ := h
    rfl
  · have hu := hu_of hr
    refine ⟨_, PSs.nox (pss_cons (ps_if (pt_not (pt_val (pe_cal c_is_name (hr.mono (by decide)) takes0 (pa_cons (pv 1) pa_nil)))) (pss_one ps_never) pss_nil)
      (pss_cons (ps_if (pt_not (pt_val (pe_cal c_is_name (hr.mono (by decide)) takes0 (pa_cons (pv 2) pa_nil)))) (pss_one ps_never) pss_nil)
      (pss_cons (ps_if (pt_not (pt_val (pe_cal c_are_ends (hr.mono (by decide)) takes0 (pa_cons (pv 3) pa_nil)))) (pss_one ps_never) pss_nil)
      (pss_cons (ps_if (pt_not (pt_val (pe_cal c_are_moves (hr.mono (by decide)) takes0 (pa_cons (pv 4) pa_nil)))) (pss_one ps_never) pss_nil)
      (pss_cons (ps_fld (pv 0) (pv 1) rfl)
      (pss_cons (ps_fld (pv 0) (pv 2) rfl)
      (pss_cons (ps_fld (pv 0) (pe_callTy (r := rTupOf K) call_tupOf rfl T.b_tuple (by decide +kernel) (pa_cons (pe_callB (cr_sortS rfl) rfl T.b_sorted (by decide +kernel) (pa_cons (pv 3) pa_nil)) pa_nil)) rfl)
      (pss_cons (ps_fld (pv 0) pe_dnewT rfl)
      (pss_cons (ps_for PassesOwn.never rfl (pi_list (pe_callB (r := rSortDT K) (cr_sortDT rfl) rfl T.b_sorted (by decide +kernel) (pa_cons (pv 4) pa_nil))) (pg_name (i := 5) sc_Kind_init.nd rfl (Or.inl rfl))
      (pss_one (ps_dput hu (pe_fld (pv 0) rfl) (pv 5) (pe_callTy (r := rTupOf K) call_tupOf rfl T.b_tuple (by decide +kernel) (pa_cons (pe_callB (r := rSortQ K) cr_sortQ rfl T.b_sorted (by decide +kernel) (pa_cons (pe_lc (own := [("one", 6)]) (g := gName 6) (tt := tYes) rfl sc_Kind_init.nd (pi_seq (pe_dget hu (pv 4) (pv 5) (fun _ _ => rfl))) (blkOk_by (own := [("one", 6)]) (N := ["self", "name", "start", "ends", "moves", "at", "one"]) (sc := defScope s_Kind_init) (by decide +kernel)) (fun _ _ _ _ _ => (pg_name (i := 6) sc_Kind_init.nd rfl (Or.inl rfl))) (fun _ _ _ _ _ => pts_nil) (fun _ _ _ _ _ => (pe_callTy (r := rTupOf K) call_tupOf rfl T.b_tuple (by decide +kernel) (pa_cons (pv 6) pa_nil)))) pa_nil)) pa_nil)) rfl)))
      (pss_one (ps_if (pt_cmpR op_gt (pe_callB (r := rLenQ K) call_lenQ rfl T.b_len (by decide +kernel) (pa_cons (pe_calm0 c_states T.cl_Kind (hr.mono (by decide)) takes0 (pv 0)) pa_nil)) (pe_glob (v := .int 60) rfl h_MOST_STATES ⟨_, rfl⟩) (nomark _)) (pss_one ps_never) pss_nil))))))))))), ?_⟩
    obtain ⟨x, name, start, e, d, ends, mv, dx, rfl, hx, n1, n2, he, hen, hnd, hez, hmv, mok, few, q⟩ := h
    walk_at "rd"
    have hsE : ∀ y ∈ ends, y.length ≤ sizeLine := fun y hy => name_len (hen y hy)
    refine ⟨_, _, rfl, srt_str _, (fun z e => by cases e; exact name_len n1), fun H1 s1 => ⟨_, rfl, ?_⟩⟩
    rw [if_neg (by rw [n1]; decide)]
    refine ⟨_, _, rfl, srt_str _, (fun z e => by cases e; exact name_len n2), fun H2 s2 => ⟨_, rfl, ?_⟩⟩
    rw [if_neg (by rw [n2]; decide)]
    have s12 := s1.trans s2
    refine ⟨e, ends, rfl, SqR.same s12 he, hez, hsE, fun H3 s3 => ⟨_, rfl, ?_⟩⟩
    rw [if_neg (by rw [show (ends.all fun x => isName (.str x)) = true from List.all_eq_true.mpr hen, decide_eq_true hnd]; decide)]
    have s13 := s12.trans s3
    obtain ⟨kvs, hd, hp, nd⟩ := hmv
    refine ⟨d, mv, rfl, ⟨kvs, s13 _ _ hd, Paired.imp hp fun _ _ z => z.same s13, nd⟩, mok, fun H4 s4 => ⟨_, rfl, ?_⟩⟩
    rw [if_neg (by decide)]
    have s14 := s13.trans s4
    have hx4 := s14 _ _ hx
    have hd4 := s14 _ _ hd
    have he4 := SqR.same s14 he
    have hp4 : Paired (MvAt K H4) mv kvs := Paired.imp hp fun _ _ z => z.same s14
    have q4 : ∀ H', SameX x H4 H' → KindAt K H' x ⟨name, start, isort strLt ends, sortTab mv⟩ → Q .non H' := fun H' h hk => q H' (SameX.trans (SameX.of s14) h) hk
    clear q hx hd he hp s1 s2 s3 s4 s12 s13 s14
    refine ⟨kC K, dx, _, hx4, T.cl_Kind, T.no_Kind_called, (by decide), ?_⟩
    refine ⟨kC K, dx, _, upd_same, T.cl_Kind, T.no_Kind_begin, (by show 1 < 1000; decide), ?_⟩
    rw [show putF "begin" (V.str start) (putF "called" (V.str name) []) = (kfl2 name start) from rfl]
    have sx5 : SameX x H4 (upd (upd H4 x (.ins (kC K) dx (putF "called" (V.str name) []))) x (.ins (kC K) dx (kfl2 name start))) := SameX.upd SameX.self
    have hx5 : (upd (upd H4 x (.ins (kC K) dx (putF "called" (V.str name) []))) x (.ins (kC K) dx (kfl2 name start))) x = some (.ins (kC K) dx (kfl2 name start)) := upd_same
    generalize (upd (upd H4 x (.ins (kC K) dx (putF "called" (V.str name) []))) x (.ins (kC K) dx (kfl2 name start))) = H5 at sx5 hx5
    refine ⟨e, ends, rfl, .inl (sx5.rq hx4 rfl he4), (by rw [sizeLine_eq]; omega), fun l hl => ⟨l, _, rfl, .inl ⟨SqL.of upd_same, fun t ht => ?_⟩⟩⟩
    have sl : Same H5 (upd H5 l (.lst ((isort strLt ends).map V.str))) := Same.new hl
    have st : Same H5 (upd (upd H5 l (.lst ((isort strLt ends).map V.str))) t (.tup ((isort strLt ends).map V.str))) := sl.trans (Same.new ht)
    have htt : (upd (upd H5 l (.lst ((isort strLt ends).map V.str))) t (.tup ((isort strLt ends).map V.str))) t = some (.tup ((isort strLt ends).map V.str)) := upd_same
    generalize (upd (upd H5 l (.lst ((isort strLt ends).map V.str))) t (.tup ((isort strLt ends).map V.str))) = H6 at st htt
    have hx6 := st _ _ hx5
    have sx6 : SameX x H4 H6 := sx5.trans (SameX.of st)
    refine ⟨kC K, dx, _, hx6, T.cl_Kind, T.no_Kind_last, (by show 2 < 1000; decide), fun tb htb => ⟨kC K, dx, _, by rw [upd_ne (fun z => by subst z; rw [upd_same] at htb; cases htb)]; exact upd_same, T.cl_Kind, T.no_Kind_table, (by show 3 < 1000; decide), ?_⟩⟩
    have ntx : tb ≠ x := fun z => by subst z; rw [upd_same] at htb; cases htb
    have ht6 : H6 tb = none := by rw [upd_ne ntx] at htb; exact htb
    have ntt : tb ≠ t := fun z => by subst z; rw [htt] at ht6; cases ht6
    have htx : t ≠ x := ne_of htt hx6 (by intro z; cases z)
    have h4b : H4 tb = none := by
      cases z : H4 tb with
      | none => rfl
      | some u => rw [sx6 _ _ ntx z] at ht6; cases ht6
    rw [show putF "table" (V.ref tb) (putF "last" (V.ref t) (kfl2 name start)) = kflds name start t tb from rfl]
    generalize hH7 : (upd (upd (upd H6 x (.ins (kC K) dx (putF "last" (V.ref t) (kfl2 name start)))) tb (.dT [])) x (.ins (kC K) dx (kflds name start t tb))) = H7
    have hx7 : H7 x = some (.ins (kC K) dx (kflds name start t tb)) := by rw [← hH7]; exact upd_same
    have htb7 : H7 tb = some (.dT []) := by rw [← hH7, upd_ne ntx]; exact upd_same
    have htt7 : H7 t = some (.tup ((isort strLt ends).map V.str)) := by rw [← hH7, upd_ne htx, upd_ne ntt.symm, upd_ne htx]; exact htt
    have sx7 : SameX x H4 H7 := by
      intro a u n z
      rw [← hH7, upd_ne n, upd_ne (ne_of_none z h4b), upd_ne n]
      exact sx6 _ _ n z
    clear hH7 htb ht6 sx6 hx6 htt st sl ht hl sx5 hx5
    have hd7 : H7 d = some (.dT kvs) := sx7 _ _ (ne_of hd4 hx4 (by intro z; cases z)) hd4
    have hp7 : Paired (MvAt K H7) mv kvs := Paired.imp hp4 fun _ _ z => sx7.mv hx4 rfl z
    refine ⟨_, rfl, d, kvs, mv.map fun m => row2 m.1, rfl, .inl hd7, paired_keys hp7, (fun k hk => by obtain ⟨m, _, rfl⟩ := List.mem_map.mp hk; intro z; cases z), (by have := Paired.length hp7; have := mok.size; rw [sizeLine_eq]; omega), fun l2 cs hl2 hcs => ?_⟩
    generalize hH8 : upd H7 l2 (.lst (cs.map V.ref)) = H8
    have s8 : Same H7 H8 := hH8 ▸ Same.new hl2
    have hl8 : H8 l2 = some (.lst (cs.map V.ref)) := by rw [← hH8]; exact upd_same
    have htb8 := s8 _ _ htb7
    have hx8 := s8 _ _ hx7
    have hcs8 : Paired (fun (k : List PySem.Str) b => H8 b = some (.tup (k.map V.str))) (isort rowLt (mv.map fun m => row2 m.1)) cs := Paired.imp hcs fun _ _ z => s8 _ _ z
    have ndT := sortTab_nodup nd
    have hlT : (sortTab mv).length = mv.length := by rw [sortTab, List.length_map, length_isort, List.length_map]
    have hlc : (sortTab mv).length = cs.length := by rw [← Paired.length hcs, sortTab, List.length_map]
    refine ⟨l2, rfl, ⟨_, SqL.of hl8⟩, for_it walk_lm (fun i σ H => (∃ a b, σ = [some (.ref x), some (.str name), some (.str start), some (.ref e), some (.ref d), a, b]) ∧ SameX tb H8 H ∧ ∃ kvs', H tb = some (.dT kvs') ∧ Paired (TabE K H) ((sortTab mv).take i) kvs')
      ⟨⟨_, _, rfl⟩, SameX.of (Same.refl _), [], htb8, by rw [List.take_zero]; exact .nil⟩ (fun i σ H9 _ q => q.2.1.lq htb8 rfl (SqL.of hl8)) (fun i y σ H10 H9 hi pv yy => ?_) (fun σ H9 pv => ?_)⟩
    · obtain ⟨⟨a, b, rfl⟩, s9, kvs', htb9, hp9⟩ := pv
      obtain ⟨rfl, hy⟩ := yy
      obtain ⟨c, hc⟩ : ∃ c, cs[i]? = some c := ⟨_, List.getElem?_eq_getElem hi⟩
      rw [List.getElem?_map, hc] at hy
      cases Option.some.inj hy
      obtain ⟨k, hk, hkc⟩ := Paired.at hcs8 hc
      obtain ⟨ek, km⟩ := row_sorted (os := mv.map (·.1)) (k := k) (by rw [List.map_map]; exact List.mem_of_getElem? hk)
      obtain ⟨m, hm, em⟩ := List.mem_map.mp km
      have ek' : k = row2 m.1 := by rw [em]; exact ek.symm
      subst ek'
      obtain ⟨j, hj⟩ := List.getElem?_of_mem hm
      have hp10 : Paired (MvAt K H9) mv kvs := Paired.imp hp7 fun _ _ z => s9.mv htb8 rfl (z.same s8)
      obtain ⟨kv, hkv, e1, pp, bs, e2, h3, h4⟩ := Paired.atL hp10 hj
      have ndt : d ≠ tb := fun z => by subst z; rw [h4b] at hd4; cases hd4
      have hd9 : H9 d = some (.dT kvs) := s9 _ _ ndt (s8 _ _ hd7)
      have nct : c ≠ tb := ne_of hkc htb8 (by intro z; cases z)
      have hc9 := s9 _ _ nct hkc
      have hx9 := s9 _ _ ntx.symm hx8
      have hv : valV kvs kv.1 = some kv.2 := valV_at hp10 nd (List.mem_of_getElem? hkv)
      obtain ⟨l8, ll⟩ := outs_len (mok.outs m hm)
      have hbl : bs.length ≤ 8 := by have := Paired.length h4; omega
      walk_at "rd"
      refine ⟨.ref d, rfl, .ref c, rfl, d, .ref pp, rfl, .inr ⟨kvs, [Sum.inr m.1.1, Sum.inr m.1.2], c, .inl hd9, rfl, hc9, by rw [← e1, hv, e2]⟩, pp, rfl, ?_⟩
      have next : ∀ D H10 cs2, Same H9 H10 → H10 D = some (.lst (cs2.map V.ref)) → Paired (fun k b => RowAt K H10 b k) (m.2.map fun o => [o.1, o.2]) cs2 → ∀ l3 cs3, H10 l3 = none → Paired (fun k b => RowAt K H10 b k) (isort rowLt (m.2.map row2)) cs3 → ∀ t3, (upd H10 l3 (.lst (cs3.map V.ref))) t3 = none →
          ∃ G, G = upd (upd H10 l3 (.lst (cs3.map V.ref))) t3 (.tup (cs3.map V.ref)) ∧ G x = some (.ins (kC K) dx (kflds name start t tb)) ∧ ∃ H4, DPut G tb (.ref c) (.ref t3) H4 ∧ SameX tb H8 H4 ∧ ∃ kvs', H4 tb = some (.dT kvs') ∧ Paired (TabE K H4) ((sortTab mv).take (i + 1)) kvs' := by
        intro D H10 cs2 s10 hD10 hc2 l3 cs3 hl3 hp3 t3 ht3
        have sG : Same H9 (upd (upd H10 l3 (.lst (cs3.map V.ref))) t3 (.tup (cs3.map V.ref))) := (s10.trans (Same.new hl3)).trans (Same.new ht3)
        have s10G : Same H10 (upd (upd H10 l3 (.lst (cs3.map V.ref))) t3 (.tup (cs3.map V.ref))) := (Same.new hl3).trans (Same.new ht3)
        have htG : (upd (upd H10 l3 (.lst (cs3.map V.ref))) t3 (.tup (cs3.map V.ref))) t3 = some (.tup (cs3.map V.ref)) := upd_same
        refine ⟨_, rfl, ?_⟩
        generalize (upd (upd H10 l3 (.lst (cs3.map V.ref))) t3 (.tup (cs3.map V.ref))) = G at sG s10G htG
        have htbG := sG _ _ htb9
        have hkl : kvs'.length ≤ 4000 := by
          have := Paired.length hp9
          have := List.length_take_le i (sortTab mv)
          have := mok.size
          omega
        refine ⟨sG _ _ hx9, _, DPut.t (k := [Sum.inr m.1.1, Sum.inr m.1.2]) htbG (sG _ _ hc9) (by rw [sizeLine_eq]; omega), SameX.upd (fun a u n z => sG _ _ (s9 _ _ n z)), _, upd_same, ?_⟩
        have hsk : (sortTab mv)[i]? = some (m.1, sortOuts m.2) := by
          rw [sortTab, List.getElem?_map, hk]
          show some (un2 (row2 m.1), sortOuts ((look mv (un2 (row2 m.1))).getD [])) = _
          rw [un2_row2, look_mem nd hm] <;> rfl
        have sU : SameX tb G (upd G tb (.dT (putK kvs' [Sum.inr m.1.1, Sum.inr m.1.2] (.ref t3)))) := SameX.self
        rw [take_next hsk, putK_new]
        · rw [putK_new] at sU
          · refine Paired.snoc (Paired.imp hp9 fun _ _ z => sU.tab htbG rfl (z.same sG)) ⟨rfl, t3, rfl, cs3, sU.tq htbG rfl (SqT.of htG), ?_⟩
            refine Paired.mapL hp3 fun r hr b hb => ?_
            have := (row_sorted hr).1
            show RowAt K _ b (row2 (un2 r))
            rw [this]
            exact sU.tq htbG rfl (Same.tq s10G hb)
          · exact tab_new (m := (m.1, sortOuts m.2)) ndT hsk hp9
        · exact tab_new (m := (m.1, sortOuts m.2)) ndT hsk hp9
      refine h3.elim (fun h3 => .inl ⟨⟨_, h3⟩, fun D hD => lc_tuples walk_lm hD (fun H2 s2 => Same.seq s2 h3) (by omega) h4 (by simp) (fun H10 cs2 s10 hD10 hc2 => ?_)⟩) (fun h3 => .inr ⟨⟨_, h3⟩, fun D hD => lc_tuples walk_tm hD (fun H2 s2 => Same.tq s2 h3) (by omega) h4 (by simp) (fun H10 cs2 s10 hD10 hc2 => ?_)⟩)
      all_goals
        have hcl : cs2.length ≤ 8 := by rw [← Paired.length hc2, List.length_map]; exact l8
        refine ⟨D, cs2, _, rfl, .inl (SqL.of hD10), (by rw [sizeLine_eq]; omega), hc2, (fun k hk => by obtain ⟨m, _, rfl⟩ := List.mem_map.mp hk; intro z; cases z), fun l3 cs3 hl3 hp3 => ⟨l3, _, rfl, .inl ⟨SqL.of upd_same, fun t3 ht3 => ?_⟩⟩⟩
        obtain ⟨G, eG, hxG, H11, dp, r1, r2⟩ := next D H10 cs2 s10 hD10 hc2 l3 cs3 hl3 hp3 t3 ht3
        rw [← eG]
        exact ⟨_, rfl, x, kC K, dx, _, _, rfl, hxG, T.cl_Kind, T.no_Kind_table, rfl, _, rfl, tb, H11, rfl, dp, ⟨_, _, rfl⟩, r1, r2⟩
    · obtain ⟨⟨a, b, rfl⟩, s9, kvs', htb9, hp9⟩ := pv
      have hp9' : Paired (TabE K H9) (sortTab mv) kvs' := by rw [← hlc, List.take_length] at hp9 <;> exact hp9
      have hx9 := s9 _ _ ntx.symm hx8
      have ht9 : SqT K H9 t ((isort strLt ends).map V.str) := s9.tq htb8 rfl (SqT.of (s8 _ _ htt7))
      have hK : KindAt K H9 x ⟨name, start, isort strLt ends, sortTab mv⟩ := ⟨dx, t, tb, hx9, ht9, kvs', htb9, hp9', ndT, by have := mok.size; show (sortTab mv).length ≤ 4000; omega⟩
      refine ⟨_, rfl, x, dx, _, rfl, hx9, (kflds_no (by decide +kernel)), x, _, rfl, hK, ?_, fun H10 l ys s10 hl hl' up ndy mem => ⟨l, _, rfl, .inl (SqL.of hl'), ?_⟩⟩
      · have h1 : (statesOf ⟨name, start, isort strLt ends, sortTab mv⟩).length = 1 + (ends.length + ((sortTab mv).length + ((sortTab mv).flatMap fun m => m.2.map (·.2)).length)) := by simp [statesOf, length_isort]; omega
        have h2 := outs_sum (sortTab mv) (sortTab_few mok.outs)
        have := mok.size
        omega
      · refine ⟨_, _, rfl, rfl, _, rfl, ?_⟩
        walk_at "rd"
        rw [if_neg]
        · exact q4 H10 (fun a u n z => s10 _ _ (s9 _ _ (ne_of_none z h4b) (s8 _ _ (sx7 _ _ n z)))) (hK.same s10)
        · have := few ys ndy fun y hy => (mem y).mp hy
          simp only [List.length_map, decide_eq_true_eq]
          omega
end
end Rs
set_option Elab.async false
set_option linter.all false
set_option maxRecDepth 100000
set_option maxHeartbeats 2000000
namespace Rs
open PySem PySem.Spec PyProof.Rows L2
local macro_rules | `(tactic| walk_at "rd") => `(tactic| simp only [L2.tRet, L2.tRetN, L2.tSeq, L2.tNext, L2.tIfS, L2.tAsg, L2.gName, L2.gNil, L2.gCons, L2.tVar, L2.tC, L2.tOp, L2.tUn, L2.tCB, L2.tCons, L2.tNil, L2.tAndV, L2.tOrV, L2.tNotV, L2.tAnd, L2.tOr, L2.tNot, L2.tB, L2.tTest, L2.tIf, L2.tChain, L2.tTup, L2.tLst, L2.tDrop, L2.tFld, L2.sFld, L2.tOst, L2.tBM, L2.rNe, L2.tMkO, L2.start, L2.cxOf, L2.Cx.nox, L2.Cx.wish, L2.rI0, L2.rI, L2.tYes, Rs.tCalW, List.getElem?_cons_zero, List.getElem?_cons_succ, Option.some.injEq, exists_eq_left', exists_eq_left, exists_and_left, List.cons.injEq, and_true, true_and, L2.V.bl.injEq, L2.V.int.injEq, L2.V.str.injEq, L2.V.ref.injEq, List.set_cons_zero, List.set_cons_succ, List.map_cons, List.map_nil, List.length_cons, List.length_nil, List.replicate, List.cons_append, List.nil_append, List.append_nil, Nat.reduceSub, Nat.reduceAdd])
section
variable {P : Program} {w : World} {K : PySem.W.Frag} {mg : PySem.Str → Option Value} {base : Heap}
/-! ### the methods of a kind -/
abbrev Zs (P : Program) (w : World) : Addr → HO := fun D => SetSO P w D []
def methodsOf (kd : KD) : List PySem.Str := isort strLt (uniq (kd.tab.map (·.1.2)))
theorem mem_methodsOf {kd : KD} {m : PySem.Str} : m ∈ methodsOf kd ↔ m ∈ kd.tab.map (·.1.2) := by rw [methodsOf, mem_isort, mem_uniq]
theorem tabE_lock {H : Hp} {tb : Addr} {kvs : List (List Key × V)} {od : Obj} {m : Mv} {kv : List Key × V} (htb : H tb = some (.dT kvs)) (h : TabE K H m kv) : TabE K (upd H tb (.frz od (.dT kvs))) m kv := by
  obtain ⟨h1, t, h2, cs, h3, h4⟩ := h
  have lk : ∀ {b : Addr} {xs : List V}, SqT K H b xs → SqT K (upd H tb (.frz od (.dT kvs))) b xs := fun {b xs} z => by
    rcases z with (z | ⟨o, z⟩) | z
    · exact .inl (.inl (by rw [upd_ne (ne_of z htb (by intro q; cases q))]; exact z))
    · exact .inl (.inr ⟨o, by rw [upd_ne (ne_of z htb (by intro q; cases q))]; exact z⟩)
    · exact .inr z
  exact ⟨h1, t, h2, cs, lk h3, Paired.imp h4 fun _ _ z => lk z⟩
def sp_methods (K : PySem.W.Frag) : Sp := fun vs H Q _ => ∃ p kd, vs = [.ref p] ∧ KindAt K H p kd ∧ kd.tab.length ≤ 4000 ∧ ∀ H' l, Same H H' → H l = none → H' l = some (.lst ((methodsOf kd).map V.str)) → Q (.ref l) H'
theorem ok_methods (T : Txt K mg) : CalM P w K mg base 1 (kC K) "methods" ["self"] (sp_methods K) := by
  obtain ⟨fd, F⟩ := T.d_Kind_methods
  refine ⟨_, fd, ?_, T.me_Kind_methods, F.bindsN fun _ _ _ _ _ _ us hl => match us, hl with | [_], _ => rfl⟩
  refine F.ok sc_Kind_methods (fun vs H Q E h => ?_) (fun cdv A outer s H vs Q E hr h => ?_)
  · obtain ⟨p, kd, rfl, _⟩ := h
    rfl
  · have hu := hu_of hr
    refine ⟨_, PSs.nox (pss_one (ps_ret (pe_callB (r := rSortSet P w) (cr_sortSet rfl) rfl T.b_sorted (by decide +kernel) (pa_cons (pe_lock (pe_scg (own := [("state", 1), ("method", 2)]) (g := gTup K 2 (gCons (gName 1) (gCons (gName 2) (gNil)))) (tt := tYes) (Z := Zs P w) (ad := rAddS P w) setS_lay (fun _ _ _ _ => mt_addS) rfl sc_Kind_methods.nd (pi_keys (pe_fld (pv 0) rfl)) (blkOk_by (own := [("state", 1), ("method", 2)]) (N := ["self", "state", "method"]) (sc := defScope s_Kind_methods) (by decide +kernel)) (fun _ _ _ _ _ => (pg_tup rfl (pgs_cons (pg_name (i := 1) sc_Kind_methods.nd rfl (Or.inl rfl)) (pgs_cons (pg_name (i := 2) sc_Kind_methods.nd rfl (Or.inl rfl)) pgs_nil)))) (fun _ _ _ _ _ => pts_nil) (fun _ _ _ _ _ => (pv 2)))) pa_nil)))), ?_⟩
    obtain ⟨p, kd, rfl, ⟨dx, ea, tb, ho, he, ht⟩, hz, q⟩ := h
    obtain ⟨kvs, htb, hpt, nd, _⟩ := id ht
    have ntp : p ≠ tb := ne_of ho htb (by intro z; cases z)
    refine ⟨tb, _, htb, trivial, fun od => ⟨_, rfl, p, kC K, dx, _, _, rfl, by rw [upd_ne ntp]; exact ho, T.cl_Kind, T.no_Kind_table, rfl, tb, od, rfl, .inr ⟨kvs, upd_same, fun D hD => ?_⟩⟩⟩
    have hkl : kd.tab.length = kvs.length := Paired.length hpt
    have hDt : D ≠ tb := fun z => by subst z; rw [upd_same] at hD; cases hD
    refine sc_it (Z := Zs P w) walk_keysT (fun i H1 => Same (upd H tb (.frz od (.dT kvs))) H1 ∧ H1 D = some (SetSO P w D (uniq ((kd.tab.take i).map (·.1.2))))) ⟨Same.new hD, upd_same⟩ (fun i H1 _ z => same_loc z.1) (fun i x H1 H2 hi pv y => ?_) (fun H1 pv => ?_)
    · obtain ⟨s1, hD1⟩ := pv
      obtain ⟨rfl, k, v, b, hk, rfl, hb⟩ := y
      obtain ⟨m, em, h1, _⟩ := Paired.at hpt hk
      have e1 : k = [Sum.inr m.1.1, Sum.inr m.1.2] := h1
      subst e1
      refine ⟨b, [.str m.1.1, .str m.1.2], rfl, SqT.of hb, rfl, _, _, rfl, _, _, rfl, rfl, rfl, ?_⟩
      have hl := uniq_len ((kd.tab.take i).map (·.1.2))
      rw [List.length_map, List.length_take] at hl
      refine ⟨.str m.1.2, rfl, D, m.1.2, _, rfl, rfl, hD1, by show _ < 4096; omega, same_upd s1 hD, ?_⟩
      rw [upd_same, ← uniq_snoc, take_next em, List.map_append] <;> rfl
    · obtain ⟨s1, hD1⟩ := pv
      rw [← hkl, List.take_length] at hD1
      refine ⟨same_loc s1, ?_⟩
      have s2 := lock_same htb s1
      have hD2 : (upd H1 tb (.dT kvs)) D = some (SetSO P w D (uniq (kd.tab.map (·.1.2)))) := by rw [upd_ne hDt]; exact hD1
      generalize upd H1 tb (.dT kvs) = H2 at s2 hD2
      refine ⟨D, _, rfl, hD2, fun l hl => ?_⟩
      exact q _ l (s2.trans (Same.new hl)) (s2.free hl) upd_same
end
end Rs
set_option Elab.async false
set_option linter.all false
set_option maxRecDepth 100000
set_option maxHeartbeats 2000000
namespace Rs
open PySem PySem.Spec PyProof.Rows L2
local macro_rules | `(tactic| walk_at "rd") => `(tactic| simp only [L2.tRet, L2.tRetN, L2.tSeq, L2.tNext, L2.tIfS, L2.tAsg, L2.gName, L2.gNil, L2.gCons, L2.tVar, L2.tC, L2.tOp, L2.tUn, L2.tCB, L2.tCons, L2.tNil, L2.tAndV, L2.tOrV, L2.tNotV, L2.tAnd, L2.tOr, L2.tNot, L2.tB, L2.tTest, L2.tIf, L2.tChain, L2.tTup, L2.tLst, L2.tDrop, L2.tFld, L2.sFld, L2.tOst, L2.tBM, L2.rNe, L2.tMkO, L2.start, L2.cxOf, L2.Cx.nox, L2.Cx.wish, L2.rI0, L2.rI, L2.tYes, Rs.tCalW, List.getElem?_cons_zero, List.getElem?_cons_succ, Option.some.injEq, exists_eq_left', exists_eq_left, exists_and_left, List.cons.injEq, and_true, true_and, L2.V.bl.injEq, L2.V.int.injEq, L2.V.str.injEq, L2.V.ref.injEq, List.set_cons_zero, List.set_cons_succ, List.map_cons, List.map_nil, List.length_cons, List.length_nil, List.replicate, List.cons_append, List.nil_append, List.append_nil, Nat.reduceSub, Nat.reduceAdd])
section
variable {P : Program} {w : World} {K : PySem.W.Frag} {mg : PySem.Str → Option Value} {base : Heap}
theorem ok_BadHistory (T : Txt K mg) : CalE P w K mg base 1 (He.ga K "BadHistory") "BadHistory" ["self", "index"] (sp_err (He.ga K "BadHistory") "index") := by
  obtain ⟨fd, F⟩ := T.d_BadHistory_init
  obtain ⟨i1, i2⟩ := ini_ok T.ini_BadHistory
  refine ⟨_, fd, ?_, T.oex_BadHistory, i1, i2, T.g_BadHistory, F.bindsN fun _ _ _ _ _ _ us hl => match us, hl with | [_, _], _ => rfl⟩
  refine F.ok sc_BadHistory_init (fun vs H Q E h => ?_) (fun cdv A outer s H vs Q E hr h => ?_)
  · obtain ⟨a, y, rfl, _⟩ := h
    rfl
  · refine ⟨_, PSs.nox (pss_one (ps_ost (pv 0) (pv 1))), ?_⟩
    obtain ⟨a, y, rfl, ha, q⟩ := h
    exact ⟨y, rfl, _, rfl, a, _, rfl, T.oex_BadHistory, T.no_BadHistory_index, .inl ⟨ha, q⟩⟩
/-! ### look_history -/
/-- what a thing is as an element of a history -/
inductive Elt (K : PySem.W.Frag) (H : Hp) : V → Bool → Prop where
  | no {v : V} {n : String} : Srt K H v n → isRow n = false → Elt K H v false
  | row {p : Addr} {xs : List V} : SqR K H p xs → (xs.length = 2 → ∀ x ∈ xs, Any K H x) → Elt K H (.ref p) (pairB isName isWord xs)
theorem Elt.same {H H' : Hp} {v : V} {b : Bool} (e : Same H H') (h : Elt K H v b) : Elt K H' v b := by
  cases h with
  | no s r => exact .no (Srt.same e s) r
  | row s r => exact .row (SqR.same e s) fun l x hx => (r l x hx).same e
/-- the first element that is none -/
def sp_lookh (K : PySem.W.Frag) : Sp := fun vs H Q E => ∃ v, vs = [v] ∧
  ((∃ n, Srt K H v n ∧ isRow n = false ∧ Raised (He.ga K "BadHistory") "index" (.int (-1)) H E) ∨
   ∃ p xs bs, v = .ref p ∧ SqR K H p xs ∧ Paired (Elt K H) xs bs ∧ match bs.findIdx? fun b => !b with
    | none => ∀ H', Same H H' → Q .non H'
    | some i => Raised (He.ga K "BadHistory") "index" (.int (i : Nat)) H E)
theorem first_no : ∀ {bs : List Bool} {i : Nat}, (∀ b ∈ bs.take i, b = true) → bs[i]? = some false → (bs.findIdx? fun b => !b) = some i
  | [], _, _, e => by simp at e
  | b :: bs, 0, _, e => by
    simp at e
    subst e
    rfl
  | b :: bs, i + 1, h, e => by
    have hb : b = true := h b (by simp)
    rw [List.findIdx?_cons, hb, first_no (bs := bs) (i := i) (fun z hz => h z (by simp [hz])) (by simpa using e)] <;> rfl
theorem none_no {bs : List Bool} (h : ∀ b ∈ bs, b = true) : (bs.findIdx? fun b => !b) = none := by
  rw [List.findIdx?_eq_none_iff]
  intro y hy
  rw [h y hy] <;> rfl
theorem elt_pair {H : Hp} {v : V} {b : Bool} {f1 f2 : Addr} {Q : VK} {E : XK} (h : Elt K H v b) (q : ∀ H', Same H H' → Q (.bl b) H') : sp_is_pair K f1 f2 isName isWord [v, .ref f1, .ref f2] H Q E := by
  cases h with
  | no s r => exact ⟨_, _, rfl, s, .inl ⟨r, q⟩⟩
  | row s r =>
    obtain ⟨n, sn, hn⟩ := s.srt
    exact ⟨_, n, rfl, sn, .inr ⟨_, _, rfl, s, r, q⟩⟩
theorem ok_lookh (T : Txt K mg) : Cal P w K mg base 5 "look_history" ["history"] (sp_lookh K) := by
  have c_is_row := ok_is_row (P := P) (w := w) (base := base) T
  have c1 : Cal P w K mg base 3 "is_name" ["thing"] (spAny K isName) := by
    obtain ⟨f, fd, F, r⟩ := (ok_is_name (P := P) (w := w) (base := base) T).ex
    exact ⟨f, fd, F.mono (by decide), r⟩
  have c_is_pair := ok_is_pair (k := 4) (P := P) (w := w) (base := base) T c1 (ok_is_word (P := P) (w := w) (base := base) T) T.g_is_name T.g_is_word
  have c_BadHistory := ok_BadHistory (P := P) (w := w) (base := base) T
  obtain ⟨fd, F⟩ := T.d_look_history
  refine cal_of F T.g_look_history (F.bindsN fun _ _ _ _ _ _ us hl => match us, hl with | [_], _ => rfl) ?_
  refine F.ok sc_look_history (fun vs H Q E h => ?_) (fun cdv A outer s H vs Q E hr h => ?_)
  · obtain ⟨v, rfl, _⟩ := h
    rfl
  · refine ⟨_, (pss_cons (ps_if (pt_not (pt_val (pe_cal c_is_row (hr.mono (by decide)) (takes_of rfl rfl rfl rfl) (pa_cons (pv 0) pa_nil)))) (pss_one (ps_cale c_BadHistory (hr.mono (by decide)) (takes_of rfl rfl rfl rfl) (pa_cons (pe_un un_neg pe_int) pa_nil))) pss_nil)
      (pss_one (ps_for (passes_of rfl) rfl (pi_enumQ rfl T.b_enumerate (pa_cons (pv 0) pa_nil)) (pg_tup rfl (pgs_cons (pg_name (i := 1) sc_look_history.nd rfl (Or.inl rfl)) (pgs_cons (pg_name (i := 2) sc_look_history.nd rfl (Or.inl rfl)) pgs_nil)))
      (pss_one (ps_if (pt_not (pt_val (pe_cal c_is_pair (hr.mono (by decide)) (takes_of rfl rfl rfl rfl) (pa_cons (pv 2) (pa_cons (pe_glob (v := .ref (He.ga K "is_name")) rfl T.g_is_name rfl) (pa_cons (pe_glob (v := .ref (He.ga K "is_word")) rfl T.g_is_word rfl) pa_nil)))))) (pss_one (ps_cale c_BadHistory (hr.mono (by decide)) (takes_of rfl rfl rfl rfl) (pa_cons (pv 1) pa_nil))) pss_nil))))), ?_⟩
    obtain ⟨v, rfl, h⟩ := h
    rcases h with ⟨n, sr, hn, r⟩ | ⟨p, xs, bs, rfl, hp, hx, r⟩
    · refine ⟨_, rfl, _, n, rfl, sr, fun H1 s1 => ⟨_, rfl, ?_⟩⟩
      rw [hn]
      exact ⟨1, rfl, by decide, err_raw (Raised.same s1 r)⟩
    · obtain ⟨n', sr', hn'⟩ := hp.srt
      refine ⟨_, rfl, _, n', rfl, sr', fun H1 s1 => ⟨_, rfl, ?_⟩⟩
      rw [hn']
      have hl : xs.length = bs.length := Paired.length hx
      have turn : ∀ (i : Nat) (y : V) (σ : L2.St) (H2 H3 : Hp), i < xs.length → ((∃ a b, σ = [some (.ref p), a, b]) ∧ Same H H2 ∧ ∀ x ∈ bs.take i, x = true) → YPair (fun i => some (.int (i : Nat))) (fun i => xs[i]?) i H2 y H3 →
          ∃ T x c, y = .ref T ∧ (∃ a b, σ = [some (.ref p), a, b]) ∧ xs[i]? = some x ∧ H3 T = some (.tup [.int (i : Nat), x]) ∧ Same H H3 ∧ Elt K H3 x c ∧ (c = true → ∀ x ∈ bs.take (i + 1), x = true) ∧ (c = false → Raised (He.ga K "BadHistory") "index" (.int (i : Nat)) H E) := by
        rintro i y σ H2 H3 hi ⟨⟨a, b, rfl⟩, s2, hall⟩ ⟨T, x0, x, rfl, hT, rfl, e0, ex⟩
        cases Option.some.inj e0
        obtain ⟨c, hc, el⟩ := Paired.atL hx ex
        have s3 : Same H (upd H2 T (.tup [.int (i : Nat), x])) := s2.trans (Same.new hT)
        refine ⟨T, x, c, rfl, ⟨a, b, rfl⟩, ex, upd_same, s3, el.same s3, fun hb z hz => ?_, fun hb => ?_⟩
        · rw [take_next hc, List.mem_append, List.mem_singleton] at hz
          rcases hz with hz | rfl
          · exact hall z hz
          · exact hb
        · subst hb
          rw [first_no hall hc] at r
          exact r
      have last : (∀ x ∈ bs.take xs.length, x = true) → ∀ H', Same H H' → Q .non H' := by
        intro hall
        rw [hl, List.take_length] at hall
        rw [none_no hall] at r
        exact r
      have h0 : ∀ x ∈ bs.take 0, x = true := fun x hx => by rw [List.take_zero] at hx; cases hx
      have step : ∀ {T : Addr} {i : Nat} {x : V} {c : Bool} {a b : Option V} {H3 : Hp} {D : Ends}, H3 T = some (.tup [.int (i : Nat), x]) → Same H H3 → Elt K H3 x c → (c = true → ∀ H', Same H H' → D.nx [some (.ref p), some (.int (i : Nat)), some x] H') → (c = false → Raised (He.ga K "BadHistory") "index" (.int (i : Nat)) H E) →
          gTup K 2 (gCons (gName 1) (gCons (gName 2) gNil)) (.ref T) [some (.ref p), a, b] H3 fun σ2 H2 => tIfS (tNot (tB (tCalW (sp_is_pair K (He.ga K "is_name") (He.ga K "is_word") isName isWord) (fun cls d σ H => E cls d H) (tCons (tVar 2) (tCons (tC (.ref (He.ga K "is_name"))) (tCons (tC (.ref (He.ga K "is_word"))) tNil))))))
            (fun _ σ H => tMkO (He.ga K "BadHistory") (sp_err (He.ga K "BadHistory") "index") [] (tCons (tVar 1) tNil) σ H fun cls d H' => E cls d H') tNext D σ2 H2 := by
        intro T i x c a b H3 D hT s3 el good bad
        refine ⟨T, [.int (i : Nat), x], rfl, SqT.of hT, rfl, _, _, rfl, _, _, rfl, rfl, ?_⟩
        refine ⟨_, rfl, ?_⟩
        dsimp only [L2.tCons, L2.tC, L2.tNil]
        refine elt_pair el fun H4 s4 => ⟨_, rfl, ?_⟩
        cases c with
        | true => exact good rfl H4 (s3.trans s4)
        | false => exact ⟨_, rfl, by show 1 ≤ 1000; decide, err_raw (Raised.same (s3.trans s4) (bad rfl))⟩
      rcases hp with hp | hp
      · refine ⟨_, rfl, p, rfl, .inl ⟨⟨_, Same.seq s1 hp⟩, for_it walk_enum (fun i σ H2 => (∃ a b, σ = [some (.ref p), a, b]) ∧ Same H H2 ∧ ∀ x ∈ bs.take i, x = true) ⟨⟨_, _, rfl⟩, s1, h0⟩ (fun i σ H2 _ q => Same.seq q.2.1 hp) (fun i y σ H2 H3 hi pv yy => ?_) (fun σ H2 pv => last pv.2.2 _ pv.2.1)⟩⟩
        obtain ⟨T, x, c, rfl, ⟨a, b, rfl⟩, ex, hT, s3, el, good, bad⟩ := turn i y σ H2 H3 hi pv yy
        refine step hT s3 el (fun h H' s' => ?_) bad
        exact ⟨⟨_, _, rfl⟩, s', good h⟩
      · refine ⟨_, rfl, p, rfl, .inr ⟨⟨_, Same.tq s1 hp⟩, for_it walk_enumT (fun i σ H2 => (∃ a b, σ = [some (.ref p), a, b]) ∧ Same H H2 ∧ ∀ x ∈ bs.take i, x = true) ⟨⟨_, _, rfl⟩, s1, h0⟩ (fun i σ H2 _ q => Same.tq q.2.1 hp) (fun i y σ H2 H3 hi pv yy => ?_) (fun σ H2 pv => last pv.2.2 _ pv.2.1)⟩⟩
        obtain ⟨T, x, c, rfl, ⟨a, b, rfl⟩, ex, hT, s3, el, good, bad⟩ := turn i y σ H2 H3 hi pv yy
        refine step hT s3 el (fun h H' s' => ?_) bad
        exact ⟨⟨_, _, rfl⟩, s', good h⟩
end
end Rs
set_option Elab.async false
set_option linter.all false
set_option maxRecDepth 100000
set_option maxHeartbeats 2000000
namespace Rs
open PySem PySem.Spec PyProof.Rows L2
local macro_rules | `(tactic| walk_at "rd") => `(tactic| simp only [L2.tRet, L2.tRetN, L2.tSeq, L2.tNext, L2.tIfS, L2.tAsg, L2.gName, L2.gNil, L2.gCons, L2.tVar, L2.tC, L2.tOp, L2.tUn, L2.tCB, L2.tCons, L2.tNil, L2.tAndV, L2.tOrV, L2.tNotV, L2.tAnd, L2.tOr, L2.tNot, L2.tB, L2.tTest, L2.tIf, L2.tChain, L2.tTup, L2.tLst, L2.tDrop, L2.tFld, L2.sFld, L2.tOst, L2.tBM, L2.rNe, L2.tMkO, L2.start, L2.cxOf, L2.Cx.nox, L2.Cx.wish, L2.rI0, L2.rI, L2.tYes, Rs.tCalW, List.getElem?_cons_zero, List.getElem?_cons_succ, Option.some.injEq, exists_eq_left', exists_eq_left, exists_and_left, List.cons.injEq, and_true, true_and, L2.V.bl.injEq, L2.V.int.injEq, L2.V.str.injEq, L2.V.ref.injEq, List.set_cons_zero, List.set_cons_succ, List.map_cons, List.map_nil, List.length_cons, List.length_nil, List.replicate, List.cons_append, List.nil_append, List.append_nil, Nat.reduceSub, Nat.reduceAdd])
section
variable {P : Program} {w : World} {K : PySem.W.Frag} {mg : PySem.Str → Option Value} {base : Heap}
/-! ### where a call with an answer leads -/
def outsOf (kd : KD) (s m : PySem.Str) : Outs := if isName (.str s) = true ∧ isName (.str m) = true then (look kd.tab (s, m)).getD [] else []
def laters (os : Outs) (x : PySem.Str) : List PySem.Str := (os.filter fun o => decide (o.1 = x)).map (·.2)
def ledAll (kd : KD) (ss : List PySem.Str) (m x : PySem.Str) : List PySem.Str := ss.flatMap fun s => laters (outsOf kd s m) x
def ledOf (kd : KD) (ss : List PySem.Str) (m x : PySem.Str) : List PySem.Str := isort strLt (uniq (ledAll kd ss m x))
/-- a dict of the texts that were found, in their order -/
def FoundS (H : Hp) (f : Addr) (ss : List PySem.Str) : Prop := ∃ kvs : List (Key × V), H f = some (.dK kvs) ∧ kvs.map (·.1) = ss.map Sum.inr
theorem foundS_put {H : Hp} {f : Addr} {ss : List PySem.Str} {x : PySem.Str} {v : V} (h : FoundS H f ss) (hz : ss.length < sizeLine) : ∃ o, DPut H f (.str x) v (upd H f o) ∧ FoundS (upd H f o) f (addS ss x) := by
  obtain ⟨kvs, h1, h2⟩ := h
  have hl : kvs.length = ss.length := by
    have := congrArg List.length h2
    simpa using this
  exact ⟨_, DPut.k (k := Sum.inr x) h1 (by omega), _, upd_same, putK_keys h2⟩
def sp_led (K : PySem.W.Frag) : Sp := fun vs H Q _ => ∃ (p q : Addr) (kd : KD) (ss : List PySem.Str) (m x : PySem.Str), vs = [.ref p, .ref q, .str m, .str x] ∧ KindAt K H p kd ∧ SqR K H q (ss.map V.str) ∧ ss.length ≤ 4000 ∧ (∀ s ∈ ss, s.length ≤ sizeLine) ∧ m.length ≤ sizeLine ∧ (∀ t ∈ kd.tab, t.2.length ≤ 8) ∧
  ∀ H' l, Same H H' → H l = none → H' l = some (.lst ((ledOf kd ss m x).map V.str)) → Q (.ref l) H'
theorem laters_len (os : Outs) (x : PySem.Str) : (laters os x).length ≤ os.length := by
  rw [laters, List.length_map]
  exact List.length_filter_le _ _
theorem outsOf_len {kd : KD} (h : ∀ t ∈ kd.tab, t.2.length ≤ 8) (s m : PySem.Str) : (outsOf kd s m).length ≤ 8 := by
  unfold outsOf
  split
  · cases e : look kd.tab (s, m) with
    | none => exact Nat.zero_le _
    | some os => exact h _ (look_in e)
  · exact Nat.zero_le _
theorem ledAll_len {kd : KD} (h : ∀ t ∈ kd.tab, t.2.length ≤ 8) (m x : PySem.Str) : ∀ ss : List PySem.Str, (ledAll kd ss m x).length ≤ 8 * ss.length
  | [] => Nat.zero_le _
  | s :: ss => by
    have h1 := ledAll_len h m x ss
    have h2 := laters_len (outsOf kd s m) x
    have h3 := outsOf_len h s m
    rw [ledAll, List.flatMap_cons, List.length_append, List.length_cons]
    show _ + (ledAll kd ss m x).length ≤ _
    omega
theorem uniq_app (xs ys : List PySem.Str) : uniq (xs ++ ys) = ys.foldl addS (uniq xs) := by rw [uniq, List.foldl_append] <;> rfl
theorem laters_snoc (os : Outs) (o : PySem.Str × PySem.Str) (x : PySem.Str) : laters (os ++ [o]) x = laters os x ++ (if o.1 = x then [o.2] else []) := by
  unfold laters
  rw [List.filter_append, List.map_append]
  congr 1
  by_cases e : o.1 = x
  · rw [if_pos e, List.filter_cons_of_pos (by simpa using e)] <;> rfl
  · rw [if_neg e, List.filter_cons_of_neg (by simpa using e)] <;> rfl
theorem FoundS.same {H H' : Hp} {f : Addr} {ss : List PySem.Str} (s : Same H H') (h : FoundS H f ss) : FoundS H' f ss := let ⟨kvs, h1, h2⟩ := h; ⟨kvs, s _ _ h1, h2⟩
abbrev ledBody : TS := tIfS (tTest (tOp rEq (tVar 6) (tVar 3))) (sDPut (tVar 4) (tVar 7) (tC (V.bl true))) tNext
theorem led_inner {H0 H : Hp} {p r f t : Addr} {m x : PySem.Str} {v5 v6 v7 : Option V} {os : Outs} {prev : List PySem.Str} {D : Ends} (hf : H0 f = none) (s0 : Same H0 H) (ho : OutsAt K H t os) (hfd : FoundS H f (uniq prev)) (hz : prev.length + os.length < sizeLine)
    (q : ∀ H' v6 v7, Same H0 H' → FoundS H' f (uniq (prev ++ laters os x)) → D.nx [some (.ref p), some (.ref r), some (.str m), some (.str x), some (.ref f), v5, v6, v7] H') :
    tFor (iTup K (tC (.ref t))) (gTup K 2 (gCons (gName 6) (gCons (gName 7) gNil))) ledBody D [some (.ref p), some (.ref r), some (.str m), some (.str x), some (.ref f), v5, v6, v7] H := by
  obtain ⟨cs, h3, h4⟩ := ho
  have hcs : os.length = cs.length := Paired.length h4
  have ft : ∀ {b : Addr} {xs : List V} {H1 : Hp}, SqT K H b xs → (∀ a u, a ≠ f → H a = some u → H1 a = some u) → SqT K H1 b xs := fun {b xs H1} z k => by
    obtain ⟨kvs, e1, _⟩ := hfd
    rcases z with (z | ⟨o, z⟩) | z
    · exact .inl (.inl (k _ _ (ne_of z e1 (by intro q; cases q)) z))
    · exact .inl (.inr ⟨o, k _ _ (ne_of z e1 (by intro q; cases q)) z⟩)
    · exact .inr z
  refine ⟨t, rfl, ⟨_, h3⟩, for_it walk_tm (fun j σ H6 => (∃ v6 v7, σ = [some (.ref p), some (.ref r), some (.str m), some (.str x), some (.ref f), v5, v6, v7]) ∧ Same H0 H6 ∧ (∀ a u, a ≠ f → H a = some u → H6 a = some u) ∧ FoundS H6 f (uniq (prev ++ laters (os.take j) x)))
    ⟨⟨_, _, rfl⟩, s0, fun a u _ z => z, by rw [List.take_zero]; simpa [laters] using hfd⟩ (fun j σ H6 _ z => ft h3 z.2.2.1) (fun j y σ H6 H7 hj pv yy => ?_) (fun σ H6 pv => ?_)⟩
  · obtain ⟨⟨v6, v7, rfl⟩, s6, k6, fd6⟩ := pv
    obtain ⟨rfl, hx⟩ := yy
    obtain ⟨b', hb'⟩ : ∃ b', cs[j]? = some b' := ⟨_, List.getElem?_eq_getElem hj⟩
    rw [List.getElem?_map, hb'] at hx
    cases Option.some.inj hx
    obtain ⟨o, eo, hr⟩ := Paired.at h4 hb'
    refine ⟨b', [.str o.1, .str o.2], rfl, ft hr k6, rfl, _, _, rfl, _, _, rfl, rfl, _, rfl, _, rfl, rfl, _, rfl, ?_⟩
    have hl := uniq_len (prev ++ laters (os.take j) x)
    have hl2 := laters_len (os.take j) x
    rw [List.length_append] at hl
    rw [List.length_take] at hl2
    refine ite2 (fun e => ?_) (fun e => ?_)
    · have e1 : o.1 = x := by simpa using e
      obtain ⟨oo, dp, fd7⟩ := foundS_put (x := o.2) (v := .bl true) fd6 (by omega)
      refine ⟨.ref f, rfl, .str o.2, rfl, f, _, rfl, dp, ⟨_, _, rfl⟩, same_upd s6 hf, fun a u n z => by rw [upd_ne n]; exact k6 a u n z, ?_⟩
      rw [take_next eo, laters_snoc, if_pos e1, ← List.append_assoc, uniq_snoc]
      exact fd7
    · have e1 : ¬ o.1 = x := by simpa using e
      refine ⟨⟨_, _, rfl⟩, s6, k6, ?_⟩
      rw [take_next eo, laters_snoc, if_neg e1, List.append_nil]
      exact fd6
  · obtain ⟨⟨v6, v7, rfl⟩, s6, _, fd6⟩ := pv
    rw [← hcs, List.take_length] at fd6
    exact q H6 v6 v7 s6 fd6
theorem ledAll_snoc (kd : KD) (ss : List PySem.Str) (s m x : PySem.Str) : ledAll kd (ss ++ [s]) m x = ledAll kd ss m x ++ laters (outsOf kd s m) x := by
  unfold ledAll
  rw [List.flatMap_append] <;> simp
theorem ok_led (T : Txt K mg) : Cal P w K mg base 6 "led" ["kind", "states", "method", "word"] (sp_led K) := by
  have c_getitem := ok_getitem (P := P) (w := w) (base := base) T
  obtain ⟨fd, F⟩ := T.d_led
  refine cal_of F T.g_led (F.bindsN fun _ _ _ _ _ _ us hl => match us, hl with | [_, _, _, _], _ => rfl) ?_
  refine F.ok sc_led (fun vs H Q E h => ?_) (fun cdv A outer s H vs Q E hr h => ?_)
  · obtain ⟨p, q, kd, ss, m, x, rfl, _⟩ := h
    rfl
  · have hu := hu_of hr
    refine ⟨_, PSs.nox (pss_cons (ps_set (i := 4) sc_led.nd rfl (Or.inl rfl) pe_dnewK)
      (pss_cons (ps_for PassesOwn.never rfl (pi_seq (pv 1)) (pg_name (i := 5) sc_led.nd rfl (Or.inl rfl))
      (pss_one (ps_for PassesOwn.never rfl (pi_tup (pe_orT (pe_calsub c_getitem (hr.mono (by decide)) (pv 0) (pe_tup (pa_cons (pv 5) (pa_cons (pv 2) pa_nil)))) (pe_one (pe_tup pa_nil)))) (pg_tup rfl (pgs_cons (pg_name (i := 6) sc_led.nd rfl (Or.inl rfl)) (pgs_cons (pg_name (i := 7) sc_led.nd rfl (Or.inl rfl)) pgs_nil)))
      (pss_one (ps_if (pt_cmpR op_eq (pv 6) (pv 3) (nomark _)) (pss_one (ps_dput hu (pv 4) (pv 7) pe_bl rfl)) pss_nil)))))
      (pss_one (ps_ret (pe_callB (cr_sortS rfl) rfl T.b_sorted (by decide +kernel) (pa_cons (pv 4) pa_nil)))))), ?_⟩
    obtain ⟨p, r, kd, ss, m, x, rfl, hk, hr', hz, hsz, hmz, h8, q⟩ := h
    intro f hf
    have s0 : Same H (upd H f (.dK [])) := Same.new hf
    have fd0 : FoundS (upd H f (.dK [])) f (uniq (ledAll kd (ss.take 0) m x)) := ⟨[], upd_same, by rw [List.take_zero] <;> rfl⟩
    generalize upd H f (.dK []) = H1 at s0 fd0
    have line : sizeLine = 16777216 := sizeLine_eq
    have turn : ∀ (i : Nat) (y : V) (σ : L2.St) (H2 H3 : Hp) (N : L2.St → Hp → Prop), i < ss.length → ((∃ v5 v6 v7, σ = [some (.ref p), some (.ref r), some (.str m), some (.str x), some (.ref f), v5, v6, v7]) ∧ Same H H2 ∧ FoundS H2 f (uniq (ledAll kd (ss.take i) m x))) → YAt (ss.map V.str) i H2 y H3 →
        (∀ σ H', (∃ v5 v6 v7, σ = [some (.ref p), some (.ref r), some (.str m), some (.str x), some (.ref f), v5, v6, v7]) → Same H H' → FoundS H' f (uniq (ledAll kd (ss.take (i + 1)) m x)) → N σ H') →
        ∀ D : Ends, D.nx = N → gName 5 y σ H3 fun σ2 H4 => tFor (iTup K (tOrT K (tOp (rSubO (kC K) (sp_getitem K) E0) (tVar 0) (tTup (tCons (tVar 5) (tCons (tVar 2) tNil)))) (tTup tNil))) (gTup K 2 (gCons (gName 6) (gCons (gName 7) gNil))) ledBody D σ2 H4 := by
      rintro i y σ H2 H3 N hi ⟨⟨v5, v6, v7, rfl⟩, s2, fd2⟩ ⟨rfl, hy⟩ hN D hD
      subst hD
      obtain ⟨st, hst⟩ : ∃ st, ss[i]? = some st := ⟨_, List.getElem?_eq_getElem hi⟩
      rw [List.getElem?_map, hst] at hy
      cases Option.some.inj hy
      have lst := hsz st (List.mem_of_getElem? hst)
      refine ⟨_, rfl, .str st, rfl, .str m, rfl, by show 2 ≤ sizeLine; decide, fun b hb => ?_⟩
      have s3 := s2.trans (Same.new (o := .tup [.str st, .str m]) hb)
      have fd3 := fd2.same (Same.new (o := .tup [.str st, .str m]) hb)
      have hk3 := hk.same s3
      obtain ⟨dk, ea, tb, hki, _⟩ := id hk3
      refine ⟨p, dk, _, rfl, hki, p, kd, b, st, m, rfl, hk3, upd_same, lst, hmz, fun H5 s5 => ?_⟩
      have s35 := s3.trans s5
      have fd5 := fd3.same s5
      have h8' := outsOf_len h8 st m
      have hl := ledAll_len h8 m x (ss.take i)
      rw [List.length_take] at hl
      have next : ∀ {t : Addr} {H6 : Hp}, Same H H6 → OutsAt K H6 t (outsOf kd st m) → FoundS H6 f (uniq (ledAll kd (ss.take i) m x)) → tFor (iTup K (tC (.ref t))) (gTup K 2 (gCons (gName 6) (gCons (gName 7) gNil))) ledBody D [some (.ref p), some (.ref r), some (.str m), some (.str x), some (.ref f), some (.str st), v6, v7] H6 := by
        intro t H6 s6 o6 f6
        refine led_inner hf s6 o6 f6 (by omega) fun H7 v6 v7 s7 f7 => hN _ _ ⟨_, _, _, rfl⟩ s7 ?_
        rw [take_next hst, ledAll_snoc]
        exact f7
      have empty : outsOf kd st m = [] → ∀ e, H5 e = none → tFor (iTup K (tC (.ref e))) (gTup K 2 (gCons (gName 6) (gCons (gName 7) gNil))) ledBody D [some (.ref p), some (.ref r), some (.str m), some (.str x), some (.ref f), some (.str st), v6, v7] (upd H5 e (.tup [])) := by
        intro h0 e he
        refine next (s35.trans (Same.new he)) ?_ (fd5.same (Same.new he))
        rw [h0]
        exact ⟨[], SqT.of upd_same, .nil⟩
      by_cases hn : isName (.str st) = true ∧ isName (.str m) = true
      · rw [if_pos hn]
        have eo : outsOf kd st m = (look kd.tab (st, m)).getD [] := if_pos hn
        cases e : look kd.tab (st, m) with
        | none =>
          rw [e] at eo
          exact ⟨false, rfl, Nat.zero_le _, empty eo⟩
        | some os =>
          rw [e] at eo
          have eo : outsOf kd st m = os := eo
          intro t ht
          obtain ⟨cs, c1, c2⟩ := id ht
          refine ⟨_, .inr (.inl ⟨_, c1, rfl⟩), ?_⟩
          cases c2 with
          | nil => exact ⟨Nat.zero_le _, empty eo⟩
          | cons a b => exact next s35 (by rw [eo]; exact ht) fd5
      · rw [if_neg hn]
        exact ⟨false, rfl, Nat.zero_le _, empty (if_neg hn)⟩
    have fin : ∀ (σ : L2.St) (H2 : Hp), ((∃ v5 v6 v7, σ = [some (.ref p), some (.ref r), some (.str m), some (.str x), some (.ref f), v5, v6, v7]) ∧ Same H H2 ∧ FoundS H2 f (uniq (ledAll kd (ss.take ss.length) m x))) → tRet (tCB (rSortS K) (tCons (tVar 4) tNil)) { nx := fun _ H' => Q V.non H', rt := Q } σ H2 := by
      rintro σ H2 ⟨⟨v5, v6, v7, rfl⟩, s2, kvs, f1, f2⟩
      rw [List.take_length] at f2
      have hl := ledAll_len h8 m x ss
      have hl2 := uniq_len (ledAll kd ss m x)
      refine ⟨_, rfl, f, _, rfl, .inr ⟨kvs, .inl f1, f2⟩, by omega, fun l hl => ?_⟩
      exact q _ l (s2.trans (Same.new hl)) (s2.free hl) upd_same
    rcases hr' with hr' | hr'
    · refine ⟨_, rfl, r, rfl, .inl ⟨⟨_, Same.seq s0 hr'⟩, for_it walk_lm (fun i σ H2 => (∃ v5 v6 v7, σ = [some (.ref p), some (.ref r), some (.str m), some (.str x), some (.ref f), v5, v6, v7]) ∧ Same H H2 ∧ FoundS H2 f (uniq (ledAll kd (ss.take i) m x))) ⟨⟨_, _, _, rfl⟩, s0, fd0⟩ (fun i σ H2 _ z => Same.seq z.2.1 hr') (fun i y σ H2 H3 hi pv yy => ?_) fin⟩⟩
      exact turn i y σ H2 H3 _ hi pv yy (fun σ H' a b c => ⟨a, b, c⟩) _ rfl
    · refine ⟨_, rfl, r, rfl, .inr ⟨⟨_, Same.tq s0 hr'⟩, for_it walk_tm (fun i σ H2 => (∃ v5 v6 v7, σ = [some (.ref p), some (.ref r), some (.str m), some (.str x), some (.ref f), v5, v6, v7]) ∧ Same H H2 ∧ FoundS H2 f (uniq (ledAll kd (ss.take i) m x))) ⟨⟨_, _, _, rfl⟩, s0, fd0⟩ (fun i σ H2 _ z => Same.tq z.2.1 hr') (fun i y σ H2 H3 hi pv yy => ?_) fin⟩⟩
      exact turn i y σ H2 H3 _ hi pv yy (fun σ H' a b c => ⟨a, b, c⟩) _ rfl
end
end Rs
set_option Elab.async false
set_option linter.all false
set_option maxRecDepth 100000
set_option maxHeartbeats 2000000
namespace Rs
open PySem PySem.Spec PyProof.Rows L2
local macro_rules | `(tactic| walk_at "rd") => `(tactic| simp only [L2.tRet, L2.tRetN, L2.tSeq, L2.tNext, L2.tIfS, L2.tAsg, L2.gName, L2.gNil, L2.gCons, L2.tVar, L2.tC, L2.tOp, L2.tUn, L2.tCB, L2.tCons, L2.tNil, L2.tAndV, L2.tOrV, L2.tNotV, L2.tAnd, L2.tOr, L2.tNot, L2.tB, L2.tTest, L2.tIf, L2.tChain, L2.tTup, L2.tLst, L2.tDrop, L2.tFld, L2.sFld, L2.tOst, L2.tBM, L2.rNe, L2.tMkO, L2.start, L2.cxOf, L2.Cx.nox, L2.Cx.wish, L2.rI0, L2.rI, L2.tYes, Rs.tCalW, List.getElem?_cons_zero, List.getElem?_cons_succ, Option.some.injEq, exists_eq_left', exists_eq_left, exists_and_left, List.cons.injEq, and_true, true_and, L2.V.bl.injEq, L2.V.int.injEq, L2.V.str.injEq, L2.V.ref.injEq, List.set_cons_zero, List.set_cons_succ, List.map_cons, List.map_nil, List.length_cons, List.length_nil, List.replicate, List.cons_append, List.nil_append, List.append_nil, Nat.reduceSub, Nat.reduceAdd])
local macro_rules | `(tactic| walk_at "dn") => `(tactic| dsimp only [L2.tCons, L2.tC, L2.tNil])
section
variable {P : Program} {w : World} {K : PySem.W.Frag} {mg : PySem.Str → Option Value} {base : Heap}
/-! ### after, allowed -/
abbrev Hist := List (PySem.Str × PySem.Str)
def afterOf (kd : KD) (hs : Hist) : List PySem.Str := hs.foldl (fun ss c => ledOf kd ss c.1 c.2) [kd.start]
/-- a row of pairs of texts -/
def HistAt (K : PySem.W.Frag) (H : Hp) (q : Addr) (hs : Hist) : Prop := ∃ cs : List Addr, SqR K H q (cs.map V.ref) ∧ Paired (PairAt K H) hs cs
theorem HistAt.same {H H' : Hp} {q : Addr} {hs : Hist} (e : Same H H') (h : HistAt K H q hs) : HistAt K H' q hs := let ⟨cs, h1, h2⟩ := h; ⟨cs, SqR.same e h1, Paired.imp h2 fun _ _ z => SqR.same e z⟩
/-- what a thing is as a history -/
inductive IsHist (K : PySem.W.Frag) (H : Hp) : V → Option Int → Hist → Prop where
  | no {v : V} {n : String} : Srt K H v n → isRow n = false → IsHist K H v (some (-1)) []
  | bad {p : Addr} {xs : List V} {bs : List Bool} {i : Nat} : SqR K H p xs → Paired (Elt K H) xs bs → (bs.findIdx? fun b => !b) = some i → IsHist K H (.ref p) (some (i : Nat)) []
  | good {p : Addr} {hs : Hist} : HistAt K H p hs → (∀ c ∈ hs, isName (.str c.1) = true ∧ isWord (.str c.2) = true ∧ c.2.length ≤ sizeLine) → hs.length ≤ 4000 → IsHist K H (.ref p) none hs
theorem IsHist.same {H H' : Hp} {v : V} {o : Option Int} {hs : Hist} (e : Same H H') (h : IsHist K H v o hs) : IsHist K H' v o hs := by
  cases h with
  | no s r => exact .no (Srt.same e s) r
  | bad s r t => exact .bad (SqR.same e s) (Paired.imp r fun _ _ z => z.same e) t
  | good s r t => exact .good (s.same e) r t
theorem pair_elts {H : Hp} : ∀ {hs : Hist} {cs : List Addr}, Paired (PairAt K H) hs cs → (∀ c ∈ hs, isName (.str c.1) = true ∧ isWord (.str c.2) = true ∧ c.2.length ≤ sizeLine) → Paired (Elt K H) (cs.map V.ref) (hs.map fun _ => true)
  | _, _, .nil, _ => .nil
  | c :: hs, b :: cs, .cons h t, g => by
    obtain ⟨g1, g2, g3⟩ := g c List.mem_cons_self
    have e : pairB isName isWord [.str c.1, .str c.2] = true := by simp only [pairB, g1, g2, Bool.and_true]
    have el : Elt K H (.ref b) (pairB isName isWord [.str c.1, .str c.2]) := .row h fun _ => any2 (name_len g1) g3
    rw [e] at el
    exact .cons el (pair_elts t fun c hc => g c (List.mem_cons_of_mem _ hc))
theorem lookh_of {H : Hp} {v : V} {o : Option Int} {hs : Hist} {Q : VK} {E : XK} (h : IsHist K H v o hs) (q : match o with
    | none => ∀ H', Same H H' → Q .non H'
    | some i => Raised (He.ga K "BadHistory") "index" (.int i) H E) : sp_lookh K [v] H Q E := by
  cases h with
  | no s r => exact ⟨_, rfl, .inl ⟨_, s, r, q⟩⟩
  | bad s r t => exact ⟨_, rfl, .inr ⟨_, _, _, rfl, s, r, by rw [t]; exact q⟩⟩
  | good s r t =>
    obtain ⟨cs, h1, h2⟩ := s
    refine ⟨_, rfl, .inr ⟨_, _, _, rfl, h1, pair_elts h2 r, ?_⟩⟩
    rw [none_no (fun b hb => by obtain ⟨_, _, e⟩ := List.mem_map.mp hb; exact e.symm)]
    exact q
structure KindOk (kd : KD) : Prop where
  few : ∀ t ∈ kd.tab, t.2.length ≤ 8
  st : kd.start.length ≤ sizeLine
  meth : ∀ m ∈ kd.tab.map (·.1.2), m.length ≤ sizeLine
  names : ∀ t ∈ kd.tab, ∀ o ∈ t.2, isName (.str o.2) = true
  states : ∀ ys : List PySem.Str, ys.Nodup → (∀ y ∈ ys, y ∈ statesOf kd) → ys.length ≤ 60
theorem led_in {kd : KD} {ss : List PySem.Str} {m x y : PySem.Str} (h : y ∈ ledOf kd ss m x) : ∃ t ∈ kd.tab, ∃ o ∈ t.2, o.2 = y := by
  unfold ledOf at h
  rw [mem_isort, mem_uniq] at h
  unfold ledAll at h
  obtain ⟨s, _, h⟩ := List.mem_flatMap.mp h
  unfold laters at h
  obtain ⟨o, ho, e⟩ := List.mem_map.mp h
  have ho := (List.mem_filter.mp ho).1
  unfold outsOf at ho
  split at ho
  · cases e2 : look kd.tab (s, m) with
    | none => rw [e2] at ho; cases ho
    | some os => rw [e2] at ho; exact ⟨_, look_in e2, o, ho, e⟩
  · cases ho
theorem states_in {kd : KD} {t : Mv} {o : PySem.Str × PySem.Str} (ht : t ∈ kd.tab) (ho : o ∈ t.2) : o.2 ∈ statesOf kd := by
  unfold statesOf
  refine List.mem_cons_of_mem _ (List.mem_append_right _ (List.mem_append_right _ (List.mem_flatMap.mpr ⟨t, ht, List.mem_map.mpr ⟨o, ho, rfl⟩⟩)))
theorem led_nodup (kd : KD) (ss : List PySem.Str) (m x : PySem.Str) : (ledOf kd ss m x).Nodup := nodup_isort.mpr (nodup_uniq _)
theorem led_few {kd : KD} (ok : KindOk kd) (ss : List PySem.Str) (m x : PySem.Str) : (ledOf kd ss m x).length ≤ 60 := ok.states _ (led_nodup kd ss m x) fun y hy => by
  obtain ⟨t, ht, o, ho, e⟩ := led_in hy
  rw [← e]
  exact states_in ht ho
theorem led_len {kd : KD} (ok : KindOk kd) (ss : List PySem.Str) (m x : PySem.Str) : ∀ y ∈ ledOf kd ss m x, y.length ≤ sizeLine := fun y hy => by
  obtain ⟨t, ht, o, ho, e⟩ := led_in hy
  rw [← e]
  exact name_len (ok.names t ht o ho)
theorem after_snoc (kd : KD) (hs : Hist) (c : PySem.Str × PySem.Str) : afterOf kd (hs ++ [c]) = ledOf kd (afterOf kd hs) c.1 c.2 := by
  unfold afterOf
  rw [List.foldl_append] <;> rfl
theorem list_snoc {α : Type} (l : List α) : l = [] ∨ ∃ m x, l = m ++ [x] := by
  cases e : l.reverse with
  | nil => exact .inl (by rw [← List.reverse_reverse l, e] <;> rfl)
  | cons x m => exact .inr ⟨m.reverse, x, by rw [← List.reverse_reverse l, e, List.reverse_cons]⟩
theorem after_ok {kd : KD} (ok : KindOk kd) (hs : Hist) : (afterOf kd hs).length ≤ 60 ∧ ∀ y ∈ afterOf kd hs, y.length ≤ sizeLine := by
  rcases list_snoc hs with rfl | ⟨m, c, rfl⟩
  · refine ⟨by show 1 ≤ 60; decide, fun y hy => ?_⟩
    have : y = kd.start := by simpa [afterOf] using hy
    rw [this]; exact ok.st
  · rw [after_snoc]
    exact ⟨led_few ok _ _ _, led_len ok _ _ _⟩
def sp_after (K : PySem.W.Frag) : Sp := fun vs H Q E => ∃ (p : Addr) (v : V) (kd : KD) (o : Option Int) (hs : Hist), vs = [.ref p, v] ∧ KindAt K H p kd ∧ KindOk kd ∧ IsHist K H v o hs ∧ match o with
  | none => ∀ H' l, Same H H' → H l = none → H' l = some (.lst ((afterOf kd hs).map V.str)) → Q (.ref l) H'
  | some i => Raised (He.ga K "BadHistory") "index" (.int i) H E
theorem ok_after (T : Txt K mg) : Cal P w K mg base 7 "after" ["kind", "history"] (sp_after K) := by
  have c_look_history := ok_lookh (P := P) (w := w) (base := base) T
  have c_led := ok_led (P := P) (w := w) (base := base) T
  have c_start := ok_start (P := P) (w := w) (base := base) T
  obtain ⟨fd, F⟩ := T.d_after
  refine cal_of F T.g_after (F.bindsN fun _ _ _ _ _ _ us hl => match us, hl with | [_, _], _ => rfl) ?_
  refine F.ok sc_after (fun vs H Q E h => ?_) (fun cdv A outer s H vs Q E hr h => ?_)
  · obtain ⟨p, v, kd, o, hs, rfl, _⟩ := h
    rfl
  · refine ⟨_, (pss_cons (ps_expr (pe_cal c_look_history (hr.mono (by decide)) (takes_of rfl rfl rfl rfl) (pa_cons (pv 1) pa_nil)))
      (pss_cons (ps_set (i := 2) sc_after.nd rfl (Or.inl rfl) (pe_lst (pa_cons (pe_calp c_start T.cl_Kind (hr.mono (by decide)) (pv 0)) pa_nil)))
      (pss_cons (ps_for (passes_of rfl) rfl (pi_seq (pv 1)) (pg_row rfl (pgs_cons (pg_name (i := 3) sc_after.nd rfl (Or.inl rfl)) (pgs_cons (pg_name (i := 4) sc_after.nd rfl (Or.inl rfl)) pgs_nil)))
      (pss_one (ps_set (i := 2) sc_after.nd rfl (Or.inl rfl) (pe_cal c_led (hr.mono (by decide)) (takes_of rfl rfl rfl rfl) (pa_cons (pv 0) (pa_cons (pv 2) (pa_cons (pv 3) (pa_cons (pv 4) pa_nil))))))))
      (pss_one (ps_ret (pv 2)))))), ?_⟩
    obtain ⟨p, v, kd, o, hs, rfl, hk, ok, hh, q⟩ := h
    refine ⟨_, rfl, ?_⟩
    walk_at "dn"
    refine lookh_of hh ?_
    cases o with
    | some i => exact q
    | none =>
      intro H1 s1
      cases hh with
      | good hh hg hz =>
        rename_i r
        have hk1 := hk.same s1
        obtain ⟨dk, ea, tb, hki, _⟩ := id hk1
        refine ⟨_, rfl, p, dk, _, rfl, hki, p, kd, rfl, hk1, by show 1 ≤ sizeLine; decide, fun l hl => ?_⟩
        have s2 := s1.trans (Same.new (o := .lst [.str kd.start]) hl)
        have h0 : (upd H1 l (.lst [.str kd.start])) l = some (.lst ((afterOf kd (hs.take 0)).map V.str)) := by rw [upd_same, List.take_zero] <;> rfl
        have hl0 : H l = none := s1.free hl
        generalize upd H1 l (.lst [.str kd.start]) = H2 at s2 h0
        obtain ⟨cs, c1, c2⟩ := hh
        have hlc : hs.length = cs.length := Paired.length c2
        have turn : ∀ (i : Nat) (y : V) (σ : L2.St) (H2 H3 : Hp) (D : Ends), i < cs.length → ((∃ l a b, σ = [some (.ref p), some (.ref r), some (.ref l), a, b] ∧ H l = none ∧ H2 l = some (.lst ((afterOf kd (hs.take i)).map V.str))) ∧ Same H H2) → YAt (cs.map V.ref) i H2 y H3 →
            (∀ σ H', (∃ l a b, σ = [some (.ref p), some (.ref r), some (.ref l), a, b] ∧ H l = none ∧ H' l = some (.lst ((afterOf kd (hs.take (i + 1))).map V.str))) → Same H H' → D.nx σ H') →
            gRow K 2 (gCons (gName 3) (gCons (gName 4) gNil)) y σ H3 fun σ2 H4 => tAsg (tCalW (sp_led K) (fun cls d σ H => E cls d H) (tCons (tVar 0) (tCons (tVar 2) (tCons (tVar 3) (tCons (tVar 4) tNil))))) (gName 2) D σ2 H4 := by
          rintro i y σ H2 H3 D hi ⟨⟨l, a, b, rfl, hl, hl2⟩, s2⟩ ⟨rfl, hy⟩ hN
          obtain ⟨c, hc⟩ : ∃ c, cs[i]? = some c := ⟨_, List.getElem?_eq_getElem hi⟩
          rw [List.getElem?_map, hc] at hy
          cases Option.some.inj hy
          obtain ⟨cc, hcc, hr⟩ := Paired.at c2 hc
          obtain ⟨g1, g2, g3⟩ := hg cc (List.mem_of_getElem? hcc)
          obtain ⟨a1, a2⟩ := after_ok ok (hs.take i)
          refine ⟨c, [.str cc.1, .str cc.2], rfl, SqR.same s2 hr, rfl, _, _, rfl, _, _, rfl, rfl, _, rfl, _, rfl, _, rfl, _, rfl, ?_⟩
          walk_at "dn"
          refine ⟨p, l, kd, _, cc.1, cc.2, rfl, hk.same s2, .inl (SqL.of hl2), by omega, a2, name_len g1, ok.few, fun H5 l5 s5 n5 e5 => ?_⟩
          refine hN _ _ ⟨l5, _, _, rfl, s2.free n5, ?_⟩ (s2.trans s5)
          rw [take_next hcc, after_snoc]
          exact e5
        have fin : ∀ (σ : L2.St) (H2 : Hp), ((∃ l a b, σ = [some (.ref p), some (.ref r), some (.ref l), a, b] ∧ H l = none ∧ H2 l = some (.lst ((afterOf kd (hs.take cs.length)).map V.str))) ∧ Same H H2) → tRet (tVar 2) { nx := fun _ H' => Q V.non H', rt := Q } σ H2 := by
          rintro σ H2 ⟨⟨l, a, b, rfl, hl, hl2⟩, s2⟩
          rw [← hlc, List.take_length] at hl2
          exact ⟨_, rfl, q H2 l s2 hl hl2⟩
        rcases c1 with c1 | c1
        · refine ⟨_, rfl, r, rfl, .inl ⟨⟨_, Same.seq s2 c1⟩, for_it walk_lm (fun i σ H2 => (∃ l a b, σ = [some (.ref p), some (.ref r), some (.ref l), a, b] ∧ H l = none ∧ H2 l = some (.lst ((afterOf kd (hs.take i)).map V.str))) ∧ Same H H2) ⟨⟨_, _, _, rfl, hl0, h0⟩, s2⟩ (fun i σ H2 _ z => Same.seq z.2 c1) (fun i y σ H2 H3 hi pv yy => ?_) fin⟩⟩
          exact turn i y σ H2 H3 _ hi pv yy (fun σ H' a b => ⟨a, b⟩)
        · refine ⟨_, rfl, r, rfl, .inr ⟨⟨_, Same.tq s2 c1⟩, for_it walk_tm (fun i σ H2 => (∃ l a b, σ = [some (.ref p), some (.ref r), some (.ref l), a, b] ∧ H l = none ∧ H2 l = some (.lst ((afterOf kd (hs.take i)).map V.str))) ∧ Same H H2) ⟨⟨_, _, _, rfl, hl0, h0⟩, s2⟩ (fun i σ H2 _ z => Same.tq z.2 c1) (fun i y σ H2 H3 hi pv yy => ?_) fin⟩⟩
          exact turn i y σ H2 H3 _ hi pv yy (fun σ H' a b => ⟨a, b⟩)
end
end Rs
set_option Elab.async false
set_option linter.all false
set_option maxRecDepth 100000
set_option maxHeartbeats 2000000
namespace Rs
open PySem PySem.Spec PyProof.Rows L2
local macro_rules | `(tactic| walk_at "rd") => `(tactic| simp only [L2.tRet, L2.tRetN, L2.tSeq, L2.tNext, L2.tIfS, L2.tAsg, L2.gName, L2.gNil, L2.gCons, L2.tVar, L2.tC, L2.tOp, L2.tUn, L2.tCB, L2.tCons, L2.tNil, L2.tAndV, L2.tOrV, L2.tNotV, L2.tAnd, L2.tOr, L2.tNot, L2.tB, L2.tTest, L2.tIf, L2.tChain, L2.tTup, L2.tLst, L2.tDrop, L2.tFld, L2.sFld, L2.tOst, L2.tBM, L2.rNe, L2.tMkO, L2.start, L2.cxOf, L2.Cx.nox, L2.Cx.wish, L2.rI0, L2.rI, L2.tYes, Rs.tCalW, List.getElem?_cons_zero, List.getElem?_cons_succ, Option.some.injEq, exists_eq_left', exists_eq_left, exists_and_left, List.cons.injEq, and_true, true_and, L2.V.bl.injEq, L2.V.int.injEq, L2.V.str.injEq, L2.V.ref.injEq, List.set_cons_zero, List.set_cons_succ, List.map_cons, List.map_nil, List.length_cons, List.length_nil, List.replicate, List.cons_append, List.nil_append, List.append_nil, Nat.reduceSub, Nat.reduceAdd])
local macro_rules | `(tactic| walk_at "dn") => `(tactic| dsimp only [L2.tCons, L2.tC, L2.tNil])
section
variable {P : Program} {w : World} {K : PySem.W.Frag} {mg : PySem.Str → Option Value} {base : Heap}
def hasB (kd : KD) (s m : PySem.Str) : Bool := (isName (.str s) && isName (.str m)) && (look kd.tab (s, m)).isSome
def allowedOf (kd : KD) (hs : Hist) : List PySem.Str := (methodsOf kd).filter fun m => (afterOf kd hs).all fun s => hasB kd s m
def sp_allowed (K : PySem.W.Frag) : Sp := fun vs H Q E => ∃ (p : Addr) (v : V) (kd : KD) (o : Option Int) (hs : Hist), vs = [.ref p, v] ∧ KindAt K H p kd ∧ KindOk kd ∧ IsHist K H v o hs ∧ match o with
  | none => ∀ H' l, Same H H' → H l = none → H' l = some (.lst ((allowedOf kd hs).map V.str)) → Q (.ref l) H'
  | some i => Raised (He.ga K "BadHistory") "index" (.int i) H E
theorem ok_allowed (T : Txt K mg) : Cal P w K mg base 8 "allowed" ["kind", "history"] (sp_allowed K) := by
  have c_after := ok_after (P := P) (w := w) (base := base) T
  have c_methods := ok_methods (P := P) (w := w) (base := base) T
  have c_contains := ok_contains (P := P) (w := w) (base := base) T
  obtain ⟨fd, F⟩ := T.d_allowed
  refine cal_of F T.g_allowed (F.bindsN fun _ _ _ _ _ _ us hl => match us, hl with | [_, _], _ => rfl) ?_
  refine F.ok sc_allowed (fun vs H Q E h => ?_) (fun cdv A outer s H vs Q E hr h => ?_)
  · obtain ⟨p, v, kd, o, hs, rfl, _⟩ := h
    rfl
  · refine ⟨_, (pss_cons (ps_set (i := 2) sc_allowed.nd rfl (Or.inr rfl) (pe_cal c_after (hr.mono (by decide)) (takes_of rfl rfl rfl rfl) (pa_cons (pv 0) (pa_cons (pv 1) pa_nil))))
      (pss_one (ps_ret (pe_lc (own := [("method", 3)]) (g := gName 3) rfl sc_allowed.nd (pi_list (pe_calm0 c_methods T.cl_Kind (hr.mono (by decide)) (takes_of rfl rfl rfl rfl) (pv 0))) (blkOk_by (own := [("method", 3)]) (N := ["kind", "history", "states", "method", "state"]) (sc := defScope s_allowed) (by decide +kernel)) (fun _ _ _ _ _ => (pg_name (i := 3) sc_allowed.nd rfl (by first | exact Or.inl rfl | exact Or.inr rfl))) (fun _ _ _ _ _ => (pts_one (pt_val (pe_callB (id := "all") (r := rAll K) (cr_all rfl) rfl T.b_all (by decide +kernel) (pa_cons (pe_lc (own := [("state", 4)]) (g := gName 4) (wi := iList K _) (tt := tYes) rfl sc_allowed.nd (pi_list (pv 2)) (blkOk_by (own := [("state", 4)]) (by kernel_rfl)) (fun _ _ _ _ _ => (pg_name (i := 4) sc_allowed.nd rfl (by first | exact Or.inl rfl | exact Or.inr rfl))) (fun _ _ _ _ _ => pts_nil) (fun _ _ _ _ _ => (pe_cmpR (op_calin c_contains (hr.mono (by decide))) (pe_tup (pa_cons (pv 4) (pa_cons (pv 3) pa_nil))) (pv 0) rfl))) pa_nil))))) (fun _ _ _ _ _ => (pv 3)))))), ?_⟩
    obtain ⟨p, v, kd, o, hs, rfl, hk, ok, hh, q⟩ := h
    refine ⟨_, rfl, _, rfl, ?_⟩
    walk_at "dn"
    refine ⟨p, v, kd, o, hs, rfl, hk, ok, hh, ?_⟩
    cases o with
    | some i => exact q
    | none =>
      intro H1 l1 s1 n1 e1
      have hk1 := hk.same s1
      obtain ⟨dk, ea, tb, hki, _, ht⟩ := id hk1
      have h4 : kd.tab.length ≤ 4000 := let ⟨_, _, _, _, z⟩ := ht; z
      refine ⟨_, rfl, p, dk, _, rfl, hki, kflds_no (by decide), p, kd, rfl, hk1, h4, fun H2 l2 s2 n2 e2 => ?_⟩
      have s12 := s1.trans s2
      have e1' := s2 _ _ e1
      refine ⟨l2, rfl, ⟨_, SqL.of e2⟩, fun D hD => lc_it walk_lm (fun i H3 => Same H2 H3 ∧ H3 D = some (.lst (((methodsOf kd).take i |>.filter fun m => (afterOf kd hs).all fun s => hasB kd s m).map V.str))) ⟨Same.new hD, by rw [upd_same, List.take_zero] <;> rfl⟩ (fun i H3 _ z => Same.seq z.1 (SqL.of e2)) (fun i y H3 H4 hi pv yy => ?_) (fun H3 pv => ?_)⟩
      · obtain ⟨s3, hD3⟩ := pv
        obtain ⟨rfl, hy⟩ := yy
        obtain ⟨m, hm⟩ : ∃ m, (methodsOf kd)[i]? = some m := ⟨_, List.getElem?_eq_getElem hi⟩
        rw [List.getElem?_map, hm] at hy
        cases Option.some.inj hy
        obtain ⟨a1, a2⟩ := after_ok ok hs
        have s13 := s12.trans s3
        have hmz := ok.meth m (mem_methodsOf.mp (List.mem_of_getElem? hm))
        refine ⟨rfl, _, rfl, l1, rfl, ⟨_, SqL.of (s3 _ _ e1')⟩, fun D2 hD2 => lc_txts walk_lm (fun v => match v with | .str s => hasB kd s m | _ => false) hD2 (fun H5 s5 => SqL.of (s5 _ _ (s3 _ _ e1'))) (by rw [sizeLine_eq]; omega) (fun x H5 hx s5 Kt hK => ?_) fun H5 s5 h5 => ?_⟩
        · refine ⟨.str x, rfl, .str m, rfl, by show 2 ≤ sizeLine; decide, fun b hb => ?_⟩
          have s6 := (s13.trans s5).trans (Same.new (o := .tup [.str x, .str m]) hb)
          have hk6 := hk.same s6
          obtain ⟨dk6, ea6, tb6, hki6, _⟩ := id hk6
          exact ⟨_, rfl, p, dk6, _, rfl, hki6, p, kd, b, x, m, rfl, hk6, upd_same, a2 x hx, hmz, fun H7 s7 => ⟨_, rfl, hK H7 ((Same.new hb).trans s7)⟩⟩
        · refine ⟨D2, _, rfl, SqL.of h5, _, rfl, ?_⟩
          have e : ((List.range (afterOf kd hs).length).map fun i => (match V.str ((afterOf kd hs).getD i default) with | .str s => hasB kd s m | _ => false)).all id = (afterOf kd hs).all fun s => hasB kd s m := by
            rw [List.all_map]
            exact (all_range (afterOf kd hs) rfl (fun s => hasB kd s m)).symm
          rw [e]
          have n2 : D ≠ D2 := fun z => by subst z; rw [hD3] at hD2; cases hD2
          refine ite2 (fun c => ?_) (fun c => ?_)
          · have hl : (((methodsOf kd).take i |>.filter fun m => (afterOf kd hs).all fun s => hasB kd s m).map V.str).length < sizeLine := by
              rw [List.length_map]
              have h1 := List.length_filter_le (fun m => (afterOf kd hs).all fun s => hasB kd s m) ((methodsOf kd).take i)
              have h2 := List.length_take_le i (methodsOf kd)
              have h3 : (methodsOf kd).length ≤ kd.tab.length := by
                rw [methodsOf, length_isort]
                have := uniq_len (kd.tab.map (·.1.2))
                rw [List.length_map] at this
                exact this
              rw [sizeLine_eq]
              omega
            refine ⟨.str m, rfl, _, s5 _ _ hD3, hl, same_upd (s3.trans s5) hD, ?_⟩
            rw [upd_same, take_next hm, List.filter_append, List.map_append, List.filter_cons_of_pos (by simpa using c)] <;> rfl
          · refine ⟨s3.trans s5, ?_⟩
            rw [take_next hm, List.filter_append, List.filter_cons_of_neg (by simpa using c), List.filter_nil, List.append_nil]
            exact s5 _ _ hD3
      · obtain ⟨s3, hD3⟩ := pv
        rw [List.take_length] at hD3
        exact q H3 D (s12.trans s3) (s12.free hD) hD3
end
end Rs
set_option Elab.async false
set_option linter.all false
set_option maxRecDepth 100000
set_option maxHeartbeats 2000000
namespace Rs
open PySem PySem.Spec PyProof.Rows L2
local macro_rules | `(tactic| walk_at "rd") => `(tactic| simp only [L2.tRet, L2.tRetN, L2.tSeq, L2.tNext, L2.tIfS, L2.tAsg, L2.gName, L2.gNil, L2.gCons, L2.tVar, L2.tC, L2.tOp, L2.tUn, L2.tCB, L2.tCons, L2.tNil, L2.tAndV, L2.tOrV, L2.tNotV, L2.tAnd, L2.tOr, L2.tNot, L2.tB, L2.tTest, L2.tIf, L2.tChain, L2.tTup, L2.tLst, L2.tDrop, L2.tFld, L2.sFld, L2.tOst, L2.tBM, L2.rNe, L2.tMkO, L2.start, L2.cxOf, L2.Cx.nox, L2.Cx.wish, L2.rI0, L2.rI, L2.tYes, Rs.tCalW, List.getElem?_cons_zero, List.getElem?_cons_succ, Option.some.injEq, exists_eq_left', exists_eq_left, exists_and_left, List.cons.injEq, and_true, true_and, L2.V.bl.injEq, L2.V.int.injEq, L2.V.str.injEq, L2.V.ref.injEq, List.set_cons_zero, List.set_cons_succ, List.map_cons, List.map_nil, List.length_cons, List.length_nil, List.replicate, List.cons_append, List.nil_append, List.append_nil, Nat.reduceSub, Nat.reduceAdd])
local macro_rules | `(tactic| walk_at "dn") => `(tactic| dsimp only [L2.tCons, L2.tC, L2.tNil])
section
variable {P : Program} {w : World} {K : PySem.W.Frag} {mg : PySem.Str → Option Value} {base : Heap}
/-! ### drawn numbers -/
def rInt1 : List V → Hp → VK → Prop := fun xs H Q => ∃ i, xs = [.int i] ∧ Q (.int i) H
theorem call_intI {X : Cx} : CallR X (.type "int") rInt1 := fun pins s σ H xs us Q I r h => call_int1 pins s σ H xs us Q I r (.inl h)
def rIntB : List V → Hp → VK → Prop := fun xs H Q => ∃ k, xs = [.bl k] ∧ Q (.int (if k then 1 else 0)) H
theorem call_intB {X : Cx} : CallR X (.type "int") rIntB := fun pins s σ H xs us Q I r h => call_int1 pins s σ H xs us Q I r (.inr h)
def Src3 (o : HO) : Prop := ∃ x y z : Int, o = .lst [.int x, .int y, .int z]
def sp_next (K : PySem.W.Frag) : Sp := fun vs H Q _ => ∃ (a : Addr) (x y z many : Int), vs = [.ref a, .int many] ∧ H a = some (.lst [.int x, .int y, .int z]) ∧ 0 < many ∧ many.natAbs.log2 < 9000 ∧ ∀ r o, Src3 o → 0 ≤ r → r < many → Q (.int r) (upd H a o)
theorem ok_draw (T : Txt K mg) : Cal P w K mg base 1 "_law_draw" ["_law_well", "_law_many"] (sp_next K) := by
  obtain ⟨fd, F⟩ := T.d_l_draw
  refine cal_of F T.g_law_draw (F.bindsN fun _ _ _ _ _ _ us hl => match us, hl with | [_, _], _ => rfl) ?_
  refine F.ok sc_l_draw (fun vs H Q E h => ?_) (fun cdv A outer s H vs Q E hr h => ?_)
  · obtain ⟨a, x, y, z, many, rfl, _⟩ := h
    rfl
  · have hu := hu_of hr
    refine ⟨_, PSs.nox (pss_cons (ps_if (pt_cmpR op_gt (pe_ix (r := rIxL K) ix_list (pv 0) pe_int (fun _ _ => rfl)) pe_int (nomark _)) (pss_cons (ps_set (i := 2) sc_l_draw.nd rfl (Or.inl rfl) (pe_op op_mod (pe_callTy (r := rInt1) call_intI rfl T.b_int (by decide +kernel) (pa_cons (pe_ix (r := rIxL K) ix_list (pv 0) pe_int (fun _ _ => rfl)) pa_nil)) (pv 1)))
      (pss_cons (ps_asg (pe_op op_fdivW (pe_ix (r := rIxL K) ix_list (pv 0) pe_int (fun _ _ => rfl)) (pv 1)) (pg_sub (pv 0) pe_int set_list))
      (pss_one (ps_ret (pv 2))))) pss_nil)
      (pss_cons (ps_asg (pe_op op_add (pe_ix (r := rIxL K) ix_list (pv 0) pe_int (fun _ _ => rfl)) pe_int) (pg_sub (pv 0) pe_int set_list))
      (pss_cons (ps_set (i := 3) sc_l_draw.nd rfl (Or.inl rfl) (pe_op op_mod (pe_callTy (r := rInt1) call_intI rfl T.b_int (by decide +kernel) (pa_cons (pe_op op_mul (pe_op op_add (pe_op op_add (pe_ix (r := rIxL K) ix_list (pv 0) pe_int (fun _ _ => rfl)) (pe_op op_mul pe_int (pe_ix (r := rIxL K) ix_list (pv 0) pe_int (fun _ _ => rfl)))) pe_int) pe_int) pa_nil)) pe_int))
      (pss_cons (ps_set (i := 3) sc_l_draw.nd rfl (Or.inl rfl) (pe_op op_mod (pe_callTy (r := rInt1) call_intI rfl T.b_int (by decide +kernel) (pa_cons (pe_op op_mul (pv 3) (pe_op op_add (pe_op op_add (pe_op op_fdivW (pv 3) pe_int) pe_int) (pe_ix (r := rIxL K) ix_list (pv 0) pe_int (fun _ _ => rfl)))) pa_nil)) pe_int))
      (pss_one (ps_ret (pe_op op_mod (pe_callTy (r := rInt1) call_intI rfl T.b_int (by decide +kernel) (pa_cons (pe_op op_fdivW (pe_op op_mod (pe_callTy (r := rInt1) call_intI rfl T.b_int (by decide +kernel) (pa_cons (pe_op op_mul (pv 3) (pe_op op_add (pe_op op_fdivW (pv 3) pe_int) pe_int)) pa_nil)) pe_int) pe_int) pa_nil)) (pv 1)))))))), ?_⟩
    obtain ⟨a, x, y, z, many, rfl, ha, hm, hl, q⟩ := h
    walk_at "rd"
    refine ⟨a, _, 0, _, rfl, rfl, SqL.of ha, rfl, x, rfl, ?_⟩
    by_cases hx : 0 < x
    · rw [if_pos (decide_eq_true hx)]
      refine ⟨a, _, 0, _, rfl, rfl, SqL.of ha, rfl, x, rfl, x, rfl, hm, a, _, 0, _, rfl, rfl, SqL.of ha, rfl, x, rfl, ⟨hm, hl⟩, ?_⟩
      exact ⟨_, rfl, a, _, 0, 0, rfl, rfl, ha, rfl, _, rfl, q _ _ ⟨_, _, _, rfl⟩ (Int.emod_nonneg _ (by omega)) (Int.emod_lt_of_pos _ hm)⟩
    · rw [if_neg (by simpa using hx)]
      refine ⟨a, _, 2, _, rfl, rfl, SqL.of ha, rfl, z, rfl, _, rfl, a, _, 2, 2, rfl, rfl, ha, rfl, ?_⟩
      have ha2 : (upd H a (.lst ([V.int x, V.int y, V.int z].set 2 (.int (z + 1))))) a = some (.lst [.int x, .int y, .int (z + 1)]) := upd_same
      walk_at "rd"
      have small : ∀ (i j : Int), 0 < j → j < 2147483648 → -(2 ^ 64) < i % j ∧ i % j < 2 ^ 64 := fun i j h1 h2 => ⟨by have := Int.emod_nonneg i (b := j) (by omega); omega, by have := Int.emod_lt_of_pos i (b := j) h1; omega⟩
      have dv : ∀ i j : Int, 0 < j → j < 4000 → CDivW i j := fun i j h1 h2 => ⟨h1, by
        have h3 : j.natAbs < 2 ^ 12 := by omega
        have := Nat.log2_lt (n := j.natAbs) (k := 12) (by omega) |>.mpr h3
        omega⟩
      refine ⟨a, _, 1, _, rfl, rfl, SqL.of ha2, rfl, a, _, 2, _, rfl, rfl, SqL.of ha2, rfl, _, rfl, .inl ⟨by decide, by decide⟩, _, rfl, .inr ⟨by decide, by decide⟩, _, rfl, _, rfl, by decide, dv _ _ (by decide) (by decide), ?_⟩
      refine ⟨a, _, 2, _, rfl, rfl, SqL.of ha2, rfl, _, rfl, .inl (small _ _ (by decide) (by decide)), _, rfl, _, rfl, by decide, dv _ _ (by decide) (by decide), .inl (small _ _ (by decide) (by decide)), _, rfl, _, rfl, by decide, dv _ _ (by decide) (by decide), _, rfl, _, rfl, hm, ?_⟩
      exact q _ _ ⟨_, _, _, rfl⟩ (Int.emod_nonneg _ (by omega)) (Int.emod_lt_of_pos _ hm)
theorem log_small {j : Int} (h : j.natAbs < 2 ^ 200) : j.natAbs.log2 < 9000 := by
  by_cases e : j.natAbs = 0
  · rw [e]; decide
  · have := (Nat.log2_lt e).mpr h
    omega
def sp_source_of (K : PySem.W.Frag) : Sp := fun vs H Q _ => ∃ (c : Int), vs = [.int c] ∧ ∀ l o, H l = none → Src3 o → Q (.ref l) (upd H l o)
theorem ok_source (T : Txt K mg) : Cal P w K mg base 1 "_law_source" ["_law_cell"] (sp_source_of K) := by
  obtain ⟨fd, F⟩ := T.d_l_source
  refine cal_of F T.g_law_source (F.bindsN fun _ _ _ _ _ _ us hl => match us, hl with | [_], _ => rfl) ?_
  refine F.ok sc_l_source (fun vs H Q E h => ?_) (fun cdv A outer s H vs Q E hr h => ?_)
  · obtain ⟨c, rfl, _⟩ := h
    rfl
  · have hu := hu_of hr
    refine ⟨_, PSs.nox (pss_cons (ps_set (i := 1) sc_l_source.nd rfl (Or.inl rfl) (pe_ifExp (pt_cmpR op_ge (pv 0) pe_int (nomark _)) (pv 0) (pe_op op_sub (pe_op op_sub pe_int (pe_op op_mul pe_int (pv 0))) pe_int)))
      (pss_one (ps_ret (pe_lst (pa_cons (pe_op op_mul (pv 1) (pe_callTy (r := rIntB) call_intB rfl T.b_int (by decide +kernel) (pa_cons (pe_cmpR op_ge (pv 1) (pe_op op_pow pe_int pe_int) (nomark _)) pa_nil))) (pa_cons (pe_op op_mod (pe_callTy (r := rInt1) call_intI rfl T.b_int (by decide +kernel) (pa_cons (pv 1) pa_nil)) pe_int) (pa_cons pe_int pa_nil))))))), ?_⟩
    obtain ⟨c, rfl, q⟩ := h
    walk_at "rd"
    have hp : CPow 10 18 := ⟨by decide, by decide, by decide⟩
    have one : ∀ (c : Int) (k : Bool), CMul c (if k = true then 1 else 0) := fun c k => .inr (by cases k <;> decide)
    refine ite2 (fun e => ?_) (fun e => ?_)
    · exact ⟨hp, _, rfl, _, rfl, one _ _, _, rfl, _, rfl, by decide, by decide, fun p hn => q p _ hn ⟨_, _, _, rfl⟩⟩
    · exact ⟨.inl ⟨by decide, by decide⟩, hp, _, rfl, _, rfl, one _ _, _, rfl, _, rfl, by decide, by decide, fun p hn => q p _ hn ⟨_, _, _, rfl⟩⟩
/-- one of some -/
def sp_one (K : PySem.W.Frag) : Sp := fun vs H Q _ => ∃ (a b : Addr) (x y z : Int) (xs : List V), vs = [.ref a, .ref b] ∧ H a = some (.lst [.int x, .int y, .int z]) ∧ H b = some (.lst xs) ∧ a ≠ b ∧ xs ≠ [] ∧ xs.length ≤ 4000 ∧ ∀ (i : Nat) v o, xs[i]? = some v → Src3 o → Q v (upd H a o)
theorem ok_pick (T : Txt K mg) : Cal P w K mg base 2 "_law_pick" ["_law_well", "_law_some"] (sp_one K) := by
  have c_law_draw := ok_draw (P := P) (w := w) (base := base) T
  obtain ⟨fd, F⟩ := T.d_l_pick
  refine cal_of F T.g_law_pick (F.bindsN fun _ _ _ _ _ _ us hl => match us, hl with | [_, _], _ => rfl) ?_
  refine F.ok sc_l_pick (fun vs H Q E h => ?_) (fun cdv A outer s H vs Q E hr h => ?_)
  · obtain ⟨a, b, x, y, z, xs, rfl, _⟩ := h
    rfl
  · have hu := hu_of hr
    refine ⟨_, PSs.nox (pss_one (ps_ret (pe_ix (r := rIxL K) ix_list (pv 1) (pe_cal c_law_draw (hr.mono (by decide)) takes0 (pa_cons (pv 0) (pa_cons (pe_callB (r := rLenQ K) call_lenQ rfl T.b_len (by decide +kernel) (pa_cons (pv 1) pa_nil)) pa_nil))) (fun _ _ => rfl)))), ?_⟩
    obtain ⟨a, b, x, y, z, xs, rfl, ha, hb, ne, hx, hl, q⟩ := h
    walk_at "rd"
    have hpos : 0 < xs.length := List.length_pos_iff.mpr hx
    refine ⟨b, xs, rfl, .inl (SqL.of hb), a, x, y, z, _, rfl, ha, by omega, log_small (by omega), fun r o ho h1 h2 => ?_⟩
    have hlt : r.toNat < xs.length := by omega
    obtain ⟨v, hv⟩ : ∃ v, xs[r.toNat]? = some v := ⟨_, List.getElem?_eq_getElem hlt⟩
    exact ⟨b, xs, r, v, rfl, rfl, SqL.of (by rw [upd_ne ne.symm]; exact hb), by rw [show r = ((r.toNat : Nat) : Int) from (Int.toNat_of_nonneg h1).symm]; exact atI_nat hv, q _ v o hv ho⟩
def Src (a : Addr) (H : Hp) : Prop := ∃ x y z : Int, H a = some (.lst [.int x, .int y, .int z])
theorem Src.upd {a : Addr} {H : Hp} {o : HO} (h : Src3 o) : Src a (L2.upd H a o) := by
  obtain ⟨x, y, z, rfl⟩ := h
  exact ⟨x, y, z, upd_same⟩
theorem Src.new {a p : Addr} {H : Hp} {o : HO} (h : Src a H) (hp : H p = none) : Src a (L2.upd H p o) := by
  obtain ⟨x, y, z, h⟩ := h
  exact ⟨x, y, z, Same.new hp _ _ h⟩
theorem Src.same {a : Addr} {H H' : Hp} (h : Src a H) (e : Same H H') : Src a H' := by
  obtain ⟨x, y, z, h⟩ := h
  exact ⟨x, y, z, e _ _ h⟩
theorem SameX.new {a p : Addr} {H H' : Hp} {o : HO} (h : SameX a H H') (hp : H' p = none) : SameX a H (L2.upd H' p o) := h.trans (SameX.of (Same.new hp))
theorem SameX.free {a p : Addr} {H H' : Hp} (h : SameX a H H') (ha : ∃ u, H a = some u) (ha' : ∃ u, H' a = some u) (hp : H' p = none) : H p = none := by
  cases e : H p with
  | none => rfl
  | some u =>
    by_cases n : p = a
    · subst n
      obtain ⟨u', h'⟩ := ha'
      rw [hp] at h'
      cases h'
    · rw [h p u n e] at hp
      cases hp
theorem Src.has {a : Addr} {H : Hp} (h : Src a H) : ∃ u, H a = some u := let ⟨_, _, _, h⟩ := h; ⟨_, h⟩
/-! what stands while the draws go on -/
theorem SameX.tqL {a b : Addr} {H H' : Hp} {xs zs : List V} (h : SameX a H H') (ha : H a = some (.lst xs)) (q : SqT K H b zs) : SqT K H' b zs := by
  rcases q with (q | ⟨ob, q⟩) | q
  · exact .inl (.inl (h _ _ (ne_of q ha (by intro z; cases z)) q))
  · exact .inl (.inr ⟨ob, h _ _ (ne_of q ha (by intro z; cases z)) q⟩)
  · exact .inr q
theorem SameX.kindL {a k : Addr} {H H' : Hp} {xs : List V} {kd : KD} (h : SameX a H H') (ha : H a = some (.lst xs)) (q : KindAt K H k kd) : KindAt K H' k kd := by
  obtain ⟨d, e, tb, h1, h2, kvs, h3, h4, h5⟩ := q
  refine ⟨d, e, tb, h _ _ (ne_of h1 ha (by intro z; cases z)) h1, h.tqL ha h2, kvs, h _ _ (ne_of h3 ha (by intro z; cases z)) h3, Paired.imp h4 fun _ _ z => ?_, h5⟩
  obtain ⟨z1, t, z2, cs, z3, z4⟩ := z
  exact ⟨z1, t, z2, cs, h.tqL ha z3, Paired.imp z4 fun _ _ y => h.tqL ha y⟩
theorem Srt.srcd {a : Addr} {H H' : Hp} {v : V} {n : String} {xs ys : List V} (e : SameX a H H') (ha : H a = some (.lst xs)) (ha' : H' a = some (.lst ys)) (h : Srt K H v n) : Srt K H' v n := by
  refine ⟨?_, h.2⟩
  have far : ∀ {b : Addr} {u : HO}, H b = some u → (∀ zs, u ≠ .lst zs) → H' b = some u := fun {b u} hb hu => e _ _ (fun z => by subst z; rw [ha] at hb; cases Option.some.inj hb; exact hu _ rfl) hb
  cases h.1 with
  | base b =>
    refine .base ?_
    cases b with
    | non => exact .non
    | bl y => exact .bl y
    | int i => exact .int i
    | str y => exact .str y
    | flt y => exact .flt y
    | @lst b xs ea =>
      by_cases z : b = a
      · subst z; exact .lst ha'
      · exact .lst (e _ _ z ea)
    | frz ea => exact .frz (far ea (by intro zs z; cases z))
    | tup ea => exact .tup (far ea (by intro zs z; cases z))
    | dK ea => exact .dK (far ea (by intro zs z; cases z))
    | dT ea => exact .dT (far ea (by intro zs z; cases z))
  | byt b => exact .byt b
  | set ea => exact .set (far ea (by intro zs z; cases z))
  | kList a c => exact .kList a c
  | kTuple a c => exact .kTuple a c
  | kDict a c => exact .kDict a c
  | fTuple ea => exact .fTuple (far ea (by intro zs z; cases z))
  | fDict ea => exact .fDict (far ea (by intro zs z; cases z))
theorem Srt.src {a : Addr} {H H' : Hp} {v : V} {n : String} (e : SameX a H H') (ha : Src a H) (ha' : Src a H') (h : Srt K H v n) : Srt K H' v n := by
  obtain ⟨_, _, _, ha⟩ := ha
  obtain ⟨_, _, _, ha'⟩ := ha'
  exact Srt.srcd e ha ha' h
end
end Rs
set_option Elab.async false
set_option linter.all false
set_option maxRecDepth 100000
set_option maxHeartbeats 2000000
namespace Rs
open PySem PySem.Spec PyProof.Rows L2
local macro_rules | `(tactic| walk_at "rd") => `(tactic| simp only [L2.tRet, L2.tRetN, L2.tSeq, L2.tNext, L2.tIfS, L2.tAsg, L2.gName, L2.gNil, L2.gCons, L2.tVar, L2.tC, L2.tOp, L2.tUn, L2.tCB, L2.tCons, L2.tNil, L2.tAndV, L2.tOrV, L2.tNotV, L2.tAnd, L2.tOr, L2.tNot, L2.tB, L2.tTest, L2.tIf, L2.tChain, L2.tTup, L2.tLst, L2.tDrop, L2.tFld, L2.sFld, L2.tOst, L2.tBM, L2.rNe, L2.tMkO, L2.start, L2.cxOf, L2.Cx.nox, L2.Cx.wish, L2.rI0, L2.rI, L2.tYes, Rs.tCalW, List.getElem?_cons_zero, List.getElem?_cons_succ, Option.some.injEq, exists_eq_left', exists_eq_left, exists_and_left, List.cons.injEq, and_true, true_and, L2.V.bl.injEq, L2.V.int.injEq, L2.V.str.injEq, L2.V.ref.injEq, List.set_cons_zero, List.set_cons_succ, List.map_cons, List.map_nil, List.length_cons, List.length_nil, List.replicate, List.cons_append, List.nil_append, List.append_nil, Nat.reduceSub, Nat.reduceAdd])
local macro_rules | `(tactic| walk_at "dn") => `(tactic| dsimp only [L2.tCons, L2.tC, L2.tNil])
section
variable {P : Program} {w : World} {K : PySem.W.Frag} {mg : PySem.Str → Option Value} {base : Heap}
def sp_words (K : PySem.W.Frag) : Sp := fun vs H Q _ => ∃ (a b : Addr) (n : Nat) (ss : List PySem.Str), vs = [.ref a, .int n, .ref b] ∧ Src a H ∧ H b = some (.lst (ss.map V.str)) ∧ a ≠ b ∧ ss ≠ [] ∧ ss.length ≤ 100 ∧ (∀ x ∈ ss, isName (.str x) = true) ∧ n ≤ 20 ∧
  ∀ (H' : Hp) (l : Addr) (ws : List PySem.Str), ws.length = n → ws.Nodup → (∀ x ∈ ws, isName (.str x) = true) → SameX a H H' → Src a H' → H l = none → H' l = some (.lst (ws.map V.str)) → Q (.ref l) H'
/-! ### words of small letters -/
def smC (x : PySem.Str) : Prop := ∀ c ∈ x.cps.toList, c ∈ smallS.cps.toList
theorem str_len (x : PySem.Str) : x.length = x.cps.toList.length := by simp [PySem.Str.length]
theorem name_iff {x : PySem.Str} : isName (.str x) = true ↔ 1 ≤ x.length ∧ x.length ≤ 8 ∧ smC x := by
  simp only [isTx, Bool.and_eq_true, decide_eq_true_eq, List.all_eq_true]
  exact Iff.rfl
theorem smC_app {x y : PySem.Str} (hx : smC x) (hy : smC y) : smC (x ++ y) := by
  intro c hc
  rw [PySem.Str.cps_append, Array.toList_append, List.mem_append] at hc
  exact hc.elim (hx c) (hy c)
theorem smC_nil : smC "" := by
  intro c hc
  have : ("" : PySem.Str).cps.toList = [] := by decide +kernel
  rw [this] at hc
  cases hc
theorem cut_len (z : PySem.Str) (n : Nat) : (cutS z none (some (n : Int))).length = min n z.length := by
  unfold cutS
  rw [HT.sIx_nat, HT.sIx_none, str_len]
  simp [PySem.Str.length]
theorem cut_smC {z : PySem.Str} (h : smC z) (lo hi : Option Int) : smC (cutS z lo hi) := by
  intro c hc
  unfold cutS at hc
  exact h c (List.mem_of_mem_drop (List.mem_of_mem_take hc))
def sgn (i : Nat) : PySem.Str := ⟨#[smallS.cps.toList.getD i 0]⟩
theorem small26 : smallS.cps.toList.length = 26 := by decide +kernel
theorem sgn_at {i : Int} (h0 : 0 ≤ i) (h : i < 26) : atI smallS.cps.toList i = some (smallS.cps.toList.getD i.toNat 0) := by
  have hl := small26
  obtain ⟨j, rfl⟩ : ∃ j : Nat, i = (j : Int) := ⟨i.toNat, (Int.toNat_of_nonneg h0).symm⟩
  rw [Int.toNat_natCast]
  refine atI_nat ?_
  rw [List.getD_eq_getElem?_getD, List.getElem?_eq_getElem (by omega)] <;> rfl
theorem sgn_smC {i : Nat} (h : i < 26) : smC (sgn i) := by
  intro c hc
  have e : c = smallS.cps.toList.getD i 0 := by simpa [sgn] using hc
  rw [e, List.getD_eq_getElem?_getD, List.getElem?_eq_getElem (by rw [small26]; exact h)]
  exact List.getElem_mem _
theorem sgn_len (i : Nat) : (sgn i).length = 1 := rfl
theorem sgn_inj : ∀ i < 26, ∀ j < 26, smallS.cps.toList.getD i 0 = smallS.cps.toList.getD j 0 → i = j := by decide +kernel
theorem cand_inj {s : PySem.Str} {i j : Nat} (hi : i < 26) (hj : j < 26) (h : s ++ sgn i = s ++ sgn j) : i = j := by
  have e : (s ++ sgn i).cps.toList = (s ++ sgn j).cps.toList := by rw [h]
  rw [PySem.Str.cps_append, PySem.Str.cps_append, Array.toList_append, Array.toList_append] at e
  have e2 := List.append_cancel_left e
  exact sgn_inj i hi j hj (by simpa [sgn] using e2)
theorem nodup_le {α : Type} [DecidableEq α] : ∀ {l m : List α}, l.Nodup → (∀ x ∈ l, x ∈ m) → l.length ≤ m.length
  | [], _, _, _ => Nat.zero_le _
  | x :: l, m, nd, h => by
    obtain ⟨n1, n2⟩ := List.nodup_cons.mp nd
    have hx := h x List.mem_cons_self
    have ih := nodup_le (l := l) (m := m.erase x) n2 fun y hy => (List.mem_erase_of_ne (fun e => n1 (by rw [← e]; exact hy))).mpr (h y (List.mem_cons_of_mem _ hy))
    rw [List.length_erase_of_mem hx] at ih
    have := List.length_pos_of_mem hx
    rw [List.length_cons]
    omega
theorem cands_out {s : PySem.Str} {fs : List PySem.Str} (hf : fs.length < 26) (h : ∀ j < 26, s ++ sgn j ∈ fs) : False := by
  have nd : ((List.range 26).map fun j => s ++ sgn j).Nodup := by
    rw [List.Nodup, List.pairwise_map]
    exact (List.nodup_range (n := 26)).imp_of_mem fun ha hb ne e => ne (cand_inj (List.mem_range.mp ha) (List.mem_range.mp hb) e)
  have := nodup_le nd fun x hx => by
    obtain ⟨j, hj, rfl⟩ := List.mem_map.mp hx
    exact h j (List.mem_range.mp hj)
  simp at this
  omega
theorem tx_ok {x : PySem.Str} (h : smC x) : TxOk x := by
  show PyData.strOk x = true
  unfold PyData.strOk
  rw [Array.all_eq_true']
  intro c hc
  have hm := h c (by simpa using hc)
  have : ∀ c ∈ smallS.cps.toList, c < 1114112 := by decide +kernel
  simpa using this c hm
theorem in_txts (x : PySem.Str) (ss : List PySem.Str) : inV (.str x) (ss.map V.str) = decide (x ∈ ss) := by
  unfold inV
  rw [List.any_map]
  by_cases h : x ∈ ss
  · rw [decide_eq_true h, List.any_eq_true]
    exact ⟨x, h, by simp [eqV]⟩
  · rw [decide_eq_false h, List.any_eq_false]
    intro y hy
    simp only [Function.comp, eqV, str_beq, decide_eq_true_eq]
    exact fun e => h (e ▸ hy)
theorem flat_txts (ss : List PySem.Str) : (ss.map V.str).all flatV = true := by
  rw [List.all_map, List.all_eq_true]
  intro x _
  rfl
abbrev rAdd2 : R2 := fun x y H Q => ∃ i j, x = V.str i ∧ y = V.str j ∧ i.length + j.length ≤ sizeLine ∧ Q (V.str (i ++ j)) H
abbrev rLenT : List V → Hp → VK → Prop := fun xs H Q => ∃ z, xs = [V.str z] ∧ z.length ≤ sizeLine ∧ Q (V.int z.length) H
section
variable {a b f : Addr} {n : Nat} {st : Int} {v6 v7 v8 v9 v10 : Option V} {H : Hp} {D : Ends}
abbrev sgW (a b f : Addr) (n : Nat) (st : Int) (v6 v7 v8 v9 v10 : Option V) : L2.St := [some (.ref a), some (.int n), some (.ref b), some (.str smallS), some (.ref f), some (.int st), v6, v7, v8, v9, v10]
def rWb (K : PySem.W.Frag) : TS := tFor (iRng1 (tCons (tOp (rI0 fun i j => V.int (i + j)) (tC (V.int 1)) (tCalW (sp_next K) W0 (tCons (tVar 0) (tCons (tCalW (sp_one K) W0 (tCons (tVar 0) (tCons (tLst (tCons (tC (V.int 1)) (tCons (tC (V.int 2)) (tCons (tOp (rI0 fun i j => V.int (i - j)) (tC (V.int 8)) (tCB rLenT (tCons (tVar 8) tNil))) tNil)))) tNil))) tNil)))) tNil))
  (gName 9) (tAsg (tOp rAdd2 (tVar 8) (tOp rIxS (tVar 3) (tCalW (sp_next K) W0 (tCons (tVar 0) (tCons (tC (V.int 26)) tNil))))) (gName 8))
theorem stWb {w0 : PySem.Str} (ha : Src a H) (hw : smC w0) (hl : w0.length ≤ 6) (q : ∀ H' x v9, smC x → 1 ≤ x.length → x.length ≤ 8 → SameX a H H' → Src a H' → D.nx (sgW a b f n st v6 v7 (some (.str x)) v9 v10) H') :
    rWb K D (sgW a b f n st v6 v7 (some (.str w0)) v9 v10) H := by
  have line : sizeLine = 16777216 := sizeLine_eq
  obtain ⟨x, y, z, ha⟩ := ha
  refine ⟨_, rfl, _, rfl, _, rfl, w0, rfl, by omega, _, _, rfl, rfl, by show 3 ≤ sizeLine; omega, fun p hp => ⟨a, p, x, y, z, _, rfl, Same.new hp _ _ ha, upd_same, ne_of_none ha hp, by simp, by simp, fun i v o hv ho => ?_⟩⟩
  have hv' : ∃ m : Int, v = .int m ∧ 1 ≤ m ∧ m ≤ 8 - w0.length := by
    have hv := List.mem_of_getElem? hv
    simp only [List.mem_cons, List.not_mem_nil, or_false] at hv
    rcases hv with e | e | e
    · exact ⟨1, e, by omega, by omega⟩
    · exact ⟨2, e, by omega, by omega⟩
    · exact ⟨_, e, by omega, by omega⟩
  obtain ⟨m, rfl, m1, m2⟩ := hv'
  have s2 : SameX a H (L2.upd (L2.upd H p (.lst [V.int 1, V.int 2, V.int (8 - w0.length)])) a o) := (SameX.of (Same.new hp)).upd
  obtain ⟨x2, y2, z2, rfl⟩ := ho
  generalize hH2 : L2.upd (L2.upd H p (.lst [V.int 1, V.int 2, V.int (8 - w0.length)])) a (.lst [.int x2, .int y2, .int z2]) = H2 at s2
  have ha2 : H2 a = some (.lst [.int x2, .int y2, .int z2]) := by rw [← hH2]; exact upd_same
  refine ⟨a, x2, y2, z2, m, rfl, ha2, by omega, log_small (by omega), fun r o ho r1 r2 => ⟨_, _, rfl, rfl, _, rfl, by omega, by omega, ?_⟩⟩
  have s3 := s2.upd (o := o)
  have hs3 : Src a (L2.upd H2 a o) := Src.upd ho
  generalize L2.upd H2 a o = H3 at s3 hs3
  refine for_range (lo := 0) (n := (1 + r).toNat) (fun j σ H' => ∃ x v9, σ = sgW a b f n st v6 v7 (some (.str x)) v9 v10 ∧ smC x ∧ x.length = w0.length + j ∧ SameX a H H' ∧ Src a H') ⟨w0, v9, rfl, hw, rfl, s3, hs3⟩ (fun j σ H4 hj pv => ?_) (fun σ H4 pv => ?_)
  · obtain ⟨xx, v9, rfl, hx, hxl, s4, x4, y4, z4, ha4⟩ := pv
    refine ⟨_, rfl, _, rfl, _, rfl, a, x4, y4, z4, 26, rfl, ha4, by decide, by decide, fun c o ho c1 c2 => ?_⟩
    refine ⟨smallS, c, _, rfl, rfl, by show (26 : Nat) ≤ sizeLine; omega, sgn_at c1 c2, xx, sgn c.toNat, rfl, rfl, by rw [sgn_len]; omega, ?_⟩
    refine ⟨_, _, rfl, smC_app hx (sgn_smC (by omega)), ?_, s4.upd, Src.upd ho⟩
    rw [PySem.Str.length_append, hxl, sgn_len]
    omega
  · obtain ⟨xx, v9, rfl, hx, hxl, s4, hs4⟩ := pv
    exact q H4 xx v9 hx (by omega) (by omega) s4 hs4
def rWi (K : PySem.W.Frag) : TS := tIfS (tOr (tTest (tOp (rI0 fun i j => V.bl (decide (i < j))) (tVar 7) (tC (V.int 2)))) (tTest (tOp (rIn K false) (tVar 8) (tVar 4))))
  (tSeq (tAsg (tIf (tAnd (tTest (tOp rEq (tVar 7) (tC (V.int 0)))) (tTest (tOp (rNeD K) (tVar 4) (tLst tNil)))) (tSl rSlS (tOp (rIxL K) (tVar 4) (tUn (rU fun i => V.int (-i)) (tC (V.int 1)))) tNoPart (tPart (tC (V.int 6)))) (tC (V.str ""))) (gName 8)) (rWb K)) tNext
theorem ne_nil_tx (ss : List PySem.Str) : (!PyData.eqv (.list (ss.map PyData.str)) (.list [])) = decide (ss ≠ []) := by
  cases ss with
  | nil => rfl
  | cons x ss => rfl
theorem stWi {w0 : PySem.Str} {way : Int} {fs : List PySem.Str} (ha : Src a H) (hw : isName (.str w0) = true) (hf : H f = some (.lst (fs.map V.str))) (nf : f ≠ a) (hfs : ∀ x ∈ fs, isName (.str x) = true)
    (q : ∀ H' x v9, isName (.str x) = true → SameX a H H' → Src a H' → D.nx (sgW a b f n st v6 (some (.int way)) (some (.str x)) v9 v10) H') :
    rWi K D (sgW a b f n st v6 (some (.int way)) (some (.str w0)) v9 v10) H := by
  have line : sizeLine = 16777216 := sizeLine_eq
  have build : (tSeq (tAsg (tIf (tAnd (tTest (tOp rEq (tVar 7) (tC (V.int 0)))) (tTest (tOp (rNeD K) (tVar 4) (tLst tNil)))) (tSl rSlS (tOp (rIxL K) (tVar 4) (tUn (rU fun i => V.int (-i)) (tC (V.int 1)))) tNoPart (tPart (tC (V.int 6)))) (tC (V.str ""))) (gName 8)) (rWb K)) D (sgW a b f n st v6 (some (.int way)) (some (.str w0)) v9 v10) H := by
    have go : ∀ {H' : Hp} {x : PySem.Str}, smC x → x.length ≤ 6 → SameX a H H' → Src a H' → rWb K D (sgW a b f n st v6 (some (.int way)) (some (.str x)) v9 v10) H' := fun {H' x} h1 h2 s hs =>
      stWb hs h1 h2 fun H2 x2 v9 c1 c2 c3 s2 hs2 => q H2 x2 v9 (name_iff.mpr ⟨c2, c3, c1⟩) (s.trans s2) hs2
    refine ⟨_, rfl, rfl, _, rfl, ite2 (fun e => ?_) (fun e => go smC_nil (by decide) (SameX.of (Same.refl _)) ha)⟩
    refine ⟨_, rfl, Nat.zero_le _, fun p hp => ⟨.list (fs.map PyData.str), .list [], .lst (SqL.of (Same.new hp _ _ hf)) (dp_txts fs), .lst (SqL.of upd_same) .nil, shaped_ltx (fun x hx => tx_ok (name_iff.mp (hfs x hx)).2.2), rfl, _, rfl, ?_⟩⟩
    rw [ne_nil_tx]
    have s1 : SameX a H (L2.upd H p (.lst [])) := SameX.of (Same.new hp)
    refine ite2 (fun e => ?_) (fun e => go smC_nil (by decide) s1 (ha.new hp))
    have hne : fs ≠ [] := of_decide_eq_true e
    rcases list_snoc fs with h0 | ⟨m, x, hx⟩
    · exact absurd h0 hne
    · have hxn := hfs x (by rw [hx]; simp)
      obtain ⟨n1, n2, n3⟩ := name_iff.mp hxn
      refine ⟨_, rfl, 1, rfl, f, _, _, .str x, rfl, rfl, SqL.of (Same.new hp _ _ hf), ?_, 6, rfl, x, rfl, by omega, ?_⟩
      · rw [hx, List.map_append]
        exact atI_last _ _
      · refine go (cut_smC n3 _ _) ?_ s1 (ha.new hp)
        have := cut_len x 6
        show (cutS x none (some ((6 : Nat) : Int))).length ≤ 6
        omega
  refine ⟨_, rfl, way, _, rfl, rfl, _, rfl, ite2 (fun e => build) (fun e => ?_)⟩
  refine ⟨_, rfl, _, rfl, f, _, rfl, .inl (SqL.of hf), rfl, flat_txts fs, _, rfl, ite2 (fun e => build) (fun e => ?_)⟩
  exact q H w0 v9 hw (SameX.of (Same.refl _)) ha
def rWt (K : PySem.W.Frag) : TS := tSeq (tAsg (tSl rSlS (tVar 8) tNoPart (tPart (tC (V.int 7)))) (gName 10)) (tSeq (tFor (iRng1 (tCons (tC (V.int 26)) tNil)) (gName 9) (tIfS (tTest (tOp (rIn K false) (tVar 8) (tVar 4))) (tAsg (tOp rAdd2 (tVar 10) (tOp rIxS (tVar 3) (tVar 9))) (gName 8)) tNext)) (tDrop (tBM K "list" rAppend (tVar 4) (tCons (tVar 8) tNil))))
theorem stWt {w0 : PySem.Str} {fs : List PySem.Str} (hw : isName (.str w0) = true) (hf : H f = some (.lst (fs.map V.str))) (hl : fs.length < 26)
    (q : ∀ x v9 v10, isName (.str x) = true → x ∉ fs → D.nx (sgW a b f n st v6 v7 (some (.str x)) v9 v10) (L2.upd H f (.lst ((fs ++ [x]).map V.str)))) :
    rWt K D (sgW a b f n st v6 v7 (some (.str w0)) v9 v10) H := by
  have line : sizeLine = 16777216 := sizeLine_eq
  obtain ⟨n1, n2, n3⟩ := name_iff.mp hw
  refine ⟨_, rfl, 7, rfl, w0, rfl, by omega, ?_⟩
  have cl : (cutS w0 none (some (7 : Int))).length = min 7 w0.length := cut_len w0 7
  have cs : smC (cutS w0 none (some (7 : Int))) := cut_smC n3 _ _
  generalize hst : cutS w0 none (some (7 : Int)) = stem at cl cs
  refine ⟨26, rfl, by decide, by decide, ?_⟩
  refine for_range (lo := 0) (n := (26 : Int).toNat) (fun j σ H' => H' = H ∧ ∃ x v9, σ = sgW a b f n st v6 v7 (some (.str x)) v9 (some (.str stem)) ∧ isName (.str x) = true ∧ (x ∈ fs → ∀ i < j, stem ++ sgn i ∈ fs)) ⟨rfl, w0, v9, rfl, hw, fun _ i hi => absurd hi (Nat.not_lt_zero _)⟩ (fun j σ H4 hj pv => ?_) (fun σ H4 pv => ?_)
  · obtain ⟨rfl, x, v9, rfl, hx, hc⟩ := pv
    have hj : j < 26 := hj
    refine ⟨_, rfl, _, rfl, f, _, rfl, .inl (SqL.of hf), rfl, flat_txts fs, _, rfl, ?_⟩
    rw [if_neg (by decide), in_txts]
    refine ite2 (fun e => ?_) (fun e => ?_)
    · have hin : x ∈ fs := of_decide_eq_true e
      refine ⟨_, rfl, _, rfl, _, rfl, smallS, _, _, rfl, rfl, by show (26 : Nat) ≤ sizeLine; omega, sgn_at (by omega) (by omega), stem, sgn j, rfl, ?_, by rw [sgn_len]; omega, ?_⟩
      · rw [Int.zero_add, Int.toNat_natCast] <;> rfl
      · refine ⟨rfl, _, _, rfl, name_iff.mpr ⟨?_, ?_, smC_app cs (sgn_smC hj)⟩, fun hm i hi => ?_⟩
        · rw [PySem.Str.length_append, sgn_len]; omega
        · rw [PySem.Str.length_append, sgn_len]; omega
        · by_cases e2 : i = j
          · rw [e2]; exact hm
          · exact hc hin i (by omega)
    · have hin : x ∉ fs := fun z => e (decide_eq_true z)
      exact ⟨rfl, _, _, rfl, hx, fun z => absurd z hin⟩
  · obtain ⟨rfl, x, v9, rfl, hx, hc⟩ := pv
    have hin : x ∉ fs := fun z => cands_out hl (hc z)
    refine ⟨_, rfl, .inl ⟨rfl, _, SqL.of hf⟩, _, rfl, f, _, _, rfl, rfl, hf, by rw [List.length_map]; omega, ?_⟩
    have := q x v9 (some (.str stem)) hx hin
    rw [List.map_append] at this
    exact this
end
theorem ok_words (T : Txt K mg) : Cal P w K mg base 3 "_law_words" ["_law_well", "_law_many", "_law_some"] (sp_words K) := by
  have c_law_draw := ok_draw (P := P) (w := w) (base := base) T
  have c_law_pick := ok_pick (P := P) (w := w) (base := base) T
  obtain ⟨fd, F⟩ := T.d_l_words
  refine cal_of F T.g_law_words (F.bindsN fun _ _ _ _ _ _ us hl => match us, hl with | [_, _, _], _ => rfl) ?_
  refine F.ok sc_l_words (fun vs H Q E h => ?_) (fun cdv A outer s H vs Q E hr h => ?_)
  · obtain ⟨a, b, n, ss, rfl, _⟩ := h
    rfl
  · have hu := hr.units
    refine ⟨_, PSs.nox (pss_cons (ps_par3 rfl sc_l_words.nd (i := 3) (j := 4) (l := 5) rfl rfl rfl (by decide) (by decide) (by decide) rfl rfl rfl (pa_cons pe_str (pa_cons (pe_lst pa_nil) (pa_cons (pe_cal c_law_draw (hr.mono (by decide)) takes0 (pa_cons (pv 0) (pa_cons (pe_callB (r := rLenQ K) call_lenQ rfl T.b_len (by decide +kernel) (pa_cons (pv 2) pa_nil)) pa_nil))) pa_nil))) (by rfl))
      (pss_cons (ps_for PassesOwn.never rfl (pi_range1 rfl T.b_range (pa_cons (pv 1) pa_nil)) (pg_name (i := 6) sc_l_words.nd rfl (Or.inl rfl))
      (pss_cons (ps_par rfl sc_l_words.nd (i := 7) (j := 8) rfl rfl (by decide) rfl rfl (pa_cons (pe_cal c_law_draw (hr.mono (by decide)) takes0 (pa_cons (pv 0) (pa_cons pe_int pa_nil))) (pa_cons (pe_ix (r := rIxL K) ix_list (pv 2) (pe_op op_mod (pe_callTy (r := rInt1) call_intI rfl T.b_int (by decide +kernel) (pa_cons (pe_op op_add (pv 5) (pv 6)) pa_nil)) (pe_callB (r := rLenQ K) call_lenQ rfl T.b_len (by decide +kernel) (pa_cons (pv 2) pa_nil))) (fun _ _ => rfl)) pa_nil)) (by rfl))
      (pss_cons (ps_if (PW.pt (pw_or (pt_cmpR op_lt (pv 7) pe_int (nomark _)) (pw_or1 (pt_cmpR (r := rIn K false) op_in_seq (pv 8) (pv 4) rfl)))) (pss_cons (ps_set (i := 8) sc_l_words.nd rfl (Or.inl rfl) (pe_ifExp (PW.pt (pw_and (pt_cmpR op_eq (pv 7) pe_int (nomark _)) (pw_and1 (pt_cmpR (r := rNeD K) (op_neD hu) (pv 4) (pe_lst pa_nil) (nomark _))))) (pe_slice (r := rSlS) sl_str (pe_ix (r := rIxL K) ix_list (pv 4) (pe_un un_neg pe_int) (fun _ _ => rfl)) po_none (po_some pe_int)) pe_str))
      (pss_one (ps_for PassesOwn.never rfl (pi_range1 rfl T.b_range (pa_cons (pe_op op_add pe_int (pe_cal c_law_draw (hr.mono (by decide)) takes0 (pa_cons (pv 0) (pa_cons (pe_cal c_law_pick (hr.mono (by decide)) takes0 (pa_cons (pv 0) (pa_cons (pe_lst (pa_cons pe_int (pa_cons pe_int (pa_cons (pe_op op_sub pe_int (pe_callB call_len_str rfl T.b_len (by decide +kernel) (pa_cons (pv 8) pa_nil))) pa_nil)))) pa_nil))) pa_nil)))) pa_nil)) (pg_name (i := 9) sc_l_words.nd rfl (Or.inl rfl))
      (pss_one (ps_set (i := 8) sc_l_words.nd rfl (Or.inl rfl) (pe_op op_add_str (pv 8) (pe_ix (r := rIxS) ix_str (pv 3) (pe_cal c_law_draw (hr.mono (by decide)) takes0 (pa_cons (pv 0) (pa_cons pe_int pa_nil))) (fun _ _ => rfl)))))))) pss_nil)
      (pss_cons (ps_set (i := 10) sc_l_words.nd rfl (Or.inl rfl) (pe_slice (r := rSlS) sl_str (pv 8) po_none (po_some pe_int)))
      (pss_cons (ps_for PassesOwn.never rfl (pi_range1 rfl T.b_range (pa_cons pe_int pa_nil)) (pg_name (i := 9) sc_l_words.nd rfl (Or.inl rfl))
      (pss_one (ps_if (pt_cmpR (r := rIn K false) op_in_seq (pv 8) (pv 4) rfl) (pss_one (ps_set (i := 8) sc_l_words.nd rfl (Or.inl rfl) (pe_op op_add_str (pv 10) (pe_ix (r := rIxS) ix_str (pv 3) (pv 9) (fun _ _ => rfl))))) pss_nil)))
      (pss_one (ps_expr (pe_bm PySem.F.plainAttrs_list PySem.F.slot_list_append PySem.F.type_list_append mt_append (pv 4) (pa_cons (pv 8) pa_nil)))))))))
      (pss_one (ps_ret (pv 4))))), ?_⟩
    obtain ⟨a, b, n, ss, rfl, ha, hb, nab, hne, hz, hss, hn, q⟩ := h
    obtain ⟨x, y, z, ha'⟩ := id ha
    refine ⟨Nat.zero_le _, fun f hf => ⟨_, rfl, _, rfl, b, _, rfl, .inl (SqL.of (Same.new hf _ _ hb)), a, x, y, z, _, rfl, Same.new hf _ _ ha', by rw [List.length_map]; have := List.length_pos_iff.mpr hne; omega, log_small (by rw [List.length_map]; omega), fun st o ho r1 r2 => ⟨_, _, _, rfl, ?_⟩⟩⟩
    have nfa : f ≠ a := (ne_of_none ha' hf).symm
    have nba : b ≠ a := nab.symm
    have s1 : SameX a H (L2.upd (L2.upd H f (.lst [])) a o) := (SameX.of (Same.new hf)).upd
    have hs1 : Src a (L2.upd (L2.upd H f (.lst [])) a o) := Src.upd ho
    have hf1 : (L2.upd (L2.upd H f (.lst [])) a o) f = some (.lst []) := by rw [upd_ne nfa]; exact upd_same
    generalize L2.upd (L2.upd H f (.lst [])) a o = H1 at s1 hs1 hf1
    have hpos : 0 < ss.length := List.length_pos_iff.mpr hne
    refine ⟨_, rfl, n, rfl, by omega, by omega, ?_⟩
    refine for_range (lo := 0) (n := (n : Int).toNat) (fun k σ H' => ∃ v6 v7 v8 v9 v10, ∃ fs : List PySem.Str, σ = sgW a b f n st v6 v7 v8 v9 v10 ∧ fs.length = k ∧ fs.Nodup ∧ (∀ x ∈ fs, isName (.str x) = true) ∧ SameX a H H' ∧ Src a H' ∧ H' f = some (.lst (fs.map V.str))) ⟨_, _, _, _, _, [], rfl, rfl, List.nodup_nil, (fun x hx => by cases hx), s1, hs1, hf1⟩ (fun k σ H2 hk pv => ?_) (fun σ H2 pv => ?_)
    · obtain ⟨v6, v7, v8, v9, v10, fs, rfl, hfl, hnd, hfn, s2, ⟨x2, y2, z2, ha2⟩, hf2⟩ := pv
      refine ⟨_, rfl, a, x2, y2, z2, 4, rfl, ha2, by decide, by decide, fun way o2 ho2 w1 w2 => ?_⟩
      have s3 := s2.upd (o := o2)
      have hs3 : Src a (L2.upd H2 a o2) := Src.upd ho2
      have hf3 : (L2.upd H2 a o2) f = some (.lst (fs.map V.str)) := by rw [upd_ne nfa]; exact hf2
      generalize L2.upd H2 a o2 = H3 at s3 hs3 hf3
      have hb3 := s3 _ _ nba hb
      have hm0 := Int.emod_nonneg (st + (0 + (k : Nat))) (b := (ss.length : Int)) (by omega)
      have hm1 := Int.emod_lt_of_pos (st + (0 + (k : Nat))) (b := (ss.length : Int)) (by omega)
      obtain ⟨wd, hwd⟩ : ∃ wd, ss[((st + (0 + (k : Nat))) % (ss.length : Int)).toNat]? = some wd := ⟨_, List.getElem?_eq_getElem (by omega)⟩
      refine ⟨_, rfl, _, rfl, _, rfl, _, _, rfl, rfl, _, rfl, _, rfl, b, _, rfl, .inl (SqL.of hb3), _, _, rfl, rfl, by rw [List.length_map]; omega, b, _, _, .str wd, rfl, rfl, SqL.of hb3, ?_, _, _, rfl, ?_⟩
      · rw [List.length_map, show (st + (0 + (k : Nat))) % (ss.length : Int) = ((((st + (0 + (k : Nat))) % (ss.length : Int)).toNat : Nat) : Int) from (Int.toNat_of_nonneg hm0).symm]
        exact atI_nat (by rw [List.getElem?_map, hwd] <;> rfl)
      · refine stWi (K := K) (fs := fs) hs3 (hss wd (List.mem_of_getElem? hwd)) hf3 nfa hfn fun H4 wd2 v9 hw2 s4 hs4 => ?_
        have hf4 := s4 _ _ nfa hf3
        refine stWt (K := K) (fs := fs) hw2 hf4 (by omega) fun wd3 v9 v10 hw3 hni => ?_
        have nab2 : a ≠ f := nfa.symm
        refine ⟨_, _, _, _, _, fs ++ [wd3], rfl, by simp [hfl], ?_, fun x hx => ?_, fun c u nc hc => ?_, ?_, upd_same⟩
        · exact List.nodup_append.mpr ⟨hnd, by simp, fun y hy z hz e => hni (by rw [← List.mem_singleton.mp hz, ← e]; exact hy)⟩
        · rcases List.mem_append.mp hx with hx | hx
          · exact hfn x hx
          · rw [List.mem_singleton.mp hx]; exact hw3
        · rw [upd_ne (ne_of_none hc hf)]
          exact s4 _ _ nc (s3 _ _ nc hc)
        · obtain ⟨x4, y4, z4, ha4⟩ := hs4
          exact ⟨x4, y4, z4, by rw [upd_ne nab2]; exact ha4⟩
    · obtain ⟨v6, v7, v8, v9, v10, fs, rfl, hfl, hnd, hfn, s2, hs2, hf2⟩ := pv
      exact ⟨_, rfl, q H2 f fs (by rw [hfl, Int.toNat_natCast]) hnd hfn s2 hs2 hf hf2⟩
end
end Rs
set_option Elab.async false
set_option linter.all false
set_option maxRecDepth 100000
set_option maxHeartbeats 2000000
namespace Rs
open PySem PySem.Spec PyProof.Rows L2
local macro_rules | `(tactic| walk_at "rd") => `(tactic| simp only [L2.tRet, L2.tRetN, L2.tSeq, L2.tNext, L2.tIfS, L2.tAsg, L2.gName, L2.gNil, L2.gCons, L2.tVar, L2.tC, L2.tOp, L2.tUn, L2.tCB, L2.tCons, L2.tNil, L2.tAndV, L2.tOrV, L2.tNotV, L2.tAnd, L2.tOr, L2.tNot, L2.tB, L2.tTest, L2.tIf, L2.tChain, L2.tTup, L2.tLst, L2.tDrop, L2.tFld, L2.sFld, L2.tOst, L2.tBM, L2.rNe, L2.tMkO, L2.start, L2.cxOf, L2.Cx.nox, L2.Cx.wish, L2.rI0, L2.rI, L2.tYes, Rs.tCalW, List.getElem?_cons_zero, List.getElem?_cons_succ, Option.some.injEq, exists_eq_left', exists_eq_left, exists_and_left, List.cons.injEq, and_true, true_and, L2.V.bl.injEq, L2.V.int.injEq, L2.V.str.injEq, L2.V.ref.injEq, List.set_cons_zero, List.set_cons_succ, List.map_cons, List.map_nil, List.length_cons, List.length_nil, List.replicate, List.cons_append, List.nil_append, List.append_nil, Nat.reduceSub, Nat.reduceAdd])
local macro_rules | `(tactic| walk_at "dn") => `(tactic| dsimp only [L2.tCons, L2.tC, L2.tNil])
section
variable {P : Program} {w : World} {K : PySem.W.Frag} {mg : PySem.Str → Option Value} {base : Heap}
/-! ### moves as the law makes them -/
abbrev TupAt (H : Hp) (o : PySem.Str × PySem.Str) (b : Addr) : Prop := H b = some (.tup [.str o.1, .str o.2])
def RowsAt (H : Hp) (p : Addr) (os : Outs) : Prop := ∃ bs : List Addr, H p = some (.lst (bs.map V.ref)) ∧ Paired (TupAt H) os bs
def LMv (H : Hp) (m : Mv) (kv : List Key × V) : Prop := kv.1 = [Sum.inr m.1.1, Sum.inr m.1.2] ∧ ∃ p, kv.2 = .ref p ∧ RowsAt H p m.2
def LMoves (H : Hp) (d : Addr) (mv : List Mv) : Prop := ∃ kvs, H d = some (.dT kvs) ∧ Paired (LMv H) mv kvs ∧ (mv.map (·.1)).Nodup
/-- what stands but for the drawn numbers -/
theorem rows_ne {a p : Addr} {H : Hp} {bs : List Addr} (ha : Src a H) (hp : H p = some (.lst (bs.map V.ref))) : p ≠ a := by
  obtain ⟨x, y, z, ha⟩ := ha
  rintro rfl
  rw [hp] at ha
  have := HO.lst.inj (Option.some.inj ha)
  cases bs with
  | nil => cases this
  | cons b bs => cases (List.cons.inj this).1
theorem RowsAt.keep {a p : Addr} {H H' : Hp} {os : Outs} (ha : Src a H) (s : SameX a H H') (h : RowsAt H p os) : RowsAt H' p os := by
  obtain ⟨bs, h1, h2⟩ := h
  refine ⟨bs, s _ _ (rows_ne ha h1) h1, Paired.imp h2 fun o b z => s _ _ ?_ z⟩
  obtain ⟨x, y, z', ha⟩ := ha
  exact ne_of z ha (by intro q; cases q)
theorem LMv.keep {a : Addr} {H H' : Hp} {m : Mv} {kv : List Key × V} (ha : Src a H) (s : SameX a H H') (h : LMv H m kv) : LMv H' m kv := let ⟨h1, p, h2, h3⟩ := h; ⟨h1, p, h2, h3.keep ha s⟩
theorem LMoves.keep {a d : Addr} {H H' : Hp} {mv : List Mv} (ha : Src a H) (s : SameX a H H') (h : LMoves H d mv) : LMoves H' d mv := by
  obtain ⟨kvs, h1, h2, h3⟩ := h
  obtain ⟨x, y, z, ha'⟩ := id ha
  exact ⟨kvs, s _ _ (ne_of h1 ha' (by intro q; cases q)) h1, Paired.imp h2 fun _ _ z => z.keep ha s, h3⟩
theorem LMoves.same {d : Addr} {H H' : Hp} {mv : List Mv} (s : Same H H') (h : LMoves H d mv) : LMoves H' d mv := by
  obtain ⟨kvs, h1, h2, h3⟩ := h
  refine ⟨kvs, s _ _ h1, Paired.imp h2 fun _ _ z => ?_, h3⟩
  obtain ⟨z1, p, z2, bs, z3, z4⟩ := z
  exact ⟨z1, p, z2, bs, s _ _ z3, Paired.imp z4 fun _ _ y => s _ _ y⟩
theorem LMoves.movesAt {d : Addr} {H : Hp} {mv : List Mv} (h : LMoves H d mv) : MovesAt K H d mv := by
  obtain ⟨kvs, h1, h2, h3⟩ := h
  refine ⟨kvs, h1, Paired.imp h2 fun _ _ z => ?_, h3⟩
  obtain ⟨z1, p, z2, bs, z3, z4⟩ := z
  exact ⟨z1, p, bs, z2, .inl (SqL.of z3), Paired.imp z4 fun _ _ y => .inr (SqT.of y)⟩
/-- a move is put -/
def putM (mv : List Mv) (k : PySem.Str × PySem.Str) (os : Outs) : List Mv := if k ∈ mv.map (·.1) then mv.map (fun m => if m.1 = k then (k, os) else m) else mv ++ [(k, os)]
theorem lmv_keys {H : Hp} : ∀ {mv : List Mv} {kvs : List (List Key × V)}, Paired (LMv H) mv kvs → kvs.map (·.1) = mv.map fun m => [Sum.inr m.1.1, Sum.inr m.1.2]
  | _, _, .nil => rfl
  | _, _, .cons h t => by rw [List.map_cons, List.map_cons, lmv_keys t, h.1] <;> rfl
theorem key_inj {x y : PySem.Str × PySem.Str} (h : ([Sum.inr x.1, Sum.inr x.2] : List Key) = [Sum.inr y.1, Sum.inr y.2]) : x = y := by
  obtain ⟨z1, z2⟩ := List.cons.inj h
  exact Prod.ext (Sum.inr.inj z1) (Sum.inr.inj (List.cons.inj z2).1)
theorem putM_map {H : Hp} {k : PySem.Str × PySem.Str} {os : Outs} {v : V} (hv : LMv H (k, os) ([Sum.inr k.1, Sum.inr k.2], v)) : ∀ {mv : List Mv} {kvs : List (List Key × V)}, Paired (LMv H) mv kvs →
    Paired (LMv H) (mv.map fun m => if m.1 = k then (k, os) else m) (kvs.map fun kv => if kv.1 = [Sum.inr k.1, Sum.inr k.2] then (kv.1, v) else kv)
  | _, _, .nil => .nil
  | m :: mv, kv :: kvs, .cons h t => by
    refine .cons ?_ (putM_map hv t)
    dsimp only
    by_cases e : m.1 = k
    · have e2 : kv.1 = [Sum.inr k.1, Sum.inr k.2] := by rw [h.1, e]
      rw [if_pos e, if_pos e2, e2]
      exact hv
    · have e2 : kv.1 ≠ [Sum.inr k.1, Sum.inr k.2] := fun z => e (key_inj (by rw [← h.1]; exact z))
      rw [if_neg e, if_neg e2]
      exact h
theorem putM_pair {H : Hp} {k : PySem.Str × PySem.Str} {os : Outs} {v : V} {mv : List Mv} {kvs : List (List Key × V)} (hv : LMv H (k, os) ([Sum.inr k.1, Sum.inr k.2], v)) (h : Paired (LMv H) mv kvs) : Paired (LMv H) (putM mv k os) (putK kvs [Sum.inr k.1, Sum.inr k.2] v) := by
  have hk : (kvs.any fun kv => decide (kv.1 = [Sum.inr k.1, Sum.inr k.2])) = true ↔ k ∈ mv.map (·.1) := by
    rw [List.any_eq_true]
    constructor
    · rintro ⟨kv, hkv, e⟩
      have e := of_decide_eq_true e
      have hm : kv.1 ∈ kvs.map (·.1) := List.mem_map.mpr ⟨kv, hkv, rfl⟩
      rw [lmv_keys h] at hm
      obtain ⟨m, hm, e2⟩ := List.mem_map.mp hm
      exact List.mem_map.mpr ⟨m, hm, key_inj (e2.trans e)⟩
    · intro hm
      obtain ⟨m, hm, e⟩ := List.mem_map.mp hm
      have : ([Sum.inr k.1, Sum.inr k.2] : List Key) ∈ kvs.map (·.1) := by
        rw [lmv_keys h]
        exact List.mem_map.mpr ⟨m, hm, by rw [e]⟩
      obtain ⟨kv, hkv, e2⟩ := List.mem_map.mp this
      exact ⟨kv, hkv, decide_eq_true e2⟩
  unfold putM putK
  by_cases e : k ∈ mv.map (·.1)
  · rw [if_pos e, if_pos (hk.mpr e)]
    exact putM_map hv h
  · rw [if_neg e, if_neg (fun z => e (hk.mp z))]
    exact Paired.snoc h hv
theorem putM_keys (mv : List Mv) (k : PySem.Str × PySem.Str) (os : Outs) : (putM mv k os).map (·.1) = if k ∈ mv.map (·.1) then mv.map (·.1) else mv.map (·.1) ++ [k] := by
  unfold putM
  split
  · rw [List.map_map]
    refine List.map_congr_left fun m _ => ?_
    show (if m.1 = k then (k, os) else m).1 = m.1
    split
    · rename_i e; exact e.symm
    · rfl
  · rw [List.map_append] <;> rfl
theorem putM_mem {mv : List Mv} {k : PySem.Str × PySem.Str} {os : Outs} {m : Mv} (h : m ∈ putM mv k os) : m = (k, os) ∨ m ∈ mv := by
  unfold putM at h
  split at h
  · obtain ⟨n, hn, e⟩ := List.mem_map.mp h
    split at e
    · exact .inl e.symm
    · exact .inr (e ▸ hn)
  · rcases List.mem_append.mp h with h | h
    · exact .inr h
    · exact .inl (List.mem_singleton.mp h)
def ans2 : List PySem.Str := ["no", "yes"]
structure PlanOk (sts meths words : List PySem.Str) (mv : List Mv) : Prop where
  key : ∀ m ∈ mv, m.1.1 ∈ sts ∧ m.1.2 ∈ meths
  few : ∀ m ∈ mv, m.2.length ≤ 3
  outs : ∀ m ∈ mv, m.2.Nodup ∧ ∀ o ∈ m.2, o.1 ∈ words ∧ o.2 ∈ sts
  nd : (mv.map (·.1)).Nodup
theorem PlanOk.put {sts meths words : List PySem.Str} {mv : List Mv} {s m : PySem.Str} {os : Outs} (h : PlanOk sts meths words mv) (hs : s ∈ sts) (hm : m ∈ meths) (hl : os.length ≤ 3) (hn : os.Nodup) (ho : ∀ o ∈ os, o.1 ∈ words ∧ o.2 ∈ sts) : PlanOk sts meths words (putM mv (s, m) os) := by
  refine ⟨fun n hn' => ?_, fun n hn' => ?_, fun n hn' => ?_, ?_⟩
  · rcases putM_mem hn' with rfl | z
    · exact ⟨hs, hm⟩
    · exact h.key n z
  · rcases putM_mem hn' with rfl | z
    · exact hl
    · exact h.few n z
  · rcases putM_mem hn' with rfl | z
    · exact ⟨hn, ho⟩
    · exact h.outs n z
  · rw [putM_keys]
    split
    · exact h.nd
    · rename_i e
      exact List.nodup_append.mpr ⟨h.nd, by simp, fun y hy z hz q => e (by rw [← List.mem_singleton.mp hz, ← q]; exact hy)⟩
/-! what hangs on new things alone -/
def New (H0 H : Hp) (φ : Hp → Prop) : Prop := ∀ H'', (∀ c u, H0 c = none → H c = some u → H'' c = some u) → φ H''
def Dm (H0 H : Hp) : Prop := ∀ c, H c = none → H0 c = none
theorem New.here {H0 H : Hp} {φ : Hp → Prop} (h : New H0 H φ) : φ H := h H fun _ _ _ e => e
theorem New.mono {H0 H1 H : Hp} {φ : Hp → Prop} (d : Dm H0 H1) (h : New H1 H φ) : New H0 H φ := fun H'' k => h H'' fun c u n e => k c u (d c n) e
theorem New.to {H0 H H' : Hp} {φ : Hp → Prop} (h : New H0 H φ) (k : ∀ c u, H0 c = none → H c = some u → H' c = some u) : New H0 H' φ := fun H'' k'' => h H'' fun c u n e => k'' c u n (k c u n e)
theorem New.toX {a : Addr} {u0 : HO} {H0 H H' : Hp} {φ : Hp → Prop} (h : New H0 H φ) (ha : H0 a = some u0) (s : SameX a H H') : New H0 H' φ := h.to fun c u n e => s c u (ne_of_none ha n).symm e
theorem Dm.refl (H : Hp) : Dm H H := fun _ e => e
theorem Dm.trans {H0 H1 H2 : Hp} (h : Dm H0 H1) (k : Dm H1 H2) : Dm H0 H2 := fun c e => h c (k c e)
theorem Dm.same {H H' : Hp} (s : Same H H') : Dm H H' := fun c e => s.free e
theorem Dm.upd {H : Hp} {a : Addr} {o : HO} : Dm H (L2.upd H a o) := fun c e => by
  by_cases z : c = a
  · subst z; rw [upd_same] at e; cases e
  · rw [upd_ne z] at e; exact e
theorem Dm.srcX {a : Addr} {H H' : Hp} (s : SameX a H H') (ha' : Src a H') : Dm H H' := fun c e => by
  by_cases z : c = a
  · subst z; obtain ⟨_, _, _, h⟩ := ha'; rw [h] at e; cases e
  · cases q : H c with
    | none => rfl
    | some u => rw [s c u z q] at e; cases e
theorem rows_new {H0 H : Hp} {O t : Addr} {bs : List Addr} {os : Outs} {o : PySem.Str × PySem.Str} (h : New H0 H fun X => RowsAt X O os) (hO : H O = some (.lst (bs.map V.ref))) (nO : H0 O = none) (ht : H t = some (.tup [.str o.1, .str o.2])) (nt : H0 t = none) :
    New H0 (L2.upd H O (.lst ((bs ++ [t]).map V.ref))) fun X => RowsAt X O (os ++ [o]) := by
  intro H'' k
  have hO'' := k O _ nO upd_same
  have ht'' := k t _ nt (by rw [upd_ne (ne_of ht hO (by intro q; cases q))]; exact ht)
  obtain ⟨bs', h1, h2⟩ := h (L2.upd H'' O (.lst (bs.map V.ref))) fun c u n e => by
    by_cases z : c = O
    · subst z; rw [hO] at e; cases e; exact upd_same
    · rw [upd_ne z]; exact k c u n (by rw [upd_ne z]; exact e)
  rw [upd_same] at h1
  have eb : bs' = bs := map_inj (fun x y e => V.ref.inj e) (HO.lst.inj (Option.some.inj h1)).symm
  subst eb
  refine ⟨bs' ++ [t], hO'', Paired.snoc (Paired.imp h2 fun o b z => ?_) ht''⟩
  have nb : b ≠ O := fun e => by subst e; rw [TupAt, upd_same] at z; cases z
  rw [TupAt, upd_ne nb] at z
  exact z
section
variable {a M E S d O : Addr} {name : PySem.Str} {size : Int} {v7 v8 v10 v11 v12 : Option V} {H : Hp} {D : Ends} {sts words errs meths : List PySem.Str}
abbrev sgS (a M E : Addr) (name : PySem.Str) (size : Int) (v5 v6 v7 v8 v9 v10 v11 v12 : Option V) : L2.St := [some (.ref a), some (.str name), some (.ref M), some (.ref E), some (.int size), v5, v6, v7, v8, v9, v10, v11, v12]
theorem txt_of {ss : List PySem.Str} {i : Nat} {v : V} (h : (ss.map V.str)[i]? = some v) : ∃ st, v = .str st ∧ st ∈ ss := by
  rw [List.getElem?_map] at h
  cases e : ss[i]? with
  | none => rw [e] at h; cases h
  | some st =>
    rw [e] at h
    cases Option.some.inj h
    exact ⟨st, rfl, List.mem_of_getElem? e⟩
/-- the outcomes of one move -/
def rSo (K : PySem.W.Frag) : TS := tFor (iRng1 (tCons (tCalW (sp_one K) W0 (tCons (tVar 0) (tCons (tLst (tCons (tC (V.int 1)) (tCons (tC (V.int 1)) (tCons (tC (V.int 2)) (tCons (tC (V.int 1)) (tCons (tC (V.int 2)) (tCons (tC (V.int 3)) (tCons (tC (V.int 0)) (tCons (tC (V.int 1)) tNil))))))))) tNil))) tNil)) (gName 10)
  (tSeq (tAsg (tTup (tCons (tCalW (sp_one K) W0 (tCons (tVar 0) (tCons (tOp rCat (tLst (tCons (tC (V.str "no")) (tCons (tC (V.str "yes")) tNil))) (tVar 3)) tNil))) (tCons (tCalW (sp_one K) W0 (tCons (tVar 0) (tCons (tVar 5) tNil))) tNil))) (gName 11))
    (tIfS (tTest (tOp (rNotInD K) (tVar 11) (tVar 9))) (tDrop (tBM K "list" rAppend (tVar 9) (tCons (tVar 11) tNil))) tNext))
theorem stSo (ha : Src a H) (hS : H S = some (.lst (sts.map V.str))) (hE : H E = some (.lst (errs.map V.str))) (nS : S ≠ a) (nE : E ≠ a) (hO : H O = some (.lst [])) (nO : O ≠ a) (nOS : O ≠ S) (nOE : O ≠ E) (hs0 : sts ≠ []) (hsl : sts.length ≤ 100) (hel : errs.length ≤ 100)
    (hst : ∀ x ∈ sts, TxOk x) (her : ∀ x ∈ errs, TxOk x) {H0 : Hp} (d0 : Dm H0 H) (a0 : ∃ u, H0 a = some u) (nO0 : H0 O = none)
    (q : ∀ H' v10 v11 os, New H0 H' (fun X => RowsAt X O os) → Dm H0 H' → os.length ≤ 3 → os.Nodup → (∀ o ∈ os, o.1 ∈ ans2 ++ errs ∧ o.2 ∈ sts) → (∀ c u, c ≠ a → c ≠ O → H c = some u → H' c = some u) → Src a H' → D.nx (sgS a M E name size (some (.ref S)) (some (.ref d)) v7 v8 (some (.ref O)) v10 v11 v12) H') :
    rSo K D (sgS a M E name size (some (.ref S)) (some (.ref d)) v7 v8 (some (.ref O)) v10 v11 v12) H := by
  have line : sizeLine = 16777216 := sizeLine_eq
  obtain ⟨x, y, z, ha'⟩ := id ha
  obtain ⟨u0, ha0⟩ := a0
  refine ⟨_, rfl, by show 8 ≤ sizeLine; omega, fun p hp => ⟨a, p, x, y, z, _, rfl, Same.new hp _ _ ha', upd_same, ne_of_none ha' hp, by simp, by simp, fun i v o hv ho => ?_⟩⟩
  have hv' : ∃ m : Nat, v = .int m ∧ m ≤ 3 := by
    have hv := List.mem_of_getElem? hv
    simp only [List.mem_cons, List.not_mem_nil, or_false] at hv
    rcases hv with e | e | e | e | e | e | e | e
    · exact ⟨1, e, by decide⟩
    · exact ⟨1, e, by decide⟩
    · exact ⟨2, e, by decide⟩
    · exact ⟨1, e, by decide⟩
    · exact ⟨2, e, by decide⟩
    · exact ⟨3, e, by decide⟩
    · exact ⟨0, e, by decide⟩
    · exact ⟨1, e, by decide⟩
  obtain ⟨m, rfl, hm⟩ := hv'
  refine ⟨m, rfl, by omega, by omega, ?_⟩
  have npO : O ≠ p := ne_of_none hO hp
  have k1 : ∀ c u, c ≠ a → c ≠ O → H c = some u → (L2.upd (L2.upd H p (.lst [V.int 1, V.int 1, V.int 2, V.int 1, V.int 2, V.int 3, V.int 0, V.int 1])) a o) c = some u := fun c u n1 _ e => by rw [upd_ne n1]; exact Same.new hp _ _ e
  have hs1 : Src a (L2.upd (L2.upd H p (.lst [V.int 1, V.int 1, V.int 2, V.int 1, V.int 2, V.int 3, V.int 0, V.int 1])) a o) := Src.upd ho
  have hO1 : (L2.upd (L2.upd H p (.lst [V.int 1, V.int 1, V.int 2, V.int 1, V.int 2, V.int 3, V.int 0, V.int 1])) a o) O = some (.lst []) := by rw [upd_ne nO]; exact Same.new hp _ _ hO
  have d1 : Dm H0 (L2.upd (L2.upd H p (.lst [V.int 1, V.int 1, V.int 2, V.int 1, V.int 2, V.int 3, V.int 0, V.int 1])) a o) := (d0.trans Dm.upd).trans Dm.upd
  generalize L2.upd (L2.upd H p (.lst [V.int 1, V.int 1, V.int 2, V.int 1, V.int 2, V.int 3, V.int 0, V.int 1])) a o = H1 at k1 hs1 hO1 d1
  have new1 : New H0 H1 fun X => RowsAt X O [] := fun H'' k => ⟨[], k O _ nO0 hO1, .nil⟩
  refine for_range (lo := 0) (n := (m : Int).toNat) (fun j σ H' => ∃ v10 v11 os, σ = sgS a M E name size (some (.ref S)) (some (.ref d)) v7 v8 (some (.ref O)) v10 v11 v12 ∧ os.length ≤ j ∧ os.Nodup ∧ (∀ o ∈ os, o.1 ∈ ans2 ++ errs ∧ o.2 ∈ sts) ∧ (∀ c u, c ≠ a → c ≠ O → H c = some u → H' c = some u) ∧ Src a H' ∧ New H0 H' (fun X => RowsAt X O os) ∧ Dm H0 H')
    ⟨_, _, [], rfl, Nat.le_refl _, List.nodup_nil, (fun o ho => by cases ho), k1, hs1, new1, d1⟩ (fun j σ H2 hj pv => ?_) (fun σ H2 pv => ?_)
  · obtain ⟨v10, v11, os, rfl, hol, hnd, hmem, k2, ⟨x2, y2, z2, ha2⟩, new2, d2⟩ := pv
    obtain ⟨bs, hO2, hbs⟩ := new2.here
    rw [Int.toNat_natCast] at hj
    have hE2 := k2 _ _ nE nOE.symm hE
    -- the word
    refine ⟨_, rfl, by show 2 ≤ sizeLine; omega, fun t1 h1 => ⟨.ref E, rfl, t1, E, _, _, rfl, rfl, upd_same, Same.new h1 _ _ hE2, by rw [List.length_map]; show 2 + _ ≤ _; omega, fun t2 h2 => ?_⟩⟩
    have sA := (Same.new (o := .lst [V.str "no", V.str "yes"]) h1).trans (Same.new (o := .lst ([V.str "no", V.str "yes"] ++ errs.map V.str)) h2)
    have e2 : (L2.upd (L2.upd H2 t1 (.lst [V.str "no", V.str "yes"])) t2 (.lst ([V.str "no", V.str "yes"] ++ errs.map V.str))) t2 = some (.lst ((ans2 ++ errs).map V.str)) := by rw [upd_same, List.map_append] <;> rfl
    have ht2 : H2 t2 = none := by
      cases e : H2 t2 with
      | none => rfl
      | some u => rw [Same.new h1 _ _ e] at h2; cases h2
    generalize L2.upd (L2.upd H2 t1 (.lst [V.str "no", V.str "yes"])) t2 (.lst ([V.str "no", V.str "yes"] ++ errs.map V.str)) = H3 at sA e2
    have nt2 : a ≠ t2 := ne_of_none ha2 ht2
    refine ⟨a, t2, x2, y2, z2, _, rfl, sA _ _ ha2, e2, nt2, by simp [ans2], by rw [List.length_map]; simp [ans2]; omega, fun i1 w1 o1 hw1 ho1 => ?_⟩
    obtain ⟨wd, rfl, hwd⟩ := txt_of hw1
    have kB : SameX a H2 (L2.upd H3 a o1) := (SameX.of sA).upd
    have hsB : Src a (L2.upd H3 a o1) := Src.upd ho1
    generalize L2.upd H3 a o1 = H4 at kB hsB
    have hS4 := kB _ _ nS (k2 _ _ nS nOS.symm hS)
    obtain ⟨x4, y4, z4, ha4⟩ := id hsB
    refine ⟨_, rfl, _, rfl, a, S, x4, y4, z4, _, rfl, ha4, hS4, nS.symm, by simpa using hs0, by rw [List.length_map]; omega, fun i2 w2 o2 hw2 ho2 => ?_⟩
    obtain ⟨stt, rfl, hstt⟩ := txt_of hw2
    have kC : SameX a H2 (L2.upd H4 a o2) := kB.upd
    have hsC : Src a (L2.upd H4 a o2) := Src.upd ho2
    generalize L2.upd H4 a o2 = H5 at kC hsC
    refine ⟨by show 2 ≤ sizeLine; omega, fun t3 h3 => ?_⟩
    have kD : SameX a H2 (L2.upd H5 t3 (.tup [.str wd, .str stt])) := kC.trans (SameX.of (Same.new h3))
    have hsD : Src a (L2.upd H5 t3 (.tup [.str wd, .str stt])) := hsC.new h3
    have e3 : (L2.upd H5 t3 (.tup [.str wd, .str stt])) t3 = some (.tup [.str wd, .str stt]) := upd_same
    generalize L2.upd H5 t3 (.tup [.str wd, .str stt]) = H6 at kD hsD e3
    have new6 := new2.toX ha0 kD
    obtain ⟨bs6, hO6, hbs6⟩ := new6.here
    have d6 : Dm H0 H6 := d2.trans (Dm.srcX kD hsD)
    have t30 : H0 t3 = none := (d2.trans (Dm.srcX kC hsC)) t3 h3
    have oks : ∀ o ∈ os, TxOk o.1 ∧ TxOk o.2 := fun o ho => by
      obtain ⟨m1, m2⟩ := hmem o ho
      refine ⟨?_, hst _ m2⟩
      rcases List.mem_append.mp m1 with m1 | m1
      · have : ∀ x ∈ ans2, TxOk x := by decide +kernel
        exact this _ m1
      · exact her _ m1
    have okw : TxOk wd := by
      rcases List.mem_append.mp hwd with m1 | m1
      · have : ∀ x ∈ ans2, TxOk x := by decide +kernel
        exact this _ m1
      · exact her _ m1
    refine ⟨_, rfl, _, rfl, dPr (wd, stt), os.map dPr, dp_pr (o := (wd, stt)) (SqT.of e3), .lst (SqL.of hO6) (dp_prs (Paired.imp hbs6 fun _ _ z => SqT.of z)), shaped_pr okw (hst _ hstt), shaped_lpr oks, _, rfl, ?_⟩
    rw [any_prs]
    have k6 : ∀ c u, c ≠ a → c ≠ O → H c = some u → H6 c = some u := fun c u n1 n2 e => kD _ _ n1 (k2 c u n1 n2 e)
    refine ite2 (fun e => ?_) (fun e => ?_)
    · have hni : (wd, stt) ∉ os := by simpa using e
      refine ⟨_, rfl, .inl ⟨rfl, _, SqL.of hO6⟩, _, rfl, O, _, _, rfl, rfl, hO6, by rw [List.length_map]; have := Paired.length hbs6; omega, ?_⟩
      have nt3 : t3 ≠ O := ne_of e3 hO6 (by intro q; cases q)
      refine ⟨_, _, os ++ [(wd, stt)], rfl, by simp; omega, ?_, fun o ho => ?_, fun c u n1 n2 e => by rw [upd_ne n2]; exact k6 c u n1 n2 e, ?_, ?_, d6.trans Dm.upd⟩
      · exact List.nodup_append.mpr ⟨hnd, by simp, fun y hy z hz q => hni (by rw [← List.mem_singleton.mp hz, ← q]; exact hy)⟩
      · rcases List.mem_append.mp ho with ho | ho
        · exact hmem o ho
        · rw [List.mem_singleton.mp ho]; exact ⟨hwd, hstt⟩
      · obtain ⟨xx, yy, zz, hh⟩ := hsD
        exact ⟨xx, yy, zz, by rw [upd_ne nO.symm]; exact hh⟩
      · have := rows_new (o := (wd, stt)) new6 hO6 nO0 e3 t30
        rw [List.map_append] at this
        exact this
    · exact ⟨_, _, os, rfl, by omega, hnd, hmem, k6, hsD, new6, d6⟩
  · obtain ⟨v10, v11, os, rfl, hol, hnd, hmem, k2, hs2, hR, d2⟩ := pv
    rw [Int.toNat_natCast] at hol
    exact q H2 v10 v11 os hR d2 (by omega) hnd hmem k2 hs2
end
end
end Rs
set_option Elab.async false
set_option linter.all false
set_option maxRecDepth 100000
set_option maxHeartbeats 2000000
namespace Rs
open PySem PySem.Spec PyProof.Rows L2
local macro_rules | `(tactic| walk_at "rd") => `(tactic| simp only [L2.tRet, L2.tRetN, L2.tSeq, L2.tNext, L2.tIfS, L2.tAsg, L2.gName, L2.gNil, L2.gCons, L2.tVar, L2.tC, L2.tOp, L2.tUn, L2.tCB, L2.tCons, L2.tNil, L2.tAndV, L2.tOrV, L2.tNotV, L2.tAnd, L2.tOr, L2.tNot, L2.tB, L2.tTest, L2.tIf, L2.tChain, L2.tTup, L2.tLst, L2.tDrop, L2.tFld, L2.sFld, L2.tOst, L2.tBM, L2.rNe, L2.tMkO, L2.start, L2.cxOf, L2.Cx.nox, L2.Cx.wish, L2.rI0, L2.rI, L2.tYes, Rs.tCalW, List.getElem?_cons_zero, List.getElem?_cons_succ, Option.some.injEq, exists_eq_left', exists_eq_left, exists_and_left, List.cons.injEq, and_true, true_and, L2.V.bl.injEq, L2.V.int.injEq, L2.V.str.injEq, L2.V.ref.injEq, List.set_cons_zero, List.set_cons_succ, List.map_cons, List.map_nil, List.length_cons, List.length_nil, List.replicate, List.cons_append, List.nil_append, List.append_nil, Nat.reduceSub, Nat.reduceAdd])
local macro_rules | `(tactic| walk_at "dn") => `(tactic| dsimp only [L2.tCons, L2.tC, L2.tNil])
section
variable {P : Program} {w : World} {K : PySem.W.Frag} {mg : PySem.Str → Option Value} {base : Heap}
def startNames : List PySem.Str := ["new", "open", "shut", "yes", "main"]
theorem startNames_ok : ∀ x ∈ startNames, isName (.str x) = true := by decide +kernel
structure PlanAt (H : Hp) (t : Addr) (name st : PySem.Str) (ends : List PySem.Str) (mv : List Mv) (eA dA : Addr) : Prop where
  tup : H t = some (.tup [.str name, .str st, .ref eA, .ref dA])
  ends : H eA = some (.lst (ends.map V.str))
  mvs : LMoves H dA mv
def sp_sort (K : PySem.W.Frag) : Sp := fun vs H Q _ => ∃ (a M E : Addr) (name : PySem.Str) (size : Int) (meths errs : List PySem.Str), vs = [.ref a, .str name, .ref M, .ref E, .int size] ∧ Src a H ∧ H M = some (.lst (meths.map V.str)) ∧ H E = some (.lst (errs.map V.str)) ∧ M ≠ a ∧ E ≠ a ∧ meths.length ≤ 100 ∧ errs.length ≤ 100 ∧ (∀ x ∈ errs, TxOk x) ∧ 0 < size ∧ size ≤ 19 ∧
  ∀ (H' : Hp) (t eA dA : Addr) (st : PySem.Str) (sts ends : List PySem.Str) (mv : List Mv), sts[0]? = some st → (sts.length : Int) ≤ size → sts.Nodup → (∀ x ∈ sts, isName (.str x) = true) → ends.Nodup → (∀ x ∈ ends, x ∈ sts) → PlanOk sts meths (ans2 ++ errs) mv → SameX a H H' → Src a H' →
    New H H' (fun X => PlanAt X t name st ends mv eA dA) → Q (.ref t) H'
section
variable {a M E S d : Addr} {name : PySem.Str} {size : Int} {v7 v8 v9 v10 v11 v12 : Option V} {H : Hp} {D : Ends} {sts words errs meths : List PySem.Str}
/-- one state and one method -/
def rSn (K : PySem.W.Frag) : TS := tSeq (tAsg (tLst tNil) (gName 9)) (tSeq (rSo K) (tIfS (tTest (tOp (rI0 fun i j => V.bl (decide (i > j))) (tCalW (sp_next K) W0 (tCons (tVar 0) (tCons (tC (V.int 6)) tNil))) (tC (V.int 0)))) (sDPut (tVar 6) (tTup (tCons (tVar 7) (tCons (tVar 8) tNil))) (tVar 9)) tNext))
theorem LMoves.put {H0 H : Hp} {d p : Addr} {mv : List Mv} {k : PySem.Str × PySem.Str} {os : Outs} (h : New H0 H fun X => LMoves X d mv) (hp : New H0 H fun X => RowsAt X p os) (nd0 : H0 d = none) (nd : ((putM mv k os).map (·.1)).Nodup) :
    ∃ kvs, H d = some (.dT kvs) ∧ kvs.length = mv.length ∧ New H0 (upd H d (.dT (putK kvs [Sum.inr k.1, Sum.inr k.2] (.ref p)))) fun X => LMoves X d (putM mv k os) := by
  obtain ⟨kvs, h1, h2, h3⟩ := h.here
  refine ⟨kvs, h1, (Paired.length h2).symm, fun H'' kk => ?_⟩
  have hd := kk d _ nd0 upd_same
  have pres : ∀ c u, H0 c = none → H c = some u → (upd H'' d (.dT kvs)) c = some u := fun c u n e => by
    by_cases z : c = d
    · subst z; rw [h1] at e; cases e; exact upd_same
    · rw [upd_ne z]; exact kk c u n (by rw [upd_ne z]; exact e)
  obtain ⟨kvs', g1, g2, g3⟩ := h _ pres
  rw [upd_same] at g1
  cases Option.some.inj g1
  have back : ∀ {p : Addr} {os : Outs}, RowsAt (upd H'' d (.dT kvs)) p os → RowsAt H'' p os := fun {p os} ⟨bs, z1, z2⟩ => by
    have np : p ≠ d := fun e => by subst e; rw [upd_same] at z1; cases z1
    refine ⟨bs, by rw [upd_ne np] at z1; exact z1, Paired.imp z2 fun o b z => ?_⟩
    have nb : b ≠ d := fun e => by subst e; rw [TupAt, upd_same] at z; cases z
    rw [TupAt, upd_ne nb] at z
    exact z
  exact ⟨_, hd, putM_pair ⟨rfl, p, rfl, back (hp _ pres)⟩ (Paired.imp g2 fun _ _ ⟨z1, p, z2, z3⟩ => ⟨z1, p, z2, back z3⟩), nd⟩
theorem stSn {s m : PySem.Str} {mv : List Mv} (ha : Src a H) (hS : H S = some (.lst (sts.map V.str))) (hE : H E = some (.lst (errs.map V.str))) (nS : S ≠ a) (nE : E ≠ a) (hs0 : sts ≠ []) (hsl : sts.length ≤ 100) (hel : errs.length ≤ 100) (hst : ∀ x ∈ sts, TxOk x) (her : ∀ x ∈ errs, TxOk x)
    {H0 : Hp} (d0 : Dm H0 H) (a0 : ∃ u, H0 a = some u) (nd0 : H0 d = none) (hd : New H0 H fun X => LMoves X d mv) (ok : PlanOk sts meths (ans2 ++ errs) mv) (hs : s ∈ sts) (hm : m ∈ meths) (hz : mv.length ≤ 20000)
    (q : ∀ H' v9 v10 v11 mv', mv'.length ≤ mv.length + 1 → (∀ c u, c ≠ a → c ≠ d → H c = some u → H' c = some u) → Src a H' → Dm H0 H' → New H0 H' (fun X => LMoves X d mv') → PlanOk sts meths (ans2 ++ errs) mv' → D.nx (sgS a M E name size (some (.ref S)) (some (.ref d)) (some (.str s)) (some (.str m)) v9 v10 v11 v12) H') :
    rSn K D (sgS a M E name size (some (.ref S)) (some (.ref d)) (some (.str s)) (some (.str m)) v9 v10 v11 v12) H := by
  have line : sizeLine = 16777216 := sizeLine_eq
  obtain ⟨x, y, z, ha'⟩ := id ha
  refine ⟨Nat.zero_le _, fun O hO => ?_⟩
  have s1 := Same.new (o := .lst []) hO
  obtain ⟨u0, ha0⟩ := a0
  refine stSo (K := K) (sts := sts) (errs := errs) (O := O) (H0 := H0) (ha.new hO) (s1 _ _ hS) (s1 _ _ hE) nS nE upd_same (ne_of_none ha' hO).symm (ne_of_none hS hO).symm (ne_of_none hE hO).symm hs0 hsl hel hst her (d0.trans Dm.upd) ⟨u0, ha0⟩ (d0 O hO) fun H2 v10 v11 os hR d2 hol hnd hmem k2 hs2 => ?_
  have sx : SameX a H H2 := fun c u n e => k2 c u n (ne_of_none e hO) (s1 _ _ e)
  have hd2 := hd.toX ha0 sx
  obtain ⟨x2, y2, z2, ha2⟩ := id hs2
  refine ⟨_, rfl, a, x2, y2, z2, 6, rfl, ha2, by decide, by decide, fun r o ho r1 r2 => ⟨_, _, rfl, rfl, _, rfl, ?_⟩⟩
  have sx3 := sx.upd (o := o)
  have sx23 : SameX a H2 (L2.upd H2 a o) := SameX.self
  have hs3 : Src a (L2.upd H2 a o) := Src.upd ho
  generalize L2.upd H2 a o = H3 at sx3 hs3 sx23
  have hd3 := hd2.toX ha0 sx23
  have hR3 := hR.toX ha0 sx23
  have d3 := d2.trans (Dm.srcX sx23 hs3)
  refine ite2 (fun e => ?_) (fun e => ?_)
  · refine ⟨_, rfl, _, rfl, _, rfl, _, rfl, by show 2 ≤ sizeLine; omega, fun t ht => ?_⟩
    have s4 := Same.new (o := .tup [.str s, .str m]) ht
    have hs4 := hs3.new (o := .tup [.str s, .str m]) ht
    have hd4 := hd3.to (H' := L2.upd H3 t (.tup [.str s, .str m])) fun c u _ e => s4 c u e
    have hR4 := hR3.to (H' := L2.upd H3 t (.tup [.str s, .str m])) fun c u _ e => s4 c u e
    have d4 := d3.trans (Dm.same s4)
    have e4 : (L2.upd H3 t (.tup [.str s, .str m])) t = some (.tup [.str s, .str m]) := upd_same
    have sx4 := sx3.trans (SameX.of s4)
    generalize L2.upd H3 t (.tup [.str s, .str m]) = H4 at s4 hs4 hd4 hR4 e4 sx4 d4
    have ok' := ok.put hs hm hol hnd hmem
    obtain ⟨kvs, g1, g3, g2⟩ := LMoves.put (k := (s, m)) hd4 hR4 nd0 ok'.nd
    refine ⟨d, _, rfl, DPut.t (k := [Sum.inr s, Sum.inr m]) g1 e4 (by omega), ?_⟩
    obtain ⟨xx, yy, zz, hh⟩ := id hs4
    refine q _ _ _ _ (putM mv (s, m) os) ?_ (fun c u n1 n2 e => by rw [upd_ne n2]; exact sx4 c u n1 e) ⟨xx, yy, zz, by rw [upd_ne (ne_of hh g1 (by intro q; cases q))]; exact hh⟩ (d4.trans Dm.upd) g2 ok'
    unfold putM
    split <;> simp
  · exact q _ _ _ _ mv (Nat.le_succ _) (fun c u n1 n2 e => sx3 c u n1 e) hs3 d3 hd3 ok
end
theorem ok_sort (T : Txt K mg) : Cal P w K mg base 4 "_law_sort" ["_law_well", "_law_name", "_law_methods", "_law_errors", "_law_size"] (sp_sort K) := by
  have c_law_draw := ok_draw (P := P) (w := w) (base := base) T
  have c_law_pick := ok_pick (P := P) (w := w) (base := base) T
  have c_law_words := ok_words (P := P) (w := w) (base := base) T
  obtain ⟨fd, F⟩ := T.d_l_sort
  refine cal_of F T.g_law_sort (F.bindsN fun _ _ _ _ _ _ us hl => match us, hl with | [_, _, _, _, _], _ => rfl) ?_
  refine F.ok sc_l_sort (fun vs H Q E h => ?_) (fun cdv A outer s H vs Q E hr h => ?_)
  · obtain ⟨a, M, Er, name, size, meths, errs, rfl, _⟩ := h
    rfl
  · have hu := hu_of hr
    have hu65 : (A.deeper (envOfC "_law_sort" (defScope s_l_sort) s.heap.objs.size (He.ga K "_law_sort") cdv)).units + 65 < cLine := by have := hr.un; omega
    refine ⟨_, PSs.nox (pss_cons (ps_set (i := 5) sc_l_sort.nd rfl (Or.inl rfl) (pe_cal c_law_words (hr.mono (by decide)) takes0 (pa_cons (pv 0) (pa_cons (pe_op op_add pe_int (pe_cal c_law_draw (hr.mono (by decide)) takes0 (pa_cons (pv 0) (pa_cons (pv 4) pa_nil)))) (pa_cons (pe_lst (pa_cons pe_str (pa_cons pe_str (pa_cons pe_str (pa_cons pe_str (pa_cons pe_str pa_nil)))))) pa_nil)))))
      (pss_cons (ps_set (i := 6) sc_l_sort.nd rfl (Or.inl rfl) pe_dnewT)
      (pss_cons (ps_for PassesOwn.never rfl (pi_list (pv 5)) (pg_name (i := 7) sc_l_sort.nd rfl (Or.inl rfl))
      (pss_one (ps_for PassesOwn.never rfl (pi_list (pv 2)) (pg_name (i := 8) sc_l_sort.nd rfl (Or.inl rfl))
      (pss_cons (ps_set (i := 9) sc_l_sort.nd rfl (Or.inl rfl) (pe_lst pa_nil))
      (pss_cons (ps_for PassesOwn.never rfl (pi_range1 rfl T.b_range (pa_cons (pe_cal c_law_pick (hr.mono (by decide)) takes0 (pa_cons (pv 0) (pa_cons (pe_lst (pa_cons pe_int (pa_cons pe_int (pa_cons pe_int (pa_cons pe_int (pa_cons pe_int (pa_cons pe_int (pa_cons pe_int (pa_cons pe_int pa_nil))))))))) pa_nil))) pa_nil)) (pg_name (i := 10) sc_l_sort.nd rfl (Or.inl rfl))
      (pss_cons (ps_set (i := 11) sc_l_sort.nd rfl (Or.inl rfl) (pe_tup (pa_cons (pe_cal c_law_pick (hr.mono (by decide)) takes0 (pa_cons (pv 0) (pa_cons (pe_op op_cat (pe_lst (pa_cons pe_str (pa_cons pe_str pa_nil))) (pv 3)) pa_nil))) (pa_cons (pe_cal c_law_pick (hr.mono (by decide)) takes0 (pa_cons (pv 0) (pa_cons (pv 5) pa_nil))) pa_nil))))
      (pss_one (ps_if (pt_cmpR (r := rNotInD K) (op_notInD hu65) (pv 11) (pv 9) rfl) (pss_one (ps_expr (pe_bm PySem.F.plainAttrs_list PySem.F.slot_list_append PySem.F.type_list_append mt_append (pv 9) (pa_cons (pv 11) pa_nil)))) pss_nil))))
      (pss_one (ps_if (pt_cmpR op_gt (pe_cal c_law_draw (hr.mono (by decide)) takes0 (pa_cons (pv 0) (pa_cons pe_int pa_nil))) pe_int (nomark _)) (pss_one (ps_dput hu (pv 6) (pe_tup (pa_cons (pv 7) (pa_cons (pv 8) pa_nil))) (pv 9) rfl)) pss_nil)))))))
      (pss_cons (ps_setLc (i := 12) (own := [("_law_state", 7)]) (g := gName 7) rfl sc_l_sort.nd rfl rfl (sw_true rfl rfl rfl (by decide +kernel)) (pi_list (pv 5)) (blkOk_by (own := [("_law_state", 7)]) (N := ["_law_well", "_law_name", "_law_methods", "_law_errors", "_law_size", "_law_states", "_law_moves", "_law_state", "_law_method", "_law_outcomes", "_law_k", "_law_one", "_law_ends"]) (sc := defScope s_l_sort) (by decide +kernel)) (fun _ _ _ _ _ => (pg_name (i := 7) sc_l_sort.nd rfl (by first | exact Or.inl rfl | exact Or.inr rfl))) (fun _ _ _ _ _ => (pts_one (pt_cmpR op_gt (pe_cal c_law_draw (hr.mono (by decide)) takes0 (pa_cons (pv 0) (pa_cons pe_int pa_nil))) pe_int (nomark _)))) (fun _ _ _ _ _ => (pv 7)))
      (pss_one (ps_ret (pe_tup (pa_cons (pv 1) (pa_cons (pe_ix (r := rIxL K) ix_list (pv 5) pe_int (fun _ _ => rfl)) (pa_cons (pv 12) (pa_cons (pv 6) pa_nil))))))))))), ?_⟩
    obtain ⟨a, M, Er, name, size, meths, errs, rfl, ha, hM, hE, nM, nE, hml, hel, her, hz0, hz1, q⟩ := h
    have line : sizeLine = 16777216 := sizeLine_eq
    obtain ⟨x, y, z, ha'⟩ := id ha
    refine ⟨_, rfl, _, rfl, _, rfl, a, x, y, z, size, rfl, ha', hz0, log_small (by omega), fun r o ho r1 r2 => ⟨_, _, rfl, rfl, by show 5 ≤ sizeLine; omega, fun p hp => ?_⟩⟩
    have sx1 : SameX a H (L2.upd H a o) := SameX.self
    have hs1 : Src a (L2.upd H a o) := Src.upd ho
    generalize L2.upd H a o = H1 at sx1 hs1 hp
    have s2 := Same.new (o := .lst [V.str "new", V.str "open", V.str "shut", V.str "yes", V.str "main"]) hp
    obtain ⟨x1, y1, z1, ha1⟩ := id hs1
    have e1 : (1 + r) = (((1 + r).toNat : Nat) : Int) := by omega
    walk_at "dn"
    refine ⟨a, p, (1 + r).toNat, startNames, by rw [← e1], ⟨x1, y1, z1, s2 _ _ ha1⟩, upd_same, ne_of_none ha1 hp, by decide, by decide, startNames_ok, by omega, fun H3 S sts hsl hsn hst sx3 hs3 hS0 hS => ?_⟩
    have sx13 : SameX a H H3 := sx1.trans ((SameX.of s2).trans sx3)
    have nS : S ≠ a := fun z => by subst z; rw [s2 _ _ ha1] at hS0; cases hS0
    have hSH : H S = none := by
      cases e : H S with
      | none => rfl
      | some u => rw [s2 _ _ (sx1 _ _ nS e)] at hS0; cases hS0
    have hM3 := sx13 _ _ nM hM
    have hE3 := sx13 _ _ nE hE
    have htx : ∀ x ∈ sts, TxOk x := fun x hx => tx_ok (name_iff.mp (hst x hx)).2.2
    have hs0 : sts ≠ [] := by intro z; rw [z] at hsl; simp at hsl; omega
    intro d hd
    have s4 := Same.new (o := .dT []) hd
    have hs4 := hs3.new (o := .dT []) hd
    obtain ⟨x3, y3, z3, ha3⟩ := id hs3
    have nda : d ≠ a := (ne_of_none ha3 hd).symm
    have hdH : H d = none := by
      cases e : H d with
      | none => rfl
      | some u => rw [sx13 _ _ nda e] at hd; cases hd
    have hd4 : New H (L2.upd H3 d (.dT [])) fun X => LMoves X d [] := fun H'' k => ⟨[], k d _ hdH upd_same, .nil, List.nodup_nil⟩
    have d4 : Dm H (L2.upd H3 d (.dT [])) := (Dm.srcX sx13 hs3).trans Dm.upd
    have sx4 := sx13.trans (SameX.of s4)
    have hM4 := s4 _ _ hM3
    have hE4 := s4 _ _ hE3
    have hS4 := s4 _ _ hS
    generalize L2.upd H3 d (.dT []) = H4 at s4 hs4 hd4 sx4 hM4 hE4 hS4 d4
    have okn : PlanOk sts meths (ans2 ++ errs) [] := ⟨(fun m hm => by cases hm), (fun m hm => by cases hm), (fun m hm => by cases hm), List.nodup_nil⟩
    have ndM : M ≠ d := ne_of_none hM3 hd
    have ndE : Er ≠ d := ne_of_none hE3 hd
    have ndS : S ≠ d := ne_of_none hS hd
    refine ⟨_, rfl, S, rfl, ⟨_, SqL.of hS4⟩, for_it walk_lm (fun i σ H' => ∃ v7 v8 v9 v10 v11 v12 mv, σ = sgS a M Er name size (some (.ref S)) (some (.ref d)) v7 v8 v9 v10 v11 v12 ∧ mv.length ≤ i * 100 ∧ (∀ c u, c ≠ a → c ≠ d → H4 c = some u → H' c = some u) ∧ Src a H' ∧ Dm H H' ∧ New H H' (fun X => LMoves X d mv) ∧ PlanOk sts meths (ans2 ++ errs) mv) ⟨_, _, _, _, _, _, [], rfl, Nat.zero_le _, fun c u _ _ e => e, hs4, d4, hd4, okn⟩
      (fun i σ H' _ pv => by obtain ⟨_, _, _, _, _, _, _, _, _, k, _⟩ := pv; exact SqL.of (k _ _ nS ndS hS4)) (fun i yv σ H5 H6 hi pv yy => ?_) (fun σ H5 pv => ?_)⟩
    · obtain ⟨v7, v8, v9, v10, v11, v12, mv, rfl, hml5, k5, hs5, d5, hd5, ok5⟩ := pv
      obtain ⟨rfl, hy⟩ := yy
      obtain ⟨st, rfl, hstm⟩ := txt_of hy
      refine ⟨_, rfl, M, rfl, ⟨_, SqL.of (k5 _ _ nM ndM hM4)⟩, for_it walk_lm (fun j σ H' => ∃ v8 v9 v10 v11 v12 mv', σ = sgS a M Er name size (some (.ref S)) (some (.ref d)) (some (.str st)) v8 v9 v10 v11 v12 ∧ mv'.length ≤ mv.length + j ∧ (∀ c u, c ≠ a → c ≠ d → H4 c = some u → H' c = some u) ∧ Src a H' ∧ Dm H H' ∧ New H H' (fun X => LMoves X d mv') ∧ PlanOk sts meths (ans2 ++ errs) mv') ⟨_, _, _, _, _, mv, rfl, Nat.le_refl _, k5, hs5, d5, hd5, ok5⟩
        (fun i σ H' _ pv => by obtain ⟨_, _, _, _, _, _, _, _, k, _⟩ := pv; exact SqL.of (k _ _ nM ndM hM4)) (fun j yv σ H7 H8 hj pv yy => ?_) (fun σ H7 pv => ?_)⟩
      · obtain ⟨v8, v9, v10, v11, v12, mv', rfl, hml7, k7, hs7, d7, hd7, ok7⟩ := pv
        obtain ⟨rfl, hy⟩ := yy
        obtain ⟨m, rfl, hmm⟩ := txt_of hy
        refine stSn (K := K) (sts := sts) (errs := errs) (meths := meths) hs7 (k7 _ _ nS ndS hS4) (k7 _ _ nE ndE hE4) nS nE hs0 (by omega) hel htx her d7 ⟨_, ha'⟩ hdH hd7 ok7 hstm hmm ?_ fun H9 v9 v10 v11 mv9 l9 k9 hs9 d9 hd9 ok9 => ?_
        · have : i ≤ 20 := by omega
          omega
        · exact ⟨_, _, _, _, _, mv9, rfl, by omega, fun c u n1 n2 e => k9 c u n1 n2 (k7 c u n1 n2 e), hs9, d9, hd9, ok9⟩
      · obtain ⟨v8, v9, v10, v11, v12, mv', rfl, hml7, k7, hs7, d7, hd7, ok7⟩ := pv
        exact ⟨_, _, _, _, _, _, mv', rfl, by omega, k7, hs7, d7, hd7, ok7⟩
    · obtain ⟨v7, v8, v9, v10, v11, v12, mv, rfl, hml5, k5, hs5, d5, hd5, ok5⟩ := pv
      have hS5 := k5 _ _ nS ndS hS4
      refine ⟨_, rfl, S, rfl, ⟨_, SqL.of hS5⟩, fun L hL => ?_⟩
      obtain ⟨x5, y5, z5, ha5⟩ := id hs5
      have nLa : a ≠ L := ne_of_none ha5 hL
      refine lc_it walk_lm (fun i H' => SameX a H5 H' ∧ Src a H' ∧ ∃ es : List PySem.Str, H' L = some (.lst (es.map V.str)) ∧ es.Sublist (sts.take i)) ⟨SameX.of (Same.new hL), hs5.new hL, [], upd_same, List.nil_sublist _⟩ (fun i H' _ pv => SqL.of (pv.1 _ _ nS hS5)) (fun i yv H6 H7 hi pv yy => ?_) (fun H6 pv => ?_)
      · obtain ⟨sx6, ⟨x6, y6, z6, ha6⟩, es, hL6, hsub⟩ := pv
        obtain ⟨rfl, hy⟩ := yy
        obtain ⟨st, hst1⟩ : ∃ st, sts[i]? = some st := ⟨_, List.getElem?_eq_getElem hi⟩
        rw [List.getElem?_map, hst1] at hy
        cases Option.some.inj hy
        refine ⟨rfl, _, rfl, a, x6, y6, z6, 4, rfl, ha6, by decide, by decide, fun r o ho r1 r2 => ⟨_, _, rfl, rfl, _, rfl, ?_⟩⟩
        have sx7 := sx6.upd (o := o)
        have hs7 : Src a (L2.upd H7 a o) := Src.upd ho
        have hL7 : (L2.upd H7 a o) L = some (.lst (es.map V.str)) := by rw [upd_ne nLa.symm]; exact hL6
        generalize L2.upd H7 a o = H8 at sx7 hs7 hL7
        have hel2 := hsub.length_le
        rw [List.length_take] at hel2
        refine ite2 (fun e => ?_) (fun e => ?_)
        · refine ⟨.str st, rfl, _, hL7, by rw [List.length_map]; omega, fun c u n e => ?_, ?_, es ++ [st], by rw [upd_same, List.map_append] <;> rfl, ?_⟩
          · rw [upd_ne (ne_of_none e hL)]
            exact sx7 c u n e
          · obtain ⟨xx, yy, zz, hh⟩ := hs7
            exact ⟨xx, yy, zz, by rw [upd_ne nLa]; exact hh⟩
          · rw [take_next hst1]
            exact hsub.append (List.Sublist.refl _)
        · refine ⟨sx7, hs7, es, hL7, ?_⟩
          rw [take_next hst1]
          exact hsub.trans (List.sublist_append_left _ _)
      · obtain ⟨sx6, hs6, es, hL6, hsub⟩ := pv
        rw [List.take_length] at hsub
        obtain ⟨st, hst1⟩ : ∃ st, sts[0]? = some st := ⟨_, List.getElem?_eq_getElem (List.length_pos_iff.mpr hs0)⟩
        refine ⟨_, rfl, _, rfl, S, _, 0, .str st, rfl, rfl, SqL.of (sx6 _ _ nS hS5), atI_nat (j := 0) (by rw [List.getElem?_map, hst1] <;> rfl), _, rfl, _, rfl, by show 4 ≤ sizeLine; omega, fun t ht => ?_⟩
        have s7 := Same.new (o := .tup [.str name, .str st, .ref L, .ref d]) ht
        have nta : t ≠ a := fun z => by
          obtain ⟨_, _, _, hh⟩ := hs6
          subst z; rw [hh] at ht; cases ht
        have sxE : SameX a H H5 := fun c u n e => k5 c u n (ne_of_none e hdH) (sx4 c u n e)
        have fr : ∀ {c : Addr}, c ≠ a → H5 c = none → H c = none := fun {c} n e => by
          cases z : H c with
          | none => rfl
          | some u => rw [sxE c u n z] at e; cases e
        have ht5 : H5 t = none := by
          cases z : H5 t with
          | none => rfl
          | some u => rw [sx6 t u nta z] at ht; cases ht
        have hL0 : H L = none := fr nLa.symm hL
        have ht0 : H t = none := fr nta ht5
        refine q _ t L d st sts es mv hst1 (by omega) hsn hst (hsn.sublist hsub) (fun x hx => hsub.subset hx) ok5 ((sxE.trans sx6).trans (SameX.of s7)) (hs6.same s7) fun H'' k => ⟨k t _ ht0 upd_same, k L _ hL0 (s7 _ _ hL6), ?_⟩
        exact ((hd5.toX ha' sx6).to fun c u _ e => s7 c u e) H'' k
end
end Rs
set_option Elab.async false
set_option linter.all false
set_option maxRecDepth 100000
set_option maxHeartbeats 2000000
namespace Rs
open PySem PySem.Spec PyProof.Rows L2
local macro_rules | `(tactic| walk_at "rd") => `(tactic| simp only [L2.tRet, L2.tRetN, L2.tSeq, L2.tNext, L2.tIfS, L2.tAsg, L2.gName, L2.gNil, L2.gCons, L2.tVar, L2.tC, L2.tOp, L2.tUn, L2.tCB, L2.tCons, L2.tNil, L2.tAndV, L2.tOrV, L2.tNotV, L2.tAnd, L2.tOr, L2.tNot, L2.tB, L2.tTest, L2.tIf, L2.tChain, L2.tTup, L2.tLst, L2.tDrop, L2.tFld, L2.sFld, L2.tOst, L2.tBM, L2.rNe, L2.tMkO, L2.start, L2.cxOf, L2.Cx.nox, L2.Cx.wish, L2.rI0, L2.rI, L2.tYes, Rs.tCalW, List.getElem?_cons_zero, List.getElem?_cons_succ, Option.some.injEq, exists_eq_left', exists_eq_left, exists_and_left, List.cons.injEq, and_true, true_and, L2.V.bl.injEq, L2.V.int.injEq, L2.V.str.injEq, L2.V.ref.injEq, List.set_cons_zero, List.set_cons_succ, List.map_cons, List.map_nil, List.length_cons, List.length_nil, List.replicate, List.cons_append, List.nil_append, List.append_nil, Nat.reduceSub, Nat.reduceAdd])
local macro_rules | `(tactic| walk_at "dn") => `(tactic| dsimp only [L2.tCons, L2.tC, L2.tNil])
section
variable {P : Program} {w : World} {K : PySem.W.Frag} {mg : PySem.Str → Option Value} {base : Heap}
theorem cutV_take (xs : List V) (n : Nat) : cutV xs none (some (n : Int)) = xs.take n := by
  unfold cutV
  rw [HT.sIx_nat, HT.sIx_none, List.drop_zero, Nat.sub_zero]
  by_cases h : n ≤ xs.length
  · rw [Nat.min_eq_left h]
  · rw [Nat.min_eq_right (by omega), List.take_length, List.take_of_length_le (by omega)]
theorem cutV_drop (xs : List V) (n : Nat) : cutV xs (some (n : Int)) none = xs.drop n := by
  unfold cutV
  rw [HT.sIx_nat, HT.sIx_none]
  by_cases h : n ≤ xs.length
  · rw [Nat.min_eq_left h, List.take_of_length_le (by rw [List.length_drop]; exact Nat.le_refl _)]
  · rw [Nat.min_eq_right (by omega), List.drop_length, List.drop_of_length_le (by omega), List.take_nil]
/-! ### the drawn kinds -/
structure Pl where
  name : PySem.Str
  st : PySem.Str
  sts : List PySem.Str
  ends : List PySem.Str
  mv : List Mv
structure PlOk (size : Int) (meths errs : List PySem.Str) (p : Pl) : Prop where
  name : isName (.str p.name) = true
  st : p.sts[0]? = some p.st
  few : (p.sts.length : Int) ≤ size
  nd : p.sts.Nodup
  names : ∀ x ∈ p.sts, isName (.str x) = true
  endsN : p.ends.Nodup
  endsS : ∀ x ∈ p.ends, x ∈ p.sts
  mvs : PlanOk p.sts meths (ans2 ++ errs) p.mv
def PlT (H : Hp) (p : Pl) (t : Addr) : Prop := ∃ eA dA, PlanAt H t p.name p.st p.ends p.mv eA dA
theorem txts_ne {a p : Addr} {H : Hp} {ss : List PySem.Str} (ha : Src a H) (hp : H p = some (.lst (ss.map V.str))) : p ≠ a := by
  obtain ⟨x, y, z, ha⟩ := ha
  rintro rfl
  rw [hp] at ha
  have := HO.lst.inj (Option.some.inj ha)
  cases ss with
  | nil => cases this
  | cons b bs => cases (List.cons.inj this).1
theorem tup_ne {a p : Addr} {H : Hp} {xs : List V} (ha : Src a H) (hp : H p = some (.tup xs)) : p ≠ a := by
  obtain ⟨x, y, z, ha⟩ := ha
  exact ne_of hp ha (by intro q; cases q)
theorem PlanAt.keep {a t eA dA : Addr} {H H' : Hp} {name st : PySem.Str} {ends : List PySem.Str} {mv : List Mv} (ha : Src a H) (s : SameX a H H') (h : PlanAt H t name st ends mv eA dA) : PlanAt H' t name st ends mv eA dA :=
  ⟨s _ _ (tup_ne ha h.tup) h.tup, s _ _ (txts_ne ha h.ends) h.ends, h.mvs.keep ha s⟩
theorem PlT.keep {a t : Addr} {H H' : Hp} {p : Pl} (ha : Src a H) (s : SameX a H H') (h : PlT H p t) : PlT H' p t := let ⟨eA, dA, h⟩ := h; ⟨eA, dA, h.keep ha s⟩
def kindNames : List PySem.Str := ["file", "lock", "main", "a", "exit"]
def methNames : List PySem.Str := ["read", "call", "no", "ab"]
def twoMeths : List PySem.Str := ["enter", "exit"]
def fiveErrs : List PySem.Str := ["E", "GUARD", "LOST", "EE", "ZZZZZZZZ"]
theorem kindNames_ok : ∀ x ∈ kindNames, isName (.str x) = true := by decide +kernel
theorem methNames_ok : ∀ x ∈ methNames, isName (.str x) = true := by decide +kernel
theorem twoMeths_ok : ∀ x ∈ twoMeths, isName (.str x) = true := by decide +kernel
theorem fiveErrs_ok : ∀ x ∈ fiveErrs, isWord (.str x) = true ∧ TxOk x ∧ x.length ≤ 8 := by decide +kernel
structure SortsAt (H : Hp) (t : Addr) (ps : List Pl) (meths errs : List PySem.Str) (kL mL eL : Addr) (ts : List Addr) : Prop where
  tup : H t = some (.tup [.ref kL, .ref mL, .ref eL])
  kinds : H kL = some (.lst (ts.map V.ref))
  pls : Paired (PlT H) ps ts
  meths : H mL = some (.lst (meths.map V.str))
  errs : H eL = some (.lst (errs.map V.str))
structure DrawnOk (meths errs : List PySem.Str) : Prop where
  mn : ∀ x ∈ meths, isName (.str x) = true
  ml : meths.length ≤ 4
  m1 : meths ≠ []
  en : ∀ x ∈ errs, x ∈ fiveErrs
  el : errs.length ≤ 2
def sp_sorts (K : PySem.W.Frag) : Sp := fun vs H Q _ => ∃ (a : Addr) (many : Nat) (size : Int), vs = [.ref a, .int many, .int size] ∧ Src a H ∧ many ≤ 20 ∧ 0 < size ∧ size ≤ 19 ∧
  ∀ (H' : Hp) (t kL mL eL : Addr) (ts : List Addr) (ps : List Pl) (meths errs : List PySem.Str), ps.length = many → (ps.map (·.name)).Nodup → (∀ p ∈ ps, PlOk size meths errs p) → DrawnOk meths errs → SameX a H H' → Src a H' → SortsAt H' t ps meths errs kL mL eL ts → Q (.ref t) H'
theorem ok_sorts (T : Txt K mg) : Cal P w K mg base 5 "_law_sorts" ["_law_well", "_law_many", "_law_size"] (sp_sorts K) := by
  have c_law_draw := ok_draw (P := P) (w := w) (base := base) T
  have c_law_words := ok_words (P := P) (w := w) (base := base) T
  have c_law_sort := ok_sort (P := P) (w := w) (base := base) T
  obtain ⟨fd, F⟩ := T.d_l_sorts
  refine cal_of F T.g_law_sorts (F.bindsN fun _ _ _ _ _ _ us hl => match us, hl with | [_, _, _], _ => rfl) ?_
  refine F.ok sc_l_sorts (fun vs H Q E h => ?_) (fun cdv A outer s H vs Q E hr h => ?_)
  · obtain ⟨a, many, size, rfl, _⟩ := h
    rfl
  · refine ⟨_, PSs.nox (pss_cons (ps_set (i := 3) sc_l_sorts.nd rfl (Or.inl rfl) (pe_cal c_law_words (hr.mono (by decide)) takes0 (pa_cons (pv 0) (pa_cons (pv 1) (pa_cons (pe_lst (pa_cons pe_str (pa_cons pe_str (pa_cons pe_str (pa_cons pe_str (pa_cons pe_str pa_nil)))))) pa_nil)))))
      (pss_cons (ps_set (i := 4) sc_l_sorts.nd rfl (Or.inr rfl) (pe_cal c_law_words (hr.mono (by decide)) takes0 (pa_cons (pv 0) (pa_cons (pe_op op_add pe_int (pe_cal c_law_draw (hr.mono (by decide)) takes0 (pa_cons (pv 0) (pa_cons pe_int pa_nil)))) (pa_cons (pe_lst (pa_cons pe_str (pa_cons pe_str (pa_cons pe_str (pa_cons pe_str pa_nil))))) pa_nil)))))
      (pss_cons (ps_set (i := 4) sc_l_sorts.nd rfl (Or.inr rfl) (pe_op op_cat (pv 4) (pe_lst (pa_cons pe_str (pa_cons pe_str pa_nil)))))
      (pss_cons (ps_set (i := 5) sc_l_sorts.nd rfl (Or.inr rfl) (pe_slice (r := rSlL K) sl_list (pe_slice (r := rSlL K) sl_list (pe_lst (pa_cons pe_str (pa_cons pe_str (pa_cons pe_str (pa_cons pe_str (pa_cons pe_str pa_nil)))))) (po_some (pe_cal c_law_draw (hr.mono (by decide)) takes0 (pa_cons (pv 0) (pa_cons pe_int pa_nil)))) po_none) po_none (po_some pe_int)))
      (pss_cons (ps_setLc (i := 7) (own := [("_law_name", 6)]) (g := gName 6) (tt := tYes) rfl sc_l_sorts.nd rfl rfl (sw_true rfl rfl rfl (by decide +kernel)) (pi_list (pv 3)) (blkOk_by (own := [("_law_name", 6)]) (N := ["_law_well", "_law_many", "_law_size", "_law_names", "_law_methods", "_law_errors", "_law_name", "_law_kinds"]) (sc := defScope s_l_sorts) (by decide +kernel)) (fun _ _ _ _ _ => (pg_name (i := 6) sc_l_sorts.nd rfl (by first | exact Or.inl rfl | exact Or.inr rfl))) (fun _ _ _ _ _ => pts_nil) (fun _ _ _ _ _ => (pe_cal c_law_sort (hr.mono (by decide)) takes0 (pa_cons (pv 0) (pa_cons (pv 6) (pa_cons (pv 4) (pa_cons (pv 5) (pa_cons (pv 2) pa_nil))))))))
      (pss_one (ps_ret (pe_tup (pa_cons (pv 7) (pa_cons (pv 4) (pa_cons (pv 5) pa_nil))))))))))), ?_⟩
    obtain ⟨a, many, size, rfl, ha, hmany, hz0, hz1, q⟩ := h
    have line : sizeLine = 16777216 := sizeLine_eq
    obtain ⟨x, y, z, ha'⟩ := id ha
    -- the names
    refine ⟨_, rfl, _, rfl, by show 5 ≤ sizeLine; omega, fun p1 hp1 => ?_⟩
    walk_at "dn"
    have s1 := Same.new (o := .lst (kindNames.map V.str)) hp1
    refine ⟨a, p1, many, kindNames, rfl, ha.same s1, upd_same, ne_of_none ha' hp1, by decide, by decide, kindNames_ok, hmany, fun H2 nL names hnl hnd hnn sx2 hs2 _ hnL => ?_⟩
    have sx02 : SameX a H H2 := (SameX.of s1).trans sx2
    -- the methods
    obtain ⟨x2, y2, z2, ha2⟩ := id hs2
    refine ⟨_, rfl, _, rfl, a, x2, y2, z2, 2, rfl, ha2, by decide, by decide, fun r o ho r1 r2 => ⟨_, _, rfl, rfl, by show 4 ≤ sizeLine; omega, fun p3 hp3 => ?_⟩⟩
    have sx3 : SameX a H2 (L2.upd H2 a o) := SameX.self
    have hs3 : Src a (L2.upd H2 a o) := Src.upd ho
    generalize L2.upd H2 a o = H3 at sx3 hs3 hp3
    have s4 := Same.new (o := .lst (methNames.map V.str)) hp3
    obtain ⟨x3, y3, z3, ha3⟩ := id hs3
    have e1 : (1 + r) = (((1 + r).toNat : Nat) : Int) := by omega
    walk_at "dn"
    refine ⟨a, p3, (1 + r).toNat, methNames, by rw [← e1] <;> rfl, hs3.same s4, upd_same, ne_of_none ha3 hp3, by decide, by decide, methNames_ok, by omega, fun H5 mL0 ms hml hmnd hmn sx5 hs5 _ hmL0 => ?_⟩
    have sx25 : SameX a H2 H5 := sx3.trans ((SameX.of s4).trans sx5)
    refine ⟨.ref mL0, rfl, by show 2 ≤ sizeLine; omega, fun p6 hp6 => ⟨mL0, p6, _, _, rfl, rfl, Same.new hp6 _ _ hmL0, upd_same, by rw [List.length_map]; show _ + 2 ≤ _; omega, fun mL hmL => ?_⟩⟩
    have s6 := (Same.new (o := .lst [V.str "enter", V.str "exit"]) hp6).trans (Same.new (o := .lst (ms.map V.str ++ [V.str "enter", V.str "exit"])) hmL)
    have e6 : (L2.upd (L2.upd H5 p6 (.lst [V.str "enter", V.str "exit"])) mL (.lst (ms.map V.str ++ [V.str "enter", V.str "exit"]))) mL = some (.lst ((ms ++ twoMeths).map V.str)) := by rw [upd_same, List.map_append] <;> rfl
    have hs6 := hs5.same s6
    have sx26 := sx25.trans (SameX.of s6)
    generalize L2.upd (L2.upd H5 p6 (.lst [V.str "enter", V.str "exit"])) mL (.lst (ms.map V.str ++ [V.str "enter", V.str "exit"])) = H6 at s6 e6 hs6 sx26
    -- the errors
    refine ⟨by show 5 ≤ sizeLine; omega, fun p7 hp7 => ?_⟩
    have s7 := Same.new (o := .lst (fiveErrs.map V.str)) hp7
    have e7 : (L2.upd H6 p7 (.lst (fiveErrs.map V.str))) p7 = some (.lst (fiveErrs.map V.str)) := upd_same
    have hs7 := hs6.same s7
    obtain ⟨x7, y7, z7, ha7⟩ := id hs7
    have n7 : p7 ≠ a := txts_ne hs7 e7
    have sx27 := sx26.trans (SameX.of s7)
    have eM7 := s7 _ _ e6
    generalize hH7 : L2.upd H6 p7 (.lst (fiveErrs.map V.str)) = H7 at s7 e7 hs7 ha7 sx27 eM7
    have hH7' : L2.upd H6 p7 (.lst [V.str "E", V.str "GUARD", V.str "LOST", V.str "EE", V.str "ZZZZZZZZ"]) = H7 := hH7
    rw [hH7']
    refine ⟨_, rfl, a, x7, y7, z7, 4, rfl, ha7, by decide, by decide, fun k o8 ho8 k1 k2 => ⟨k, rfl, p7, _, rfl, SqL.of (by rw [upd_ne n7]; exact e7), fun p9 hp9 => ?_⟩⟩
    have sx8 : SameX a H7 (L2.upd H7 a o8) := SameX.self
    have hs8 : Src a (L2.upd H7 a o8) := Src.upd ho8
    generalize L2.upd H7 a o8 = H8 at sx8 hs8 hp9
    have ek : k = ((k.toNat : Nat) : Int) := by omega
    rw [ek, cutV_drop, ← List.map_drop]
    have s9 := Same.new (o := .lst ((fiveErrs.drop k.toNat).map V.str)) hp9
    refine ⟨2, rfl, p9, _, rfl, SqL.of upd_same, fun eL heL => ?_⟩
    rw [show (2 : Int) = ((2 : Nat) : Int) from rfl, cutV_take, ← List.map_take]
    have s10 := s9.trans (Same.new (o := .lst (((fiveErrs.drop k.toNat).take 2).map V.str)) heL)
    have e10 : (L2.upd (L2.upd H8 p9 (.lst ((fiveErrs.drop k.toNat).map V.str))) eL (.lst (((fiveErrs.drop k.toNat).take 2).map V.str))) eL = some (.lst (((fiveErrs.drop k.toNat).take 2).map V.str)) := upd_same
    have hs10 := hs8.same s10
    have sx210 := sx27.trans (sx8.trans (SameX.of s10))
    have eM10 := (sx8.trans (SameX.of s10)) _ _ (txts_ne hs7 eM7) eM7
    generalize L2.upd (L2.upd H8 p9 (.lst ((fiveErrs.drop k.toNat).map V.str))) eL (.lst (((fiveErrs.drop k.toNat).take 2).map V.str)) = H10 at s10 e10 hs10 sx210 eM10
    generalize herr : (fiveErrs.drop k.toNat).take 2 = errs at e10
    have dok : DrawnOk (ms ++ twoMeths) errs := by
      refine ⟨fun x hx => ?_, ?_, ?_, fun x hx => ?_, ?_⟩
      · rcases List.mem_append.mp hx with hx | hx
        · exact hmn x hx
        · exact twoMeths_ok x hx
      · rw [List.length_append, hml]; show _ + 2 ≤ 4; omega
      · intro z
        have := congrArg List.length z
        rw [List.length_append] at this
        simp [twoMeths] at this
      · rw [← herr] at hx
        exact List.mem_of_mem_drop (List.mem_of_mem_take hx)
      · rw [← herr, List.length_take]; omega
    -- the kinds
    have hn10 := sx210 _ _ (txts_ne hs2 hnL) hnL
    refine ⟨_, rfl, nL, rfl, ⟨_, SqL.of hn10⟩, fun kL hkL => ?_⟩
    obtain ⟨x10, y10, z10, ha10⟩ := id hs10
    have nka : a ≠ kL := ne_of_none ha10 hkL
    generalize hHB : L2.upd H10 kL (.lst []) = HB
    rw [← hHB]
    refine lc_it walk_lm (fun i H' => SameX a H10 H' ∧ Src a H' ∧ Dm HB H' ∧ ∃ (ts : List Addr) (ps : List Pl), H' kL = some (.lst (ts.map V.ref)) ∧ ts.length = i ∧ Paired (fun p t => New HB H' fun X => PlT X p t) ps ts ∧ ps.map (·.name) = names.take i ∧ ∀ p ∈ ps, PlOk size (ms ++ twoMeths) errs p)
      ⟨SameX.of (Same.new hkL), hs10.new hkL, by rw [hHB]; exact Dm.refl _, [], [], upd_same, rfl, .nil, by rw [List.take_zero] <;> rfl, (fun p hp => by cases hp)⟩ (fun i H' _ pv => SqL.of (pv.1 _ _ (txts_ne hs10 hn10) hn10)) (fun i yv H11 H12 hi pv yy => ?_) (fun H11 pv => ?_)
    · obtain ⟨sx11, hs11, dB11, ts, ps, hk11, hts, hpl, hpn, hpo⟩ := pv
      obtain ⟨rfl, hy⟩ := yy
      obtain ⟨nm, hnm⟩ : ∃ nm, names[i]? = some nm := ⟨_, List.getElem?_eq_getElem hi⟩
      rw [List.getElem?_map, hnm] at hy
      cases Option.some.inj hy
      refine ⟨rfl, _, rfl, _, rfl, _, rfl, _, rfl, _, rfl, ?_⟩
      walk_at "dn"
      have eM11 := sx11 _ _ (txts_ne hs10 eM10) eM10
      have eE11 := sx11 _ _ (txts_ne hs10 e10) e10
      refine ⟨a, mL, eL, nm, size, ms ++ twoMeths, errs, rfl, hs11, eM11, eE11, txts_ne hs11 eM11, txts_ne hs11 eE11, by have := dok.ml; omega, by have := dok.el; omega, fun x hx => (fiveErrs_ok x (dok.en x hx)).2.1, hz0, hz1, fun H13 t eA dA st sts ends mv c1 c2 c3 c4 c5 c6 c7 sx13 hs13 pa => ?_⟩
      have nka' : kL ≠ a := nka.symm
      refine ⟨_, sx13 _ _ nka' hk11, by rw [List.length_map, hts]; omega, fun c u n e => ?_, ?_, (dB11.trans (Dm.srcX sx13 hs13)).trans Dm.upd, ts ++ [t], ps ++ [⟨nm, st, sts, ends, mv⟩], by rw [upd_same, List.map_append] <;> rfl, by simp [hts], ?_, ?_, fun p hp => ?_⟩
      · rw [upd_ne (ne_of_none e hkL)]
        exact sx13 _ _ n (sx11 _ _ n e)
      · obtain ⟨xx, yy, zz, hh⟩ := hs13
        exact ⟨xx, yy, zz, by rw [upd_ne nka]; exact hh⟩
      · have nk : ∀ {o : HO} {c : Addr} {u : HO}, HB c = none → H13 c = some u → (L2.upd H13 kL o) c = some u := fun {o c u} n e => by
          have : c ≠ kL := fun z => by subst z; rw [← hHB, upd_same] at n; cases n
          rw [upd_ne this]; exact e
        have aB : HB a = some (.lst [.int x10, .int y10, .int z10]) := by rw [← hHB, upd_ne nka]; exact ha10
        refine Paired.snoc (Paired.imp hpl fun p b z => ?_) ?_
        · exact (z.toX aB sx13).to fun c u n e => nk n e
        · have pa' := pa.mono dB11
          intro H'' k
          exact ⟨eA, dA, pa' H'' fun c u n e => k c u n (nk n e)⟩
      · rw [List.map_append, hpn, take_next hnm] <;> rfl
      · rcases List.mem_append.mp hp with hp | hp
        · exact hpo p hp
        · rw [List.mem_singleton.mp hp]
          exact ⟨hnn nm (List.mem_of_getElem? hnm), c1, c2, c3, c4, c5, c6, c7⟩
    · obtain ⟨sx11, hs11, _, ts, ps, hk11, hts, hpl, hpn, hpo⟩ := pv
      rw [List.take_length] at hpn
      refine ⟨_, rfl, _, rfl, _, rfl, by show 3 ≤ sizeLine; omega, fun t ht => ?_⟩
      have s12 := Same.new (o := .tup [.ref kL, .ref mL, .ref eL]) ht
      refine q _ t kL mL eL ts ps (ms ++ twoMeths) errs ?_ (by rw [hpn]; exact hnd) hpo dok ?_ (hs11.same s12) ⟨upd_same, s12 _ _ hk11, Paired.imp hpl fun _ _ z => (z.here).keep hs11 (SameX.of s12), s12 _ _ (sx11 _ _ (txts_ne hs10 eM10) eM10), s12 _ _ (sx11 _ _ (txts_ne hs10 e10) e10)⟩
      · rw [Paired.length hpl, hts, hnl]
      · exact (sx02.trans sx210).trans (sx11.trans (SameX.of s12))
end
end Rs
set_option Elab.async false
set_option linter.all false
set_option maxRecDepth 100000
set_option maxHeartbeats 2000000
namespace Rs
open PySem PySem.Spec PyProof.Rows L2
local macro_rules | `(tactic| walk_at "rd") => `(tactic| simp only [L2.tRet, L2.tRetN, L2.tSeq, L2.tNext, L2.tIfS, L2.tAsg, L2.gName, L2.gNil, L2.gCons, L2.tVar, L2.tC, L2.tOp, L2.tUn, L2.tCB, L2.tCons, L2.tNil, L2.tAndV, L2.tOrV, L2.tNotV, L2.tAnd, L2.tOr, L2.tNot, L2.tB, L2.tTest, L2.tIf, L2.tChain, L2.tTup, L2.tLst, L2.tDrop, L2.tFld, L2.sFld, L2.tOst, L2.tBM, L2.rNe, L2.tMkO, L2.start, L2.cxOf, L2.Cx.nox, L2.Cx.wish, L2.rI0, L2.rI, L2.tYes, Rs.tCalW, List.getElem?_cons_zero, List.getElem?_cons_succ, Option.some.injEq, exists_eq_left', exists_eq_left, exists_and_left, List.cons.injEq, and_true, true_and, L2.V.bl.injEq, L2.V.int.injEq, L2.V.str.injEq, L2.V.ref.injEq, List.set_cons_zero, List.set_cons_succ, List.map_cons, List.map_nil, List.length_cons, List.length_nil, List.replicate, List.cons_append, List.nil_append, List.append_nil, Nat.reduceSub, Nat.reduceAdd])
local macro_rules | `(tactic| walk_at "dn") => `(tactic| dsimp only [L2.tCons, L2.tC, L2.tNil])
section
variable {P : Program} {w : World} {K : PySem.W.Frag} {mg : PySem.Str → Option Value} {base : Heap}
/-! ### the law's own walk -/
def lOuts (mv : List Mv) (s m : PySem.Str) : Outs := (look mv (s, m)).getD []
def lledAll (mv : List Mv) (ss : List PySem.Str) (m x : PySem.Str) : List PySem.Str := ss.flatMap fun s => laters (lOuts mv s m) x
def lledOf (mv : List Mv) (ss : List PySem.Str) (m x : PySem.Str) : List PySem.Str := isort strLt (uniq (lledAll mv ss m x))
def sp_lled (K : PySem.W.Frag) : Sp := fun vs H Q _ => ∃ (d S : Addr) (mv : List Mv) (ss : List PySem.Str) (m x : PySem.Str), vs = [.ref d, .ref S, .str m, .str x] ∧ LMoves H d mv ∧ H S = some (.lst (ss.map V.str)) ∧ ss.length ≤ 100 ∧ (∀ t ∈ mv, t.2.length ≤ 3) ∧
  ∀ H' l, Same H H' → H l = none → H' l = some (.lst ((lledOf mv ss m x).map V.str)) → Q (.ref l) H'
theorem lm_look {H : Hp} {mv : List Mv} {kvs : List (List Key × V)} (hp : Paired (LMv H) mv kvs) (x y : PySem.Str) :
    match look mv (x, y) with
    | none => valV kvs [Sum.inr x, Sum.inr y] = none
    | some os => ∃ p, valV kvs [Sum.inr x, Sum.inr y] = some (.ref p) ∧ RowsAt H p os := by
  unfold look valV
  induction hp with
  | nil => exact rfl
  | @cons m kv tab kvs h1 _ ih =>
    by_cases e : m.1 = (x, y)
    · have e2 : kv.1 = [Sum.inr x, Sum.inr y] := by rw [h1.1, e]
      rw [List.find?_cons_of_pos (by simpa using e), List.find?_cons_of_pos (by simpa using e2)]
      obtain ⟨_, t, e3, h3⟩ := h1
      exact ⟨t, by rw [← e3] <;> rfl, h3⟩
    · have e2 : kv.1 ≠ [Sum.inr x, Sum.inr y] := fun z => e (key_inj (x := m.1) (y := (x, y)) (by rw [← h1.1]; exact z))
      rw [List.find?_cons_of_neg (by simpa using e), List.find?_cons_of_neg (by simpa using e2)]
      exact ih
/-- moves.get((s, m), []) -/
theorem lm_get {H : Hp} {d b e : Addr} {mv : List Mv} {s m : PySem.Str} (h : LMoves H d mv) (hb : H b = some (.tup [.str s, .str m])) (he : H e = some (.lst [])) : ∃ o p, DGet H d (.ref b) o ∧ o.getD (.ref e) = .ref p ∧ RowsAt H p (lOuts mv s m) := by
  obtain ⟨kvs, h1, h2, h3⟩ := h
  have hl := lm_look h2 s m
  unfold lOuts
  cases e1 : look mv (s, m) with
  | none =>
    rw [e1] at hl
    exact ⟨_, e, DGet.t (k := [Sum.inr s, Sum.inr m]) h1 hb, by rw [show valV kvs [Sum.inr s, Sum.inr m] = none from hl] <;> rfl, [], he, .nil⟩
  | some os =>
    rw [e1] at hl
    obtain ⟨p, z1, z2⟩ := hl
    exact ⟨_, p, DGet.t (k := [Sum.inr s, Sum.inr m]) h1 hb, by rw [z1] <;> rfl, z2⟩
theorem lOuts_len {mv : List Mv} (h : ∀ t ∈ mv, t.2.length ≤ 3) (s m : PySem.Str) : (lOuts mv s m).length ≤ 3 := by
  unfold lOuts
  cases e : look mv (s, m) with
  | none => exact Nat.zero_le _
  | some os => exact h _ (look_in e)
theorem lledAll_len {mv : List Mv} (h : ∀ t ∈ mv, t.2.length ≤ 3) (m x : PySem.Str) : ∀ ss : List PySem.Str, (lledAll mv ss m x).length ≤ 3 * ss.length
  | [] => Nat.zero_le _
  | s :: ss => by
    have h1 := lledAll_len h m x ss
    have h2 := laters_len (lOuts mv s m) x
    have h3 := lOuts_len h s m
    rw [lledAll, List.flatMap_cons, List.length_append, List.length_cons]
    show _ + (lledAll mv ss m x).length ≤ _
    omega
theorem lledAll_snoc (mv : List Mv) (ss : List PySem.Str) (s m x : PySem.Str) : lledAll mv (ss ++ [s]) m x = lledAll mv ss m x ++ laters (lOuts mv s m) x := by
  unfold lledAll
  rw [List.flatMap_append] <;> simp
theorem ok_lled (T : Txt K mg) : Cal P w K mg base 1 "_law_led" ["_law_moves", "_law_states", "_law_method", "_law_word"] (sp_lled K) := by
  obtain ⟨fd, F⟩ := T.d_l_led
  refine cal_of F T.g_law_led (F.bindsN fun _ _ _ _ _ _ us hl => match us, hl with | [_, _, _, _], _ => rfl) ?_
  refine F.ok sc_l_led (fun vs H Q E h => ?_) (fun cdv A outer s H vs Q E hr h => ?_)
  · obtain ⟨d, S, mv, ss, m, x, rfl, _⟩ := h
    rfl
  · have hu := hu_of hr
    refine ⟨_, PSs.nox (pss_cons (ps_set (i := 4) sc_l_led.nd rfl (Or.inl rfl) (pe_lst pa_nil))
      (pss_cons (ps_for PassesOwn.never rfl (pi_list (pv 1)) (pg_name (i := 5) sc_l_led.nd rfl (Or.inl rfl))
      (pss_one (ps_set (i := 4) sc_l_led.nd rfl (Or.inl rfl) (pe_op op_cat (pv 4) (pe_lc (own := [("_law_told", 6), ("_law_later", 7)]) (g := gTup K 2 (gCons (gName 6) (gCons (gName 7) (gNil)))) rfl sc_l_led.nd (pi_list (pe_dget2 hu (pv 0) (pe_tup (pa_cons (pv 5) (pa_cons (pv 2) pa_nil))) (pe_lst pa_nil) ⟨rfl, rfl, rfl, rfl⟩)) (blkOk_by (own := [("_law_told", 6), ("_law_later", 7)]) (N := ["_law_moves", "_law_states", "_law_method", "_law_word", "_law_found", "_law_state", "_law_told", "_law_later"]) (sc := defScope s_l_led) (by decide +kernel)) (fun _ _ _ _ _ => (pg_tup rfl (pgs_cons (pg_name (i := 6) sc_l_led.nd rfl (by first | exact Or.inl rfl | exact Or.inr rfl)) (pgs_cons (pg_name (i := 7) sc_l_led.nd rfl (by first | exact Or.inl rfl | exact Or.inr rfl)) pgs_nil)))) (fun _ _ _ _ _ => (pts_one (pt_cmpR op_eq (pv 6) (pv 3) (nomark _)))) (fun _ _ _ _ _ => (pv 7)))))))
      (pss_one (ps_ret (pe_callB (r := rSortSet P w) (cr_sortSet rfl) rfl T.b_sorted (by decide +kernel) (pa_cons (pe_callTy (r := rSetOfS K P w) (cr_setOfS rfl) rfl T.b_set (by decide +kernel) (pa_cons (pv 4) pa_nil)) pa_nil)))))), ?_⟩
    obtain ⟨d, S, mv, ss, m, x, rfl, hd, hS, hz, h3, q⟩ := h
    have line : sizeLine = 16777216 := sizeLine_eq
    refine ⟨Nat.zero_le _, fun f hf => ?_⟩
    have s1 := Same.new (o := .lst []) hf
    refine ⟨_, rfl, S, rfl, ⟨_, SqL.of (s1 _ _ hS)⟩, for_it walk_lm (fun i σ H2 => ∃ f v5 v6 v7, σ = [some (.ref d), some (.ref S), some (.str m), some (.str x), some (.ref f), v5, v6, v7] ∧ Same H H2 ∧ H f = none ∧ H2 f = some (.lst ((lledAll mv (ss.take i) m x).map V.str))) ⟨f, _, _, _, rfl, s1, hf, by rw [upd_same, List.take_zero] <;> rfl⟩
      (fun i σ H2 _ pv => by obtain ⟨_, _, _, _, _, s2, _⟩ := pv; exact SqL.of (s2 _ _ hS)) (fun i y σ H2 H3 hi pv yy => ?_) (fun σ H2 pv => ?_)⟩
    · obtain ⟨f, v5, v6, v7, rfl, s2, hf0, hf2⟩ := pv
      obtain ⟨rfl, hy⟩ := yy
      obtain ⟨st, hst⟩ : ∃ st, ss[i]? = some st := ⟨_, List.getElem?_eq_getElem hi⟩
      rw [List.getElem?_map, hst] at hy
      cases Option.some.inj hy
      obtain ⟨kvs, g1, g2, g3⟩ := id (hd.same s2)
      refine ⟨_, rfl, _, rfl, d, rfl, .inr ⟨kvs, .inl g1⟩, .str st, rfl, .str m, rfl, by show 2 ≤ sizeLine; omega, fun b hb => ⟨Nat.zero_le _, fun e he => ?_⟩⟩
      have s3 := (Same.new (o := .tup [.str st, .str m]) hb).trans (Same.new (o := .lst []) he)
      obtain ⟨o, p, dg, ep, hp⟩ := lm_get (s := st) (m := m) (hd.same (s2.trans s3)) (Same.new he _ _ upd_same) upd_same
      refine ⟨o, dg, ?_⟩
      rw [ep]
      clear dg
      generalize upd (upd H3 b (.tup [.str st, .str m])) e (.lst []) = H4 at s3 hp
      obtain ⟨bs, hp1, hp2⟩ := hp
      have hlen : (lOuts mv st m).length = bs.length := Paired.length hp2
      have hol := lOuts_len h3 st m
      refine ⟨p, rfl, ⟨_, SqL.of hp1⟩, fun D hD => lc_it walk_lm (fun j H5 => Same H4 H5 ∧ H5 D = some (.lst ((laters ((lOuts mv st m).take j) x).map V.str))) ⟨Same.new hD, by rw [upd_same, List.take_zero] <;> rfl⟩ (fun j H5 _ z => SqL.of (z.1 _ _ hp1)) (fun j y H5 H6 hj pv yy => ?_) (fun H5 pv => ?_)⟩
      · obtain ⟨s5, hD5⟩ := pv
        obtain ⟨rfl, hy⟩ := yy
        obtain ⟨b', hb'⟩ : ∃ b', bs[j]? = some b' := ⟨_, List.getElem?_eq_getElem hj⟩
        rw [List.getElem?_map, hb'] at hy
        cases Option.some.inj hy
        obtain ⟨o, eo, hr⟩ := Paired.at hp2 hb'
        refine ⟨b', [.str o.1, .str o.2], rfl, SqT.of (s5 _ _ hr), rfl, _, _, rfl, _, _, rfl, rfl, rfl, _, rfl, _, rfl, rfl, _, rfl, ?_⟩
        have hl2 := laters_len ((lOuts mv st m).take j) x
        rw [List.length_take] at hl2
        refine ite2 (fun e => ?_) (fun e => ?_)
        · have e1 : o.1 = x := by simpa using e
          refine ⟨.str o.2, rfl, _, hD5, by rw [List.length_map]; omega, same_upd s5 hD, ?_⟩
          rw [upd_same, take_next eo, laters_snoc, if_pos e1, List.map_append] <;> rfl
        · have e1 : ¬ o.1 = x := by simpa using e
          refine ⟨s5, ?_⟩
          rw [take_next eo, laters_snoc, if_neg e1, List.append_nil]
          exact hD5
      · obtain ⟨s5, hD5⟩ := pv
        rw [← hlen, List.take_length] at hD5
        have hl := lledAll_len h3 m x (ss.take i)
        have hl2 := laters_len (lOuts mv st m) x
        rw [List.length_take] at hl
        refine ⟨f, D, _, _, rfl, rfl, s5 _ _ (s3 _ _ hf2), hD5, by rw [List.length_map, List.length_map]; omega, fun g hg => ?_⟩
        have s6 : Same H3 H5 := s3.trans s5
        refine ⟨g, _, _, _, rfl, (s2.trans s6).trans (Same.new hg), (s2.trans s6).free hg, ?_⟩
        rw [upd_same, take_next hst, lledAll_snoc, List.map_append]
    · obtain ⟨f, v5, v6, v7, rfl, s2, hf0, hf2⟩ := pv
      rw [List.take_length] at hf2
      have hl := lledAll_len h3 m x ss
      refine ⟨_, rfl, f, _, rfl, SqL.of hf2, by show _ < 4096; omega, fun g hg => ⟨g, _, rfl, upd_same, fun l hl => ?_⟩⟩
      have s3 := s2.trans (Same.new (o := SetSO P w g (uniq (lledAll mv ss m x))) hg)
      exact q _ l (s3.trans (Same.new hl)) (s3.free hl) upd_same
end
end Rs
set_option Elab.async false
set_option linter.all false
set_option maxRecDepth 100000
set_option maxHeartbeats 2000000
namespace Rs
open PySem PySem.Spec PyProof.Rows L2
local macro_rules | `(tactic| walk_at "rd") => `(tactic| simp only [L2.tRet, L2.tRetN, L2.tSeq, L2.tNext, L2.tIfS, L2.tAsg, L2.gName, L2.gNil, L2.gCons, L2.tVar, L2.tC, L2.tOp, L2.tUn, L2.tCB, L2.tCons, L2.tNil, L2.tAndV, L2.tOrV, L2.tNotV, L2.tAnd, L2.tOr, L2.tNot, L2.tB, L2.tTest, L2.tIf, L2.tChain, L2.tTup, L2.tLst, L2.tDrop, L2.tFld, L2.sFld, L2.tOst, L2.tBM, L2.rNe, L2.tMkO, L2.start, L2.cxOf, L2.Cx.nox, L2.Cx.wish, L2.rI0, L2.rI, L2.tYes, Rs.tCalW, List.getElem?_cons_zero, List.getElem?_cons_succ, Option.some.injEq, exists_eq_left', exists_eq_left, exists_and_left, List.cons.injEq, and_true, true_and, L2.V.bl.injEq, L2.V.int.injEq, L2.V.str.injEq, L2.V.ref.injEq, List.set_cons_zero, List.set_cons_succ, List.map_cons, List.map_nil, List.length_cons, List.length_nil, List.replicate, List.cons_append, List.nil_append, List.append_nil, Nat.reduceSub, Nat.reduceAdd])
local macro_rules | `(tactic| walk_at "dn") => `(tactic| dsimp only [L2.tCons, L2.tC, L2.tNil])
section
variable {P : Program} {w : World} {K : PySem.W.Frag} {mg : PySem.Str → Option Value} {base : Heap}
def lafterOf (mv : List Mv) (st : PySem.Str) (hs : Hist) : List PySem.Str := hs.foldl (fun ss c => lledOf mv ss c.1 c.2) [st]
theorem lafter_snoc (mv : List Mv) (st : PySem.Str) (hs : Hist) (c : PySem.Str × PySem.Str) : lafterOf mv st (hs ++ [c]) = lledOf mv (lafterOf mv st hs) c.1 c.2 := by
  unfold lafterOf
  rw [List.foldl_append] <;> rfl
theorem lled_in {mv : List Mv} {ss : List PySem.Str} {m x y : PySem.Str} (h : y ∈ lledOf mv ss m x) : ∃ t ∈ mv, ∃ o ∈ t.2, o.2 = y := by
  unfold lledOf at h
  rw [mem_isort, mem_uniq] at h
  unfold lledAll at h
  obtain ⟨s, _, h⟩ := List.mem_flatMap.mp h
  unfold laters at h
  obtain ⟨o, ho, e⟩ := List.mem_map.mp h
  have ho := (List.mem_filter.mp ho).1
  unfold lOuts at ho
  cases e2 : look mv (s, m) with
  | none => rw [e2] at ho; cases ho
  | some os => rw [e2] at ho; exact ⟨_, look_in e2, o, ho, e⟩
theorem lafter_in {mv : List Mv} {st : PySem.Str} {sts : List PySem.Str} (h : ∀ t ∈ mv, ∀ o ∈ t.2, o.2 ∈ sts) (h0 : st ∈ sts) (hs : Hist) : (lafterOf mv st hs).Nodup ∧ ∀ y ∈ lafterOf mv st hs, y ∈ sts := by
  rcases list_snoc hs with rfl | ⟨m, c, rfl⟩
  · refine ⟨by simp [lafterOf], fun y hy => ?_⟩
    have : y = st := by simpa [lafterOf] using hy
    rw [this]; exact h0
  · rw [lafter_snoc]
    refine ⟨nodup_isort.mpr (nodup_uniq _), fun y hy => ?_⟩
    obtain ⟨t, ht, o, ho, e⟩ := lled_in hy
    rw [← e]; exact h t ht o ho
def allOuts (mv : List Mv) (ss : List PySem.Str) (m : PySem.Str) : Outs := ss.flatMap fun s => lOuts mv s m
theorem allOuts_len {mv : List Mv} (h : ∀ t ∈ mv, t.2.length ≤ 3) (m : PySem.Str) : ∀ ss : List PySem.Str, (allOuts mv ss m).length ≤ 3 * ss.length
  | [] => Nat.zero_le _
  | s :: ss => by
    have h1 := allOuts_len h m ss
    have h3 := lOuts_len h s m
    rw [allOuts, List.flatMap_cons, List.length_append, List.length_cons]
    show _ + (allOuts mv ss m).length ≤ _
    omega
theorem allOuts_snoc (mv : List Mv) (ss : List PySem.Str) (s m : PySem.Str) : allOuts mv (ss ++ [s]) m = allOuts mv ss m ++ lOuts mv s m := by
  unfold allOuts
  rw [List.flatMap_append] <;> simp
theorem lOuts_in {mv : List Mv} {s m : PySem.Str} {o : PySem.Str × PySem.Str} (h : o ∈ lOuts mv s m) : ∃ t ∈ mv, o ∈ t.2 := by
  unfold lOuts at h
  cases e2 : look mv (s, m) with
  | none => rw [e2] at h; cases h
  | some os => rw [e2] at h; exact ⟨_, look_in e2, h⟩
theorem allOuts_in {mv : List Mv} {ss : List PySem.Str} {m : PySem.Str} {o : PySem.Str × PySem.Str} (h : o ∈ allOuts mv ss m) : ∃ t ∈ mv, o ∈ t.2 := by
  obtain ⟨s, _, h⟩ := List.mem_flatMap.mp h
  exact lOuts_in h
section
variable {a d M W f S : Addr} {st m : PySem.Str} {v7 v9 v10 v11 : Option V} {H : Hp} {D : Ends} {mv : List Mv} {ss : List PySem.Str}
abbrev sgH (a d M W f S : Addr) (st : PySem.Str) (v7 v8 v9 v10 v11 : Option V) : L2.St := [some (.ref a), some (.str st), some (.ref d), some (.ref M), some (.ref W), some (.ref f), some (.ref S), v7, v8, v9, v10, v11]
def rHs (K : PySem.W.Frag) : TS := tFor (iList K (tVar 6)) (gName 11) (tAsg (tOp rCat (tVar 10) (tDGet2 (tVar 2) (tTup (tCons (tVar 11) (tCons (tVar 8) tNil))) (tLst tNil))) (gName 10))
theorem RowsAt.same {H H' : Hp} {p : Addr} {os : Outs} (s : Same H H') (h : RowsAt H p os) : RowsAt H' p os := let ⟨bs, h1, h2⟩ := h; ⟨bs, s _ _ h1, Paired.imp h2 fun _ _ z => s _ _ z⟩
theorem Paired.app {α β : Type} {R : α → β → Prop} : ∀ {l l' : List α} {m m' : List β}, Paired R l m → Paired R l' m' → Paired R (l ++ l') (m ++ m')
  | _, _, _, _, .nil, h => h
  | _, _, _, _, .cons a b, h => .cons a (Paired.app b h)
theorem stHs {g : Addr} (hd : LMoves H d mv) (hS : H S = some (.lst (ss.map V.str))) (hz : ss.length ≤ 100) (h3 : ∀ t ∈ mv, t.2.length ≤ 3) (hg : H g = some (.lst []))
    (q : ∀ H' g v11, Same H H' → RowsAt H' g (allOuts mv ss m) → D.nx (sgH a d M W f S st v7 (some (.str m)) v9 (some (.ref g)) v11) H') :
    rHs K D (sgH a d M W f S st v7 (some (.str m)) v9 (some (.ref g)) v11) H := by
  have line : sizeLine = 16777216 := sizeLine_eq
  refine ⟨_, rfl, S, rfl, ⟨_, SqL.of hS⟩, for_it walk_lm (fun i σ H2 => ∃ g v11, σ = sgH a d M W f S st v7 (some (.str m)) v9 (some (.ref g)) v11 ∧ Same H H2 ∧ RowsAt H2 g (allOuts mv (ss.take i) m)) ⟨g, _, rfl, Same.refl _, [], hg, by rw [List.take_zero]; exact .nil⟩
    (fun i σ H2 _ pv => by obtain ⟨_, _, _, s2, _⟩ := pv; exact SqL.of (s2 _ _ hS)) (fun i y σ H2 H3 hi pv yy => ?_) (fun σ H2 pv => ?_)⟩
  · obtain ⟨g, v11, rfl, s2, hg2⟩ := pv
    obtain ⟨rfl, hy⟩ := yy
    obtain ⟨sx, hsx⟩ : ∃ sx, ss[i]? = some sx := ⟨_, List.getElem?_eq_getElem hi⟩
    rw [List.getElem?_map, hsx] at hy
    cases Option.some.inj hy
    obtain ⟨kvs, g1, g2, g3⟩ := id (hd.same s2)
    refine ⟨_, rfl, _, rfl, d, rfl, .inr ⟨kvs, .inl g1⟩, .str sx, rfl, .str m, rfl, by show 2 ≤ sizeLine; omega, fun b hb => ⟨Nat.zero_le _, fun e he => ?_⟩⟩
    have s3 := (Same.new (o := .tup [.str sx, .str m]) hb).trans (Same.new (o := .lst []) he)
    obtain ⟨o, p, dg, ep, hp⟩ := lm_get (s := sx) (m := m) (hd.same (s2.trans s3)) (Same.new he _ _ upd_same) upd_same
    refine ⟨o, dg, ?_⟩
    rw [ep]
    clear dg
    have hg3 := hg2.same s3
    generalize upd (upd H3 b (.tup [.str sx, .str m])) e (.lst []) = H4 at s3 hp hg3
    obtain ⟨bs, b1, b2⟩ := hp
    obtain ⟨cs, c1, c2⟩ := hg3
    have hl := allOuts_len h3 m (ss.take i)
    have hl2 := lOuts_len h3 sx m
    rw [List.length_take] at hl
    have e1 := Paired.length b2
    have e2 := Paired.length c2
    refine ⟨g, p, _, _, rfl, rfl, c1, b1, by rw [List.length_map, List.length_map]; omega, fun g' hg' => ?_⟩
    have s5 := Same.new (o := .lst (cs.map V.ref ++ bs.map V.ref)) hg'
    refine ⟨g', _, rfl, (s2.trans s3).trans s5, cs ++ bs, by rw [upd_same, List.map_append], ?_⟩
    rw [take_next hsx, allOuts_snoc]
    exact Paired.app (Paired.imp c2 fun _ _ z => s5 _ _ z) (Paired.imp b2 fun _ _ z => s5 _ _ z)
  · obtain ⟨g, v11, rfl, s2, hg2⟩ := pv
    rw [List.take_length] at hg2
    exact q H2 g v11 s2 hg2
def rHi (K : PySem.W.Frag) : TS := tIfS (tAnd (tTest (tOp (rNeD K) (tVar 10) (tLst tNil))) (tTest (tOp (rI0 fun i j => V.bl (decide (j < i))) (tCalW (sp_next K) W0 (tCons (tVar 0) (tCons (tC (V.int 5)) tNil))) (tC (V.int 0))))) (tAsg (tOp (rIxT K) (tCalW (sp_one K) W0 (tCons (tVar 0) (tCons (tVar 10) tNil))) (tC (V.int 0))) (gName 9)) tNext
theorem ne_nil_pr (os : Outs) : (!PyData.eqv (.list (os.map dPr)) (.list [])) = decide (os ≠ []) := by
  cases os with
  | nil => rfl
  | cons x ss => rfl
theorem stHi {g : Addr} {os : Outs} {x : PySem.Str} {v8 : Option V} {words : List PySem.Str} (ha : Src a H) (hg : RowsAt H g os) (hos : ∀ o ∈ os, TxOk o.1 ∧ TxOk o.2) (hl : os.length ≤ 4000) (hw : ∀ o ∈ os, o.1 ∈ words) (hx : x ∈ words)
    (q : ∀ H' x, x ∈ words → SameX a H H' → Src a H' → D.nx (sgH a d M W f S st v7 v8 (some (.str x)) (some (.ref g)) v11) H') :
    rHi K D (sgH a d M W f S st v7 v8 (some (.str x)) (some (.ref g)) v11) H := by
  obtain ⟨bs, b1, b2⟩ := id hg
  refine ⟨_, rfl, Nat.zero_le _, fun e he => ?_⟩
  have s1 := Same.new (o := .lst []) he
  refine ⟨.list (os.map dPr), .list [], .lst (SqL.of (s1 _ _ b1)) (dp_prs (Paired.imp b2 fun _ _ z => SqT.of (s1 _ _ z))), .lst (SqL.of upd_same) .nil, shaped_lpr hos, rfl, _, rfl, ?_⟩
  rw [ne_nil_pr]
  have hs1 := ha.new (o := .lst []) he
  have hg1 := hg.same s1
  generalize L2.upd H e (.lst []) = H1 at s1 hs1 hg1
  refine ite2 (fun e => ?_) (fun e => q H1 x hx (SameX.of s1) hs1)
  have hne : os ≠ [] := of_decide_eq_true e
  obtain ⟨x1, y1, z1, ha1⟩ := id hs1
  refine ⟨_, rfl, a, x1, y1, z1, 5, rfl, ha1, by decide, by decide, fun r o ho r1 r2 => ⟨_, _, rfl, rfl, _, rfl, ?_⟩⟩
  have sx2 : SameX a H1 (L2.upd H1 a o) := SameX.self
  have hs2 : Src a (L2.upd H1 a o) := Src.upd ho
  generalize L2.upd H1 a o = H2 at sx2 hs2
  have hg2 := hg1.keep hs1 sx2
  refine ite2 (fun e => ?_) (fun e => q H2 x hx ((SameX.of s1).trans sx2) hs2)
  obtain ⟨x2, y2, z2, ha2⟩ := id hs2
  obtain ⟨cs, c1, c2⟩ := id hg2
  have el := Paired.length c2
  refine ⟨_, rfl, _, rfl, a, g, x2, y2, z2, _, rfl, ha2, c1, (rows_ne hs2 c1).symm, ?_, by rw [List.length_map]; omega, fun i v o hv ho => ?_⟩
  · intro z
    have := congrArg List.length z
    simp at this
    cases os with
    | nil => exact hne rfl
    | cons _ _ => simp [this] at el
  · rw [List.getElem?_map] at hv
    cases ec : cs[i]? with
    | none => rw [ec] at hv; cases hv
    | some c =>
      rw [ec] at hv
      cases Option.some.inj hv
      obtain ⟨oo, eo, ht⟩ := Paired.at c2 ec
      have nc : c ≠ a := tup_ne hs2 ht
      refine ⟨c, _, 0, .str oo.1, rfl, rfl, SqT.of (by rw [upd_ne nc]; exact ht), rfl, ?_⟩
      exact q _ oo.1 (hw oo (List.mem_of_getElem? eo)) (((SameX.of s1).trans sx2).upd) (Src.upd ho)
end
def zz : List PySem.Str := ["zz"]
def sp_hist (K : PySem.W.Frag) : Sp := fun vs H Q _ => ∃ (a d M W : Addr) (st : PySem.Str) (mv : List Mv) (meths words sts : List PySem.Str), vs = [.ref a, .str st, .ref d, .ref M, .ref W] ∧ Src a H ∧ LMoves H d mv ∧ H M = some (.lst (meths.map V.str)) ∧ H W = some (.lst (words.map V.str)) ∧ meths.length ≤ 100 ∧ words.length ≤ 100 ∧ words ≠ [] ∧
  (∀ t ∈ mv, t.2.length ≤ 3) ∧ (∀ x ∈ words, TxOk x) ∧ (∀ t ∈ mv, ∀ o ∈ t.2, o.1 ∈ words ∧ o.2 ∈ sts) ∧ (∀ x ∈ sts, TxOk x) ∧ sts.length ≤ 100 ∧ st ∈ sts ∧
  ∀ (H' : Hp) (t f S : Addr) (hs : Hist), hs.length ≤ 8 → (∀ c ∈ hs, c.1 ∈ meths ++ zz ∧ c.2 ∈ words) → SameX a H H' → Src a H' → H' t = some (.tup [.ref f, .ref S]) → RowsAt H' f hs → H' S = some (.lst ((lafterOf mv st hs).map V.str)) → Q (.ref t) H'
theorem ok_hist (T : Txt K mg) : Cal P w K mg base 3 "_law_history" ["_law_well", "_law_start", "_law_moves", "_law_methods", "_law_words_here"] (sp_hist K) := by
  have c_law_draw := ok_draw (P := P) (w := w) (base := base) T
  have c_law_pick := ok_pick (P := P) (w := w) (base := base) T
  have c_law_led := ok_lled (P := P) (w := w) (base := base) T
  obtain ⟨fd, F⟩ := T.d_l_history
  refine cal_of F T.g_law_history (F.bindsN fun _ _ _ _ _ _ us hl => match us, hl with | [_, _, _, _, _], _ => rfl) ?_
  refine F.ok sc_l_history (fun vs H Q E h => ?_) (fun cdv A outer s H vs Q E hr h => ?_)
  · obtain ⟨a, d, M, W, st, mv, meths, words, sts, rfl, _⟩ := h
    rfl
  · have hu := hu_of hr
    have hu64 := hr.units
    refine ⟨_, PSs.nox (pss_cons (ps_par rfl sc_l_history.nd (i := 5) (j := 6) rfl rfl (by decide) rfl rfl (pa_cons (pe_lst pa_nil) (pa_cons (pe_lst (pa_cons (pv 1) pa_nil)) pa_nil)) (by rfl))
      (pss_cons (ps_for PassesOwn.never rfl (pi_range1 rfl T.b_range (pa_cons (pe_cal c_law_draw (hr.mono (by decide)) takes0 (pa_cons (pv 0) (pa_cons pe_int pa_nil))) pa_nil)) (pg_name (i := 7) sc_l_history.nd rfl (Or.inl rfl))
      (pss_cons (ps_par rfl sc_l_history.nd (i := 8) (j := 9) rfl rfl (by decide) rfl rfl (pa_cons (pe_cal c_law_pick (hr.mono (by decide)) takes0 (pa_cons (pv 0) (pa_cons (pe_op op_cat (pv 3) (pe_lst (pa_cons pe_str pa_nil))) pa_nil))) (pa_cons (pe_cal c_law_pick (hr.mono (by decide)) takes0 (pa_cons (pv 0) (pa_cons (pv 4) pa_nil))) pa_nil)) (by rfl))
      (pss_cons (ps_set (i := 10) sc_l_history.nd rfl (Or.inl rfl) (pe_lst pa_nil))
      (pss_cons (ps_for PassesOwn.never rfl (pi_list (pv 6)) (pg_name (i := 11) sc_l_history.nd rfl (Or.inl rfl))
      (pss_one (ps_set (i := 10) sc_l_history.nd rfl (Or.inl rfl) (pe_op op_cat (pv 10) (pe_dget2 hu (pv 2) (pe_tup (pa_cons (pv 11) (pa_cons (pv 8) pa_nil))) (pe_lst pa_nil) ⟨rfl, rfl, rfl, rfl⟩)))))
      (pss_cons (ps_if (PW.pt (pw_and (pt_cmpR (r := rNeD K) (op_neD hu64) (pv 10) (pe_lst pa_nil) (nomark _)) (pw_and1 (pt_cmpR op_gt (pe_cal c_law_draw (hr.mono (by decide)) takes0 (pa_cons (pv 0) (pa_cons pe_int pa_nil))) pe_int (nomark _))))) (pss_one (ps_set (i := 9) sc_l_history.nd rfl (Or.inl rfl) (pe_ix (r := rIxT K) ix_tup (pe_cal c_law_pick (hr.mono (by decide)) takes0 (pa_cons (pv 0) (pa_cons (pv 10) pa_nil))) pe_int (fun _ _ => rfl)))) pss_nil)
      (pss_cons (ps_expr (pe_bm PySem.F.plainAttrs_list PySem.F.slot_list_append PySem.F.type_list_append mt_append (pv 5) (pa_cons (pe_tup (pa_cons (pv 8) (pa_cons (pv 9) pa_nil))) pa_nil)))
      (pss_one (ps_set (i := 6) sc_l_history.nd rfl (Or.inl rfl) (pe_cal c_law_led (hr.mono (by decide)) takes0 (pa_cons (pv 2) (pa_cons (pv 6) (pa_cons (pv 8) (pa_cons (pv 9) pa_nil)))))))))))))
      (pss_one (ps_ret (pe_tup (pa_cons (pv 5) (pa_cons (pv 6) pa_nil))))))), ?_⟩
    obtain ⟨a, d, M, W, st, mv, meths, words, sts, rfl, ha, hd, hM, hW, hml, hwl, hw0, h3, hwt, hmv, hst, hsl, hs0, q⟩ := h
    have line : sizeLine = 16777216 := sizeLine_eq
    obtain ⟨x, y, z, ha'⟩ := id ha
    refine ⟨Nat.zero_le _, fun f hf => ⟨_, rfl, by show 1 ≤ sizeLine; omega, fun S hS => ⟨_, _, rfl, ?_⟩⟩⟩
    have s1 := (Same.new (o := .lst []) hf).trans (Same.new (o := .lst [.str st]) hS)
    have e1 : (L2.upd (L2.upd H f (.lst [])) S (.lst [.str st])) S = some (.lst ((lafterOf mv st []).map V.str)) := upd_same
    have f1 : (L2.upd (L2.upd H f (.lst [])) S (.lst [.str st])) f = some (.lst []) := Same.new hS _ _ upd_same
    have hS0 : H S = none := (Same.new (o := .lst []) hf).free hS
    generalize L2.upd (L2.upd H f (.lst [])) S (.lst [.str st]) = H1 at s1 e1 f1
    have nfa : f ≠ a := (ne_of_none ha' hf).symm
    refine ⟨_, rfl, a, x, y, z, 9, rfl, s1 _ _ ha', by decide, by decide, fun r o ho r1 r2 => ⟨_, rfl, by omega, by omega, ?_⟩⟩
    have sx2 : SameX a H (L2.upd H1 a o) := (SameX.of s1).upd
    have hs2 : Src a (L2.upd H1 a o) := Src.upd ho
    have nSa : S ≠ a := (ne_of_none ha' hS0).symm
    have e2 : (L2.upd H1 a o) S = some (.lst ((lafterOf mv st []).map V.str)) := by rw [upd_ne nSa]; exact e1
    have f2 : (L2.upd H1 a o) f = some (.lst []) := by rw [upd_ne nfa]; exact f1
    generalize L2.upd H1 a o = H2 at sx2 hs2 e2 f2
    have hmS : ∀ t ∈ mv, ∀ o ∈ t.2, o.2 ∈ sts := fun t ht o ho => (hmv t ht o ho).2
    refine for_range (lo := 0) (n := r.toNat) (fun i σ H' => ∃ S v7 v8 v9 v10 v11 hs, σ = sgH a d M W f S st v7 v8 v9 v10 v11 ∧ hs.length = i ∧ (∀ c ∈ hs, c.1 ∈ meths ++ zz ∧ c.2 ∈ words) ∧ SameX a H H' ∧ Src a H' ∧ RowsAt H' f hs ∧ H' S = some (.lst ((lafterOf mv st hs).map V.str)) ∧ S ≠ f)
      ⟨S, _, _, _, _, _, [], rfl, rfl, (fun c hc => by cases hc), sx2, hs2, ⟨[], f2, .nil⟩, e2, fun z => by subst z; rw [f2] at e2; cases e2⟩ (fun i σ H3 hi pv => ?_) (fun σ H3 pv => ?_)
    · obtain ⟨S, v7, v8, v9, v10, v11, hs, rfl, hhl, hhm, sx3, hs3, hf3, hS3, nSf⟩ := pv
      obtain ⟨x3, y3, z3, ha3⟩ := id hs3
      have hM3 := sx3 _ _ (txts_ne ha hM) hM
      have hW3 := sx3 _ _ (txts_ne ha hW) hW
      -- the method and the word
      refine ⟨_, rfl, _, rfl, by show 1 ≤ sizeLine; omega, fun t1 h1 => ⟨M, t1, _, _, rfl, rfl, Same.new h1 _ _ hM3, upd_same, by rw [List.length_map]; show _ + 1 ≤ _; omega, fun t2 h2 => ?_⟩⟩
      have sA := (Same.new (o := .lst [V.str "zz"]) h1).trans (Same.new (o := .lst (meths.map V.str ++ [V.str "zz"])) h2)
      have eA : (L2.upd (L2.upd H3 t1 (.lst [V.str "zz"])) t2 (.lst (meths.map V.str ++ [V.str "zz"]))) t2 = some (.lst ((meths ++ zz).map V.str)) := by rw [upd_same, List.map_append] <;> rfl
      have hsA := hs3.same sA
      generalize L2.upd (L2.upd H3 t1 (.lst [V.str "zz"])) t2 (.lst (meths.map V.str ++ [V.str "zz"])) = H4 at sA eA hsA
      obtain ⟨x4, y4, z4, ha4⟩ := id hsA
      refine ⟨a, t2, x4, y4, z4, _, rfl, ha4, eA, (txts_ne hsA eA).symm, by simp [zz], by rw [List.length_map, List.length_append]; show _ + 1 ≤ _; omega, fun i1 w1 o1 hw1 ho1 => ?_⟩
      obtain ⟨m, rfl, hm⟩ := txt_of hw1
      have sxB : SameX a H3 (L2.upd H4 a o1) := (SameX.of sA).upd
      have hsB : Src a (L2.upd H4 a o1) := Src.upd ho1
      generalize L2.upd H4 a o1 = H5 at sxB hsB
      have hW5 := sxB _ _ (txts_ne hs3 hW3) hW3
      obtain ⟨x5, y5, z5, ha5⟩ := id hsB
      refine ⟨_, rfl, _, rfl, a, W, x5, y5, z5, _, rfl, ha5, hW5, (txts_ne hsB hW5).symm, by simpa using hw0, by rw [List.length_map]; omega, fun i2 w2 o2 hw2 ho2 => ⟨_, _, rfl, ?_⟩⟩
      obtain ⟨wd, rfl, hwd⟩ := txt_of hw2
      have sxC : SameX a H3 (L2.upd H5 a o2) := sxB.upd
      have hsC : Src a (L2.upd H5 a o2) := Src.upd ho2
      generalize L2.upd H5 a o2 = H6 at sxC hsC
      -- what can come
      refine ⟨Nat.zero_le _, fun g hg => ?_⟩
      have s7 := Same.new (o := .lst []) hg
      have eg : (L2.upd H6 g (.lst [])) g = some (.lst []) := upd_same
      have sx7 := sxC.trans (SameX.of s7)
      have hs7 := hsC.same s7
      generalize L2.upd H6 g (.lst []) = H7 at s7 eg sx7 hs7
      obtain ⟨nd3, in3⟩ := lafter_in (mv := mv) (st := st) (sts := sts) hmS hs0 hs
      have hsl3 := nodup_le nd3 in3
      have hS7 := sx7 _ _ (txts_ne hs3 hS3) hS3
      have hd7 := hd.keep ha (sx3.trans sx7)
      refine stHs (K := K) (mv := mv) (ss := lafterOf mv st hs) hd7 hS7 (by omega) h3 eg fun H8 g v11 s8 hg8 => ?_
      have sx8 := sx7.trans (SameX.of s8)
      have hs8 := hs7.same s8
      have hal := allOuts_len h3 m (lafterOf mv st hs)
      refine stHi (K := K) (words := words) hs8 hg8 (fun o ho => ?_) (by omega) (fun o ho => ?_) hwd fun H9 wd9 hwd9 sx9 hs9 => ?_
      · obtain ⟨t, ht, ho⟩ := allOuts_in ho
        exact ⟨hwt _ (hmv t ht o ho).1, hst _ (hmv t ht o ho).2⟩
      · obtain ⟨t, ht, ho⟩ := allOuts_in ho
        exact (hmv t ht o ho).1
      · have sx39 := sx8.trans sx9
        have hf9 := hf3.keep hs3 sx39
        obtain ⟨bs, b1, b2⟩ := hf9
        have hS9 := sx39 _ _ (txts_ne hs3 hS3) hS3
        refine ⟨_, rfl, .inl ⟨rfl, _, SqL.of b1⟩, _, rfl, _, rfl, by show 2 ≤ sizeLine; omega, fun t ht => ?_⟩
        have s10 := Same.new (o := .tup [.str m, .str wd9]) ht
        have et : (L2.upd H9 t (.tup [.str m, .str wd9])) t = some (.tup [.str m, .str wd9]) := upd_same
        have sx10 := sx39.trans (SameX.of s10)
        have hs10 := hs9.same s10
        have b1' := s10 _ _ b1
        have hS10 := s10 _ _ hS9
        have b2' : Paired (TupAt (L2.upd H9 t (.tup [.str m, .str wd9]))) hs bs := Paired.imp b2 fun _ _ z => s10 _ _ z
        generalize L2.upd H9 t (.tup [.str m, .str wd9]) = H10 at s10 et sx10 hs10 b1' hS10 b2'
        have ebl := Paired.length b2'
        refine ⟨f, _, _, rfl, rfl, b1', by rw [List.length_map]; omega, ?_⟩
        have ntf : t ≠ f := ne_of et b1' (by intro q; cases q)
        have hR : RowsAt (L2.upd H10 f (.lst (bs.map V.ref ++ [.ref t]))) f (hs ++ [(m, wd9)]) := by
          refine ⟨bs ++ [t], by rw [upd_same, List.map_append] <;> rfl, Paired.snoc (Paired.imp b2' fun o b z => ?_) ?_⟩
          · show (L2.upd H10 f _) b = _
            rw [upd_ne (ne_of z b1' (by intro q; cases q))]; exact z
          · show (L2.upd H10 f _) t = _
            rw [upd_ne ntf]; exact et
        have sxF : SameX a H (L2.upd H10 f (.lst (bs.map V.ref ++ [.ref t]))) := fun c u n e => by
          rw [upd_ne (ne_of_none e hf)]
          exact sx10 _ _ n (sx3 _ _ n e)
        have hsF : Src a (L2.upd H10 f (.lst (bs.map V.ref ++ [.ref t]))) := by
          obtain ⟨xx, yy, zz, hh⟩ := hs10
          exact ⟨xx, yy, zz, by rw [upd_ne nfa.symm]; exact hh⟩
        have hSF : (L2.upd H10 f (.lst (bs.map V.ref ++ [.ref t]))) S = some (.lst ((lafterOf mv st hs).map V.str)) := by rw [upd_ne nSf]; exact hS10
        generalize L2.upd H10 f (.lst (bs.map V.ref ++ [.ref t])) = H11 at hR sxF hsF hSF
        refine ⟨_, rfl, _, rfl, _, rfl, _, rfl, ?_⟩
        walk_at "dn"
        refine ⟨d, S, mv, lafterOf mv st hs, m, wd9, rfl, hd.keep ha sxF, hSF, by omega, h3, fun H12 l s12 hl0 hl12 => ?_⟩
        refine ⟨l, _, _, _, _, _, hs ++ [(m, wd9)], rfl, by simp [hhl], fun c hc => ?_, sxF.trans (SameX.of s12), hsF.same s12, hR.same s12, by rw [lafter_snoc]; exact hl12, fun z => ?_⟩
        · rcases List.mem_append.mp hc with hc | hc
          · exact hhm c hc
          · rw [List.mem_singleton.mp hc]; exact ⟨hm, hwd9⟩
        · subst z
          obtain ⟨_, h1, _⟩ := hR
          rw [h1] at hl0; cases hl0
    · obtain ⟨S, v7, v8, v9, v10, v11, hs, rfl, hhl, hhm, sx3, hs3, hf3, hS3, nSf⟩ := pv
      refine ⟨_, rfl, _, rfl, by show 2 ≤ sizeLine; omega, fun t ht => ?_⟩
      have s4 := Same.new (o := .tup [.ref f, .ref S]) ht
      exact q _ t f S hs (by omega) hhm (sx3.trans (SameX.of s4)) (hs3.same s4) upd_same (hf3.same s4) (s4 _ _ hS3)
end
end Rs
set_option Elab.async false
set_option linter.all false
set_option maxRecDepth 100000
set_option maxHeartbeats 2000000
namespace Rs
open PySem PySem.Spec PyProof.Rows L2
local macro_rules | `(tactic| walk_at "rd") => `(tactic| simp only [L2.tRet, L2.tRetN, L2.tSeq, L2.tNext, L2.tIfS, L2.tAsg, L2.gName, L2.gNil, L2.gCons, L2.tVar, L2.tC, L2.tOp, L2.tUn, L2.tCB, L2.tCons, L2.tNil, L2.tAndV, L2.tOrV, L2.tNotV, L2.tAnd, L2.tOr, L2.tNot, L2.tB, L2.tTest, L2.tIf, L2.tChain, L2.tTup, L2.tLst, L2.tDrop, L2.tFld, L2.sFld, L2.tOst, L2.tBM, L2.rNe, L2.tMkO, L2.start, L2.cxOf, L2.Cx.nox, L2.Cx.wish, L2.rI0, L2.rI, L2.tYes, Rs.tCalW, List.getElem?_cons_zero, List.getElem?_cons_succ, Option.some.injEq, exists_eq_left', exists_eq_left, exists_and_left, List.cons.injEq, and_true, true_and, L2.V.bl.injEq, L2.V.int.injEq, L2.V.str.injEq, L2.V.ref.injEq, List.set_cons_zero, List.set_cons_succ, List.map_cons, List.map_nil, List.length_cons, List.length_nil, List.replicate, List.cons_append, List.nil_append, List.append_nil, Nat.reduceSub, Nat.reduceAdd])
local macro_rules | `(tactic| walk_at "dn") => `(tactic| dsimp only [L2.tCons, L2.tC, L2.tNil])
section
variable {P : Program} {w : World} {K : PySem.W.Frag} {mg : PySem.Str → Option Value} {base : Heap}
abbrev hisC (K : PySem.W.Frag) : Addr := He.ga K "BadHistory"
def saidV : Option Int → V
  | none => .non
  | some i => .int i
def sp_said (K : PySem.W.Frag) (f : Addr) : Sp := fun vs H Q _ => ∃ (p : Addr) (v : V) (kd : KD) (o : Option Int) (hs : Hist), vs = [.ref f, .ref p, v] ∧ KindAt K H p kd ∧ KindOk kd ∧ IsHist K H v o hs ∧ ∀ H', Same H H' → Q (saidV o) H'
theorem ok_said {y : PySem.Str} {f : Addr} {sp : Sp} (T : Txt K mg) (c : Cal P w K mg base 8 y ["kind", "history"] sp) (g : mg y = some (.ref f))
    (hsp : ∀ {p : Addr} {v : V} {kd : KD} {o : Option Int} {hs : Hist} {H : Hp} {Q : VK} {E : XK}, KindAt K H p kd → KindOk kd → IsHist K H v o hs → (match o with | none => ∀ H' l, Same H H' → Q (.ref l) H' | some i => Raised (hisC K) "index" (.int i) H E) → sp [.ref p, v] H Q E) :
    Cal P w K mg base 9 "_law_said" ["_law_ask", "_law_kind", "_law_history_here"] (sp_said K f) := by
  obtain ⟨fd, F⟩ := T.d_l_said
  refine cal_of F T.g_law_said (F.bindsN fun _ _ _ _ _ _ us hl => match us, hl with | [_, _, _], _ => rfl) ?_
  refine F.ok sc_l_said (fun vs H Q E h => ?_) (fun cdv A outer s H vs Q E hr h => ?_)
  · obtain ⟨p, v, kd, o, hs, rfl, _⟩ := h
    rfl
  · have hu := hr.units
    refine ⟨_, PSs.nox (pss_cons (ps_try_as rfl rfl sc_l_said.nd (i := 3) rfl rfl ⟨rfl, by decide, .inl T.g_RightError⟩ takes0 (fun W pn xe tk1 own1 => (pss_one (ps_expr (pe_calLW (i := 0) c g (hr.mono (by decide)) tk1 rfl (.inl rfl) (pa_cons (pv 1) (pa_cons (pv 2) pa_nil)))))) (fun ea oe cls ed pn hz hf => (pss_one (ps_ret (pe_ifExp (pt_val (pe_callB (r := rIsXd K (hisC K) ea cls ed) (call_isXd (exc_ok T.exc_BadHistory) hz hf) rfl T.b_isinstance (by decide +kernel) (pa_cons (pv 3) (pa_cons (pe_glob (v := .ref (He.ga K "BadHistory")) rfl T.g_BadHistory rfl) pa_nil)))) (pe_xf (xf_ok T.exc_BadHistory) T.no_BadHistory_index hz hf (pv 3)) pe_str)))))
      (pss_one (ps_ret pe_non))), ?_⟩
    obtain ⟨p, v, kd, o, hs, rfl, hk, ok, hh, q⟩ := h
    refine ⟨rfl, _, rfl, _, rfl, ?_⟩
    walk_at "dn"
    refine hsp hk ok hh ?_
    cases o with
    | none => exact fun H' l s => q H' s
    | some i =>
      intro H' d s' hd hx
      refine ⟨true, T.exm_BadHistory_RightError, fun _ a ha => ?_, fun z => by cases z⟩
      have xd : ∀ dd, some d = some dd → ∃ fs, H' dd = some (.xd fs) := fun dd e => ⟨_, by cases e; exact hx⟩
      refine ⟨_, rfl, rfl, .ref (He.ga K "BadHistory"), _, _, rfl, fun u r => r, T.kit_BadHistory_BadHistory, xd, _, rfl, ?_⟩
      exact ⟨_, rfl, rfl, rfl, d, _, _, rfl, hx, rfl, q H' s'⟩
end
end Rs
set_option Elab.async false
set_option linter.all false
set_option maxRecDepth 100000
set_option maxHeartbeats 2000000
namespace Rs
open PySem PySem.Spec PyProof.Rows L2
local macro_rules | `(tactic| walk_at "rd") => `(tactic| simp only [L2.tRet, L2.tRetN, L2.tSeq, L2.tNext, L2.tIfS, L2.tAsg, L2.gName, L2.gNil, L2.gCons, L2.tVar, L2.tC, L2.tOp, L2.tUn, L2.tCB, L2.tCons, L2.tNil, L2.tAndV, L2.tOrV, L2.tNotV, L2.tAnd, L2.tOr, L2.tNot, L2.tB, L2.tTest, L2.tIf, L2.tChain, L2.tTup, L2.tLst, L2.tDrop, L2.tFld, L2.sFld, L2.tOst, L2.tBM, L2.rNe, L2.tMkO, L2.start, L2.cxOf, L2.Cx.nox, L2.Cx.wish, L2.rI0, L2.rI, L2.tYes, Rs.tCalW, List.getElem?_cons_zero, List.getElem?_cons_succ, Option.some.injEq, exists_eq_left', exists_eq_left, exists_and_left, List.cons.injEq, and_true, true_and, L2.V.bl.injEq, L2.V.int.injEq, L2.V.str.injEq, L2.V.ref.injEq, List.set_cons_zero, List.set_cons_succ, List.map_cons, List.map_nil, List.length_cons, List.length_nil, List.replicate, List.cons_append, List.nil_append, List.append_nil, Nat.reduceSub, Nat.reduceAdd])
local macro_rules | `(tactic| walk_at "dn") => `(tactic| dsimp only [L2.tCons, L2.tC, L2.tNil])
section
variable {P : Program} {w : World} {K : PySem.W.Frag} {mg : PySem.Str → Option Value} {base : Heap}
/-! ### the kind of a plan -/
def kdOf (p : Pl) : KD := ⟨p.name, p.st, isort strLt p.ends, sortTab p.mv⟩
theorem look_none {mv : List Mv} {k : PySem.Str × PySem.Str} (h : k ∉ mv.map (·.1)) : look mv k = none := by
  cases e : look mv k with
  | none => rfl
  | some os => exact absurd (List.mem_map.mpr ⟨_, look_in e, rfl⟩) h
theorem look_sortTab {mv : List Mv} (nd : (mv.map (·.1)).Nodup) (k : PySem.Str × PySem.Str) : look (sortTab mv) k = (look mv k).map sortOuts := by
  by_cases h : k ∈ mv.map (·.1)
  · obtain ⟨m, hm, e⟩ := List.mem_map.mp h
    subst e
    have h1 := look_mem nd hm
    have hin : (m.1, sortOuts m.2) ∈ sortTab mv := by
      unfold sortTab
      refine List.mem_map.mpr ⟨row2 m.1, mem_isort.mpr (List.mem_map.mpr ⟨m, hm, rfl⟩), ?_⟩
      rw [un2_row2, h1] <;> rfl
    rw [h1]
    exact look_mem (m := (m.1, sortOuts m.2)) (sortTab_nodup nd) hin
  · rw [look_none h, look_none (fun z => h ((sortTab_keys mv).mem_iff.mp z))] <;> rfl
theorem mem_sortOuts {os : Outs} {o : PySem.Str × PySem.Str} : o ∈ sortOuts os ↔ o ∈ os := by
  unfold sortOuts
  rw [List.mem_map]
  constructor
  · rintro ⟨k, hk, rfl⟩
    exact (row_sorted hk).2
  · intro h
    exact ⟨row2 o, mem_isort.mpr (List.mem_map.mpr ⟨o, h, rfl⟩), un2_row2 o⟩
theorem isort_uniq {xs ys : List PySem.Str} (h : ∀ y, y ∈ xs ↔ y ∈ ys) : isort strLt (uniq xs) = isort strLt (uniq ys) := by
  refine isort_congr strLt_tot ((List.perm_ext_iff_of_nodup (nodup_uniq _) (nodup_uniq _)).mpr fun y => ?_)
  rw [mem_uniq, mem_uniq]
  exact h y
theorem led_eq {mv : List Mv} {kd : KD} (ht : kd.tab = sortTab mv) (nd : (mv.map (·.1)).Nodup) {ss : List PySem.Str} {m : PySem.Str} (hs : ∀ s ∈ ss, isName (.str s) = true) (hm : isName (.str m) = true) (x : PySem.Str) : ledOf kd ss m x = lledOf mv ss m x := by
  unfold ledOf lledOf
  refine isort_uniq fun y => ?_
  unfold ledAll lledAll
  rw [List.mem_flatMap, List.mem_flatMap]
  refine exists_congr fun s => and_congr_right fun hsm => ?_
  have e : outsOf kd s m = sortOuts (lOuts mv s m) := by
    unfold outsOf lOuts
    rw [if_pos ⟨hs s hsm, hm⟩, ht, look_sortTab nd]
    cases look mv (s, m) <;> rfl
  rw [e]
  unfold laters
  rw [List.mem_map, List.mem_map]
  refine exists_congr fun o => and_congr_left fun _ => ?_
  rw [List.mem_filter, List.mem_filter, mem_sortOuts]
theorem cnt_uniq (l : List PySem.Str) : cnt l = (uniq l).length := by
  generalize hn : l.length = n
  induction n generalizing l with
  | zero =>
    have : l = [] := List.length_eq_zero_iff.mp hn
    subst this
    rfl
  | succ n ih =>
    rcases list_snoc l with rfl | ⟨m, x, rfl⟩
    · simp at hn
    · rw [List.length_append] at hn
      have hm : m.length = n := by simpa using hn
      rw [cnt_snoc, uniq_snoc, ih m hm]
      unfold addS
      by_cases h : x ∈ m
      · rw [if_pos h, if_pos (mem_uniq.mpr h)] <;> rfl
      · rw [if_neg h, if_neg (fun z => h (mem_uniq.mp z)), List.length_append] <;> rfl
theorem prod_len (sts meths : List PySem.Str) : (sts.flatMap fun s => meths.map fun m => (s, m)).length = sts.length * meths.length := by
  induction sts with
  | nil => simp
  | cons s sts ih =>
    rw [List.flatMap_cons, List.length_append, ih, List.length_map, List.length_cons, Nat.succ_mul]
    omega
section
variable {size : Int} {meths errs : List PySem.Str} {p : Pl}
theorem ans_word {errs : List PySem.Str} (he : ∀ x ∈ errs, x ∈ fiveErrs) : ∀ x ∈ ans2 ++ errs, isWord (.str x) = true ∧ TxOk x ∧ x.length ≤ 8 := by
  intro x hx
  rcases List.mem_append.mp hx with hx | hx
  · have : ∀ x ∈ ans2, isWord (.str x) = true ∧ TxOk x ∧ x.length ≤ 8 := by decide +kernel
    exact this x hx
  · exact fiveErrs_ok x (he x hx)
theorem pl_moves (ok : PlOk size meths errs p) (dr : DrawnOk meths errs) (hz : size ≤ 19) : MovesOk p.mv := by
  have h1 : (uniq (p.mv.map (·.1.2))).length ≤ meths.length := nodup_le (nodup_uniq _) fun y hy => by
    obtain ⟨m, hm, e⟩ := List.mem_map.mp (mem_uniq.mp hy)
    rw [← e]; exact (ok.mvs.key m hm).2
  have h2 : (p.mv.map (·.1)).length ≤ (p.sts.flatMap fun s => meths.map fun m => (s, m)).length := nodup_le ok.mvs.nd fun k hk => by
    obtain ⟨m, hm, e⟩ := List.mem_map.mp hk
    obtain ⟨k1, k2⟩ := ok.mvs.key m hm
    rw [← e]
    exact List.mem_flatMap.mpr ⟨m.1.1, k1, List.mem_map.mpr ⟨m.1.2, k2, rfl⟩⟩
  rw [prod_len, List.length_map] at h2
  have hf := ok.few
  have hml := dr.ml
  refine ⟨fun m hm => ?_, fun m hm => ?_, ?_, ?_⟩
  · obtain ⟨k1, k2⟩ := ok.mvs.key m hm
    exact ⟨ok.names _ k1, dr.mn _ k2⟩
  · obtain ⟨n1, n2⟩ := ok.mvs.outs m hm
    have := ok.mvs.few m hm
    unfold outsB
    rw [Bool.and_eq_true, Bool.and_eq_true]
    refine ⟨decide_eq_true (by omega), ?_, decide_eq_true n1⟩
    rw [List.all_eq_true]
    intro o ho
    obtain ⟨a1, a2⟩ := n2 o ho
    show (isWord (.str o.1) && isName (.str o.2)) = true
    rw [(ans_word dr.en _ a1).1, ok.names _ a2] <;> rfl
  · rw [cnt_uniq]; omega
  · have : p.sts.length ≤ 19 := by omega
    have := Nat.mul_le_mul this hml
    omega
theorem pl_st (ok : PlOk size meths errs p) : p.st ∈ p.sts := List.mem_of_getElem? ok.st
theorem sortTab_in {mv : List Mv} {t : Mv} (h : t ∈ sortTab mv) : ∃ m ∈ mv, m.1 = t.1 ∧ ∀ o, o ∈ t.2 → ∃ n ∈ mv, o ∈ n.2 := by
  unfold sortTab at h
  obtain ⟨k, hk, rfl⟩ := List.mem_map.mp h
  obtain ⟨m, hm, e⟩ := List.mem_map.mp (mem_isort.mp hk)
  refine ⟨m, hm, by rw [← e, un2_row2], fun o ho => ?_⟩
  have ho : o ∈ sortOuts ((look mv (un2 k)).getD []) := ho
  rw [mem_sortOuts] at ho
  cases e2 : look mv (un2 k) with
  | none => rw [e2] at ho; cases ho
  | some os => rw [e2] at ho; exact ⟨_, look_in e2, ho⟩
theorem pl_states (ok : PlOk size meths errs p) : ∀ y ∈ statesOf (kdOf p), y ∈ p.sts := by
  intro y hy
  unfold statesOf at hy
  rcases List.mem_cons.mp hy with rfl | hy
  · exact pl_st ok
  · rcases List.mem_append.mp hy with hy | hy
    · exact ok.endsS y (mem_isort.mp hy)
    · rcases List.mem_append.mp hy with hy | hy
      · obtain ⟨t, ht, rfl⟩ := List.mem_map.mp hy
        obtain ⟨m, hm, e, _⟩ := sortTab_in ht
        rw [← e]; exact (ok.mvs.key m hm).1
      · obtain ⟨t, ht, hy⟩ := List.mem_flatMap.mp hy
        obtain ⟨o, ho, rfl⟩ := List.mem_map.mp hy
        obtain ⟨_, _, _, hh⟩ := sortTab_in ht
        obtain ⟨n, hn, ho⟩ := hh o ho
        exact ((ok.mvs.outs n hn).2 o ho).2
theorem pl_60 (ok : PlOk size meths errs p) (hz : size ≤ 19) {ys : List PySem.Str} (nd : ys.Nodup) (h : ∀ y ∈ ys, y ∈ statesOf (kdOf p)) : ys.length ≤ 60 := by
  have := nodup_le nd fun y hy => pl_states ok y (h y hy)
  have := ok.few
  omega
theorem pl_kind (ok : PlOk size meths errs p) (dr : DrawnOk meths errs) (hz : size ≤ 19) : KindOk (kdOf p) := by
  refine ⟨sortTab_few (pl_moves ok dr hz).outs, name_len (ok.names _ (pl_st ok)), fun m hm => ?_, fun t ht o ho => ?_, fun ys nd h => pl_60 ok hz nd h⟩
  · obtain ⟨t, ht, rfl⟩ := List.mem_map.mp hm
    obtain ⟨m, hm, e, _⟩ := sortTab_in ht
    rw [← e]; exact name_len (dr.mn _ (ok.mvs.key m hm).2)
  · obtain ⟨_, _, _, hh⟩ := sortTab_in ht
    obtain ⟨n, hn, ho⟩ := hh o ho
    exact ok.names _ ((ok.mvs.outs n hn).2 o ho).2
theorem pl_in (ok : PlOk size meths errs p) : ∀ t ∈ p.mv, ∀ o ∈ t.2, o.2 ∈ p.sts := fun t ht o ho => ((ok.mvs.outs t ht).2 o ho).2
theorem pl_after (ok : PlOk size meths errs p) (dr : DrawnOk meths errs) (hs : Hist) (hh : ∀ c ∈ hs, isName (.str c.1) = true) : afterOf (kdOf p) hs = lafterOf p.mv p.st hs := by
  generalize hn : hs.length = n
  induction n generalizing hs with
  | zero =>
    have : hs = [] := List.length_eq_zero_iff.mp hn
    subst this
    rfl
  | succ n ih =>
    rcases list_snoc hs with rfl | ⟨m, c, rfl⟩
    · simp at hn
    · have hm : m.length = n := by simpa using hn
      have ihm := ih m (fun c hc => hh c (List.mem_append_left _ hc)) hm
      rw [after_snoc, lafter_snoc, ihm]
      refine led_eq rfl ok.mvs.nd (fun s hs => ?_) (hh c (by simp)) _
      exact ok.names s ((lafter_in (pl_in ok) (pl_st ok) m).2 s hs)
theorem pl_has (ok : PlOk size meths errs p) {s m : PySem.Str} (hs : isName (.str s) = true) (hm : isName (.str m) = true) : hasB (kdOf p) s m = (look p.mv (s, m)).isSome := by
  unfold hasB
  rw [hs, hm, show (kdOf p).tab = sortTab p.mv from rfl, look_sortTab ok.mvs.nd]
  cases look p.mv (s, m) <;> rfl
theorem pl_meths (ok : PlOk size meths errs p) (dr : DrawnOk meths errs) : ∀ m ∈ methodsOf (kdOf p), isName (.str m) = true := by
  intro m hm
  obtain ⟨t, ht, rfl⟩ := List.mem_map.mp (mem_methodsOf.mp hm)
  obtain ⟨n, hn, e, _⟩ := sortTab_in ht
  rw [← e]
  exact dr.mn _ (ok.mvs.key n hn).2
/-- what the law lets by -/
def dueOf (p : Pl) (ss : List PySem.Str) : List PySem.Str := (methodsOf (kdOf p)).filter fun m => decide ((ss.filter fun s => !(look p.mv (s, m)).isSome) = [])
theorem pl_due (ok : PlOk size meths errs p) (dr : DrawnOk meths errs) (hs : Hist) (hh : ∀ c ∈ hs, isName (.str c.1) = true) : allowedOf (kdOf p) hs = dueOf p (lafterOf p.mv p.st hs) := by
  unfold allowedOf dueOf
  rw [pl_after ok dr hs hh]
  refine List.filter_congr fun m hm => ?_
  have hmn := pl_meths ok dr m hm
  have hin := (lafter_in (pl_in ok) (pl_st ok) hs).2
  have e : ((lafterOf p.mv p.st hs).filter fun s => !(look p.mv (s, m)).isSome) = [] ↔ ((lafterOf p.mv p.st hs).all fun s => hasB (kdOf p) s m) = true := by
    rw [List.filter_eq_nil_iff, List.all_eq_true]
    refine forall_congr' fun s => imp_congr_right fun hsm => ?_
    rw [pl_has ok (ok.names s (hin s hsm)) hmn]
    cases (look p.mv (s, m)).isSome <;> simp
  by_cases z : ((lafterOf p.mv p.st hs).filter fun s => !(look p.mv (s, m)).isSome) = []
  · rw [decide_eq_true z]; exact e.mp z
  · rw [decide_eq_false z]
    cases q : (lafterOf p.mv p.st hs).all fun s => hasB (kdOf p) s m with
    | false => rfl
    | true => exact absurd (e.mpr q) z
end
end
end Rs
set_option Elab.async false
set_option linter.all false
set_option maxRecDepth 100000
set_option maxHeartbeats 4000000
namespace Rs
open PySem PySem.Spec PyProof.Rows L2
local macro_rules | `(tactic| walk_at "rd") => `(tactic| simp only [L2.tRet, L2.tRetN, L2.tSeq, L2.tNext, L2.tIfS, L2.tAsg, L2.gName, L2.gNil, L2.gCons, L2.tVar, L2.tC, L2.tOp, L2.tUn, L2.tCB, L2.tCons, L2.tNil, L2.tAndV, L2.tOrV, L2.tNotV, L2.tAnd, L2.tOr, L2.tNot, L2.tB, L2.tTest, L2.tIf, L2.tChain, L2.tTup, L2.tLst, L2.tDrop, L2.tFld, L2.sFld, L2.tOst, L2.tBM, L2.rNe, L2.tMkO, L2.start, L2.cxOf, L2.Cx.nox, L2.Cx.wish, L2.rI0, L2.rI, L2.tYes, Rs.tCalW, List.getElem?_cons_zero, List.getElem?_cons_succ, Option.some.injEq, exists_eq_left', exists_eq_left, exists_and_left, List.cons.injEq, and_true, true_and, L2.V.bl.injEq, L2.V.int.injEq, L2.V.str.injEq, L2.V.ref.injEq, List.set_cons_zero, List.set_cons_succ, List.map_cons, List.map_nil, List.length_cons, List.length_nil, List.replicate, List.cons_append, List.nil_append, List.append_nil, Nat.reduceSub, Nat.reduceAdd])
local macro_rules | `(tactic| walk_at "dn") => `(tactic| dsimp only [L2.tCons, L2.tC, L2.tNil])
section
variable {P : Program} {w : World} {K : PySem.W.Frag} {mg : PySem.Str → Option Value} {base : Heap}
/-! ### one turn of the law -/
structure Ctx (K : PySem.W.Frag) (H : Hp) (a k mL eL dA : Addr) (p : Pl) (meths errs : List PySem.Str) : Prop where
  src : Src a H
  kind : KindAt K H k (kdOf p)
  mvs : LMoves H dA p.mv
  ms : H mL = some (.lst (meths.map V.str))
  es : H eL = some (.lst (errs.map V.str))
section
variable {a k mL eL dA f S U R : Addr} {p : Pl} {size : Int} {meths errs ss : List PySem.Str} {H : Hp} {D : Ends} {v0 v1 v3 v6 v7 v8 v11 v12 v13 v14 v15 v16 v17 v18 v19 v20 : Option V} {hs : Hist}
theorem Ctx.keep {H' : Hp} (h : Ctx K H a k mL eL dA p meths errs) (s : SameX a H H') (hs : Src a H') : Ctx K H' a k mL eL dA p meths errs := by
  obtain ⟨x, y, z, ha⟩ := id h.src
  exact ⟨hs, s.kindL ha h.kind, h.mvs.keep h.src s, s _ _ (txts_ne h.src h.ms) h.ms, s _ _ (txts_ne h.src h.es) h.es⟩
theorem Ctx.same {H' : Hp} (h : Ctx K H a k mL eL dA p meths errs) (s : Same H H') : Ctx K H' a k mL eL dA p meths errs := h.keep (SameX.of s) (h.src.same s)
abbrev sgL (v0 v1 : Option V) (a : Addr) (v3 : Option V) (mL eL : Addr) (v6 v7 v8 : Option V) (dA k : Addr) (v11 v12 v13 v14 v15 v16 v17 v18 v19 v20 : Option V) : L2.St := [v0, v1, some (.ref a), v3, some (.ref mL), some (.ref eL), v6, v7, v8, some (.ref dA), some (.ref k), v11, v12, v13, v14, v15, v16, v17, v18, v19, v20]
def yn : List PySem.Str := ["yes", "no"]
theorem yn_ok : ∀ x ∈ yn, isWord (.str x) = true ∧ TxOk x ∧ x.length ≤ 8 := by decide +kernel
theorem yn_in {x : PySem.Str} (h : x ∈ ans2 ++ errs) : x ∈ yn ++ errs := by
  rcases List.mem_append.mp h with h | h
  · refine List.mem_append_left _ ?_
    have : ∀ x ∈ ans2, x ∈ yn := by decide
    exact this x h
  · exact List.mem_append_right _ h
theorem wd_ok (dr : DrawnOk meths errs) {x : PySem.Str} (h : x ∈ yn ++ errs) : isWord (.str x) = true ∧ TxOk x ∧ x.length ≤ 8 := by
  rcases List.mem_append.mp h with h | h
  · exact yn_ok x h
  · exact fiveErrs_ok x (dr.en x h)
structure HistOk (hs : Hist) : Prop where
  len : hs.length ≤ 8
  nm : ∀ c ∈ hs, isName (.str c.1) = true
  wd : ∀ c ∈ hs, isWord (.str c.2) = true ∧ TxOk c.2 ∧ c.2.length ≤ 8
def b1 (K : PySem.W.Frag) : TS := tAsg (tCalW (sp_hist K) W0 (tCons (tVar 2) (tCons (tVar 7) (tCons (tVar 9) (tCons (tVar 4) (tCons (tOp rCat (tLst (tCons (tC (V.str "yes")) (tCons (tC (V.str "no")) tNil))) (tVar 5)) tNil)))))) (gTup K 2 (gCons (gName 12) (gCons (gName 13) gNil)))
theorem sb1 (c : Ctx K H a k mL eL dA p meths errs) (ok : PlOk size meths errs p) (dr : DrawnOk meths errs) (hz : size ≤ 19)
    (q : ∀ H' f S hs, HistOk hs → SameX a H H' → Src a H' → RowsAt H' f hs → H' S = some (.lst ((lafterOf p.mv p.st hs).map V.str)) → D.nx (sgL v0 v1 a v3 mL eL v6 (some (.str p.st)) v8 dA k v11 (some (.ref f)) (some (.ref S)) v14 v15 v16 v17 v18 v19 v20) H') :
    b1 K D (sgL v0 v1 a v3 mL eL v6 (some (.str p.st)) v8 dA k v11 v12 v13 v14 v15 v16 v17 v18 v19 v20) H := by
  have line : sizeLine = 16777216 := sizeLine_eq
  have hel := dr.el
  refine ⟨_, rfl, _, rfl, _, rfl, _, rfl, by show 2 ≤ sizeLine; omega, fun t1 h1 => ⟨_, rfl, t1, eL, _, _, rfl, rfl, upd_same, Same.new h1 _ _ c.es, by rw [List.length_map]; show 2 + _ ≤ _; omega, fun W hW => ?_⟩⟩
  have s1 := (Same.new (o := .lst [V.str "yes", V.str "no"]) h1).trans (Same.new (o := .lst ([V.str "yes", V.str "no"] ++ errs.map V.str)) hW)
  have eW : (L2.upd (L2.upd H t1 (.lst [V.str "yes", V.str "no"])) W (.lst ([V.str "yes", V.str "no"] ++ errs.map V.str))) W = some (.lst ((yn ++ errs).map V.str)) := by rw [upd_same, List.map_append] <;> rfl
  generalize L2.upd (L2.upd H t1 (.lst [V.str "yes", V.str "no"])) W (.lst ([V.str "yes", V.str "no"] ++ errs.map V.str)) = H1 at s1 eW
  have c1 := c.same s1
  walk_at "dn"
  have hf := ok.few
  refine ⟨a, dA, mL, W, p.st, p.mv, meths, yn ++ errs, p.sts, rfl, c1.src, c1.mvs, c1.ms, eW, by have := dr.ml; omega, by rw [List.length_append]; show 2 + _ ≤ _; omega, by simp [yn], ok.mvs.few, fun x hx => (wd_ok dr hx).2.1, fun t ht o ho => ?_, fun x hx => tx_ok (name_iff.mp (ok.names x hx)).2.2, by omega, pl_st ok, fun H2 t f S hs hl hm sx2 hs2 ht hR hS => ?_⟩
  · obtain ⟨z1, z2⟩ := (ok.mvs.outs t ht).2 o ho
    exact ⟨yn_in z1, z2⟩
  · refine ⟨t, _, rfl, SqT.of ht, rfl, _, _, rfl, _, _, rfl, rfl, ?_⟩
    refine q H2 f S hs ⟨hl, fun c hc => ?_, fun c hc => wd_ok dr (hm c hc).2⟩ ((SameX.of s1).trans sx2) hs2 hR hS
    rcases List.mem_append.mp (hm c hc).1 with z | z
    · exact dr.mn _ z
    · have : ∀ x ∈ zz, isName (.str x) = true := by decide +kernel
      exact this _ z
def b2 (K : PySem.W.Frag) : TS := tAsg (tLc (iList K (tMethW (kC K) "methods" (sp_methods K) W0 (tVar 10) tNil)) (gName 14) (tTest (tOp (rEqD K) (tLc (iList K (tVar 13)) (gName 15) (tB (tDNotIn (tTup (tCons (tVar 15) (tCons (tVar 14) tNil))) (tVar 9))) (tVar 15) [15]) (tLst tNil))) (tVar 14) [14]) (gName 16)
theorem eq_nil_tx (ss : List PySem.Str) : PyData.eqv (.list (ss.map PyData.str)) (.list []) = decide (ss = []) := by
  cases ss with
  | nil => rfl
  | cons x ss => rfl
theorem sb2 (c : Ctx K H a k mL eL dA p meths errs) (hS : H S = some (.lst (ss.map V.str))) (hsl : ss.length ≤ 100) (htx : ∀ x ∈ ss, TxOk x)
    (q : ∀ H' U, Same H H' → H' U = some (.lst ((dueOf p ss).map V.str)) → D.nx (sgL v0 v1 a v3 mL eL v6 v7 v8 dA k v11 v12 (some (.ref S)) v14 v15 (some (.ref U)) v17 v18 v19 v20) H') :
    b2 K D (sgL v0 v1 a v3 mL eL v6 v7 v8 dA k v11 v12 (some (.ref S)) v14 v15 v16 v17 v18 v19 v20) H := by
  have line : sizeLine = 16777216 := sizeLine_eq
  obtain ⟨dk, ea, tb, hki, _, ht⟩ := id c.kind
  have h4 : (kdOf p).tab.length ≤ 4000 := let ⟨_, _, _, _, z⟩ := ht; z
  refine ⟨_, rfl, k, dk, _, rfl, hki, kflds_no (by decide), k, kdOf p, rfl, c.kind, h4, fun H1 l1 s1 n1 e1 => ?_⟩
  have hml : (methodsOf (kdOf p)).length ≤ 4000 := by
    rw [methodsOf, length_isort]
    have := uniq_len ((kdOf p).tab.map (·.1.2))
    rw [List.length_map] at this
    omega
  refine ⟨l1, rfl, ⟨_, SqL.of e1⟩, fun U hU => lc_it walk_lm (fun i H2 => Same H1 H2 ∧ H2 U = some (.lst (((methodsOf (kdOf p)).take i |>.filter fun m => decide ((ss.filter fun s => !(look p.mv (s, m)).isSome) = [])).map V.str))) ⟨Same.new hU, by rw [upd_same, List.take_zero] <;> rfl⟩ (fun i H2 _ z => SqL.of (z.1 _ _ e1)) (fun i y H2 H3 hi pv yy => ?_) (fun H2 pv => ?_)⟩
  · obtain ⟨s2, hU2⟩ := pv
    obtain ⟨rfl, hy⟩ := yy
    obtain ⟨m, hm⟩ : ∃ m, (methodsOf (kdOf p))[i]? = some m := ⟨_, List.getElem?_eq_getElem hi⟩
    rw [List.getElem?_map, hm] at hy
    cases Option.some.inj hy
    have s12 := s1.trans s2
    have hS3 := s12 _ _ hS
    refine ⟨rfl, _, rfl, S, rfl, ⟨_, SqL.of hS3⟩, fun D2 hD2 => lc_it walk_lm (fun j H4 => Same H3 H4 ∧ H4 D2 = some (.lst ((ss.take j |>.filter fun s => !(look p.mv (s, m)).isSome).map V.str))) ⟨Same.new hD2, by rw [upd_same, List.take_zero] <;> rfl⟩ (fun j H4 _ z => SqL.of (z.1 _ _ hS3)) (fun j y H4 H5 hj pv yy => ?_) (fun H4 pv => ?_)⟩
    · obtain ⟨s4, hD4⟩ := pv
      obtain ⟨rfl, hy⟩ := yy
      obtain ⟨sx, hsx⟩ : ∃ sx, ss[j]? = some sx := ⟨_, List.getElem?_eq_getElem hj⟩
      rw [List.getElem?_map, hsx] at hy
      cases Option.some.inj hy
      refine ⟨rfl, _, rfl, _, rfl, by show 2 ≤ sizeLine; omega, fun b hb => ⟨_, rfl, ?_⟩⟩
      have s5 := Same.new (o := .tup [.str sx, .str m]) hb
      obtain ⟨kvs, g1, g2, g3⟩ := c.mvs.same ((s12.trans s4).trans s5)
      refine ⟨dA, _, rfl, DGet.t (k := [Sum.inr sx, Sum.inr m]) g1 upd_same, _, rfl, ?_⟩
      have e : (valV kvs [Sum.inr sx, Sum.inr m]).isSome = (look p.mv (sx, m)).isSome := by
        have hl := lm_look g2 sx m
        cases e1 : look p.mv (sx, m) with
        | none => rw [e1] at hl; rw [show valV kvs [Sum.inr sx, Sum.inr m] = none from hl] <;> rfl
        | some os => rw [e1] at hl; obtain ⟨q, z, _⟩ := hl; rw [z] <;> rfl
      rw [e]
      have hD5 := s5 _ _ hD4
      have hfl := List.length_filter_le (fun s => !(look p.mv (s, m)).isSome) (ss.take j)
      rw [List.length_take] at hfl
      refine ite2 (fun cc => ?_) (fun cc => ?_)
      · refine ⟨_, rfl, _, hD5, by rw [List.length_map]; omega, same_upd (s4.trans s5) hD2, ?_⟩
        rw [upd_same, take_next hsx, List.filter_append, List.map_append, List.filter_cons_of_pos (by simpa using cc)] <;> rfl
      · refine ⟨s4.trans s5, ?_⟩
        rw [take_next hsx, List.filter_append, List.filter_cons_of_neg (by simpa using cc), List.filter_nil, List.append_nil]
        exact hD5
    · obtain ⟨s4, hD4⟩ := pv
      rw [List.take_length] at hD4
      refine ⟨Nat.zero_le _, fun e he => ?_⟩
      have s5 := Same.new (o := .lst []) he
      refine ⟨.list ((ss.filter fun s => !(look p.mv (s, m)).isSome).map PyData.str), .list [], .lst (SqL.of (s5 _ _ hD4)) (dp_txts _), .lst (SqL.of upd_same) .nil, shaped_ltx (fun x hx => htx x (List.mem_filter.mp hx).1), rfl, _, rfl, ?_⟩
      rw [eq_nil_tx]
      have s35 := s4.trans s5
      have hU5 := s35 _ _ hU2
      have hfl := List.length_filter_le (fun m => decide ((ss.filter fun s => !(look p.mv (s, m)).isSome) = [])) ((methodsOf (kdOf p)).take i)
      rw [List.length_take] at hfl
      refine ite2 (fun cc => ?_) (fun cc => ?_)
      · refine ⟨.str m, rfl, _, hU5, by rw [List.length_map]; omega, same_upd (s2.trans s35) hU, ?_⟩
        rw [upd_same, take_next hm, List.filter_append, List.map_append, List.filter_cons_of_pos (by simpa using cc)] <;> rfl
      · refine ⟨s2.trans s35, ?_⟩
        rw [take_next hm, List.filter_append, List.filter_cons_of_neg (by simpa using cc), List.filter_nil, List.append_nil]
        exact hU5
  · obtain ⟨s2, hU2⟩ := pv
    rw [List.take_length] at hU2
    exact q H2 U (s1.trans s2) hU2
def b3 (K : PySem.W.Frag) : TS := tAsg (tLc (iList K (tVar 12)) (gName 17) tYes (tCB (rListOf K) (tCons (tVar 17) tNil)) [17]) (gName 18)
theorem sb3 (hf : RowsAt H f hs) (hl : hs.length ≤ 8)
    (q : ∀ H' R rs, Same H H' → H' R = some (.lst (rs.map V.ref)) → Paired (fun (c : PySem.Str × PySem.Str) b => H' b = some (.lst [.str c.1, .str c.2])) hs rs → D.nx (sgL v0 v1 a v3 mL eL v6 v7 v8 dA k v11 (some (.ref f)) v13 v14 v15 v16 v17 (some (.ref R)) v19 v20) H') :
    b3 K D (sgL v0 v1 a v3 mL eL v6 v7 v8 dA k v11 (some (.ref f)) v13 v14 v15 v16 v17 v18 v19 v20) H := by
  have line : sizeLine = 16777216 := sizeLine_eq
  obtain ⟨bs, b1, b2⟩ := hf
  have ebl := Paired.length b2
  refine ⟨_, rfl, f, rfl, ⟨_, SqL.of b1⟩, fun R hR => lc_it walk_lm (fun i H2 => Same H H2 ∧ ∃ rs : List Addr, H2 R = some (.lst (rs.map V.ref)) ∧ rs.length = i ∧ Paired (fun (c : PySem.Str × PySem.Str) b => H2 b = some (.lst [.str c.1, .str c.2]) ∧ b ≠ R) (hs.take i) rs) ⟨Same.new hR, [], upd_same, rfl, by rw [List.take_zero]; exact .nil⟩ (fun i H2 _ z => SqL.of (z.1 _ _ b1)) (fun i y H2 H3 hi pv yy => ?_) (fun H2 pv => ?_)⟩
  · obtain ⟨s2, rs, hR2, hrl, hp⟩ := pv
    obtain ⟨rfl, hy⟩ := yy
    obtain ⟨b, hb⟩ : ∃ b, bs[i]? = some b := ⟨_, List.getElem?_eq_getElem hi⟩
    rw [List.getElem?_map, hb] at hy
    cases Option.some.inj hy
    obtain ⟨cc, hcc, ht⟩ := Paired.at b2 hb
    refine ⟨rfl, _, rfl, b, _, rfl, .inr (SqT.of (s2 _ _ ht)), fun l hl => ?_⟩
    have s3 := Same.new (o := .lst [.str cc.1, .str cc.2]) hl
    have nlR : l ≠ R := fun z => by subst z; rw [hR2] at hl; cases hl
    refine ⟨_, s3 _ _ hR2, by rw [List.length_map]; omega, same_upd (s2.trans s3) hR, rs ++ [l], by rw [upd_same, List.map_append] <;> rfl, by simp [hrl], ?_⟩
    rw [take_next hcc]
    refine Paired.snoc (Paired.imp hp fun c b z => ⟨?_, z.2⟩) ⟨?_, nlR⟩
    · rw [upd_ne z.2]; exact s3 _ _ z.1
    · rw [upd_ne nlR]; exact upd_same
  · obtain ⟨s2, rs, hR2, hrl, hp⟩ := pv
    rw [← ebl, List.take_length] at hp
    exact q H2 R rs s2 hR2 (Paired.imp hp fun _ _ z => z.1)
end
end
end Rs
set_option Elab.async false
set_option linter.all false
set_option maxRecDepth 100000
set_option maxHeartbeats 4000000
namespace Rs
open PySem PySem.Spec PyProof.Rows L2
local macro_rules | `(tactic| walk_at "rd") => `(tactic| simp only [L2.tRet, L2.tRetN, L2.tSeq, L2.tNext, L2.tIfS, L2.tAsg, L2.gName, L2.gNil, L2.gCons, L2.tVar, L2.tC, L2.tOp, L2.tUn, L2.tCB, L2.tCons, L2.tNil, L2.tAndV, L2.tOrV, L2.tNotV, L2.tAnd, L2.tOr, L2.tNot, L2.tB, L2.tTest, L2.tIf, L2.tChain, L2.tTup, L2.tLst, L2.tDrop, L2.tFld, L2.sFld, L2.tOst, L2.tBM, L2.rNe, L2.tMkO, L2.start, L2.cxOf, L2.Cx.nox, L2.Cx.wish, L2.rI0, L2.rI, L2.tYes, Rs.tCalW, List.getElem?_cons_zero, List.getElem?_cons_succ, Option.some.injEq, exists_eq_left', exists_eq_left, exists_and_left, List.cons.injEq, and_true, true_and, L2.V.bl.injEq, L2.V.int.injEq, L2.V.str.injEq, L2.V.ref.injEq, List.set_cons_zero, List.set_cons_succ, List.map_cons, List.map_nil, List.length_cons, List.length_nil, List.replicate, List.cons_append, List.nil_append, List.append_nil, Nat.reduceSub, Nat.reduceAdd])
local macro_rules | `(tactic| walk_at "dn") => `(tactic| dsimp only [L2.tCons, L2.tC, L2.tNil])
section
variable {P : Program} {w : World} {K : PySem.W.Frag} {mg : PySem.Str → Option Value} {base : Heap}
section
variable {a k mL eL dA f S U R : Addr} {p : Pl} {size : Int} {meths errs ss : List PySem.Str} {H : Hp} {D : Ends} {v0 v1 v3 v6 v7 v8 v11 v12 v13 v14 v15 v16 v17 v18 v19 v20 : Option V} {hs : Hist}
/-- all that stands while a history is looked at -/
structure Turn3 (K : PySem.W.Frag) (H : Hp) (a k mL eL dA f S U R : Addr) (p : Pl) (meths errs : List PySem.Str) (hs : Hist) : Prop where
  c : Ctx K H a k mL eL dA p meths errs
  hist : RowsAt H f hs
  sts : H S = some (.lst ((lafterOf p.mv p.st hs).map V.str))
  due : H U = some (.lst ((dueOf p (lafterOf p.mv p.st hs)).map V.str))
  rows : ∃ rs : List Addr, H R = some (.lst (rs.map V.ref)) ∧ Paired (fun (c : PySem.Str × PySem.Str) b => H b = some (.lst [.str c.1, .str c.2])) hs rs
theorem Turn3.same {H' : Hp} (h : Turn3 K H a k mL eL dA f S U R p meths errs hs) (s : Same H H') : Turn3 K H' a k mL eL dA f S U R p meths errs hs :=
  ⟨h.c.same s, h.hist.same s, s _ _ h.sts, s _ _ h.due, let ⟨rs, h1, h2⟩ := h.rows; ⟨rs, s _ _ h1, Paired.imp h2 fun _ _ z => s _ _ z⟩⟩
theorem his_good (ho : HistOk hs) {q : Addr} (h : HistAt K H q hs) : IsHist K H (.ref q) none hs :=
  .good h (fun c hc => ⟨ho.nm c hc, (ho.wd c hc).1, by have := (ho.wd c hc).2.2; rw [sizeLine_eq]; omega⟩) (by have := ho.len; omega)
theorem his_rows (h : RowsAt H f hs) : HistAt K H f hs := let ⟨bs, h1, h2⟩ := h; ⟨bs, .inl (SqL.of h1), Paired.imp h2 fun _ _ z => .inr (SqT.of z)⟩
theorem his_lists (h : ∃ rs : List Addr, H R = some (.lst (rs.map V.ref)) ∧ Paired (fun (c : PySem.Str × PySem.Str) b => H b = some (.lst [.str c.1, .str c.2])) hs rs) : HistAt K H R hs := let ⟨bs, h1, h2⟩ := h; ⟨bs, .inl (SqL.of h1), Paired.imp h2 fun _ _ z => .inl (SqL.of z)⟩
theorem ne_same {l S : Addr} {xs : List PySem.Str} {Q : VK} (h1 : H l = some (.lst (xs.map V.str))) (h2 : H S = some (.lst (xs.map V.str))) (ht : ∀ x ∈ xs, TxOk x) (q : Q (.bl false) H) : rNeD K (.ref l) (.ref S) H Q := by
  refine ⟨.list (xs.map PyData.str), .list (xs.map PyData.str), .lst (SqL.of h1) (dp_txts _), .lst (SqL.of h2) (dp_txts _), shaped_ltx ht, shaped_ltx ht, ?_⟩
  rw [show PyData.eqv (.list (xs.map PyData.str)) (.list (xs.map PyData.str)) = true from by show PyData.eqvAll _ _ = true; rw [eqvAll_txts]; simp]
  exact q
section
variable (ok : PlOk size meths errs p) (dr : DrawnOk meths errs) (hz : size ≤ 19) (ho : HistOk hs)
include ok dr hz ho
theorem sts_tx : ∀ x ∈ lafterOf p.mv p.st hs, TxOk x := fun x hx => tx_ok (name_iff.mp (ok.names x ((lafter_in (pl_in ok) (pl_st ok) hs).2 x hx))).2.2
theorem due_tx : ∀ x ∈ dueOf p (lafterOf p.mv p.st hs), TxOk x := fun x hx => tx_ok (name_iff.mp (pl_meths ok dr x (List.mem_filter.mp hx).1)).2.2
def b4 (K : PySem.W.Frag) : TS := tIfS (tOr (tTest (tOp (rNeD K) (tCalW (sp_after K) W0 (tCons (tVar 10) (tCons (tVar 12) tNil))) (tVar 13))) (tTest (tOp (rNeD K) (tCalW (sp_allowed K) W0 (tCons (tVar 10) (tCons (tCB (rTupOf K) (tCons (tVar 12) tNil)) tNil))) (tVar 16)))) (tRet (tC (V.bl false))) tNext
theorem sb4 (t : Turn3 K H a k mL eL dA f S U R p meths errs hs) (q : ∀ H', Same H H' → D.nx (sgL v0 v1 a v3 mL eL v6 v7 v8 dA k v11 (some (.ref f)) (some (.ref S)) v14 v15 (some (.ref U)) v17 (some (.ref R)) v19 v20) H') :
    b4 K D (sgL v0 v1 a v3 mL eL v6 v7 v8 dA k v11 (some (.ref f)) (some (.ref S)) v14 v15 (some (.ref U)) v17 (some (.ref R)) v19 v20) H := by
  refine ⟨_, rfl, _, rfl, ?_⟩
  walk_at "dn"
  refine ⟨k, .ref f, kdOf p, none, hs, rfl, t.c.kind, pl_kind ok dr hz, his_good ho (his_rows t.hist), fun H2 l s2 n2 e2 => ?_⟩
  rw [pl_after ok dr hs ho.nm] at e2
  refine ⟨_, rfl, ne_same e2 (s2 _ _ t.sts) (sts_tx ok dr hz ho) ⟨_, rfl, ?_⟩⟩
  have t2 := t.same s2
  obtain ⟨bs, h1, h2⟩ := t2.hist
  refine ⟨_, rfl, _, rfl, f, _, rfl, .inl ⟨SqL.of h1, fun tu htu => ?_⟩⟩
  have s3 := Same.new (o := .tup (bs.map V.ref)) htu
  have e3 : (L2.upd H2 tu (.tup (bs.map V.ref))) tu = some (.tup (bs.map V.ref)) := upd_same
  have t3 := t2.same s3
  have h3 : Paired (PairAt K (L2.upd H2 tu (.tup (bs.map V.ref)))) hs bs := Paired.imp h2 fun _ _ z => .inr (SqT.of (s3 _ _ z))
  generalize L2.upd H2 tu (.tup (bs.map V.ref)) = H3 at s3 e3 t3 h3
  walk_at "dn"
  refine ⟨k, .ref tu, kdOf p, none, hs, rfl, t3.c.kind, pl_kind ok dr hz, his_good ho ⟨bs, .inr (SqT.of e3), h3⟩, fun H4 l4 s4 n4 e4 => ?_⟩
  rw [pl_due ok dr hs ho.nm] at e4
  exact ⟨_, rfl, ne_same e4 (s4 _ _ t3.due) (due_tx ok dr hz ho) ⟨_, rfl, q H4 ((s2.trans s3).trans s4)⟩⟩
def b5 (K : PySem.W.Frag) : TS := tIfS (tTest (tOp (rNeD K) (tCalW (sp_after K) W0 (tCons (tVar 10) (tCons (tVar 18) tNil))) (tVar 13))) (tRet (tC (V.bl false))) tNext
theorem sb5 (t : Turn3 K H a k mL eL dA f S U R p meths errs hs) (q : ∀ H', Same H H' → D.nx (sgL v0 v1 a v3 mL eL v6 v7 v8 dA k v11 (some (.ref f)) (some (.ref S)) v14 v15 (some (.ref U)) v17 (some (.ref R)) v19 v20) H') :
    b5 K D (sgL v0 v1 a v3 mL eL v6 v7 v8 dA k v11 (some (.ref f)) (some (.ref S)) v14 v15 (some (.ref U)) v17 (some (.ref R)) v19 v20) H := by
  refine ⟨_, rfl, _, rfl, ?_⟩
  walk_at "dn"
  refine ⟨k, .ref R, kdOf p, none, hs, rfl, t.c.kind, pl_kind ok dr hz, his_good ho (his_lists t.rows), fun H2 l s2 n2 e2 => ?_⟩
  rw [pl_after ok dr hs ho.nm] at e2
  exact ⟨_, rfl, ne_same e2 (s2 _ _ t.sts) (sts_tx ok dr hz ho) ⟨_, rfl, q H2 s2⟩⟩
def b6 (K : PySem.W.Frag) : TS := tDrop (tBM K "list" rAppend (tCalW (sp_after K) W0 (tCons (tVar 10) (tCons (tVar 12) tNil))) (tCons (tC (V.str "x")) tNil))
theorem sb6 (t : Turn3 K H a k mL eL dA f S U R p meths errs hs) (q : ∀ H', Same H H' → D.nx (sgL v0 v1 a v3 mL eL v6 v7 v8 dA k v11 (some (.ref f)) (some (.ref S)) v14 v15 (some (.ref U)) v17 (some (.ref R)) v19 v20) H') :
    b6 K D (sgL v0 v1 a v3 mL eL v6 v7 v8 dA k v11 (some (.ref f)) (some (.ref S)) v14 v15 (some (.ref U)) v17 (some (.ref R)) v19 v20) H := by
  refine ⟨_, rfl, _, rfl, ?_⟩
  walk_at "dn"
  refine ⟨k, .ref f, kdOf p, none, hs, rfl, t.c.kind, pl_kind ok dr hz, his_good ho (his_rows t.hist), fun H2 l s2 n2 e2 => ?_⟩
  have hl := (after_ok (pl_kind ok dr hz) hs).1
  exact ⟨.inl ⟨rfl, _, SqL.of e2⟩, l, _, _, rfl, rfl, e2, by rw [List.length_map, sizeLine_eq]; omega, q _ (same_upd s2 n2)⟩
def b7 (K : PySem.W.Frag) : TS := tDrop (tBM K "list" rAppend (tCalW (sp_allowed K) W0 (tCons (tVar 10) (tCons (tVar 12) tNil))) (tCons (tC (V.str "x")) tNil))
theorem sb7 (t : Turn3 K H a k mL eL dA f S U R p meths errs hs) (q : ∀ H', Same H H' → D.nx (sgL v0 v1 a v3 mL eL v6 v7 v8 dA k v11 (some (.ref f)) (some (.ref S)) v14 v15 (some (.ref U)) v17 (some (.ref R)) v19 v20) H') :
    b7 K D (sgL v0 v1 a v3 mL eL v6 v7 v8 dA k v11 (some (.ref f)) (some (.ref S)) v14 v15 (some (.ref U)) v17 (some (.ref R)) v19 v20) H := by
  refine ⟨_, rfl, _, rfl, ?_⟩
  walk_at "dn"
  refine ⟨k, .ref f, kdOf p, none, hs, rfl, t.c.kind, pl_kind ok dr hz, his_good ho (his_rows t.hist), fun H2 l s2 n2 e2 => ?_⟩
  have hl : (allowedOf (kdOf p) hs).length ≤ 4000 := by
    obtain ⟨dk, ea, tb, hki, _, ht⟩ := id t.c.kind
    have h4 : (kdOf p).tab.length ≤ 4000 := let ⟨_, _, _, _, z⟩ := ht; z
    have h1 := List.length_filter_le (fun m => (afterOf (kdOf p) hs).all fun s => hasB (kdOf p) s m) (methodsOf (kdOf p))
    have h3 : (methodsOf (kdOf p)).length ≤ (kdOf p).tab.length := by
      rw [methodsOf, length_isort]
      have := uniq_len ((kdOf p).tab.map (·.1.2))
      rw [List.length_map] at this
      exact this
    unfold allowedOf
    omega
  exact ⟨.inl ⟨rfl, _, SqL.of e2⟩, l, _, _, rfl, rfl, e2, by rw [List.length_map, sizeLine_eq]; omega, q _ (same_upd s2 n2)⟩
def b8 (K : PySem.W.Frag) : TS := tIfS (tOr (tTest (tOp (rNeD K) (tCalW (sp_after K) W0 (tCons (tVar 10) (tCons (tVar 12) tNil))) (tVar 13))) (tTest (tOp (rNeD K) (tCalW (sp_allowed K) W0 (tCons (tVar 10) (tCons (tVar 18) tNil))) (tVar 16)))) (tRet (tC (V.bl false))) tNext
theorem sb8 (t : Turn3 K H a k mL eL dA f S U R p meths errs hs) (q : ∀ H', Same H H' → D.nx (sgL v0 v1 a v3 mL eL v6 v7 v8 dA k v11 (some (.ref f)) (some (.ref S)) v14 v15 (some (.ref U)) v17 (some (.ref R)) v19 v20) H') :
    b8 K D (sgL v0 v1 a v3 mL eL v6 v7 v8 dA k v11 (some (.ref f)) (some (.ref S)) v14 v15 (some (.ref U)) v17 (some (.ref R)) v19 v20) H := by
  refine ⟨_, rfl, _, rfl, ?_⟩
  walk_at "dn"
  refine ⟨k, .ref f, kdOf p, none, hs, rfl, t.c.kind, pl_kind ok dr hz, his_good ho (his_rows t.hist), fun H2 l s2 n2 e2 => ?_⟩
  rw [pl_after ok dr hs ho.nm] at e2
  refine ⟨_, rfl, ne_same e2 (s2 _ _ t.sts) (sts_tx ok dr hz ho) ⟨_, rfl, ?_⟩⟩
  have t2 := t.same s2
  refine ⟨_, rfl, _, rfl, ?_⟩
  walk_at "dn"
  refine ⟨k, .ref R, kdOf p, none, hs, rfl, t2.c.kind, pl_kind ok dr hz, his_good ho (his_lists t2.rows), fun H4 l4 s4 n4 e4 => ?_⟩
  rw [pl_due ok dr hs ho.nm] at e4
  exact ⟨_, rfl, ne_same e4 (s4 _ _ t2.due) (due_tx ok dr hz ho) ⟨_, rfl, q H4 (s2.trans s4)⟩⟩
end
def b9 (K : PySem.W.Frag) : TS := tAsg (tCalW (sp_next K) W0 (tCons (tVar 2) (tCons (tOp (rI0 fun i j => V.int (i + j)) (tCB (rLenQ K) (tCons (tVar 12) tNil)) (tC (V.int 1))) tNil))) (gName 15)
theorem sb9 (ha : Src a H) (hf : RowsAt H f hs) (hl : hs.length ≤ 8) (q : ∀ H' (j : Nat), j ≤ hs.length → SameX a H H' → Src a H' → D.nx (sgL v0 v1 a v3 mL eL v6 v7 v8 dA k v11 (some (.ref f)) v13 v14 (some (.int j)) v16 v17 v18 v19 v20) H') :
    b9 K D (sgL v0 v1 a v3 mL eL v6 v7 v8 dA k v11 (some (.ref f)) v13 v14 v15 v16 v17 v18 v19 v20) H := by
  obtain ⟨bs, h1, h2⟩ := hf
  have e := Paired.length h2
  obtain ⟨x, y, z, ha⟩ := ha
  refine ⟨_, rfl, _, rfl, f, _, rfl, .inl (SqL.of h1), _, _, rfl, rfl, a, x, y, z, _, rfl, ha, by rw [List.length_map]; omega, log_small (by rw [List.length_map]; omega), fun r o ho r1 r2 => ?_⟩
  rw [List.length_map] at r2
  have er : r = ((r.toNat : Nat) : Int) := by omega
  rw [er]
  exact q _ r.toNat (by omega) SameX.self (Src.upd ho)
end
end
end Rs
set_option Elab.async false
set_option linter.all false
set_option maxRecDepth 100000
set_option maxHeartbeats 4000000
namespace Rs
open PySem PySem.Spec PyProof.Rows L2
local macro_rules | `(tactic| walk_at "rd") => `(tactic| simp only [L2.tRet, L2.tRetN, L2.tSeq, L2.tNext, L2.tIfS, L2.tAsg, L2.gName, L2.gNil, L2.gCons, L2.tVar, L2.tC, L2.tOp, L2.tUn, L2.tCB, L2.tCons, L2.tNil, L2.tAndV, L2.tOrV, L2.tNotV, L2.tAnd, L2.tOr, L2.tNot, L2.tB, L2.tTest, L2.tIf, L2.tChain, L2.tTup, L2.tLst, L2.tDrop, L2.tFld, L2.sFld, L2.tOst, L2.tBM, L2.rNe, L2.tMkO, L2.start, L2.cxOf, L2.Cx.nox, L2.Cx.wish, L2.rI0, L2.rI, L2.tYes, Rs.tCalW, List.getElem?_cons_zero, List.getElem?_cons_succ, Option.some.injEq, exists_eq_left', exists_eq_left, exists_and_left, List.cons.injEq, and_true, true_and, L2.V.bl.injEq, L2.V.int.injEq, L2.V.str.injEq, L2.V.ref.injEq, List.set_cons_zero, List.set_cons_succ, List.map_cons, List.map_nil, List.length_cons, List.length_nil, List.replicate, List.cons_append, List.nil_append, List.append_nil, Nat.reduceSub, Nat.reduceAdd])
local macro_rules | `(tactic| walk_at "dn") => `(tactic| dsimp only [L2.tCons, L2.tC, L2.tNil])
section
variable {P : Program} {w : World} {K : PySem.W.Frag} {mg : PySem.Str → Option Value} {base : Heap}
/-! ### elements that are none -/
inductive EltN (K : PySem.W.Frag) (H : Hp) : V → Prop where
  | no {v : V} {n : String} : Srt K H v n → isRow n = false → EltN K H v
  | tup {p : Addr} {xs : List V} : SqT K H p xs → (xs.length = 2 → ∀ x ∈ xs, Any K H x) → pairB isName isWord xs = false → EltN K H (.ref p)
theorem EltN.elt {H : Hp} {v : V} (h : EltN K H v) : Elt K H v false := by
  cases h with
  | no s r => exact .no s r
  | tup s r e => rw [← e]; exact .row (.inr s) r
theorem EltN.same {H H' : Hp} {v : V} (e : Same H H') (h : EltN K H v) : EltN K H' v := by
  cases h with
  | no s r => exact .no (Srt.same e s) r
  | tup s r p => exact .tup (Same.tq e s) (fun l x hx => (r l x hx).same e) p
theorem EltN.keep {a : Addr} {H H' : Hp} {v : V} (s : SameX a H H') (ha : Src a H) (ha' : Src a H') (h : EltN K H v) : EltN K H' v := by
  cases h with
  | no z r => exact .no (Srt.src s ha ha' z) r
  | tup z r p =>
    obtain ⟨_, _, _, hh⟩ := id ha
    exact .tup (s.tqL hh z) (fun l x hx => ⟨(r l x hx).1.imp fun _ y => Srt.src s ha ha' y, (r l x hx).2⟩) p
theorem any_str {H : Hp} {x : PySem.Str} (h : x.length ≤ 100) : Any K H (.str x) := ⟨⟨_, srt_str _⟩, fun s e => by cases e; rw [sizeLine_eq]; omega⟩
theorem any_of {H : Hp} {x : V} {n : String} (h : Srt K H x n) (hn : ∀ s, x ≠ .str s) : Any K H x := ⟨⟨_, h⟩, fun s e => absurd e (hn s)⟩
theorem eltN_tup {H : Hp} {t : Addr} {xs : List V} (h : H t = some (.tup xs)) (ha : ∀ x ∈ xs, Any K H x) (hp : pairB isName isWord xs = false) : EltN K H (.ref t) := .tup (SqT.of h) (fun _ => ha) hp
theorem two_all {α : Type} {P : α → Prop} {x y : α} (h1 : P x) (h2 : P y) : ∀ z ∈ [x, y], P z := fun z hz => by
  rcases List.mem_cons.mp hz with rfl | hz
  · exact h1
  · rw [List.mem_singleton.mp hz]; exact h2
theorem no_word_ref {l : Addr} : isWord (.ref l) = false := by
  unfold isWord
  simp [isTx]
section
variable {a k mL eL dA f S U R : Addr} {p : Pl} {size : Int} {meths errs ss : List PySem.Str} {H : Hp} {D : Ends} {v0 v1 v3 v6 v7 v8 v11 v12 v13 v14 v15 v16 v17 v18 v19 v20 : Option V} {hs : Hist}
def b10 : TS := tAsg (tLst (tCons (tC V.non) (tCons (tC (V.int 5)) (tCons (tC (V.str "ab")) (tCons (tTup (tCons (tC (V.str "read")) tNil)) (tCons (tTup (tCons (tC (V.str "read")) (tCons (tC (V.str "no")) (tCons (tC (V.int 1)) tNil)))) (tCons (tTup (tCons (tC (V.str "Read")) (tCons (tC (V.str "no")) tNil))) (tCons (tTup (tCons (tC (V.str "read")) (tCons (tC (V.str "maybe")) tNil))) (tCons tDNewK tNil))))))))) (gName 19)
theorem sb10 (q : ∀ H' O vs, Same H H' → vs.length = 8 → H' O = some (.lst vs) → (∀ v ∈ vs, EltN K H' v) → D.nx (sgL v0 v1 a v3 mL eL v6 v7 v8 dA k v11 v12 v13 v14 v15 v16 v17 v18 (some (.ref O)) v20) H') :
    b10 D (sgL v0 v1 a v3 mL eL v6 v7 v8 dA k v11 v12 v13 v14 v15 v16 v17 v18 v19 v20) H := by
  have line : sizeLine = 16777216 := sizeLine_eq
  refine ⟨by show 1 ≤ sizeLine; omega, fun t1 h1 => ⟨by show 3 ≤ sizeLine; omega, fun t2 h2 => ⟨by show 2 ≤ sizeLine; omega, fun t3 h3 => ⟨by show 2 ≤ sizeLine; omega, fun t4 h4 => fun t5 h5 => ⟨by show 8 ≤ sizeLine; omega, fun O hO => ?_⟩⟩⟩⟩⟩
  have s1 := Same.new (o := .tup [.str "read"]) h1
  have e1 : (L2.upd H t1 (.tup [.str "read"])) t1 = some (.tup [.str "read"]) := upd_same
  generalize L2.upd H t1 (.tup [.str "read"]) = H1 at *
  have s2 := Same.new (o := .tup [.str "read", .str "no", .int 1]) h2
  have e2 : (L2.upd H1 t2 (.tup [.str "read", .str "no", .int 1])) t2 = some (.tup [.str "read", .str "no", .int 1]) := upd_same
  generalize L2.upd H1 t2 (.tup [.str "read", .str "no", .int 1]) = H2 at *
  have s3 := Same.new (o := .tup [.str "Read", .str "no"]) h3
  have e3 : (L2.upd H2 t3 (.tup [.str "Read", .str "no"])) t3 = some (.tup [.str "Read", .str "no"]) := upd_same
  generalize L2.upd H2 t3 (.tup [.str "Read", .str "no"]) = H3 at *
  have s4 := Same.new (o := .tup [.str "read", .str "maybe"]) h4
  have e4 : (L2.upd H3 t4 (.tup [.str "read", .str "maybe"])) t4 = some (.tup [.str "read", .str "maybe"]) := upd_same
  generalize L2.upd H3 t4 (.tup [.str "read", .str "maybe"]) = H4 at *
  have s5 := Same.new (o := .dK []) h5
  have e5 : (L2.upd H4 t5 (.dK [])) t5 = some (.dK []) := upd_same
  generalize L2.upd H4 t5 (.dK []) = H5 at *
  have s6 := Same.new (o := .lst [.non, .int 5, .str "ab", .ref t1, .ref t2, .ref t3, .ref t4, .ref t5]) hO
  refine q _ O [.non, .int 5, .str "ab", .ref t1, .ref t2, .ref t3, .ref t4, .ref t5] (s1.trans (s2.trans (s3.trans (s4.trans (s5.trans s6))))) rfl upd_same fun v hv => EltN.same s6 ?_
  simp only [List.mem_cons, List.not_mem_nil, or_false] at hv
  rcases hv with e | e | e | e | e | e | e | e <;> subst e
  · exact .no srt_non (by decide)
  · exact .no (srt_int _) (by decide)
  · exact .no (srt_str _) (by decide)
  · exact .tup (SqT.of (s5 _ _ (s4 _ _ (s3 _ _ (s2 _ _ e1))))) (fun z => by simp at z) (pairB_no (by simp))
  · exact .tup (SqT.of (s5 _ _ (s4 _ _ (s3 _ _ e2)))) (fun z => by simp at z) (pairB_no (by simp))
  · exact eltN_tup (s5 _ _ (s4 _ _ e3)) (two_all (any_str (by decide)) (any_str (by decide))) (by decide +kernel)
  · exact eltN_tup (s5 _ _ e4) (two_all (any_str (by decide)) (any_str (by decide))) (by decide +kernel)
  · exact .no (srt_dK e5) (by decide)
def b11 : TS := tAsg (tOp rCat (tVar 19) (tLst (tCons (tTup (tCons (tC (V.bl true)) (tCons (tC (V.str "no")) tNil))) (tCons (tTup (tCons (tC (V.str "read")) (tCons (tC V.non) tNil))) (tCons (tTup (tCons (tC (V.str "read")) (tCons (tC (V.str "")) tNil))) (tCons (tTup (tCons (tC (V.str "")) (tCons (tC (V.str "no")) tNil))) (tCons (tTup (tCons (tC (V.str "read")) (tCons (tLst (tCons (tC (V.str "no")) tNil)) tNil))) tNil))))))) (gName 19)
theorem sb11 {O : Addr} {vs : List V} (hO : H O = some (.lst vs)) (hl : vs.length = 8) (hv : ∀ v ∈ vs, EltN K H v) (q : ∀ H' O vs, Same H H' → vs.length = 13 → H' O = some (.lst vs) → (∀ v ∈ vs, EltN K H' v) → D.nx (sgL v0 v1 a v3 mL eL v6 v7 v8 dA k v11 v12 v13 v14 v15 v16 v17 v18 (some (.ref O)) v20) H') :
    b11 D (sgL v0 v1 a v3 mL eL v6 v7 v8 dA k v11 v12 v13 v14 v15 v16 v17 v18 (some (.ref O)) v20) H := by
  have line : sizeLine = 16777216 := sizeLine_eq
  refine ⟨_, rfl, by show 2 ≤ sizeLine; omega, fun t1 h1 => ⟨by show 2 ≤ sizeLine; omega, fun t2 h2 => ⟨by show 2 ≤ sizeLine; omega, fun t3 h3 => ⟨by show 2 ≤ sizeLine; omega, fun t4 h4 => ⟨by show 1 ≤ sizeLine; omega, fun t5 h5 => ⟨by show 2 ≤ sizeLine; omega, fun t6 h6 => ⟨by show 5 ≤ sizeLine; omega, fun t7 h7 => ?_⟩⟩⟩⟩⟩⟩⟩
  have s1 := Same.new (o := .tup [.bl true, .str "no"]) h1
  have e1 : (L2.upd H t1 (.tup [.bl true, .str "no"])) t1 = some (.tup [.bl true, .str "no"]) := upd_same
  generalize L2.upd H t1 (.tup [.bl true, .str "no"]) = H1 at h2 h3 h4 h5 h6 h7 s1 e1 ⊢
  have s2 := Same.new (o := .tup [.str "read", .non]) h2
  have e2 : (L2.upd H1 t2 (.tup [.str "read", .non])) t2 = some (.tup [.str "read", .non]) := upd_same
  generalize L2.upd H1 t2 (.tup [.str "read", .non]) = H2 at h3 h4 h5 h6 h7 s2 e2 ⊢
  have s3 := Same.new (o := .tup [.str "read", .str ""]) h3
  have e3 : (L2.upd H2 t3 (.tup [.str "read", .str ""])) t3 = some (.tup [.str "read", .str ""]) := upd_same
  generalize L2.upd H2 t3 (.tup [.str "read", .str ""]) = H3 at h4 h5 h6 h7 s3 e3 ⊢
  have s4 := Same.new (o := .tup [.str "", .str "no"]) h4
  have e4 : (L2.upd H3 t4 (.tup [.str "", .str "no"])) t4 = some (.tup [.str "", .str "no"]) := upd_same
  generalize L2.upd H3 t4 (.tup [.str "", .str "no"]) = H4 at h5 h6 h7 s4 e4 ⊢
  have s5 := Same.new (o := .lst [.str "no"]) h5
  have e5 : (L2.upd H4 t5 (.lst [.str "no"])) t5 = some (.lst [.str "no"]) := upd_same
  generalize L2.upd H4 t5 (.lst [.str "no"]) = H5 at h6 h7 s5 e5 ⊢
  have s6 := Same.new (o := .tup [.str "read", .ref t5]) h6
  have e6 : (L2.upd H5 t6 (.tup [.str "read", .ref t5])) t6 = some (.tup [.str "read", .ref t5]) := upd_same
  generalize L2.upd H5 t6 (.tup [.str "read", .ref t5]) = H6 at h7 s6 e6 ⊢
  have s7 := Same.new (o := .lst [.ref t1, .ref t2, .ref t3, .ref t4, .ref t6]) h7
  have e7 : (L2.upd H6 t7 (.lst [.ref t1, .ref t2, .ref t3, .ref t4, .ref t6])) t7 = some (.lst [.ref t1, .ref t2, .ref t3, .ref t4, .ref t6]) := upd_same
  have s16 := s1.trans (s2.trans (s3.trans (s4.trans (s5.trans s6))))
  generalize L2.upd H6 t7 (.lst [.ref t1, .ref t2, .ref t3, .ref t4, .ref t6]) = H7 at s7 e7 ⊢
  refine ⟨O, t7, _, _, rfl, rfl, s7 _ _ (s16 _ _ hO), e7, by rw [hl]; show 8 + 5 ≤ _; omega, fun O2 hO2 => ?_⟩
  have s8 := Same.new (o := .lst (vs ++ [.ref t1, .ref t2, .ref t3, .ref t4, .ref t6])) hO2
  refine q _ O2 _ ((s16.trans s7).trans s8) (by simp [hl]) upd_same fun v hvm => EltN.same (s7.trans s8) ?_
  rcases List.mem_append.mp hvm with hvm | hvm
  · exact (hv v hvm).same s16
  · simp only [List.mem_cons, List.not_mem_nil, or_false] at hvm
    rcases hvm with e | e | e | e | e <;> subst e
    · exact eltN_tup ((s2.trans (s3.trans (s4.trans (s5.trans s6)))) _ _ e1) (two_all (any_of (srt_bl _) (fun s z => by cases z)) (any_str (by decide))) (by decide +kernel)
    · exact eltN_tup ((s3.trans (s4.trans (s5.trans s6))) _ _ e2) (two_all (any_str (by decide)) (any_of srt_non (fun s z => by cases z))) (by decide +kernel)
    · exact eltN_tup ((s4.trans (s5.trans s6)) _ _ e3) (two_all (any_str (by decide)) (any_str (by decide))) (by decide +kernel)
    · exact eltN_tup ((s5.trans s6) _ _ e4) (two_all (any_str (by decide)) (any_str (by decide))) (by decide +kernel)
    · refine eltN_tup e6 (two_all (any_str (by decide)) (any_of (srt_lst (s6 _ _ e5)) (fun s z => by cases z))) ?_
      show (isName (.str "read") && isWord (.ref t5)) = false
      rw [no_word_ref, Bool.and_false]
theorem Paired.takeP {α β : Type} {R : α → β → Prop} : ∀ {l : List α} {m : List β} (i : Nat), Paired R l m → Paired R (l.take i) (m.take i)
  | _, _, 0, _ => by rw [List.take_zero, List.take_zero]; exact .nil
  | _, _, _ + 1, .nil => by rw [List.take_nil, List.take_nil]; exact .nil
  | _, _, i + 1, .cons h t => .cons h (Paired.takeP i t)
theorem Paired.dropP {α β : Type} {R : α → β → Prop} : ∀ {l : List α} {m : List β} (i : Nat), Paired R l m → Paired R (l.drop i) (m.drop i)
  | _, _, 0, h => h
  | _, _, _ + 1, .nil => by rw [List.drop_nil, List.drop_nil]; exact .nil
  | _, _, i + 1, .cons _ t => Paired.dropP i t
def b12 (K : PySem.W.Frag) : TS := tAsg (tOp rCat (tOp rCat (tOp rCat (tSl (rSlL K) (tVar 12) tNoPart (tPart (tVar 15))) (tLst (tCons (tCalW (sp_one K) W0 (tCons (tVar 2) (tCons (tOp rCat (tVar 19) (tLst (tCons (tTup (tCons (tC (V.str "read")) (tCons (tC (V.str "Err")) tNil))) tNil))) tNil))) tNil))) (tSl (rSlL K) (tVar 12) (tPart (tVar 15)) tNoPart)) (tLst (tCons (tC V.non) tNil))) (gName 20)
theorem sb12 {O : Addr} {vs : List V} {j : Nat} (ha : Src a H) (hf : RowsAt H f hs) (ho : HistOk hs) (hj : j ≤ hs.length) (hO : H O = some (.lst vs)) (hl : vs.length = 13) (hv : ∀ v ∈ vs, EltN K H v)
    (q : ∀ H' B xs bl, SameX a H H' → Src a H' → H' B = some (.lst xs) → xs.length ≤ 20 → Paired (Elt K H') xs bl → (bl.findIdx? fun b => !b) = some j → D.nx (sgL v0 v1 a v3 mL eL v6 v7 v8 dA k v11 (some (.ref f)) v13 v14 (some (.int j)) v16 v17 v18 (some (.ref O)) (some (.ref B))) H') :
    b12 K D (sgL v0 v1 a v3 mL eL v6 v7 v8 dA k v11 (some (.ref f)) v13 v14 (some (.int j)) v16 v17 v18 (some (.ref O)) v20) H := by
  have line : sizeLine = 16777216 := sizeLine_eq
  have h8 := ho.len
  obtain ⟨bs, f1, f2⟩ := id hf
  have ebl := Paired.length f2
  refine ⟨_, rfl, _, rfl, _, rfl, f, _, rfl, SqL.of f1, fun p1 hp1 => ?_⟩
  rw [cutV_take, ← List.map_take]
  have s1 := Same.new (o := .lst ((bs.take j).map V.ref)) hp1
  have e1 : (L2.upd H p1 (.lst ((bs.take j).map V.ref))) p1 = some (.lst ((bs.take j).map V.ref)) := upd_same
  generalize L2.upd H p1 (.lst ((bs.take j).map V.ref)) = H1 at s1 e1 ⊢
  refine ⟨_, rfl, _, rfl, by show 2 ≤ sizeLine; omega, fun t2 h2 => ⟨by show 1 ≤ sizeLine; omega, fun t3 h3 => ?_⟩⟩
  have s2 := Same.new (o := .tup [.str "read", .str "Err"]) h2
  have e2 : (L2.upd H1 t2 (.tup [.str "read", .str "Err"])) t2 = some (.tup [.str "read", .str "Err"]) := upd_same
  generalize L2.upd H1 t2 (.tup [.str "read", .str "Err"]) = H2 at h3 s2 e2 ⊢
  have s3 := Same.new (o := .lst [.ref t2]) h3
  have e3 : (L2.upd H2 t3 (.lst [.ref t2])) t3 = some (.lst [.ref t2]) := upd_same
  generalize L2.upd H2 t3 (.lst [.ref t2]) = H3 at s3 e3 ⊢
  have s13 := s1.trans (s2.trans s3)
  refine ⟨O, t3, _, _, rfl, rfl, s13 _ _ hO, e3, by rw [hl]; show 13 + 1 ≤ _; omega, fun t4 h4 => ?_⟩
  have s4 := Same.new (o := .lst (vs ++ [.ref t2])) h4
  have e4 : (L2.upd H3 t4 (.lst (vs ++ [.ref t2]))) t4 = some (.lst (vs ++ [.ref t2])) := upd_same
  have n4 : H3 t4 = none := h4
  generalize L2.upd H3 t4 (.lst (vs ++ [.ref t2])) = H4 at s4 e4 ⊢
  have s14 := s13.trans s4
  have hv4 : ∀ v ∈ vs ++ [.ref t2], EltN K H4 v := fun v hvm => by
    rcases List.mem_append.mp hvm with hvm | hvm
    · exact (hv v hvm).same s14
    · rw [List.mem_singleton.mp hvm]
      exact eltN_tup ((s3.trans s4) _ _ e2) (two_all (any_str (by decide)) (any_str (by decide))) (by decide +kernel)
  have hs4 := ha.same s14
  obtain ⟨x4, y4, z4, ha4⟩ := id hs4
  have na4 : a ≠ t4 := fun z => by
    subst z
    obtain ⟨_, _, _, hh⟩ := ha.same s13
    rw [hh] at n4; cases n4
  refine ⟨a, t4, x4, y4, z4, _, rfl, ha4, e4, na4, by simp, by simp [hl], fun i v o hvi ho' => ?_⟩
  have hvE := hv4 v (List.mem_of_getElem? hvi)
  have sx5 : SameX a H4 (L2.upd H4 a o) := SameX.self
  have hs5 : Src a (L2.upd H4 a o) := Src.upd ho'
  generalize L2.upd H4 a o = H5 at sx5 hs5 ⊢
  have hvE5 := hvE.keep sx5 hs4 hs5
  have e15 := sx5 _ _ (rows_ne hs4 ((s2.trans (s3.trans s4)) _ _ e1)) ((s2.trans (s3.trans s4)) _ _ e1)
  have hf5 := (hf.same s14).keep hs4 sx5
  refine ⟨by show 1 ≤ sizeLine; omega, fun t6 h6 => ?_⟩
  have s6 := Same.new (o := .lst [v]) h6
  have e6 : (L2.upd H5 t6 (.lst [v])) t6 = some (.lst [v]) := upd_same
  generalize L2.upd H5 t6 (.lst [v]) = H6 at s6 e6 ⊢
  refine ⟨p1, t6, _, _, rfl, rfl, s6 _ _ e15, e6, by rw [List.length_map, List.length_take]; show _ + 1 ≤ _; omega, fun t7 h7 => ?_⟩
  have s7 := Same.new (o := .lst ((bs.take j).map V.ref ++ [v])) h7
  have e7 : (L2.upd H6 t7 (.lst ((bs.take j).map V.ref ++ [v]))) t7 = some (.lst ((bs.take j).map V.ref ++ [v])) := upd_same
  generalize L2.upd H6 t7 (.lst ((bs.take j).map V.ref ++ [v])) = H7 at s7 e7 ⊢
  obtain ⟨bs5, f51, f52⟩ := id hf5
  have ef : bs5 = bs := by
    have z := sx5 _ _ (rows_ne hs4 (s14 _ _ f1)) (s14 _ _ f1)
    rw [z] at f51
    exact (map_inj (fun x y e => V.ref.inj e) (HO.lst.inj (Option.some.inj f51))).symm
  subst ef
  refine ⟨_, rfl, _, rfl, _, rfl, f, _, rfl, SqL.of ((s6.trans s7) _ _ f51), fun t8 h8 => ?_⟩
  rw [cutV_drop, ← List.map_drop]
  have s8 := Same.new (o := .lst ((bs5.drop j).map V.ref)) h8
  have e8 : (L2.upd H7 t8 (.lst ((bs5.drop j).map V.ref))) t8 = some (.lst ((bs5.drop j).map V.ref)) := upd_same
  generalize L2.upd H7 t8 (.lst ((bs5.drop j).map V.ref)) = H8 at s8 e8 ⊢
  refine ⟨t7, t8, _, _, rfl, rfl, s8 _ _ e7, e8, by simp; omega, fun t9 h9 => ?_⟩
  have s9 := Same.new (o := .lst ((bs5.take j).map V.ref ++ [v] ++ (bs5.drop j).map V.ref)) h9
  have e9 : (L2.upd H8 t9 (.lst ((bs5.take j).map V.ref ++ [v] ++ (bs5.drop j).map V.ref))) t9 = some (.lst ((bs5.take j).map V.ref ++ [v] ++ (bs5.drop j).map V.ref)) := upd_same
  generalize L2.upd H8 t9 (.lst ((bs5.take j).map V.ref ++ [v] ++ (bs5.drop j).map V.ref)) = H9 at s9 e9 ⊢
  refine ⟨by show 1 ≤ sizeLine; omega, fun t10 h10 => ?_⟩
  have s10 := Same.new (o := .lst [.non]) h10
  refine ⟨t9, t10, _, _, rfl, rfl, s10 _ _ e9, upd_same, by simp; omega, fun B hB => ?_⟩
  have s11 := Same.new (o := .lst ((bs5.take j).map V.ref ++ [v] ++ (bs5.drop j).map V.ref ++ [.non])) hB
  have s511 := s6.trans (s7.trans (s8.trans (s9.trans (s10.trans s11))))
  have hw : ∀ c ∈ hs, isName (.str c.1) = true ∧ isWord (.str c.2) = true ∧ c.2.length ≤ sizeLine := fun c hc => ⟨ho.nm c hc, (ho.wd c hc).1, by have := (ho.wd c hc).2.2; omega⟩
  have f5' : Paired (PairAt K (L2.upd (L2.upd H9 t10 (.lst [.non])) B (.lst ((bs5.take j).map V.ref ++ [v] ++ (bs5.drop j).map V.ref ++ [.non])))) hs bs5 := Paired.imp f52 fun _ _ z => .inr (SqT.of (s511 _ _ z))
  refine q _ B _ (((hs.take j).map fun _ => true) ++ [false] ++ ((hs.drop j).map fun _ => true) ++ [false]) (((SameX.of s14).trans sx5).trans (SameX.of s511)) (hs5.same s511) upd_same (by simp; omega) ?_ ?_
  · refine Paired.app (Paired.app (Paired.app (pair_elts (Paired.takeP j f5') fun c hc => hw c (List.mem_of_mem_take hc)) (.cons (hvE5.same s511).elt .nil)) (pair_elts (Paired.dropP j f5') fun c hc => hw c (List.mem_of_mem_drop hc))) (.cons (.no srt_non (by decide)) .nil)
  · refine first_no (fun b hb => ?_) ?_
    · rw [List.append_assoc, List.append_assoc, List.take_append_of_le_length (by simp; omega)] at hb
      obtain ⟨_, _, e⟩ := List.mem_map.mp (List.mem_of_mem_take hb)
      exact e.symm
    · rw [List.append_assoc, List.append_assoc, List.getElem?_append_right (by simp; omega)]
      have : j - ((hs.take j).map fun _ => true).length = 0 := by simp; omega
      rw [this] <;> rfl
def b13 (K : PySem.W.Frag) : TS := tIfS (tOr (tTest (tOp rNe (tCalW (sp_said K (He.ga K "after")) W0 (tCons (tC (V.ref (He.ga K "after"))) (tCons (tVar 10) (tCons (tVar 20) tNil)))) (tVar 15))) (tTest (tOp rNe (tCalW (sp_said K (He.ga K "allowed")) W0 (tCons (tC (V.ref (He.ga K "allowed"))) (tCons (tVar 10) (tCons (tCB (rTupOf K) (tCons (tVar 20) tNil)) tNil)))) (tVar 15)))) (tRet (tC (V.bl false))) tNext
theorem sb13 {B : Addr} {xs : List V} {bl : List Bool} {j : Nat} {kd : KD} (hk : KindAt K H k kd) (ok : KindOk kd) (hB : H B = some (.lst xs)) (hp : Paired (Elt K H) xs bl) (hj : (bl.findIdx? fun b => !b) = some j)
    (q : ∀ H', Same H H' → D.nx (sgL v0 v1 a v3 mL eL v6 v7 v8 dA k v11 v12 v13 v14 (some (.int j)) v16 v17 v18 v19 (some (.ref B))) H') :
    b13 K D (sgL v0 v1 a v3 mL eL v6 v7 v8 dA k v11 v12 v13 v14 (some (.int j)) v16 v17 v18 v19 (some (.ref B))) H := by
  refine ⟨_, rfl, _, rfl, ?_⟩
  walk_at "dn"
  refine ⟨k, .ref B, kd, some j, [], rfl, hk, ok, .bad (.inl (SqL.of hB)) hp hj, fun H1 s1 => ⟨_, rfl, rfl, _, rfl, ?_⟩⟩
  rw [show (!decide (saidV (some (j : Int)) = V.int j)) = false from by simp [saidV]]
  refine ⟨_, rfl, _, rfl, B, _, rfl, .inl ⟨SqL.of (s1 _ _ hB), fun tu htu => ?_⟩⟩
  have s2 := s1.trans (Same.new (o := .tup xs) htu)
  walk_at "dn"
  refine ⟨k, .ref tu, kd, some j, [], rfl, hk.same s2, ok, .bad (.inr (SqT.of upd_same)) (Paired.imp hp fun _ _ z => z.same s2) hj, fun H3 s3 => ⟨_, rfl, rfl, _, rfl, ?_⟩⟩
  rw [show (!decide (saidV (some (j : Int)) = V.int j)) = false from by simp [saidV]]
  exact q H3 (s2.trans s3)
def b14 (K : PySem.W.Frag) : TS := tFor (iTup K (tTup (tCons (tC V.non) (tCons (tC (V.int 5)) (tCons (tC (V.str "no")) (tCons tDNewK (tCons (tC (V.bl true)) tNil))))))) (gName 19)
  (tIfS (tOr (tTest (tOp rNe (tCalW (sp_said K (He.ga K "after")) W0 (tCons (tC (V.ref (He.ga K "after"))) (tCons (tVar 10) (tCons (tVar 19) tNil)))) (tUn (rU fun i => V.int (-i)) (tC (V.int 1))))) (tTest (tOp rNe (tCalW (sp_said K (He.ga K "allowed")) W0 (tCons (tC (V.ref (He.ga K "allowed"))) (tCons (tVar 10) (tCons (tVar 19) tNil)))) (tUn (rU fun i => V.int (-i)) (tC (V.int 1)))))) (tRet (tC (V.bl false))) tNext)
theorem sb14 {kd : KD} (hk : KindAt K H k kd) (ok : KindOk kd)
    (q : ∀ H' v19, Same H H' → D.nx (sgL v0 v1 a v3 mL eL v6 v7 v8 dA k v11 v12 v13 v14 v15 v16 v17 v18 v19 v20) H') :
    b14 K D (sgL v0 v1 a v3 mL eL v6 v7 v8 dA k v11 v12 v13 v14 v15 v16 v17 v18 v19 v20) H := by
  have line : sizeLine = 16777216 := sizeLine_eq
  intro t1 h1
  refine ⟨by show 5 ≤ sizeLine; omega, fun t2 h2 => ?_⟩
  have s1 := Same.new (o := .dK []) h1
  have e1 : (L2.upd H t1 (.dK [])) t1 = some (.dK []) := upd_same
  generalize L2.upd H t1 (.dK []) = H1 at h2 s1 e1 ⊢
  have s2 := Same.new (o := .tup [.non, .int 5, .str "no", .ref t1, .bl true]) h2
  have e2 : (L2.upd H1 t2 (.tup [.non, .int 5, .str "no", .ref t1, .bl true])) t2 = some (.tup [.non, .int 5, .str "no", .ref t1, .bl true]) := upd_same
  generalize L2.upd H1 t2 (.tup [.non, .int 5, .str "no", .ref t1, .bl true]) = H2 at s2 e2 ⊢
  have s12 := s1.trans s2
  refine ⟨t2, rfl, ⟨_, SqT.of e2⟩, for_it (walk_tm (f := id) (ss := [.non, .int 5, .str "no", .ref t1, .bl true])) (fun i σ H' => Same H2 H' ∧ ∃ v19, σ = sgL v0 v1 a v3 mL eL v6 v7 v8 dA k v11 v12 v13 v14 v15 v16 v17 v18 v19 v20) ⟨Same.refl _, _, rfl⟩ (fun i σ H' _ z => by rw [List.map_id]; exact SqT.of (z.1 _ _ e2)) (fun i y σ H3 H4 hi pv yy => ?_) (fun σ H3 pv => ?_)⟩
  · obtain ⟨s3, v19, rfl⟩ := pv
    obtain ⟨rfl, hy⟩ := yy
    rw [List.map_id] at hy
    have s13 := s12.trans s3
    have hn : ∃ n, Srt K H4 y n ∧ isRow n = false := by
      have hm := List.mem_of_getElem? hy
      simp only [List.mem_cons, List.not_mem_nil, or_false] at hm
      rcases hm with e | e | e | e | e <;> subst e
      · exact ⟨_, srt_non, by decide⟩
      · exact ⟨_, srt_int _, by decide⟩
      · exact ⟨_, srt_str _, by decide⟩
      · exact ⟨_, srt_dK ((s2.trans s3) _ _ e1), by decide⟩
      · exact ⟨_, srt_bl _, by decide⟩
    obtain ⟨n, sn, rn⟩ := hn
    refine ⟨_, rfl, _, rfl, ?_⟩
    walk_at "dn"
    refine ⟨k, y, kd, some (-1), [], rfl, hk.same s13, ok, .no sn rn, fun H5 s5 => ⟨1, rfl, rfl, _, rfl, ?_⟩⟩
    rw [show (!decide (saidV (some (-1 : Int)) = V.int (-1))) = false from by decide]
    refine ⟨_, rfl, _, rfl, ?_⟩
    walk_at "dn"
    refine ⟨k, y, kd, some (-1), [], rfl, hk.same (s13.trans s5), ok, .no (Srt.same s5 sn) rn, fun H6 s6 => ⟨1, rfl, rfl, _, rfl, ?_⟩⟩
    rw [show (!decide (saidV (some (-1 : Int)) = V.int (-1))) = false from by decide]
    exact ⟨(s3.trans s5).trans s6, _, rfl⟩
  · obtain ⟨s3, v19, rfl⟩ := pv
    exact q H3 v19 (s12.trans s3)
end
end
end Rs
set_option Elab.async false
set_option linter.all false
set_option maxRecDepth 100000
set_option maxHeartbeats 4000000
namespace Rs
open PySem PySem.Spec PyProof.Rows L2
local macro_rules | `(tactic| walk_at "rd") => `(tactic| simp only [L2.tRet, L2.tRetN, L2.tSeq, L2.tNext, L2.tIfS, L2.tAsg, L2.gName, L2.gNil, L2.gCons, L2.tVar, L2.tC, L2.tOp, L2.tUn, L2.tCB, L2.tCons, L2.tNil, L2.tAndV, L2.tOrV, L2.tNotV, L2.tAnd, L2.tOr, L2.tNot, L2.tB, L2.tTest, L2.tIf, L2.tChain, L2.tTup, L2.tLst, L2.tDrop, L2.tFld, L2.sFld, L2.tOst, L2.tBM, L2.rNe, L2.tMkO, L2.start, L2.cxOf, L2.Cx.nox, L2.Cx.wish, L2.rI0, L2.rI, L2.tYes, Rs.tCalW, List.getElem?_cons_zero, List.getElem?_cons_succ, Option.some.injEq, exists_eq_left', exists_eq_left, exists_and_left, List.cons.injEq, and_true, true_and, L2.V.bl.injEq, L2.V.int.injEq, L2.V.str.injEq, L2.V.ref.injEq, List.set_cons_zero, List.set_cons_succ, List.map_cons, List.map_nil, List.length_cons, List.length_nil, List.replicate, List.cons_append, List.nil_append, List.append_nil, Nat.reduceSub, Nat.reduceAdd])
local macro_rules | `(tactic| walk_at "dn") => `(tactic| dsimp only [L2.tCons, L2.tC, L2.tNil])
section
variable {P : Program} {w : World} {K : PySem.W.Frag} {mg : PySem.Str → Option Value} {base : Heap}
def sp_law (K : PySem.W.Frag) : Sp := fun vs H Q _ => ∃ (a : Addr) (ns : List Int), vs = [.ref a] ∧ SqL K H a (ns.map V.int) ∧ ns.length ≤ 63 ∧ ∀ H', Q (.bl true) H'
theorem cells6 (ns : List Int) : cutV (ns.map V.int) none (some 6) ++ [V.int 0] = (ns.take 6 ++ [0]).map V.int := by
  rw [show (6 : Int) = ((6 : Nat) : Int) from rfl, cutV_take, ← List.map_take, List.map_append] <;> rfl
theorem ok_law (T : Txt K mg) {fd : FuncData} (F : FunD K "law" "law" (defArgs s_law) (defBody s_law) (defScope s_law) [] [] (He.ga K "law") fd) : FnOk P w K mg base (L2.CX P w) 10 (He.ga K "law") fd ["_law_script"] (sp_law K) := by
  have c_law_source := ok_source (P := P) (w := w) (base := base) T
  have c_law_draw := ok_draw (P := P) (w := w) (base := base) T
  have c_law_pick := ok_pick (P := P) (w := w) (base := base) T
  have c_law_sorts := ok_sorts (P := P) (w := w) (base := base) T
  have c_law_history := ok_hist (P := P) (w := w) (base := base) T
  have c_Kind := ok_kind (P := P) (w := w) (base := base) T
  have c_methods := ok_methods (P := P) (w := w) (base := base) T
  have c_after := ok_after (P := P) (w := w) (base := base) T
  have c_allowed := ok_allowed (P := P) (w := w) (base := base) T
  have c_saidA : Cal P w K mg base 9 "_law_said" ["_law_ask", "_law_kind", "_law_history_here"] (sp_said K (He.ga K "after")) := by
    refine ok_said (y := "after") (sp := sp_after K) T ?_ T.g_after fun hk ok hh q => ?_
    · obtain ⟨f, fd, F, r⟩ := c_after.ex
      exact ⟨f, fd, F.mono (by decide), r⟩
    · rename_i o _ _ _ _
      exact ⟨_, _, _, o, _, rfl, hk, ok, hh, by cases o with | none => exact fun H' l s _ _ => q H' l s | some i => exact q⟩
  have c_saidB : Cal P w K mg base 9 "_law_said" ["_law_ask", "_law_kind", "_law_history_here"] (sp_said K (He.ga K "allowed")) := by
    refine ok_said (y := "allowed") (sp := sp_allowed K) T c_allowed T.g_allowed fun hk ok hh q => ?_
    rename_i o _ _ _ _
    exact ⟨_, _, _, o, _, rfl, hk, ok, hh, by cases o with | none => exact fun H' l s _ _ => q H' l s | some i => exact q⟩
  refine F.ok sc_law (fun vs H Q E h => ?_) (fun cdv A outer s H vs Q E hr h => ?_)
  · obtain ⟨a, ns, rfl, _⟩ := h
    rfl
  · have hu64 := hr.units
    have hu := hu_of hr
    refine ⟨_, PSs.nox (pss_cons (ps_for PassesOwn.never rfl (pi_list (pe_op op_cat (pe_slice (r := rSlL K) sl_list (pv 0) po_none (po_some pe_int)) (pe_lst (pa_cons pe_int pa_nil)))) (pg_name (i := 1) sc_law.nd rfl (Or.inl rfl))
      (pss_cons (ps_set (i := 2) sc_law.nd rfl (Or.inl rfl) (pe_cal c_law_source (hr.mono (by decide)) takes0 (pa_cons (pv 1) pa_nil)))
      (pss_cons (ps_asg (pe_cal c_law_sorts (hr.mono (by decide)) takes0 (pa_cons (pv 2) (pa_cons pe_int (pa_cons pe_int pa_nil)))) (pg_tup rfl (pgs_cons (pg_name (i := 3) sc_law.nd rfl (Or.inl rfl)) (pgs_cons (pg_name (i := 4) sc_law.nd rfl (Or.inl rfl)) (pgs_cons (pg_name (i := 5) sc_law.nd rfl (Or.inl rfl)) pgs_nil)))))
      (pss_one (ps_for PassesOwn.never rfl (pi_list (pv 3)) (pg_tup rfl (pgs_cons (pg_name (i := 6) sc_law.nd rfl (Or.inl rfl)) (pgs_cons (pg_name (i := 7) sc_law.nd rfl (Or.inl rfl)) (pgs_cons (pg_name (i := 8) sc_law.nd rfl (Or.inl rfl)) (pgs_cons (pg_name (i := 9) sc_law.nd rfl (Or.inr rfl)) pgs_nil)))))
      (pss_cons (ps_set (i := 10) sc_law.nd rfl (Or.inl rfl) (pe_cali c_Kind (hr.mono (by decide)) takes0 (pa_cons (pv 6) (pa_cons (pv 7) (pa_cons (pv 8) (pa_cons (pv 9) pa_nil))))))
      (pss_cons (ps_for PassesOwn.never rfl (pi_range1 rfl T.b_range (pa_cons pe_int pa_nil)) (pg_name (i := 11) sc_law.nd rfl (Or.inl rfl))
      (pss_cons (ps_asg (pe_cal c_law_history (hr.mono (by decide)) takes0 (pa_cons (pv 2) (pa_cons (pv 7) (pa_cons (pv 9) (pa_cons (pv 4) (pa_cons (pe_op op_cat (pe_lst (pa_cons pe_str (pa_cons pe_str pa_nil))) (pv 5)) pa_nil)))))) (pg_tup rfl (pgs_cons (pg_name (i := 12) sc_law.nd rfl (Or.inl rfl)) (pgs_cons (pg_name (i := 13) sc_law.nd rfl (Or.inr rfl)) pgs_nil))))
      (pss_cons (ps_setLc (i := 16) (own := [("_law_it", 14)]) (g := gName 14) rfl sc_law.nd rfl rfl (sw_true rfl rfl rfl (by decide +kernel)) (pi_list (pe_calm0 c_methods T.cl_Kind (hr.mono (by decide)) takes0 (pv 10))) (blkOk_by (own := [("_law_it", 14)]) (N := ["_law_script", "_law_cell", "_law_well", "_law_kinds", "_law_methods", "_law_errors", "_law_name", "_law_start", "_law_ends", "_law_moves", "_law_kind", "_law_turn", "_law_history_here", "_law_states", "_law_it", "_law_at", "_law_due", "_law_one", "_law_rows", "_law_odd", "_law_bad"]) (sc := defScope s_law) (by decide +kernel)) (fun _ _ _ _ _ => (pg_name (i := 14) sc_law.nd rfl (by first | exact Or.inl rfl | exact Or.inr rfl))) (fun _ _ _ _ _ => (pts_one (pt_cmpR (r := rEqD K) (op_eqD hu64) (pe_lc (own := [("_law_at", 15)]) (g := gName 15) (wi := iList K _) rfl sc_law.nd (pi_list (pv 13)) (blkOk_by (own := [("_law_at", 15)]) (by kernel_rfl)) (fun _ _ _ _ _ => (pg_name (i := 15) sc_law.nd rfl (by first | exact Or.inl rfl | exact Or.inr rfl))) (fun _ _ _ _ _ => (pts_one (pt_cmp (pc_dnotin hu (pe_tup (pa_cons (pv 15) (pa_cons (pv 14) pa_nil))) (pv 9)) rfl))) (fun _ _ _ _ _ => (pv 15))) (pe_lst pa_nil) (nomark _)))) (fun _ _ _ _ _ => (pv 14)))
      (pss_cons (ps_setLc (i := 18) (own := [("_law_one", 17)]) (g := gName 17) (tt := tYes) rfl sc_law.nd rfl rfl (sw_true rfl rfl rfl (by decide +kernel)) (pi_list (pv 12)) (blkOk_by (own := [("_law_one", 17)]) (N := ["_law_script", "_law_cell", "_law_well", "_law_kinds", "_law_methods", "_law_errors", "_law_name", "_law_start", "_law_ends", "_law_moves", "_law_kind", "_law_turn", "_law_history_here", "_law_states", "_law_it", "_law_at", "_law_due", "_law_one", "_law_rows", "_law_odd", "_law_bad"]) (sc := defScope s_law) (by decide +kernel)) (fun _ _ _ _ _ => (pg_name (i := 17) sc_law.nd rfl (by first | exact Or.inl rfl | exact Or.inr rfl))) (fun _ _ _ _ _ => pts_nil) (fun _ _ _ _ _ => (pe_callTy (r := rListOf K) call_listOf rfl T.b_list (by decide +kernel) (pa_cons (pv 17) pa_nil))))
      (pss_cons (ps_if (PW.pt (pw_or (pt_cmpR (r := rNeD K) (op_neD hu64) (pe_cal c_after (hr.mono (by decide)) takes0 (pa_cons (pv 10) (pa_cons (pv 12) pa_nil))) (pv 13) (nomark _)) (pw_or1 (pt_cmpR (r := rNeD K) (op_neD hu64) (pe_cal c_allowed (hr.mono (by decide)) takes0 (pa_cons (pv 10) (pa_cons (pe_callTy (r := rTupOf K) call_tupOf rfl T.b_tuple (by decide +kernel) (pa_cons (pv 12) pa_nil)) pa_nil))) (pv 16) (nomark _))))) (pss_one (ps_ret pe_bl)) pss_nil)
      (pss_cons (ps_if (pt_cmpR (r := rNeD K) (op_neD hu64) (pe_cal c_after (hr.mono (by decide)) takes0 (pa_cons (pv 10) (pa_cons (pv 18) pa_nil))) (pv 13) (nomark _)) (pss_one (ps_ret pe_bl)) pss_nil)
      (pss_cons (ps_expr (pe_bm PySem.F.plainAttrs_list PySem.F.slot_list_append PySem.F.type_list_append mt_append (pe_cal c_after (hr.mono (by decide)) takes0 (pa_cons (pv 10) (pa_cons (pv 12) pa_nil))) (pa_cons pe_str pa_nil)))
      (pss_cons (ps_expr (pe_bm PySem.F.plainAttrs_list PySem.F.slot_list_append PySem.F.type_list_append mt_append (pe_cal c_allowed (hr.mono (by decide)) takes0 (pa_cons (pv 10) (pa_cons (pv 12) pa_nil))) (pa_cons pe_str pa_nil)))
      (pss_cons (ps_if (PW.pt (pw_or (pt_cmpR (r := rNeD K) (op_neD hu64) (pe_cal c_after (hr.mono (by decide)) takes0 (pa_cons (pv 10) (pa_cons (pv 12) pa_nil))) (pv 13) (nomark _)) (pw_or1 (pt_cmpR (r := rNeD K) (op_neD hu64) (pe_cal c_allowed (hr.mono (by decide)) takes0 (pa_cons (pv 10) (pa_cons (pv 18) pa_nil))) (pv 16) (nomark _))))) (pss_one (ps_ret pe_bl)) pss_nil)
      (pss_cons (ps_set (i := 15) sc_law.nd rfl (Or.inl rfl) (pe_cal c_law_draw (hr.mono (by decide)) takes0 (pa_cons (pv 2) (pa_cons (pe_op op_add (pe_callB (r := rLenQ K) call_lenQ rfl T.b_len (by decide +kernel) (pa_cons (pv 12) pa_nil)) pe_int) pa_nil))))
      (pss_cons (ps_set (i := 19) sc_law.nd rfl (Or.inl rfl) (pe_lst (pa_cons pe_non (pa_cons pe_int (pa_cons pe_str (pa_cons (pe_tup (pa_cons pe_str pa_nil)) (pa_cons (pe_tup (pa_cons pe_str (pa_cons pe_str (pa_cons pe_int pa_nil)))) (pa_cons (pe_tup (pa_cons pe_str (pa_cons pe_str pa_nil))) (pa_cons (pe_tup (pa_cons pe_str (pa_cons pe_str pa_nil))) (pa_cons pe_dnewK pa_nil))))))))))
      (pss_cons (ps_set (i := 19) sc_law.nd rfl (Or.inl rfl) (pe_op op_cat (pv 19) (pe_lst (pa_cons (pe_tup (pa_cons pe_bl (pa_cons pe_str pa_nil))) (pa_cons (pe_tup (pa_cons pe_str (pa_cons pe_non pa_nil))) (pa_cons (pe_tup (pa_cons pe_str (pa_cons pe_str pa_nil))) (pa_cons (pe_tup (pa_cons pe_str (pa_cons pe_str pa_nil))) (pa_cons (pe_tup (pa_cons pe_str (pa_cons (pe_lst (pa_cons pe_str pa_nil)) pa_nil))) pa_nil))))))))
      (pss_cons (ps_set (i := 20) sc_law.nd rfl (Or.inl rfl) (pe_op op_cat (pe_op op_cat (pe_op op_cat (pe_slice (r := rSlL K) sl_list (pv 12) po_none (po_some (pv 15))) (pe_lst (pa_cons (pe_cal c_law_pick (hr.mono (by decide)) takes0 (pa_cons (pv 2) (pa_cons (pe_op op_cat (pv 19) (pe_lst (pa_cons (pe_tup (pa_cons pe_str (pa_cons pe_str pa_nil))) pa_nil))) pa_nil))) pa_nil))) (pe_slice (r := rSlL K) sl_list (pv 12) (po_some (pv 15)) po_none)) (pe_lst (pa_cons pe_non pa_nil))))
      (pss_one (ps_if (PW.pt (pw_or (pt_cmpR op_ne (pe_cal c_saidA (hr.mono (by decide)) takes0 (pa_cons (pe_glob (v := .ref (He.ga K "after")) rfl T.g_after rfl) (pa_cons (pv 10) (pa_cons (pv 20) pa_nil)))) (pv 15) (nomark _)) (pw_or1 (pt_cmpR op_ne (pe_cal c_saidB (hr.mono (by decide)) takes0 (pa_cons (pe_glob (v := .ref (He.ga K "allowed")) rfl T.g_allowed rfl) (pa_cons (pv 10) (pa_cons (pe_callTy (r := rTupOf K) call_tupOf rfl T.b_tuple (by decide +kernel) (pa_cons (pv 20) pa_nil)) pa_nil)))) (pv 15) (nomark _))))) (pss_one (ps_ret pe_bl)) pss_nil)))))))))))))))
      (pss_one (ps_for PassesOwn.never rfl (pi_tup (pe_tup (pa_cons pe_non (pa_cons pe_int (pa_cons pe_str (pa_cons pe_dnewK (pa_cons pe_bl pa_nil))))))) (pg_name (i := 19) sc_law.nd rfl (Or.inl rfl))
      (pss_one (ps_if (PW.pt (pw_or (pt_cmpR op_ne (pe_cal c_saidA (hr.mono (by decide)) takes0 (pa_cons (pe_glob (v := .ref (He.ga K "after")) rfl T.g_after rfl) (pa_cons (pv 10) (pa_cons (pv 19) pa_nil)))) (pe_un un_neg pe_int) (nomark _)) (pw_or1 (pt_cmpR op_ne (pe_cal c_saidB (hr.mono (by decide)) takes0 (pa_cons (pe_glob (v := .ref (He.ga K "allowed")) rfl T.g_allowed rfl) (pa_cons (pv 10) (pa_cons (pv 19) pa_nil)))) (pe_un un_neg pe_int) (nomark _))))) (pss_one (ps_ret pe_bl)) pss_nil)))))))))))
      (pss_one (ps_ret pe_bl))), ?_⟩
    obtain ⟨a, ns, rfl, ha, hl, q⟩ := h
    have line : sizeLine = 16777216 := sizeLine_eq
    refine ⟨_, rfl, _, rfl, a, _, rfl, ha, fun t1 h1 => ⟨by show 1 ≤ sizeLine; omega, fun t2 h2 => ⟨t1, t2, _, _, rfl, rfl, Same.new h2 _ _ upd_same, upd_same, by have := cutV_length (ns.map V.int) none (some 6); simp at this ⊢; omega, fun L hL => ?_⟩⟩⟩
    rw [cells6]
    have hL1 : (L2.upd (L2.upd (L2.upd H t1 (.lst (cutV (ns.map V.int) none (some 6)))) t2 (.lst [V.int 0])) L (.lst ((ns.take 6 ++ [0]).map V.int))) L = some (.lst ((ns.take 6 ++ [0]).map V.int)) := upd_same
    generalize (L2.upd (L2.upd (L2.upd H t1 (.lst (cutV (ns.map V.int) none (some 6)))) t2 (.lst [V.int 0])) L (.lst ((ns.take 6 ++ [0]).map V.int))) = H1 at hL1 ⊢
    refine ⟨L, rfl, ⟨_, SqL.of hL1⟩, for_list (xs := (ns.take 6 ++ [0]).map V.int) (fun i σ H' => σ.length = 21 ∧ σ[0]? = some (some (.ref a)) ∧ H' L = some (.lst ((ns.take 6 ++ [0]).map V.int))) ⟨rfl, rfl, hL1⟩ (fun i σ H' _ pv => SqL.of pv.2.2) (fun i v σ H2 hv pv => ?_) (fun σ H2 pv => q _)⟩
    obtain ⟨hl21, _, hL2⟩ := pv
    obtain ⟨u0, u1, u2, u3, u4, u5, u6, u7, u8, u9, u10, u11, u12, u13, u14, u15, u16, u17, u18, u19, u20, rfl⟩ : ∃ u0 u1 u2 u3 u4 u5 u6 u7 u8 u9 u10 u11 u12 u13 u14 u15 u16 u17 u18 u19 u20, σ = [u0, u1, u2, u3, u4, u5, u6, u7, u8, u9, u10, u11, u12, u13, u14, u15, u16, u17, u18, u19, u20] := by
      match σ, hl21 with
      | [u0, u1, u2, u3, u4, u5, u6, u7, u8, u9, u10, u11, u12, u13, u14, u15, u16, u17, u18, u19, u20], _ => exact ⟨_, _, _, _, _, _, _, _, _, _, _, _, _, _, _, _, _, _, _, _, _, rfl⟩
    rename_i h0
    have eu0 : u0 = some (.ref a) := by simpa using h0
    subst eu0
    rw [List.getElem?_map] at hv
    cases e : (ns.take 6 ++ [0])[i]? with
    | none => rw [e] at hv; cases hv
    | some c =>
      rw [e] at hv
      cases Option.some.inj hv
      refine ⟨_, rfl, c, rfl, fun s o hs ho => ?_⟩
      have nL : L ≠ s := ne_of_none hL2 hs
      have h3 : (L2.upd H2 s o) L = some (.lst ((ns.take 6 ++ [0]).map V.int)) := by rw [upd_ne nL]; exact hL2
      have hs3 : Src s (L2.upd H2 s o) := Src.upd ho
      generalize L2.upd H2 s o = H3 at h3 hs3 ⊢
      refine ⟨_, rfl, ?_⟩
      walk_at "dn"
      refine ⟨s, 2, 4, rfl, hs3, by decide, by decide, by decide, fun H4 t kL mL eL ts ps meths errs hpl hpn hpo dr sx4 hs4 so => ?_⟩
      have h4L := sx4 _ _ nL h3
      refine ⟨t, _, rfl, SqT.of so.tup, rfl, _, _, rfl, _, _, rfl, _, _, rfl, rfl, ?_⟩
      have ets := Paired.length so.pls
      refine ⟨_, rfl, kL, rfl, ⟨_, SqL.of so.kinds⟩, for_it walk_lm (fun i σ H' => SameX s H4 H' ∧ Src s H' ∧ ∃ v6 v7 v8 v9 v10 v11 v12 v13 v14 v15 v16 v17 v18 v19 v20, σ = [some (.ref a), some (.int c), some (.ref s), some (.ref kL), some (.ref mL), some (.ref eL), v6, v7, v8, v9, v10, v11, v12, v13, v14, v15, v16, v17, v18, v19, v20])
        ⟨SameX.of (Same.refl _), hs4, _, _, _, _, _, _, _, _, _, _, _, _, _, _, _, rfl⟩ (fun i σ H' _ pv => SqL.of (pv.1 _ _ (rows_ne hs4 so.kinds) so.kinds)) (fun i y σ H5 H6 hi pv yy => ?_) (fun σ H5 pv => ?_)⟩
      · obtain ⟨sx5, hs5, v6, v7, v8, v9, v10, v11, v12, v13, v14, v15, v16, v17, v18, v19, v20, rfl⟩ := pv
        obtain ⟨rfl, hy⟩ := yy
        obtain ⟨tp, htp⟩ : ∃ tp, ts[i]? = some tp := ⟨_, List.getElem?_eq_getElem hi⟩
        rw [List.getElem?_map, htp] at hy
        cases Option.some.inj hy
        obtain ⟨pl, hplm, plt⟩ := Paired.at so.pls htp
        have ok := hpo pl (List.mem_of_getElem? hplm)
        obtain ⟨eA, dA, pa⟩ := plt.keep hs4 sx5
        refine ⟨tp, _, rfl, SqT.of pa.tup, rfl, _, _, rfl, _, _, rfl, _, _, rfl, _, _, rfl, rfl, ?_⟩
        refine ⟨_, rfl, _, rfl, _, rfl, _, rfl, fun x dx hx hdx ne => ?_⟩
        have s6 : Same H6 (L2.upd (L2.upd H6 dx (.own x)) x (.ins (kC K) dx [])) := (Same.new hdx).trans (Same.new (by rw [upd_ne ne.symm]; exact hx))
        have hx6 : (L2.upd (L2.upd H6 dx (.own x)) x (.ins (kC K) dx [])) x = some (.ins (kC K) dx []) := upd_same
        generalize L2.upd (L2.upd H6 dx (.own x)) x (.ins (kC K) dx []) = H7 at s6 hx6 ⊢
        have mok := pl_moves ok dr (by decide)
        walk_at "dn"
        refine ⟨x, pl.name, pl.st, eA, dA, pl.ends, pl.mv, dx, rfl, hx6, ok.name, ok.names _ (pl_st ok), .inl (SqL.of (s6 _ _ pa.ends)), fun y hy => ok.names y (ok.endsS y hy), ok.endsN, ?_, (pa.mvs.same s6).movesAt, mok, fun ys nd h => pl_60 ok (by decide) nd h, fun H8 sx8 kd8 => ⟨rfl, ?_⟩⟩
        · have := nodup_le ok.endsN ok.endsS
          have := ok.few
          omega
        · have s8 : Same H6 H8 := sx8.same s6 hx
          have pa8 := pa.keep hs5 (SameX.of s8)
          have hs8 := hs5.same s8
          have sx48 := sx5.trans (SameX.of s8)
          have c8 : Ctx K H8 s x mL eL dA pl meths errs := ⟨hs8, kd8, pa8.mvs, sx48 _ _ (txts_ne hs4 so.meths) so.meths, sx48 _ _ (txts_ne hs4 so.errs) so.errs⟩
          refine ⟨5, rfl, by decide, by decide, ?_⟩
          refine for_range (lo := 0) (n := (5 : Int).toNat) (fun i σ H' => SameX s H8 H' ∧ Src s H' ∧ ∃ v11 v12 v13 v14 v15 v16 v17 v18 v19 v20, σ = sgL (some (.ref a)) (some (.int c)) s (some (.ref kL)) mL eL (some (.str pl.name)) (some (.str pl.st)) (some (.ref eA)) dA x v11 v12 v13 v14 v15 v16 v17 v18 v19 v20) ⟨SameX.of (Same.refl _), hs8, _, _, _, _, _, _, _, _, _, _, rfl⟩ (fun j σ H9 hj pv => ?_) (fun σ H9 pv => ?_)
          · obtain ⟨sx9, hs9, v11, v12, v13, v14, v15, v16, v17, v18, v19, v20, rfl⟩ := pv
            have c9 := c8.keep sx9 hs9
            refine sb1 (K := K) c9 ok dr (by decide) fun H10 f S hs ho sx10 hs10 hR10 hS10 => ?_
            have c10 := c9.keep sx10 hs10
            have hin := lafter_in (pl_in ok) (pl_st ok) hs
            have hsl := nodup_le hin.1 hin.2
            have hfew := ok.few
            refine sb2 (K := K) (ss := lafterOf pl.mv pl.st hs) c10 hS10 (by omega) (fun x hx => tx_ok (name_iff.mp (ok.names x (hin.2 x hx))).2.2) fun H11 U s11 hU11 => ?_
            refine sb3 (K := K) (hs := hs) (hR10.same s11) ho.len fun H12 R rs s12 hR12 hrs12 => ?_
            have t12 : Turn3 K H12 s x mL eL dA f S U R pl meths errs hs := ⟨c10.same (s11.trans s12), hR10.same (s11.trans s12), (s11.trans s12) _ _ hS10, s12 _ _ hU11, rs, hR12, hrs12⟩
            refine sb4 (K := K) ok dr (by decide) ho t12 fun H13 s13 => ?_
            have t13 := t12.same s13
            refine sb5 (K := K) ok dr (by decide) ho t13 fun H14 s14 => ?_
            have t14 := t13.same s14
            refine sb6 (K := K) ok dr (by decide) ho t14 fun H15 s15 => ?_
            have t15 := t14.same s15
            refine sb7 (K := K) ok dr (by decide) ho t15 fun H16 s16 => ?_
            have t16 := t15.same s16
            refine sb8 (K := K) ok dr (by decide) ho t16 fun H17 s17 => ?_
            have t17 := t16.same s17
            refine sb9 (K := K) (hs := hs) t17.c.src t17.hist ho.len fun H18 jj hjj sx18 hs18 => ?_
            have f18 := t17.hist.keep t17.c.src sx18
            have c18 := t17.c.keep sx18 hs18
            refine sb10 (K := K) fun H19 O1 vs1 s19 hl19 hO19 hv19 => ?_
            refine sb11 (K := K) hO19 hl19 hv19 fun H20 O2 vs2 s20 hl20 hO20 hv20 => ?_
            have s1920 := s19.trans s20
            refine sb12 (K := K) (hs := hs) (hs18.same s1920) (f18.same s1920) ho hjj hO20 hl20 hv20 fun H21 B xs bl sx21 hs21 hB21 hxl hp21 hj21 => ?_
            have c21 := (c18.same s1920).keep sx21 hs21
            refine sb13 (K := K) c21.kind (pl_kind ok dr (by decide)) hB21 hp21 hj21 fun H22 s22 => ?_
            refine ⟨?_, hs21.same s22, _, _, _, _, _, _, _, _, _, _, rfl⟩
            exact (((sx9.trans sx10).trans (SameX.of (((s11.trans s12).trans s13).trans ((s14.trans s15).trans (s16.trans s17))))).trans sx18).trans (((SameX.of s1920).trans sx21).trans (SameX.of s22))
          · obtain ⟨sx9, hs9, v11, v12, v13, v14, v15, v16, v17, v18, v19, v20, rfl⟩ := pv
            have c9 := c8.keep sx9 hs9
            refine sb14 (K := K) c9.kind (pl_kind ok dr (by decide)) fun H10 v19 s10 => ?_
            exact ⟨(sx48.trans sx9).trans (SameX.of s10), hs9.same s10, _, _, _, _, _, _, _, _, _, _, _, _, _, _, _, rfl⟩
      · obtain ⟨sx5, hs5, v6, v7, v8, v9, v10, v11, v12, v13, v14, v15, v16, v17, v18, v19, v20, rfl⟩ := pv
        exact ⟨rfl, rfl, sx5 _ _ nL h4L⟩
end
end Rs
set_option Elab.async false
set_option linter.all false
set_option maxRecDepth 100000
set_option maxHeartbeats 0
namespace Rs
open PySem PySem.Spec PyProof.Rows L2
theorem runT (w : World) : HandSHeadRun.RunEq RT (PySem.W.view RT.prog [lawAt]) hkT obT 20000 looseT w := by
  intro os
  kernel_rfl
end Rs
set_option Elab.async false
set_option linter.all false
set_option maxRecDepth 100000
set_option maxHeartbeats 0
namespace Rs
open PySem PySem.Spec PyProof.Rows L2
theorem facts {P : Program} {w : World} {K : PySem.W.Frag} {h : Heap} {mg : PySem.Str → Option Value} {f : Addr} (X : K.In h) (G : h.Ns mainGlobals mg) (hfa : mg ("law" : PySem.Str) = some (.ref f)) (c : SaysR faT fnT K) :
    ∃ fd : FuncData, (∀ (s : Shared) (v : Value), BindsTo s fd ⟨[v], []⟩ [("_law_script", v)]) ∧ ∀ base : Heap, K.In base → base.Ns mainGlobals mg → FnOk P w K mg base (L2.CX P w) 10 f fd ["_law_script"] (sp_law K) := by
  have T : Txt K mg := ⟨c, h, X, G⟩
  obtain ⟨fd, F⟩ := T.d_law
  have e := hfa.symm.trans T.g_law
  cases e
  have b := FunD.bindsA (ps := ["_law_script"]) F fun _ _ _ _ _ _ us hl => match us, hl with | [_], _ => rfl
  exact ⟨fd, fun s v => b s [v] rfl, fun base _ _ => ok_law T F⟩
/-- the walk's end, where what is raised is told by the world, too -/
theorem walk_endW {l : PySem.W.OpenLaw} {m lev : Nat} {vw : Program} {ls : List PySem.Str} {A1 : (PySem.Str → Option Value) → Heap → Prop} {A2 : World → Heap → Prop} {dr : DefRec} {arg : PySem.Str} {SP : PySem.W.Frag → Sp}
    (most : l.most = some m) (small : m ≤ sizeLine) (nod : dr.params.defaults = []) (room : Room lev callerA)
    (meets : ∀ (K : PySem.W.Frag) (H : Hp) (b : Addr) (is : List Int), is.length ≤ m → SqL K H b (is.map V.int) → SP K [.ref b] H (fun v _ => v = .bl true) fun _ _ _ => False)
    (F : ∀ (w : World) (g : PySem.Str → Option Value) (b : Addr) (hp : Heap), A2 w hp → hp.Ns mainGlobals g → g dr.name = some (.ref b) →
      ∃ (K : PySem.W.Frag) (fd : FuncData), K.In hp ∧ (∀ (s : Shared) (u : Value), BindsTo s fd ⟨[u], []⟩ [(arg, u)]) ∧ ∀ bs : Heap, K.In bs → bs.Ns mainGlobals g → FnOk l.prog w K g bs (L2.CX l.prog w) lev b fd [arg] (SP K)) :
    PySem.W.WalkO vw ls A1 A2 l.row.toRowW dr [] (fun c us => PySem.call c us) := by
  refine Att.attach_call most nod ?_
  intro w s0 s1 g mb b o pm cd doc ad us is G Y _ _ _ hg hobj hints hlen hgd
  obtain ⟨K, fd, KX, hb, hF⟩ := F w g b _ Y G.T.g hg
  refine law_call KX G.T.g G.T.b G.T.builtins G.T.nolimit hgd hobj hints (Nat.le_trans hlen small) room hF hb (fun H _ hS => meets K H ad is hlen hS) ?_
  rintro H e s' ⟨_, _, _, _, _, _, _, _, _, _, _, _, z⟩
  exact z
end Rs
open PySem PySem.W PySem.Calls PyProof.Rows
set_option maxRecDepth 100000 in
set_option maxHeartbeats 0 in
theorem PySem.Challenge.cw_rightstate_k03_histories_of_kinds_holds : PySem.Challenge.rw_rightstate_k03_histories_of_kinds.Holds := by
  w_on; o_law
  refine HandSHeadRun.head_any (r := OpenLaw.row PySem.Challenge.rw_rightstate_k03_histories_of_kinds) (q := view (OpenLaw.row PySem.Challenge.rw_rightstate_k03_histories_of_kinds).prog [Rs.lawAt]) (H := Rs.hkT) (ob := Rs.obT) (M := 20000) (loose := Rs.looseT) (d := HandSHeadRun.topDef (OpenLaw.row PySem.Challenge.rw_rightstate_k03_histories_of_kinds).prog Rs.lawAt) (kwd := []) Rs.obT_eq
    (by kernel_rfl) (fun s => by kernel_rfl) Rs.runT (by kernel_rfl) (by kernel_rfl) (by kernel_rfl) (by rfl) (by first | assumption | decide +kernel) (by decide +kernel) ⟨rfl, rfl, rfl, rfl, rfl, by decide +kernel⟩ ?hw ?hc
  case hw => w_witness2
  case hc =>
    refine Rs.walk_endW (l := PySem.Challenge.rw_rightstate_k03_histories_of_kinds) (m := 63) (lev := 10) (arg := "_law_script") (SP := Rs.sp_law) rfl (by decide) (by kernel_rfl) ⟨rfl, by decide, by decide⟩ (fun K H b is hl hS => ⟨b, is, rfl, hS, hl, fun _ => rfl⟩) ?F
    intro w mg fa h Y G hmg0
    obtain ⟨K, KX, c⟩ := Y
    have hmg : mg ("law" : PySem.Str) = some (.ref fa) := by
      have e : (HandSHeadRun.topDef (OpenLaw.row PySem.Challenge.rw_rightstate_k03_histories_of_kinds).prog Rs.lawAt).name = ("law" : PySem.Str) := by kernel_rfl
      rw [← e]
      exact hmg0
    obtain ⟨fd, hb, hF⟩ := Rs.facts (P := (PySem.Challenge.rw_rightstate_k03_histories_of_kinds).prog) (w := w) KX G hmg c
    exact ⟨K, fd, KX, hb, hF⟩
