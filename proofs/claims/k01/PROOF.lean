import PyProof.Rows.All
import Wide.All
import OpenK.AllK
import Wide.FinOn
import HandS.ForMost
import HandS.Property
import KE.KStateDown
import Lean
import HandS.ForExc
import HandS.Defaults
import HandS.Head0
import HandS.Head1
import HandS.Head2
import HandS.HeadEnd
import HandS.HeadHook1
import HandS.HeadHook2
import HandS.HeadNt
import HandS.ExcInit
import HandS.ExcIs
import HandS.ExcField
import HandS.SetBool
import HandS.SetKeys
import HandS.TupSets
import HandS.Walk
import HandS.SortOrd
import HandS.Conv
import HandS.More
import HandS.Flow
import HandS.IsInst
import HandS.Wide
import HandS.CallLocal
import HandS.Star
import PySem.Challenge.RW_rightstate_k01_kinds_told
import KE.KDictWalk
import HandS.Set
import HandS.SetFor
import HandS.DictComp
import HandS.ListItems
import KE.KDictItemsList
import KE.KDictKeyed
import HandS.OwnEq
import HandS.NamedTupSort
import HandS.Deep
import KE.KEqDict
import KE.KDictCopyH
import HandS.Style
set_option Elab.async false
set_option linter.all false
set_option maxRecDepth 100000
set_option maxHeartbeats 2000000
/-! Own special methods: `x in o`, `o[k]` by a class's own def. -/
namespace Rs
open PySem PySem.Spec PyProof.Rows L2
/-- the class at C has the def at f under the special name m -/
structure Dun (K : PySem.W.Frag) (C : Addr) (m : Str) (f : Addr) : Prop where
  at_ : PySem.W.findIn K (.ref C) m = some (some (.ref f))
  fn : PySem.W.isFn K (.ref f) = true
  fi : PySem.W.fnIn K f = true

def rInO (C : Addr) (sp : Sp) (E : XK) (neg : Bool) : R2 := fun x y H Q =>
  ∃ a dx fs, y = .ref a ∧ H a = some (.ins C dx fs) ∧ sp [.ref a, x] H (fun r H' => ∃ b, r = .bl b ∧ Q (.bl (if neg = true then !b else b)) H') E

section
variable {X : Cx} {CX : CXT} {k : Nat} {C f : Addr} {fd : FuncData} {ps : List Str} {sp : Sp} {E : XK}
theorem in_run {pins : List (Addr × Obj)} {s : Shared} {σ : L2.St} {H : Hp} {x : V} {v : Value} {a dx : Addr} {fs : List (Str × V)} {Q : VK} {g : Bool → Bool}
    (d : Dun X.K C "__contains__" f) (F : FnOk X.prog X.w X.K X.mg X.base CX k f fd ps sp) (hr : Room k X.A) (hb : Binds X.K fd ps []) (hx : Passes CX X E)
    (I : Inv X pins σ H s) (rx : RelV x v) (h : sp [.ref a, x] H (fun r H' => ∃ b, r = .bl b ∧ Q (.bl (g b)) H') E) :
    wpAny (model X.prog X.w) X.A (call (.ref f) [.ref a, v]) (fun r s' => wpAny (model X.prog X.w) X.A (truthy r) (fun b => EP X pins σ Q (.bool (g b))) X.xe s') X.xe s := by
  refine wpAny_mono (run_fn (us := [.ref a, v]) (vs := [.ref a, x]) (dvs := []) F hr hb .nil hx I (.cons rfl (.cons rx .nil)) h) (fun r s' q => ?_) fun _ _ z => z
  obtain ⟨y, H', I', ry, b, rfl, q⟩ := q
  cases ry
  exact wpAny_truthy_bool ⟨.bl (g b), H', I', rfl, q⟩
theorem op_inO (d : Dun X.K C "__contains__" f) (F : FnOk X.prog X.w X.K X.mg X.base CX k f fd ps sp) (hr : Room k X.A) (hb : Binds X.K fd ps []) (hx : Passes CX X E) :
    OpR X (compareOp .In) (rInO C sp E false) := by
  intro pins s σ H x y v u Q I rx ry h
  obtain ⟨a, dx, fs, rfl, ha, h⟩ := h
  cases ry
  obtain ⟨mA, J, _⟩ := ins_get I.hok ha
  obtain ⟨od, J, _⟩ := J.look
  obtain ⟨m, hF⟩ := I.fr
  exact PySem.W.in_K hF I.ok.mod.kin J d.at_ d.fn (in_run (g := fun b => b) (dx := dx) (fs := fs) d F hr hb hx I rx h)
theorem op_notInO (d : Dun X.K C "__contains__" f) (F : FnOk X.prog X.w X.K X.mg X.base CX k f fd ps sp) (hr : Room k X.A) (hb : Binds X.K fd ps []) (hx : Passes CX X E) :
    OpR X (compareOp .NotIn) (rInO C sp E true) := by
  intro pins s σ H x y v u Q I rx ry h
  obtain ⟨a, dx, fs, rfl, ha, h⟩ := h
  cases ry
  obtain ⟨mA, J, _⟩ := ins_get I.hok ha
  obtain ⟨od, J, _⟩ := J.look
  obtain ⟨m, hF⟩ := I.fr
  exact PySem.W.notIn_K hF I.ok.mod.kin J d.at_ d.fn (in_run (g := fun b => !b) (dx := dx) (fs := fs) d F hr hb hx I rx h)

def rSubO (C : Addr) (sp : Sp) (E : XK) : R2 := fun x y H Q => ∃ a dx fs, x = .ref a ∧ H a = some (.ins C dx fs) ∧ sp [.ref a, y] H Q E
theorem pe_subO {a b : Expr} {ta tb : TE} {pos : Pos} (d : Dun X.K C "__getitem__" f) (F : FnOk X.prog X.w X.K X.mg X.base CX k f fd ps sp) (hr : Room (k + 1) X.A) (hb' : Binds X.K fd ps []) (hx : Passes CX X E)
    (ha : PE X a ta) (hb : PE X b tb) (hs : ∀ x y, subscripted b true x y = runValue (.builtin "lifetime.subscript" ⟨[x, y], []⟩)) :
    PE X (.Subscript a b pos) (tOp (rSubO C sp E) ta tb) := by
  refine ⟨fun pins s σ H Q I h => ?_⟩
  refine Subscript_ (binT ha hb I h fun v u s2 x y H2 I2 rx ry q => ?_)
  obtain ⟨a', dx, fs, rfl, ha', h⟩ := q
  cases rx
  obtain ⟨mA, J, _⟩ := ins_get I2.hok ha'
  obtain ⟨od, J, _⟩ := J.look
  obtain ⟨m, hF⟩ := I2.fr
  refine PySem.W.sub_K hF I2.ok.mod.kin J d.at_ d.fi d.fn ?_ (hs _ _)
  have hl : ([Value.ref a', u] ++ []).length = ps.length := by rw [← F.len _ _ _ _ h] <;> rfl
  refine wpAny_call (codeAny_mono (F.run X.A.in1 X.stack s2 H2 ⟨[.ref a', u], []⟩ [.ref a', u] [.ref a', y] Q E hr.in1 I2.env0.in1 (hb' _ [.ref a', u] I2.kIn hl) (.cons rfl (.cons ry .nil)) h) fun r s' hq => ?_)
  cases r with
  | error e => exact hx pins σ H2 s2 e s' I2 hq
  | ok fl =>
    cases fl with
    | ret w => exact I2.after hq
    | next => exact False.elim hq
    | brk => exact False.elim hq
    | cont => exact False.elim hq
end
end Rs
set_option Elab.async false
set_option linter.all false
set_option maxRecDepth 100000
set_option maxHeartbeats 2000000
/-! The head's facts: any tests of the written part, and defs at any address. -/
namespace Rs
open PySem PySem.Spec PySem.W PyProof.Rows L2
abbrev Tst := Frag → Bool
def obsR (fa : List Tst) (fn : List He5.DefA) (K : Frag) : He.AlD := ((fa.all fun f => f K) && fn.all fun d => d.ok K, fn.map fun d => He5.fnA K (d.at_ K))
def valR (fn : List He5.DefA) : He.AlD := (true, fn.map He5.DefA.val)
def SaysR (fa : List Tst) (fn : List He5.DefA) (K : Frag) : Prop := obsR fa fn K = valR fn
def obsRG (n : Nat) (fa : List Tst) (fn : List He5.DefA) (g : Addr → Option Obj) : He.AlD := obsR fa fn (He.frG g (He5.asA g n))
def hookR (n : Nat) (fa : List Tst) (fn : List He5.DefA) : PySem.W.Hook where
  α := He.AlD
  obs := fun s => obsRG n fa fn s.heap.get?
  val := fun _ => valR fn
  says := fun _ h => ∃ K : Frag, K.In h ∧ SaysR fa fn K
  of := fun _ _ e => ⟨_, He.frG_in, e⟩
  keeps := fun _ _ _ ⟨K, hK, c⟩ k => ⟨K, Frag.In.keeps hK k, c⟩
theorem obsRG_eq {n : Nat} {fa : List Tst} {fn : List He5.DefA} {g : Addr → Option Obj} {s : Shared} (h : ∀ a, g a = s.heap.get? a) : obsRG n fa fn g = (hookR n fa fn).obs s := by
  have e : g = s.heap.get? := funext h
  rw [e] <;> rfl
section
variable {fa : List Tst} {fn : List He5.DefA} {K : Frag}
theorem SaysR.fact (c : SaysR fa fn K) (i : Nat) {f : Tst} (h : fa[i]? = some f := by rfl) : f K = true := by
  have c1 := (He.ba (show ((fa.all fun f => f K) && fn.all fun d => d.ok K) = true from congrArg (fun z : He.AlD => z.1) c)).1
  exact List.all_eq_true.mp c1 f (List.mem_of_getElem? h)
theorem SaysR.def_ (c : SaysR fa fn K) (i : Nat) {d : He5.DefA} (h : fn[i]? = some d := by rfl) : ∃ fd, L2.FunD K d.name d.qual d.params d.body d.scope (d.dvs K) (d.kws K) (d.at_ K) fd := by
  have c2 := (He.ba (show ((fa.all fun f => f K) && fn.all fun d => d.ok K) = true from congrArg (fun z : He.AlD => z.1) c)).2
  have e : fn.map (fun d => He5.fnA K (d.at_ K)) = fn.map He5.DefA.val := congrArg (fun z : He.AlD => z.2) c
  have e2 : (fn.map fun d => He5.fnA K (d.at_ K))[i]? = (fn.map He5.DefA.val)[i]? := by rw [e]
  rw [List.getElem?_map, List.getElem?_map, h] at e2
  exact He5.DefA.funD (Option.some.inj e2) (List.all_eq_true.mp c2 d (List.mem_of_getElem? h))
end
/-! ### tests -/
/-- the getter of a property -/
def propAt (K : Frag) (C : Addr) (f : PySem.Str) : Addr := match recIn K (He.ma K C f) "property" with
  | some (.ref g :: _) => g
  | _ => 0
/-- and its setter -/
def setrAt (K : Frag) (C : Addr) (f : PySem.Str) : Addr := match recIn K (He.ma K C f) "property" with
  | some (_ :: .ref g :: _) => g
  | _ => 0
def tProp? (x f : PySem.Str) : Tst := fun K => He.eqO (findIn K (.ref (He.ga K x)) f) (some (some (.ref (He.ma K (He.ga K x) f)))) && (He.eqO (specialIn K (.ref (He.ma K (He.ga K x) f)) "__get__") (some (some (.builtin "property.__get__"))) &&
  (decide (takesIn K (.ref (He.ma K (He.ga K x) f)) = some true) && (match recIn K (He.ma K (He.ga K x) f) "property" with
    | some (.ref g :: _) => true
    | _ => false)))
theorem prop_ok {K : Frag} {x f : PySem.Str} (c : tProp? x f K = true) : PropOf K (He.ga K x) f (He.ma K (He.ga K x) f) (propAt K (He.ga K x) f) := by
  obtain ⟨c1, c⟩ := He.ba c
  obtain ⟨c2, c⟩ := He.ba c
  obtain ⟨c3, c4⟩ := He.ba c
  refine ⟨He.eqO_ok c1, He.eqO_ok c2, of_decide_eq_true c3, ?_⟩
  unfold propAt
  generalize recIn K (He.ma K (He.ga K x) f) "property" = r at c4 ⊢
  match r, c4 with
  | some (.ref g :: rest), _ => exact ⟨rest, rfl⟩
def tDun (x m : PySem.Str) : Tst := fun K => He.eqO (findIn K (.ref (He.ga K x)) m) (some (some (.ref (He.ma K (He.ga K x) m)))) && (isFn K (.ref (He.ma K (He.ga K x) m)) && fnIn K (He.ma K (He.ga K x) m))
theorem dun_ok {K : Frag} {x m : PySem.Str} (c : tDun x m K = true) : Dun K (He.ga K x) m (He.ma K (He.ga K x) m) := by
  obtain ⟨c1, c⟩ := He.ba c
  obtain ⟨c2, c3⟩ := He.ba c
  exact ⟨He.eqO_ok c1, c2, c3⟩
/-- an own error class over ValueError -/
def clsVE (K : Frag) (C : Addr) : Bool := match K.lookup C with
  | some ⟨.type "type", _, .cls cd, sl⟩ => (match cd.mro, sl.toList with
    | .ref C' :: bm, [_, _, _, _, some (.builtin n), _] => decide (C' = C) && (decide (n = "ValueError.__new__") && (!cd.hasDel && (cd.hasDict && PySem.HandSPX.refsVE bm)))
    | _, _ => false)
  | _ => false
theorem clsVE_ok {K : Frag} {C : Addr} (c : clsVE K C = true) : ∃ nm q N bs bm sn sub ab col dd k0 k1 k2 k3 k5, K.lookup C = some (excClassObj nm q C N bs bm true sn sub ab col dd k0 k1 k2 k3 k5 "ValueError.__new__") ∧ PySem.HandSPX.refsVE bm = true := by
  unfold clsVE at c
  split at c
  · rename_i dd cd sl ho
    split at c
    · rename_i C' bm k0 k1 k2 k3 n k5 hm hs
      obtain ⟨c1, c⟩ := He.ba c
      obtain ⟨c2, c⟩ := He.ba c
      obtain ⟨c3, c⟩ := He.ba c
      obtain ⟨c4, c5⟩ := He.ba c
      replace c1 := of_decide_eq_true c1
      replace c2 := of_decide_eq_true c2
      replace c3 : cd.hasDel = false := by simpa using c3
      obtain ⟨nm, bs, mro, ns, qn, hd, sn, sub, ab, col, del⟩ := cd
      dsimp only at hm c3 c4
      subst c1 c2 hm c3 c4
      have hsl : sl = #[k0, k1, k2, k3, some (.builtin "ValueError.__new__"), k5] := by
        obtain ⟨l⟩ := sl
        simp only at hs
        rw [hs]
      subst hsl
      exact ⟨nm, qn, ns, bs, bm, sn, sub, ab, col, dd, k0, k1, k2, k3, k5, ho, c5⟩
    · cases c
  · cases c
def tOex (x : PySem.Str) : Tst := fun K => clsVE K (He.ga K x) && (He.eqO (findIn K (.ref (He.ga K x)) "__setattr__") (some (some (.builtin "object.__setattr__"))) && (decide (subIn K (.ref (He.ga K x)) (.type "BaseException") = some true) &&
  (decide (typeIn K (.ref (He.ga K x)) = some (.type "type")) && keepIn K (.ref (He.ga K x)))))
theorem oex_ok {K : Frag} {x : PySem.Str} (c : tOex x K = true) : OexC K (He.ga K x) := by
  obtain ⟨c1, c⟩ := He.ba c
  obtain ⟨c2, c⟩ := He.ba c
  obtain ⟨c3, c⟩ := He.ba c
  obtain ⟨c4, c5⟩ := He.ba c
  exact ⟨clsVE_ok c1, He.eqO_ok c2, of_decide_eq_true c3, of_decide_eq_true c4, c5⟩
def tExc (x : PySem.Str) : Tst := fun K => He.eqO (findIn K (.ref (He.ga K x)) "__getattribute__") (some (some (.builtin "BaseException.__getattribute__"))) && (He.eqO (findIn K (.ref (He.ga K x)) "__getattr__") (some none) &&
  (decide (subIn K (.ref (He.ga K x)) (.type "BaseException") = some true) && (hasDictIn K (He.ga K x) && (He.eqO (findIn K (.ref (He.ga K x)) "__class__") (some (some (.builtin "object.__class__"))) &&
  (He.eqO (specialIn K (.builtin "object.__class__") "__get__") (some (some (.builtin "getset_descriptor.__get__"))) && (decide (takesIn K (.builtin "object.__class__") = some true) && decide (mroIn K (He.ga K x) (.type "object") = some true)))))))
theorem exc_ok {K : Frag} {x : PySem.Str} (c : tExc x K = true) : ExcC K (He.ga K x) := by
  obtain ⟨c1, c⟩ := He.ba c
  obtain ⟨c2, c⟩ := He.ba c
  obtain ⟨c3, c⟩ := He.ba c
  obtain ⟨c4, c⟩ := He.ba c
  obtain ⟨c5, c⟩ := He.ba c
  obtain ⟨c6, c⟩ := He.ba c
  obtain ⟨c7, c8⟩ := He.ba c
  exact ⟨He.eqO_ok c1, He.eqO_ok c2, of_decide_eq_true c3, c4, He.eqO_ok c5, He.eqO_ok c6, of_decide_eq_true c7, of_decide_eq_true c8⟩
theorem xf_ok {K : Frag} {x : PySem.Str} (c : tExc x K = true) : XfC K (He.ga K x) := by
  have e := exc_ok c
  exact ⟨e.hg, e.hk, e.hs, e.hd⟩
/-- isinstance, except: one class against another -/
def tKit (x y : PySem.Str) (b : Bool) : Tst := fun K => decide (kitOne K (.ref (He.ga K x)) (.ref (He.ga K y)) = some b)
def tExm (x y : PySem.Str) (b : Bool) : Tst := fun K => decide (exmOne K (.ref (He.ga K x)) (.ref (He.ga K y)) = some b)
/-- an own __init__ of an error -/
def tIni (x : PySem.Str) : Tst := fun K => He.eqO (findIn K (.ref (He.ga K x)) "__init__") (some (some (.ref (He.ma K (He.ga K x) "__init__")))) && decide (typeIn K (.ref (He.ma K (He.ga K x) "__init__")) = some (.type "function"))
theorem ini_ok {K : Frag} {x : PySem.Str} (c : tIni x K = true) : findIn K (.ref (He.ga K x)) "__init__" = some (some (.ref (He.ma K (He.ga K x) "__init__"))) ∧ typeIn K (.ref (He.ma K (He.ga K x) "__init__")) = some (.type "function") := by
  obtain ⟨c1, c2⟩ := He.ba c
  exact ⟨He.eqO_ok c1, of_decide_eq_true c2⟩
/-- a global that is a tuple of texts -/
def tTupS (x : PySem.Str) (ss : List PySem.Str) : Tst := fun K => match nsIn K mainGlobals x with
  | some (some (.ref a)) => (match K.lookup a with
    | some ⟨.type "tuple", _, .seq its _, _⟩ => decide (its.toList.map (fun v => match v with | .str y _ => some y | _ => none) = ss.map some)
    | _ => false)
  | _ => false
/-- a def, as a global or in a class -/
abbrev dfG (x : PySem.Str) (st : Stmt) : He5.DefA := ⟨fun K => He.ga K x, x, x, defArgs st, defBody st, defScope st, [], []⟩
abbrev dfM (c m q : PySem.Str) (st : Stmt) : He5.DefA := ⟨fun K => He.ma K (He.ga K c) m, m, q, defArgs st, defBody st, defScope st, [], []⟩
abbrev dfP (c m q : PySem.Str) (st : Stmt) : He5.DefA := ⟨fun K => propAt K (He.ga K c) m, m, q, defArgs st, defBody st, defScope st, [], []⟩
abbrev dfW (c m q : PySem.Str) (st : Stmt) : He5.DefA := ⟨fun K => setrAt K (He.ga K c) m, m, q, defArgs st, defBody st, defScope st, [], []⟩
abbrev fF (f : He.Fa) : Tst := fun K => f.ok K
end Rs
set_option Elab.async false
set_option linter.all false
set_option maxRecDepth 100000
set_option maxHeartbeats 2000000
/-! {elt for x in it if ..}: a set comprehension over any kind of set that knows how to begin and to add. -/
namespace Rs
open PySem PySem.Spec PyProof.Rows L2
/-- the object of an empty set, as the machine lays it -/
abbrev set0 (w : World) : Obj := { cls := .type "set", dict := none, data := .set #[] 0 (.fresh 0 0 (!w.params.followText "set-order")) }
/-- what a comprehension over sets asks: Z the abstract empty set, ad what adding asks -/
def tScG (Z : Addr → HO) (ad : V → List V → Hp → VK → Prop) (wi : TI) (g : TG) (tt : TT) (te : TE) (vs : List Nat) : TE := fun σ H Q => wi σ H fun J H1 => ∀ D, H1 D = none → ∃ W : Nat → Nat → Hp → Prop, (∃ m, W 0 m (upd H1 D (Z D))) ∧ ∀ i m H, W i m H →
  (J.stop i H ∧ Q (.ref D) H) ∨ (J.go i H ∧ ∃ Nx : Hp → Prop, (∀ H', Nx H' → ∃ m', m' < m ∧ W (i + 1) m' H') ∧ ∀ x H', J.yld i H x H' → g x (wipe σ vs) H' fun σ2 H2 => wipe σ2 vs = wipe σ vs ∧ tt σ2 H2 fun b H3 =>
    if b = true then te σ2 H3 fun y H4 => ad (.ref D) [y] H4 fun _ H5 => Nx H5 else Nx H3)
section
variable {X : Cx} {Z : Addr → HO} {ad : V → List V → Hp → VK → Prop}
theorem scg_core {pins : List (Addr × Obj)} {s : Shared} {σ : L2.St} {H : Hp} {Q : VK} {elt tg iter : Expr} {ifs : List Expr} {scope : Scope} {own : List (PySem.Str × Nat)} {pos pos' : Pos} {wi : TI} {g : TG} {tt : TT} {te : TE} {use : Option (Value → Sem Unit)} {Qf : Value → Shared → Prop}
    (hZ : ∀ (H : Hp) (h : Heap), ObjOk X.prog X.w H (h.push (set0 X.w)) h.objs.size (Z h.objs.size))
    (had : ∀ (s : Shared) (H : Hp) (e : Env) (fp : List Addr), MtR (X.blk s H scope e fp) "set.add" ad)
    (hc : X.calm = true) (hN : X.N.Nodup) (I : Inv X pins σ H s) (hi : PI X tg iter wi) (ok : BlkOk X.N X.env.scope scope own)
    (hg : ∀ (s : Shared) (H : Hp) (C : Addr) (cl : List (PySem.Str × Addr)) (fp : List Addr), PG (X.blk s H scope (compEnvC scope cl C X.env) fp) tg g)
    (ht : ∀ (s : Shared) (H : Hp) (C : Addr) (cl : List (PySem.Str × Addr)) (fp : List Addr), PTs (X.blk s H scope (compEnvC scope cl C X.env) fp) ifs tt)
    (he : ∀ (s : Shared) (H : Hp) (C : Addr) (cl : List (PySem.Str × Addr)) (fp : List Addr), PE (X.blk s H scope (compEnvC scope cl C X.env) fp) elt te)
    (hs : ∀ x, foldedSetIterable iter X.env x = pure x) (h : tScG Z ad wi g tt te (own.map (·.2)) σ H Q)
    (fin : ∀ D C s' m H', Inv X pins σ H' s' → Q (.ref D) H' → s'.heap.Ns C m → FpOk X pins H' C → compPost (model X.prog X.w) X.A X.xe use Qf (.ref D) C (.ok .next) s') :
    wpAny (model X.prog X.w) X.A (comprehension (.SetComp elt [⟨tg, iter, ifs, 0⟩] scope pos) scope X.env pos' (newSet (.type "set")) false (eval iter X.env) use) Qf X.xe s := by
  have outer : ∀ y ∈ scope.names, y.2 = .free → ∃ c, X.env.cells.lookup y.1 = some c := fun y hy e => by
    rcases ok.free y hy e with k | k
    · exact I.ok.has _ (.inl k)
    · exact I.ok.has _ (.inr k)
  refine wpAny_comprehension_free (use := use) rfl hs (closure_ok outer) ok.kind (fun y hy e => by rw [ok.uniq y hy, e])
    (thn (hi.run pins s σ H _ I h) fun xv s1 hx => thn hx fun itv s2 h2 => ?_)
  obtain ⟨it, fp, tn, J, H2, e, I2, T, st2, f2, q⟩ := h2
  subst e
  refine PpSet.newSet_ok (newEnv_comp ?_)
  obtain ⟨D, hD⟩ : ∃ D, s2.heap.objs.size = D := ⟨_, rfl⟩
  have hfree : H2 D = none := I2.hok.fresh (Nat.le_of_eq hD)
  obtain ⟨W, ⟨m0, w0⟩, turn⟩ := q D hfree
  -- the set is laid
  obtain ⟨s3, hs3⟩ : ∃ s3 : Shared, { s2 with heap := s2.heap.push (set0 X.w) } = s3 := ⟨_, rfl⟩
  have hh3 : s3.heap = s2.heap.push (set0 X.w) := by rw [← hs3]
  have I3 : Inv X pins σ (upd H2 D (Z D)) s3 := by
    rw [← hs3, ← hD]
    exact I2.laid (t' := s2.toks) (fun b o e => Heap.get?_push_of_some _ e) (Nat.le_refl _) (hZ _ _)
  have low : ∀ b ∈ fp, b < s2.heap.objs.size := fun b hb => let ⟨_, e, _⟩ := T.obj _ _ st2 b hb; Heap.lt_size e
  have f3 : ∀ b ∈ fp, FpOk X pins (upd H2 D (Z D)) b ∧ b < s3.heap.objs.size := fun b hb => by
    have hlt := low b hb
    have hne : b ≠ D := by rw [← hD]; exact Nat.ne_of_lt hlt
    exact ⟨⟨by rw [upd_ne hne]; exact (f2 b hb).1, (f2 b hb).2⟩, by rw [hh3, Heap.size_push]; exact Nat.lt_succ_of_lt hlt⟩
  have st3 : tn 0 s3.heap := T.keep _ _ _ st2 fun b _ o e => by rw [hh3]; exact Heap.get?_push_of_some _ e
  have I4 := block_start I3 ok hN f3
  have pg := hg s3 (upd H2 D (Z D)) s3.heap.objs.size (cellsFrom (s3.heap.objs.size + 1) scope.names (cloFrom X.env.cells scope.names [])) fp
  have pt := ht s3 (upd H2 D (Z D)) s3.heap.objs.size (cellsFrom (s3.heap.objs.size + 1) scope.names (cloFrom X.env.cells scope.names [])) fp
  have pe := he s3 (upd H2 D (Z D)) s3.heap.objs.size (cellsFrom (s3.heap.objs.size + 1) scope.names (cloFrom X.env.cells scope.names [])) fp
  rw [hs3]
  show codeAny _ _ (.compStart (.SetComp elt [⟨tg, iter, ifs, 0⟩] scope pos) 0 (.ref it) (.ref s2.heap.objs.size) (compEnvC scope (cellsFrom (s3.heap.objs.size + 1) scope.names (cloFrom X.env.cells scope.names [])) s3.heap.objs.size X.env)) (compPost (model X.prog X.w) X.A X.xe use Qf (.ref s2.heap.objs.size) s3.heap.objs.size) { s3 with heap := pushCells (s3.heap.push { cls := .type "dict", data := .dict #[] }) scope.names }
  rw [hD]
  have nfp : ∀ b ∈ fp, (upd H2 D (Z D)) b = none := fun b hb => (f3 b hb).1.1
  generalize hce : compEnvC scope (cellsFrom (s3.heap.objs.size + 1) scope.names (cloFrom X.env.cells scope.names [])) s3.heap.objs.size X.env = ce at I4 pg pt pe ⊢
  have cL : ce.locals = s3.heap.objs.size := by subst hce; rfl
  generalize hH3 : upd H2 D (Z D) = H3 at I3 I4 pg pt pe w0 nfp f3
  generalize hs4 : ({ s3 with heap := pushCells (s3.heap.push { cls := .type "dict", data := .dict #[] }) scope.names } : Shared) = s4 at I4 ⊢
  have st4 : tn 0 s4.heap := T.keep _ _ _ st3 fun b _ o e => by rw [← hs4]; exact pushCells_keeps _ _ _ _ (Heap.get?_push_of_some _ e)
  have stand : ∀ {σ' : L2.St} {H' : Hp} {s' : Shared}, Inv (X.blk s3 H3 scope ce fp) [] σ' H' s' → (∀ b ∈ fp, H' b = none) → ∀ b ∈ fp, FpOk (X.blk s3 H3 scope ce fp) [] H' b := fun {σ' H' s'} J' hn b hb =>
    ⟨hn b hb, (J'.ok.exf b hb).1, J'.ok.exfs b hb, .inl hb, fun x c e => (J'.ok.exf b hb).2 x c e, fun p hp => absurd (show p ∈ ([] : List (Addr × Obj)) ++ [] from hp) (by simp)⟩
  have loop : codeAny (model X.prog X.w) X.A (.compLoop (.SetComp elt [⟨tg, iter, ifs, 0⟩] scope pos) 0 (.ref it) (.ref D) ce) (compPost (model X.prog X.w) X.A X.xe use Qf (.ref D) s3.heap.objs.size) s4 := by
    refine PpSet.compLoopS_any (fun n s' => ∃ i H', Inv (X.blk s3 H3 scope ce fp) [] (wipe σ (own.map (·.2))) H' s' ∧ tn i s'.heap ∧ (∀ b ∈ fp, H' b = none) ∧ W i n H') ?_ m0 ⟨0, H3, I4, st4, nfp, w0⟩
    rintro n s5 ⟨i, H5, I5, st5, n5, w5⟩
    rcases turn i n H5 w5 with ⟨stop, qq⟩ | ⟨go, Nx, hNx, step⟩
    · refine thnF (T.done (X.blk s3 H3 scope ce fp) rfl rfl rfl hc i [] s5 _ H5 (fun _ _ => False) I5 (stand I5 n5) st5 stop) fun r s6 ⟨hr, I6⟩ => ?_
      subst hr
      have I7 : Inv X pins σ H5 s6 := I3.call' (ch := fp) I6.os I6.base I6.hok I6.bare fun b hb => ⟨(f3 b hb).1.2.2.2.1, (f3 b hb).1.2.1, (f3 b hb).1.2.2.2.2.1, (f3 b hb).1.2.2.2.2.2⟩
      have nC : H5 s3.heap.objs.size = none := cL ▸ (show H5 ce.locals = none from I6.free)
      obtain ⟨m, hn, _⟩ := I6.loc
      exact fin D s3.heap.objs.size s6 m H5 I7 qq (cL ▸ (show s6.heap.Ns ce.locals m from hn)) (I3.fpOk (Nat.le_refl _) nC)
    · refine thnF (T.item (X.blk s3 H3 scope ce fp) rfl rfl rfl hc i [] s5 _ H5 (fun _ _ => False) I5 (stand I5 n5) st5 go) fun r s6 ⟨u, hr, h6⟩ => ?_
      subst hr
      refine thnF h6 fun _ s7 ⟨x, H7, I7, r7, y7, st7, n7⟩ => ?_
      have I7' := I7.pinned (stand I7 n7) (T.obj _ _ st7)
      refine thnF (pg.run _ s7 _ H7 x u _ I7' r7 (step x H7 y7)) fun _ s8 ⟨σ8, H8, I8, hw8, q8⟩ => ?_
      refine thnF (pt.run _ s8 σ8 H8 _ I8 q8) fun b s9 ⟨H9, I9, q9⟩ => ?_
      have next : ∀ {s' : Shared} {H' : Hp}, Inv (X.blk s3 H3 scope ce fp) ([] ++ pinsAt fp s7.heap) σ8 H' s' → Nx H' → ∃ m, m < n ∧ ∃ i H', Inv (X.blk s3 H3 scope ce fp) [] (wipe σ (own.map (·.2))) H' s' ∧ tn i s'.heap ∧ (∀ b ∈ fp, H' b = none) ∧ W i m H' := fun {s' H'} J' nx => by
        obtain ⟨m', hm, w'⟩ := hNx H' nx
        have pin' : ∀ b ∈ fp, ∀ o, s7.heap.get? b = some o → s'.heap.get? b = some o ∧ H' b = none := fun b hb o e =>
          let z := J'.pin (b, o) (List.mem_append_right _ (List.mem_append_right _ (mem_pinsAt hb e)))
          ⟨z.1, z.2.1⟩
        have hl : (wipe σ (own.map (·.2))).length = σ8.length := by rw [← hw8, wipe_length]
        refine ⟨m', hm, i + 1, H', (J'.unpinned (pins := [])).weak hl (fun j v e => ?_), T.keep _ _ _ st7 fun b hb o e => (pin' b hb o e).1, fun b hb => ?_, w'⟩
        · rw [← hw8] at e
          exact (wipe_some e).1
        · obtain ⟨o, e, _⟩ := T.obj _ _ st7 b hb
          exact (pin' b hb o e).2
      dsimp only at q9
      by_cases hb : b = true
      · rw [if_pos hb] at q9 ⊢
        refine thnF (pe.run _ s9 σ8 H9 _ I9 q9) fun z s10 ⟨yv, H10, I10, r10, q10⟩ => ?_
        exact thnF (had s3 H3 ce fp _ s10 σ8 H10 (.ref D) [yv] (.ref D) [z] _ I10 rfl (.cons r10 .nil) q10) fun _ s11 ⟨_, H11, I11, _, nx⟩ => next I11 nx
      · rw [if_neg hb] at q9 ⊢
        exact next I9 q9
  exact PpSet.codeAny_compStart_set loop (T.self X.A 0 _ _ _ st4 loop)
/-- as a value -/
theorem pe_scg {elt tg iter : Expr} {ifs : List Expr} {scope : Scope} {own : List (PySem.Str × Nat)} {pos : Pos} {wi : TI} {g : TG} {tt : TT} {te : TE}
    (hZ : ∀ (H : Hp) (h : Heap), ObjOk X.prog X.w H (h.push (set0 X.w)) h.objs.size (Z h.objs.size))
    (had : ∀ (s : Shared) (H : Hp) (e : Env) (fp : List Addr), MtR (X.blk s H scope e fp) "set.add" ad)
    (hc : X.calm = true) (hN : X.N.Nodup) (hi : PI X tg iter wi) (ok : BlkOk X.N X.env.scope scope own)
    (hg : ∀ (s : Shared) (H : Hp) (C : Addr) (cl : List (PySem.Str × Addr)) (fp : List Addr), PG (X.blk s H scope (compEnvC scope cl C X.env) fp) tg g)
    (ht : ∀ (s : Shared) (H : Hp) (C : Addr) (cl : List (PySem.Str × Addr)) (fp : List Addr), PTs (X.blk s H scope (compEnvC scope cl C X.env) fp) ifs tt)
    (he : ∀ (s : Shared) (H : Hp) (C : Addr) (cl : List (PySem.Str × Addr)) (fp : List Addr), PE (X.blk s H scope (compEnvC scope cl C X.env) fp) elt te)
    (hs : ∀ x, foldedSetIterable iter X.env x = pure x := by intro _; rfl) :
    PE X (.SetComp elt [⟨tg, iter, ifs, 0⟩] scope pos) (tScG Z ad wi g tt te (own.map (·.2))) := by
  refine ⟨fun pins s σ H Q I h => ?_⟩
  rw [PpSet.eval_SetComp]
  refine scg_core hZ had hc hN I hi ok hg ht he hs h fun D C s' m H' I' q hn f => ⟨m, hn, fun h'' sb => ?_⟩
  obtain ⟨f0, f1, f2, f3, f4, f5⟩ := f
  exact ⟨.ref D, H', I'.turned (t' := s'.toks) (fun b o hb e => (sb.2 b hb).trans e) f0 f1 f3 f4 f5, rfl, q⟩
end
/-- its reading over anything that goes by a Walk -/
theorem setK_lay {P : Program} {w : World} (H : Hp) (h : Heap) : ObjOk P w H (h.push (set0 w)) h.objs.size (SetK P w h.objs.size (fun _ => false) 0) :=
  setK_new ⟨_, #[], 0, _, Heap.get?_push_size _ rfl, ⟨rfl, rfl, rfl⟩, rfl, (fun e he => by simp at he), (fun k => by simp), (by decide), (by rfl), rfl⟩
end Rs
set_option Elab.async false
set_option linter.all false
set_option maxRecDepth 100000
set_option maxHeartbeats 2000000
/-! Sets of tuples whose items are ints and texts: search and adding, fewer than 64 elements. -/
namespace Rs
open PySem PySem.Spec PyProof.Rows L2
/-- the tuple at b has the items k -/
abbrev TIs (P : Program) (w : World) (h : Heap) (k : List Key) (b : Addr) : Prop := IsTupleKey (mixKind P w) h k b
abbrev tkh (P : Program) (w : World) (k : List Key) : Int := tupleKeyHash (mixKind P w) k
section
variable {P : Program} {w : World} {A : Around} {E : Value → Shared → Prop} {s : Shared}
theorem items_key {k : List Key} {vs : List Value} (h : PySem.ItemsAre (mixKind P w) k vs) : ∀ v ∈ vs, (∃ i t, v = Value.int i t) ∨ ∃ x t, v = Value.str x t := by
  induction h with
  | nil => intro v hv; cases hv
  | cons h1 _ ih =>
    intro v hv
    rcases List.mem_cons.mp hv with rfl | hv
    · rcases keyIs_shape h1 with ⟨i, t, _, e⟩ | ⟨x, t, _, e⟩
      · exact .inl ⟨i, t, e⟩
      · exact .inr ⟨x, t, e⟩
    · exact ih v hv
theorem cls_key {v : Value} (n : Nat) (h : (∃ i t, v = Value.int i t) ∨ ∃ x t, v = Value.str x t) : ofAClassStatement n v = pure false := by
  rcases h with ⟨i, t, rfl⟩ | ⟨x, t, rfl⟩ <;> cases n <;> rfl
theorem hbv_key {v : Value} (n : Nat) (h : (∃ i t, v = Value.int i t) ∨ ∃ x t, v = Value.str x t) : ∃ b, hashByValue n v = pure b := by
  rcases h with ⟨i, t, rfl⟩ | ⟨x, t, rfl⟩ <;> cases n <;> exact ⟨_, rfl⟩
theorem cls_tup {k : List Key} {b : Addr} {Q : Bool → Shared → Prop} (hk : TIs P w s.heap k b) (h : Q false s) : wpAny (model P w) A (ofAClassStatement 8 (.ref b)) Q E s := by
  have hT := hk.typeIs
  obtain ⟨o, items, n, ho, _, hd, hi⟩ := hk
  unfold ofAClassStatement
  refine wpAny_bind (wpAny_typeOf hT ?_)
  have et : (("tuple" : String) == "tuple") = true := by decide
  simp only [et, if_true, Bool.not_true, Bool.false_eq_true, if_false]
  show wpAny _ _ (seqItems? (.ref b) >>= _) _ _ s
  refine wpAny_bind (wpAny_seqItems ho hd (wpAny_bind ?_))
  show wpAny _ _ (forIn items _ _) _ _ s
  rw [← Array.forIn_toList]
  refine wpAny_forIn_list _ (fun rest r s' => r.1 = none ∧ s' = s ∧ ∀ v ∈ rest, (∃ i t, v = Value.int i t) ∨ ∃ x t, v = Value.str x t) _ ?_ ?_ _ _ ⟨rfl, rfl, items_key hi⟩
  · rintro v rest r s' ⟨hr, rfl, hall⟩
    rw [cls_key _ (hall v List.mem_cons_self)]
    refine wpAny_bind (wpAny_pure ?_)
    simp only [Bool.false_eq_true, if_false]
    exact wpAny_pure ⟨rfl, rfl, fun u hu' => hall u (List.mem_cons_of_mem _ hu')⟩
  · rintro ⟨r1, r2⟩ s' ⟨hr, rfl, _⟩
    cases hr
    exact wpAny_pure h
theorem hbv_tup {k : List Key} {b : Addr} {Q : Bool → Shared → Prop} (hk : TIs P w s.heap k b) (h : ∀ c, Q c s) : wpAny (model P w) A (hashByValue 8 (.ref b)) Q E s := by
  have hT := hk.typeIs
  obtain ⟨o, items, n, ho, _, hd, hi⟩ := hk
  unfold hashByValue
  refine wpAny_bind (wpAny_specialOf hT F.slot_tuple_hash.lookup ?_)
  show wpAny _ _ (seqItems? (.ref b) >>= _) _ _ s
  refine wpAny_bind (wpAny_seqItems ho hd (wpAny_bind ?_))
  show wpAny _ _ (forIn items _ _) _ _ s
  rw [← Array.forIn_toList]
  refine wpAny_forIn_list _ (fun rest r s' => r.1 = none ∧ s' = s ∧ ∀ v ∈ rest, (∃ i t, v = Value.int i t) ∨ ∃ x t, v = Value.str x t) _ ?_ ?_ _ _ ⟨rfl, rfl, items_key hi⟩
  · rintro v rest r s' ⟨hr, rfl, hall⟩
    obtain ⟨c, e⟩ := hbv_key (v := v) 7 (hall v List.mem_cons_self)
    rw [e]
    refine wpAny_bind (wpAny_pure ?_)
    cases c with
    | true =>
      simp only [Bool.not_true, Bool.false_eq_true, if_false]
      exact wpAny_pure ⟨rfl, rfl, fun u hu' => hall u (List.mem_cons_of_mem _ hu')⟩
    | false =>
      simp only [Bool.not_false, if_true]
      exact wpAny_pure (wpAny_pure (h false))
  · rintro ⟨r1, r2⟩ s' ⟨hr, rfl, _⟩
    cases hr
    exact wpAny_pure (h true)
/-- a search among such tuples is seen by nobody -/
theorem quiet_tups {k : List Key} {b : Addr} {Q : Bool → Shared → Prop} (hk : TIs P w s.heap k b) {ys : List Value} (hy : ∀ y ∈ ys, ∃ k' c, y = Value.ref c ∧ TIs P w s.heap k' c) (h : Q false s) :
    wpAny (model P w) A (searchCouldBeSeen (.ref b) ys) Q E s := by
  unfold searchCouldBeSeen
  refine wpAny_bind (wpAny_forIn_list _ (fun rest r s' => r.1 = none ∧ s' = s ∧ ∀ y ∈ rest, ∃ k' c, y = Value.ref c ∧ TIs P w s.heap k' c) _ ?_ ?_ _ _ ⟨rfl, rfl, hy⟩)
  · rintro v rest r s' ⟨_, rfl, hall⟩
    obtain ⟨k', c, rfl, hc⟩ := hall v List.mem_cons_self
    have more : ∀ y ∈ rest, ∃ k' c, y = Value.ref c ∧ TIs P w s'.heap k' c := fun u hu' => hall u (List.mem_cons_of_mem _ hu')
    dsimp only
    refine wpAny_ite_split (fun _ => wpAny_pure ⟨rfl, rfl, more⟩) fun _ => ?_
    refine wpAny_bind (wpAny_eqIsQuiet_tuple hk ?_)
    simp only [Bool.not_true, Bool.false_eq_true, if_false]
    refine wpAny_bind (wpAny_eqIsQuiet_tuple hc ?_)
    simp only [Bool.not_true, Bool.false_eq_true, if_false]
    refine wpAny_bind (cls_tup hk ?_)
    simp only [Bool.false_eq_true, if_false]
    refine wpAny_bind (cls_tup hc ?_)
    simp only [Bool.false_eq_true, if_false]
    exact wpAny_pure ⟨rfl, rfl, more⟩
  · rintro ⟨r1, r2⟩ s' ⟨hr, rfl, _⟩
    cases hr
    exact wpAny_pure h

abbrev rowT (P : Program) (w : World) (p : Addr × List Key) : Int × Value := (tkh P w p.2, Value.ref p.1)
/-- the set at a holds the tuples L (their addresses and items), in the table's order -/
structure TSet (P : Program) (w : World) (h : Heap) (a : Addr) (L : List (Addr × List Key)) (es : Array (Int × Value)) (ep : Nat) (t : SetTable) : Prop where
  ob : ∃ o, h.get? a = some o ∧ o.ExactSet ∧ o.data = .set es ep t
  rows : es.toList = L.map (rowT P w)
  tab : TabOk t (L.map fun p => tkh P w p.2)
  nd : (L.map (·.2)).Nodup
  tup : ∀ p ∈ L, TIs P w h p.2 p.1
  room : L.length * 5 < t.mask * 3
  few : L.length < 64
variable {a : Addr} {L : List (Addr × List Key)} {es : Array (Int × Value)} {ep : Nat} {t : SetTable}
theorem rows_size (h : es.toList = L.map (rowT P w)) : es.size = L.length := by
  rw [← Array.length_toList, h, List.length_map]
theorem rows_get (h : es.toList = L.map (rowT P w)) {i : Nat} {p : Addr × List Key} (hp : L[i]? = some p) : es[i]? = some (rowT P w p) := by
  rw [← Array.getElem?_toList, h, List.getElem?_map, hp] <;> rfl
theorem fits_of (hp : t.place.size = es.size) (hd : t.dummies = #[]) (hm : es.size ≤ t.mask) : t.fits es.size = true := by
  unfold SetTable.fits SetTable.fill
  simp [hd, hp, hm]
theorem TSet.fits (R : TSet P w s.heap a L es ep t) : t.fits es.size = true := by
  have h1 := R.tab.sz
  rw [List.length_map] at h1
  have h2 := rows_size R.rows
  have h3 := R.room
  exact fits_of (by omega) R.tab.dm (by omega)
theorem TSet.stays (R : TSet P w s.heap a L es ep t) : ¬ t.gaveWay = true := by
  unfold SetTable.gaveWay
  rw [mask_odd R.tab.mok]
  decide
/-- the probe that stands at the c-th step of the way of h -/
abbrev at' (m : Nat) (h : Int) (c : Nat) : SetTable.Probe := nth m (runAt m (SetTable.bits h % (m + 1)) (SetTable.bits h)) c
theorem at'_clean (m : Nat) (h : Int) (c : Nat) : (at' m h c).dummy = none := by
  have key : ∀ (n : Nat) (p : SetTable.Probe), p.dummy = none → (nth m p n).dummy = none := by
    intro n
    induction n with
    | zero => exact fun p h => h
    | succ n ih =>
      refine fun p h => ih (adv m p) ?_
      unfold adv
      split <;> exact h
  exact key c _ rfl
theorem at'_add (m : Nat) (h : Int) (c q : Nat) : nth m (at' m h c) q = at' m h (c + q) := (nth_add m c _ q).symm
theorem tset_find (R : TSet P w s.heap a L es ep t) {x : Addr} {k : List Key} (hx : TIs P w s.heap k x) (hu : A.units < cLine) {K : Nat} (hKf : K < 10 * SetTable.turns t.mask)
    (hK : way t.mask (tkh P w k) K ∉ t.place.toList) (hKb : ∀ c, c < K → way t.mask (tkh P w k) c ∈ t.place.toList) {Q : SetFound → Shared → Prop}
    (hin : k ∈ L.map (·.2) → Q (.there none) s) (hout : k ∉ L.map (·.2) → Q (.free (way t.mask (tkh P w k) K) false) s) :
    ∀ (f c : Nat) (from_ : Option SetTable.Probe), from_.getD (t.probeStart (tkh P w k)) = at' t.mask (tkh P w k) c → c ≤ K → K - c < f →
      (∀ (i : Nat) p, L[i]? = some p → p.2 = k → ∃ c', c ≤ c' ∧ c' < K ∧ t.place.toList[i]? = some (way t.mask (tkh P w k) c')) →
      wpAny (model P w) A (setSearchFrom a (.ref x) (tkh P w k) true f from_) Q E s := by
  intro f
  induction f with
  | zero => exact fun c from_ _ _ hf _ => absurd hf (Nat.not_lt_zero _)
  | succ f ih =>
    intro c from_ hst hc hf ahead
    generalize hm : tkh P w k = hh at *
    obtain ⟨o, ho, hex, hd⟩ := R.ob
    rw [setSearchFrom_succ]
    refine wpAny_bind (wpAny_setState_of ho hd R.fits ?_)
    dsimp only
    refine wp_if_neg R.stays ?_
    have jat : ∀ q, (nth t.mask (at' t.mask hh c) q).j = way t.mask hh (c + q) := fun q => congrArg SetTable.Probe.j (at'_add t.mask hh c q)
    have spec := go_spec t R.tab.ris R.tab.dm (fun i => (es[i]?.map (·.1)).getD 0) hh (10 * SetTable.turns t.mask) (K - c) _ (at'_clean t.mask hh c) (by omega)
      (fun q hq => by rw [jat]; exact hKb (c + q) (by omega)) (by rw [jat, Nat.add_sub_cancel' hc]; exact hK)
    have hashAt : ∀ (i : Nat) p, L[i]? = some p → (fun i => (es[i]?.map (·.1)).getD 0) i = tkh P w p.2 := fun i p hp => by
      show (es[i]?.map (·.1)).getD 0 = _
      rw [rows_get R.rows hp] <;> rfl
    have prb : t.probe (fun i => (es[i]?.map (·.1)).getD 0) hh (from_.getD (t.probeStart hh)) = SetTable.probe.go t (fun i => (es[i]?.map (·.1)).getD 0) hh (10 * SetTable.turns t.mask) (at' t.mask hh c) := by
      rw [hst] <;> rfl
    rcases spec with ⟨q, i, hq, hi, _, hno, hpr⟩ | ⟨hno, hpr⟩
    · rw [prb, hpr]
      dsimp only
      rw [jat, at'_add]
      rw [jat] at hi
      have hil : i < L.length := by
        have h1 : i < t.place.toList.length := (List.getElem?_eq_some_iff.mp hi).1
        have h2 := R.tab.sz
        rw [List.length_map] at h2
        rw [Array.length_toList] at h1
        omega
      obtain ⟨p, hp⟩ : ∃ p, L[i]? = some p := ⟨_, List.getElem?_eq_getElem hil⟩
      have hmem : p ∈ L := List.mem_of_getElem? hp
      have rest : wpAny (model P w) A (searchRest a (.ref x) hh true f es t (way t.mask hh (c + q)) i (at' t.mask hh (c + (q + 1)))) Q E s := by
        unfold searchRest
        rw [rows_get R.rows hp]
        dsimp only
        refine wpAny_bind (wpAny_holding (wpAny_eqBool_tuple hu (R.tup p hmem) hx ?_))
        refine wpAny_bind (wpAny_setState_of ho hd R.fits ?_)
        dsimp only
        by_cases hkk : p.2 = k
        · exact wp_if_pos (by simp [hkk]) (wpAny_pure (hin (List.mem_map.mpr ⟨p, hmem, hkk⟩)))
        · refine wp_if_neg (by simp [hkk]) ?_
          rw [sameMem]
          have hsl : t.slot (way t.mask hh (c + q)) = .live i := slot_live R.tab.ris hi
          simp only [if_true, hsl, rows_get R.rows hp]
          refine wpAny_bind (wpAny_isSame_ref_self (wpAny_bind (wpAny_pure ?_)))
          simp only [if_true]
          refine wp_if_neg (by simp [hkk]) ?_
          refine ih (c + (q + 1)) _ rfl (by omega) (by omega) fun i0 p0 h0 hk0 => ?_
          obtain ⟨c', a1, a2, a3⟩ := ahead i0 p0 h0 hk0
          refine ⟨c', ?_, a2, a3⟩
          rcases Nat.lt_trichotomy c' (c + q) with z | z | z
          · refine absurd ?_ (hno (c' - c) i0 (by omega) (by rw [jat, Nat.add_sub_cancel' a1]; exact a3))
            exact (hashAt i0 p0 h0).trans ((congrArg (tkh P w) hk0).trans hm)
          · rw [z] at a3
            have s0 := slot_live R.tab.ris a3
            rw [hsl] at s0
            injection s0 with s0
            rw [← s0, hp] at h0
            exact absurd ((congrArg Prod.snd (Option.some.inj h0)).trans hk0) hkk
          · omega
      refine wpAny_ite_split (fun _ => ?_) fun _ => rest
      refine wpAny_bind (quiet_tups hx (fun y hy => ?_) ?_)
      · obtain ⟨e, he, rfl⟩ := List.mem_map.mp hy
        have he2 : e ∈ es.toList := by simpa using (Array.mem_filter.mp (Array.mem_toList_iff.mp he)).1
        rw [R.rows] at he2
        obtain ⟨p2, hp2, rfl⟩ := List.mem_map.mp he2
        exact ⟨p2.2, p2.1, rfl, R.tup p2 hp2⟩
      · exact wp_if_neg (by decide) rest
    · rw [prb, hpr]
      dsimp only
      rw [jat, Nat.add_sub_cancel' hc]
      refine wpAny_pure (hout fun hmm => ?_)
      obtain ⟨p0, h0, hk0⟩ := List.mem_map.mp hmm
      obtain ⟨i0, hi0⟩ := List.getElem?_of_mem h0
      obtain ⟨c', a1, a2, a3⟩ := ahead i0 p0 hi0 hk0
      refine absurd ?_ (hno (c' - c) i0 (by omega) (by rw [jat, Nat.add_sub_cancel' a1]; exact a3))
      exact (hashAt i0 p0 hi0).trans ((congrArg (tkh P w) hk0).trans hm)

theorem tset_search (R : TSet P w s.heap a L es ep t) {x : Addr} {k : List Key} (hx : TIs P w s.heap k x) (hu : A.units < cLine) {Q : SetFound → Shared → Prop}
    (hin : k ∈ L.map (·.2) → Q (.there none) s)
    (hout : ∀ K, k ∉ L.map (·.2) → way t.mask (tkh P w k) K ∉ t.place.toList → (∀ c, c < K → way t.mask (tkh P w k) c ∈ t.place.toList) → Q (.free (way t.mask (tkh P w k) K) false) s) :
    wpAny (model P w) A (setSearch a (.ref x) (tkh P w k) true) Q E s := by
  have hroom := R.room
  have hsz := R.tab.sz
  rw [List.length_map] at hsz
  obtain ⟨K, hKf, hK, hKb⟩ := R.tab.first (by rw [List.length_map]; omega) (tkh P w k)
  have hbig : K < 100000 := by
    have : 10 * SetTable.turns t.mask ≤ 1420 := by
      unfold SetTable.turns
      rcases R.tab.mok with e | e | e <;> omega
    omega
  refine tset_find R hx hu hKf hK hKb hin (fun hn => hout K hn hK hKb) 100000 0 none rfl (Nat.zero_le _) (by omega) fun i p hp hk => ?_
  have hil : i < t.place.toList.length := by
    have h1 : i < L.length := (List.getElem?_eq_some_iff.mp hp).1
    rw [Array.length_toList]
    omega
  have hj := List.getElem?_eq_getElem hil
  obtain ⟨c, hc, e⟩ := R.tab.before (h := tkh P w k) hK (by rw [List.getElem?_map, hp, ← hk] <;> rfl) hj
  exact ⟨c, Nat.zero_le _, hc, by rw [hj, e]⟩
theorem tis_apart {h h' : Heap} {k : List Key} {b : Addr} {o : Obj} (hb : TIs P w h k b) (ho : h.get? a = some o) (hd : o.data = .set es ep t) (hs : Heap.SameBut a h h') : TIs P w h' k b := by
  obtain ⟨o', items, n, ho', hc, hd', hi⟩ := hb
  refine ⟨o', items, n, (hs.2 b ?_).trans ho', hc, hd', hi⟩
  rintro rfl
  cases Option.some.inj (ho'.symm.trans ho)
  rw [hd] at hd'
  exact nomatch hd'
theorem pick_range {α : Type} (l : List α) : (List.range l.length).filterMap (fun i => l[i]?) = l := by
  induction l with
  | nil => rfl
  | cons x l ih =>
    rw [List.length_cons, List.range_succ_eq_map, List.filterMap_cons_some (b := x) (by rfl), List.filterMap_map]
    exact congrArg (x :: ·) ih
theorem pick_rows (hr : es.toList = L.map (rowT P w)) : ∀ l : List Nat, (∀ i ∈ l, i < L.length) →
    l.filterMap (fun i => es[i]?) = (l.filterMap fun i => L[i]?).map (rowT P w) ∧ (l.filterMap fun i => L[i]?).map (fun p => tkh P w p.2) = l.map fun i => (es.map (·.1)).getD i 0
  | [], _ => ⟨rfl, rfl⟩
  | i :: l, hl => by
    have hi := hl i List.mem_cons_self
    obtain ⟨e1, e2⟩ := pick_rows hr l fun j hj => hl j (List.mem_cons_of_mem _ hj)
    have g := rows_get hr (List.getElem?_eq_getElem hi)
    have g2 : (es.map (·.1)).getD i 0 = tkh P w (L[i]).2 := by
      have e5 : (es.map (·.1))[i]? = some (tkh P w (L[i]).2) := by rw [Array.getElem?_map, g] <;> rfl
      simp [Array.getD_eq_getD_getElem?, e5]
    rw [List.filterMap_cons_some g, List.filterMap_cons_some (List.getElem?_eq_getElem hi), List.map_cons, List.map_cons, List.map_cons, e1, e2, g2]
    exact ⟨rfl, rfl⟩
theorem tset_relay {o : Obj} (ho : s.heap.get? a = some o) (hex : o.ExactSet) (hd : o.data = .set es ep t) (hrows : es.toList = L.map (rowT P w)) (hsz : t.place.size = es.size) (hdm : t.dummies = #[]) (hfl : es.size ≤ t.mask)
    (nd : (L.map (·.2)).Nodup) (tup : ∀ p ∈ L, TIs P w s.heap p.2 p.1) (few : L.length < 64) {wanted M : Nat}
    (hw : SetTable.sizeAbove wanted - 1 = M) (hM : MaskOk M) (hw2 : SetTable.sizeAbove wanted ≤ 128) (hn : L.length * 5 < M * 3) {Q : Unit → Shared → Prop}
    (hQ : ∀ h' L' es' ep' t', Heap.SameBut a s.heap h' → TSet P w h' a L' es' ep' t' → L'.Perm L → Q () { s with heap := h' }) : wpAny (model P w) A (setRelay a wanted) Q E s := by
  have hsl := rows_size hrows
  obtain ⟨t', order, e, hp, T, em, el, ep', ed⟩ := relaid_ok t (hs := es.map (·.1)) (wanted := wanted) hw hM (by rw [Array.size_map, hsl]; omega)
  rw [Array.size_map, hsl] at hp
  obtain ⟨r1, r3⟩ := pick_rows hrows order.toList fun i hi => List.mem_range.mp (hp.mem_iff.mp hi)
  have r2 : (order.toList.filterMap fun i => L[i]?).Perm L := by
    have h1 := hp.filterMap (fun i => L[i]?)
    rwa [pick_range] at h1
  rw [← r3] at T
  generalize order.toList.filterMap (fun i => L[i]?) = L2 at *
  have r0 : (order.filterMap (es[·]?)).toList = L2.map (rowT P w) := by rw [Array.toList_filterMap]; exact r1
  have hs2 : (order.filterMap (es[·]?)).size = es.size := by rw [rows_size r0, r2.length_eq, hsl]
  rw [setRelay_eq]
  refine wpAny_bind (wpAny_setState_of ho hd (fits_of hsz hdm hfl) ?_)
  dsimp only
  refine wp_if_neg (by rw [sizeLine_eq]; omega) ?_
  rw [e]
  dsimp only
  refine wpAny_bind (wp_if_neg (by rw [hs2]; simp) (wpAny_pure ?_))
  dsimp only
  refine wpAny_storeSet_of ho hd ?_ (by rw [hs2, hsl, sizeLine_eq]; omega)
  have sb : Heap.SameBut a s.heap (s.heap.update a (Obj.putSet (order.filterMap (es[·]?)) t')) := Heap.SameBut.update ..
  refine hQ _ L2 (order.filterMap (es[·]?)) (ep + 1) t' sb ⟨⟨_, store_at ho hd, ⟨hex.1, hex.2.1, hex.2.2⟩, rfl⟩, r0, T, (r2.map (·.2)).nodup_iff.mpr nd, fun p hpm => tis_apart (tup p (r2.mem_iff.mp hpm)) ho hd sb, ?_, by rw [r2.length_eq]; exact few⟩ r2
  rw [r2.length_eq, em]
  exact hn
theorem tset_add (R : TSet P w s.heap a L es ep t) {x : Addr} {k : List Key} (hx : TIs P w s.heap k x) (hu : A.units < cLine) (hfew : L.length + 1 < 64) {Q : Bool → Shared → Prop}
    (hQ : ∀ b h' L' es' ep' t', Heap.SameBut a s.heap h' → TSet P w h' a L' es' ep' t' → (k ∈ L.map (·.2) → L' = L) → (k ∉ L.map (·.2) → L'.Perm ((x, k) :: L)) → Q b { s with heap := h' }) :
    wpAny (model P w) A (setAddHashed a (.ref x) (tkh P w k)) Q E s := by
  obtain ⟨o, ho, hex, hd⟩ := R.ob
  have hsl := rows_size R.rows
  have hroom := R.room
  unfold setAddHashed
  refine wpAny_holding ?_
  rw [show (100000 : Nat) = 99999 + 1 from rfl, setAddHashedIn_succ]
  refine wpAny_bind (wpAny_setState_of ho hd R.fits ?_)
  dsimp only
  refine wp_if_neg (by simp [byScan, Value.scannable]) ?_
  refine wpAny_bind (tset_search R hx hu (fun hm => wpAny_pure (hQ false s.heap L es ep t (Heap.SameBut.refl a s.heap) R (fun _ => rfl) fun z => absurd hm z)) fun K hm hK hb => ?_)
  dsimp only
  refine wpAny_bind (wpAny_setState_of ho hd R.fits ?_)
  dsimp only
  obtain ⟨q1, q2, q3, q4, q5, q6, q7, q8, q9⟩ := R.tab.put hK hb
  generalize hpt : t.put (way t.mask (tkh P w k) K) = pt at q1 q3 q4 q5 q6 q7 q8 q9 ⊢
  obtain ⟨t1, p⟩ := pt
  dsimp only at q1 q3 q4 q5 q6 q7 q8 q9 ⊢
  generalize hpp : SetTable.below t.place (way t.mask (tkh P w k) K) = p' at q1 q2 q3
  subst q1
  rw [List.length_map] at q9
  have hin : (SetTable.insertAt es p (tkh P w k, Value.ref x)).toList = (L.take p ++ (x, k) :: L.drop p).map (rowT P w) := by
    rw [SetTable.toList_insertAt, R.rows, List.map_append, List.map_cons, List.map_take, List.map_drop]
  have pm : (L.take p ++ (x, k) :: L.drop p).Perm ((x, k) :: L) := put_perm L p (x, k)
  have hhs : (L.map fun p => tkh P w p.2).take p ++ tkh P w k :: (L.map fun p => tkh P w p.2).drop p = (L.take p ++ (x, k) :: L.drop p).map (fun p => tkh P w p.2) := by
    rw [List.map_append, List.map_cons, List.map_take, List.map_drop]
  rw [hhs] at q3
  generalize SetTable.insertAt es p (tkh P w k, Value.ref x) = es1 at hin ⊢
  generalize L.take p ++ (x, k) :: L.drop p = L1 at pm q3 hin
  have hlen : L1.length = L.length + 1 := pm.length_eq
  have hes : es1.size = L.length + 1 := by rw [rows_size hin, hlen]
  have nd1 : (L1.map (·.2)).Nodup := (pm.map (·.2)).nodup_iff.mpr (List.nodup_cons.mpr ⟨hm, R.nd⟩)
  -- whatever the table is marked with, the same goes on
  have tail : ∀ t2 : SetTable, TabOk t2 (L1.map fun p => tkh P w p.2) → t2.mask = t.mask → t2.fill = L.length + 1 →
      wpAny (model P w) A (do storeSet a es1 t2; if (!false && t2.tooFull) = true then do { let _ ← setRelay a (SetTable.grown (es.size + 1)); pure true } else pure true) Q E s := by
    intro t2 T2 em ef
    refine wpAny_bind (wpAny_storeSet_of ho hd ?_ (by rw [hes, sizeLine_eq]; omega))
    have sb : Heap.SameBut a s.heap (s.heap.update a (Obj.putSet es1 t2)) := Heap.SameBut.update ..
    have ho1 := store_at (es' := es1) (t' := t2) ho hd
    generalize s.heap.update a (Obj.putSet es1 t2) = h1 at sb ho1 ⊢
    have tup1 : ∀ p ∈ L1, TIs P w h1 p.2 p.1 := fun p hp => by
      rcases List.mem_cons.mp (pm.mem_iff.mp hp) with e | hp
      · rw [e]; exact tis_apart hx ho hd sb
      · exact tis_apart (R.tup p hp) ho hd sb
    by_cases hf : t2.tooFull = true
    · have hfull : (L.length + 1) * 5 ≥ t2.mask * 3 := by
        have h := hf
        unfold SetTable.tooFull at h
        rw [decide_eq_true_eq, ef] at h
        exact h
      have two : (t.mask = 7 ∧ L.length = 4) ∨ (t.mask = 31 ∧ L.length = 18) := by
        rw [em] at hfull
        rcases R.tab.mok with e | e | e
        · left; rw [e] at hfull hroom; exact ⟨e, by omega⟩
        · right; rw [e] at hfull hroom; exact ⟨e, by omega⟩
        · exfalso; rw [e] at hfull; omega
      refine wp_if_pos (by simp [hf]) (wpAny_bind ?_)
      have sz2 : t2.place.size = es1.size := by rw [T2.sz, List.length_map, hlen, hes]
      have go : ∀ M, SetTable.sizeAbove (SetTable.grown (L.length + 1)) - 1 = M → MaskOk M → SetTable.sizeAbove (SetTable.grown (L.length + 1)) ≤ 128 → (L.length + 1) * 5 < M * 3 →
          wpAny (model P w) A (setRelay a (SetTable.grown (es.size + 1))) (fun _ s' => wpAny (model P w) A (pure true) Q E s') E { s with heap := h1 } := fun M g1 g2 g3 g4 => by
        rw [hsl]
        refine tset_relay (s := { s with heap := h1 }) ho1 ⟨hex.1, hex.2.1, hex.2.2⟩ rfl hin sz2 T2.dm (by rw [hes, em]; rcases two with ⟨e, e2⟩ | ⟨e, e2⟩ <;> omega) nd1 tup1 (by rw [hlen]; exact hfew) g1 g2 g3 (by rw [hlen]; exact g4) ?_
        intro h2 L2 es2 ep2 t3 sb2 R2 pm2
        exact wpAny_pure (hQ true h2 L2 es2 ep2 t3 (sb.trans sb2) R2 (fun z => absurd z hm) fun _ => pm2.trans pm)
      rcases two with ⟨_, e2⟩ | ⟨_, e2⟩
      · exact go 31 (by rw [e2, size_20]) (.inr (.inl rfl)) (by rw [e2, size_20]; decide) (by omega)
      · exact go 127 (by rw [e2, size_76]) (.inr (.inr rfl)) (by rw [e2, size_76]; decide) (by omega)
    · refine wp_if_neg (by simp [hf]) ?_
      refine wpAny_pure (hQ true h1 L1 es1 (ep + 1) t2 sb ⟨⟨_, ho1, ⟨hex.1, hex.2.1, hex.2.2⟩, rfl⟩, hin, T2, nd1, tup1, ?_, by rw [hlen]; exact hfew⟩ (fun z => absurd z hm) fun _ => pm)
      have h := hf
      unfold SetTable.tooFull at h
      rw [decide_eq_true_eq, ef] at h
      rw [hlen]
      omega
  have tail1 := tail t1 q3 q4 q9
  have tail2 := tail { t1 with plain := false } ⟨q3.ris, q3.dm, q3.sz, q3.mok, q3.bd, q3.reach⟩ q4 q9
  refine wpAny_ite_split (fun _ => wpAny_bind (hbv_tup hx fun c => ?_)) fun _ => wpAny_bind (wpAny_pure ?_)
  · cases c with
    | true => exact tail1
    | false => exact tail2
  · exact tail1
end
end Rs
set_option Elab.async false
set_option linter.all false
set_option maxRecDepth 100000
set_option maxHeartbeats 2000000
/-! Sets of tuples as objects of the abstract heap: empty, adding, len; len of sets of texts. -/
namespace Rs
open PySem PySem.Spec PyProof.Rows L2
structure TSet0 (P : Program) (w : World) (h : Heap) (a : Addr) (L : List (Addr × List Key)) : Prop where
  ex : ∃ (es : Array (Int × Value)) (ep : Nat) (t : SetTable), (∃ o, h.get? a = some o ∧ o.ExactSet ∧ o.data = .set es ep t) ∧ es.toList = L.map (rowT P w) ∧ TabOk t (L.map fun p => tkh P w p.2) ∧ (L.map (·.2)).Nodup ∧
    L.length * 5 < t.mask * 3 ∧ L.length < 64
def SetT (P : Program) (w : World) (a : Addr) (L : List (Addr × List Key)) : HO := .ext fun h => TSet0 P w h a L
section
variable {P : Program} {w : World} {h h' : Heap} {a : Addr} {L : List (Addr × List Key)}
theorem TSet.zero {es : Array (Int × Value)} {ep : Nat} {t : SetTable} (R : TSet P w h a L es ep t) : TSet0 P w h a L := ⟨es, ep, t, R.ob, R.rows, R.tab, R.nd, R.room, R.few⟩
theorem TSet0.full (R : TSet0 P w h a L) (ht : ∀ p ∈ L, TIs P w h p.2 p.1) : ∃ es ep t, TSet P w h a L es ep t := by
  obtain ⟨es, ep, t, h1, h2, h3, h4, h7, h8⟩ := R.ex
  exact ⟨es, ep, t, h1, h2, h3, h4, ht, h7, h8⟩
theorem setT_new {H : Hp} (R : TSet0 P w h a L) : ObjOk P w H h a (SetT P w a L) := by
  obtain ⟨es, ep, t, ⟨o, ho, _⟩, _⟩ := R.ex
  refine ⟨R, ⟨o, ho⟩, fun h1 h2 p k => ?_⟩
  obtain ⟨es', ep', t', ⟨o', ho', r'⟩, q'⟩ := TSet0.ex p
  exact ⟨es', ep', t', ⟨o', k o' ho', r'⟩, q'⟩
theorem tab0 (f m : Nat) (l : Bool) (hm : (SetTable.fresh f m l).mask = 7) (hp : (SetTable.fresh f m l).place = #[]) (hd : (SetTable.fresh f m l).dummies = #[]) : TabOk (SetTable.fresh f m l) [] where
  ris := by rw [hp]; exact (by first | exact List.Pairwise.nil | (intro i j x y h1; simp at h1) | simp [Ris])
  dm := hd
  sz := by rw [hp]; rfl
  mok := .inl hm
  bd := by rw [hp]; intro x hx; simp at hx
  reach := by intro i h j e; simp at e
theorem setT_lay (H : Hp) (h : Heap) : ObjOk P w H (h.push (set0 w)) h.objs.size (SetT P w h.objs.size []) :=
  setT_new ⟨_, _, _, ⟨_, Heap.get?_push_size _ rfl, ⟨rfl, rfl, rfl⟩, rfl⟩, rfl, tab0 _ _ _ rfl rfl rfl, List.nodup_nil, (by show 0 * 5 < 7 * 3; decide), (by decide)⟩
end
section
variable {X : Cx}
theorem items_keys {P : Program} {w : World} : ∀ {k : List Key} {us : List Value}, Vals (k.map kV) us → PySem.ItemsAre (mixKind P w) k us
  | [], _, .nil => .nil
  | n :: k, _, .cons r t => .cons (kV_is r) (items_keys t)
theorem inv_tis {pins : List (Addr × Obj)} {σ : L2.St} {H : Hp} {s : Shared} {b : Addr} {k : List Key} (I : L2.Inv X pins σ H s) (h : SqT X.K H b (k.map kV)) : TIs X.prog X.w s.heap k b := by
  obtain ⟨its, r, ⟨o, ho, hc, n, hd⟩, _⟩ := I.tuple h
  exact ⟨o, its.toArray, n, ho, hc, hd, by simpa using items_keys r⟩
theorem setT_get {pins : List (Addr × Obj)} {σ : L2.St} {H : Hp} {s : Shared} {a : Addr} {L : List (Addr × List Key)} (I : L2.Inv X pins σ H s) (ha : H a = some (SetT X.prog X.w a L)) (ht : ∀ p ∈ L, SqT X.K H p.1 (p.2.map kV)) :
    ∃ es ep t, TSet X.prog X.w s.heap a L es ep t := (show TSet0 X.prog X.w s.heap a L from (I.hok a _ ha).1).full fun p hp => inv_tis I (ht p hp)
/-- adding a tuple of keys -/
def rAddT (K : PySem.W.Frag) (P : Program) (w : World) : V → List V → Hp → VK → Prop := fun x xs H Q => ∃ (a b : Addr) (k : List Key) (L : List (Addr × List Key)), x = V.ref a ∧ xs = [.ref b] ∧ H a = some (SetT P w a L) ∧ SqT K H b (k.map kV) ∧
  (∀ p ∈ L, SqT K H p.1 (p.2.map kV)) ∧ L.length + 1 < 64 ∧ ∀ L', (k ∈ L.map (·.2) → L' = L) → (k ∉ L.map (·.2) → L'.Perm ((b, k) :: L)) → Q .non (upd H a (SetT P w a L'))
theorem mt_addT (hu : X.A.units + 1 < cLine) : MtR X "set.add" (rAddT X.K X.prog X.w) := by
  intro pins s σ H x xs v us Q I rx rxs h
  obtain ⟨a, b, k, L, rfl, rfl, ha, hb, hL, few, q⟩ := h
  cases rx
  cases rxs with
  | cons ry rt =>
    cases rt
    cases ry
    obtain ⟨es, ep, t, R⟩ := setT_get I ha hL
    obtain ⟨o, ho, hex, hd⟩ := R.ob
    have hT : s.TypeIs (.ref a) "set" := ⟨o, ho, hex.1⟩
    refine wpAny_call_entry F.slot_set_add hT F.entry_set_add ?_ (F.args_set_add_2 _ _)
    unfold Builtin.«set.add» Builtin.Frozenset.oneOther
    simp only [List.isEmpty_nil, bind_assoc]
    unfold Builtin.Frozenset.addrOf setAdd
    refine wpAny_bind (wpAny_pure ?_)
    refine wpAny_bind (wpAny_pure (wpAny_bind (wpAny_holding ?_)))
    have hx := inv_tis I hb
    refine wpAny_bind (wpAny_pyHash_tuple (by show X.A.in1.units < cLine; exact hu) hx ?_)
    refine tset_add (s := { s with toks := s.toks + (k.length + 1) }) R hx (by show X.A.in1.units < cLine; exact hu) few fun b' h' L' es' ep' t' sb R' e1 e2 => ?_
    refine wpAny_pure ⟨Value.none, rfl, ?_⟩
    have he : ∃ u, h'.get? a = some u := let ⟨o, ho, _⟩ := R'.ob; ⟨o, ho⟩
    exact ⟨.non, upd H a (SetT X.prog X.w a L'), I.write (e := a) (t' := s.toks + (k.length + 1)) (by rw [ha]; trivial) (.inl rfl) (fun b u hb hu => (sb.2 b hb).trans hu) he (setT_new R'.zero), rfl, q L' e1 e2⟩
/-- len of such sets -/
def rLenSet (P : Program) (w : World) : List V → Hp → VK → Prop := fun xs H Q => ∃ a n, xs = [.ref a] ∧ ((∃ L, H a = some (SetT P w a L) ∧ n = L.length) ∨ ∃ S, H a = some (SetK P w a S n)) ∧ Q (.int (n : Nat)) H
theorem cr_lenSet : CallR X (.builtin "len") (rLenSet X.prog X.w) := by
  intro pins s σ H xs us Q I r h
  obtain ⟨a, n, rfl, hor, q⟩ := h
  rw [Vals.ref1 r]
  rcases hor with ⟨L, ha, rfl⟩ | ⟨S, ha⟩
  · obtain ⟨es, ep, t, ⟨o, ho, hex, hd⟩, hr, T, nd, room, few⟩ := (show TSet0 X.prog X.w s.heap a L from (I.hok a _ ha).1).ex
    have hz := rows_size hr
    have hs := T.sz
    rw [List.length_map] at hs
    refine call_len_set ho hex hd (fits_of (by omega) T.dm (by omega)) (by omega) ⟨.int (L.length : Nat), H, I.tok _, ⟨_, by rw [hz]⟩, q⟩
  · obtain ⟨o, es, ep, t, ho, hex, hd, _, _, hb, hf, rfl⟩ := setK_get I ha
    have : (scanBound : Int) < 2 ^ 63 := by decide
    refine call_len_set ho hex hd hf (by omega) ⟨.int (es.size : Nat), H, I.tok _, ⟨_, rfl⟩, q⟩
end
end Rs
set_option Elab.async false
set_option linter.all false
/-! Plain lists: sorting by a strict total order, texts and rows of texts in order. -/
namespace Rs
section
variable {α : Type} (lt : α → α → Bool)
/-- a strict total order, by Bool -/
structure Tot : Prop where
  irr : ∀ x, lt x x = false
  tr : ∀ x y z, lt x y = true → lt y z = true → lt x z = true
  tri : ∀ x y, lt x y = false → lt y x = false → x = y
def ins (x : α) : List α → List α
  | [] => [x]
  | y :: l => if lt y x = true then y :: ins x l else x :: y :: l
def isort : List α → List α
  | [] => []
  | x :: l => ins lt x (isort l)
abbrev Up (l : List α) : Prop := l.Pairwise fun x y => lt y x = false
variable {lt}
theorem ins_perm (x : α) : ∀ l, (ins lt x l).Perm (x :: l)
  | [] => List.Perm.refl _
  | y :: l => by
    unfold ins
    split
    · exact ((ins_perm x l).cons y).trans (List.Perm.swap x y l)
    · exact List.Perm.refl _
theorem isort_perm : ∀ l, (isort lt l).Perm l
  | [] => List.Perm.refl _
  | x :: l => (ins_perm x _).trans ((isort_perm l).cons x)
theorem Tot.asym (O : Tot lt) {x y : α} (h : lt x y = true) : lt y x = false := by
  cases e : lt y x with
  | false => rfl
  | true => have := O.tr x y x h e; rw [O.irr] at this; cases this
theorem Tot.le (O : Tot lt) {x y z : α} (h1 : lt y x = false) (h2 : lt z y = false) : lt z x = false := by
  cases e : lt z x with
  | false => rfl
  | true =>
    cases e2 : lt x y with
    | true => rw [O.tr z x y e e2] at h2; cases h2
    | false => rw [O.tri x y e2 h1, h2] at e; cases e
theorem ins_up (O : Tot lt) (x : α) : ∀ l, Up lt l → Up lt (ins lt x l)
  | [], _ => List.pairwise_singleton _ _
  | y :: l, h => by
    obtain ⟨hy, hl⟩ := List.pairwise_cons.mp h
    unfold ins
    split
    · next e =>
      refine List.pairwise_cons.mpr ⟨fun z hz => ?_, ins_up O x l hl⟩
      rcases List.mem_cons.mp ((ins_perm x l).mem_iff.mp hz) with rfl | hz
      · exact O.asym e
      · exact hy z hz
    · next e =>
      have e' : lt y x = false := by simpa using e
      refine List.pairwise_cons.mpr ⟨fun z hz => ?_, h⟩
      rcases List.mem_cons.mp hz with rfl | hz
      · exact e'
      · exact O.le e' (hy z hz)
theorem isort_up (O : Tot lt) : ∀ l, Up lt (isort lt l)
  | [] => List.Pairwise.nil
  | x :: l => ins_up O x _ (isort_up O l)
theorem up_uniq (O : Tot lt) : ∀ {l m : List α}, Up lt l → Up lt m → l.Perm m → l = m
  | [], m, _, _, p => (List.nil_perm.mp p).symm
  | x :: l, [], _, _, p => (List.perm_nil.mp p)
  | x :: l, y :: m, hl, hm, p => by
    obtain ⟨hx, hl'⟩ := List.pairwise_cons.mp hl
    obtain ⟨hy, hm'⟩ := List.pairwise_cons.mp hm
    have e : x = y := by
      have h1 : x ∈ y :: m := p.mem_iff.mp List.mem_cons_self
      have h2 : y ∈ x :: l := p.mem_iff.mpr List.mem_cons_self
      rcases List.mem_cons.mp h1 with h1 | h1
      · exact h1
      · rcases List.mem_cons.mp h2 with h2 | h2
        · exact h2.symm
        · exact O.tri x y (hy x h1) (hx y h2)
    subst e
    rw [up_uniq O hl' hm' (List.Perm.cons_inv p)]
theorem isort_of (O : Tot lt) {l m : List α} (h : Up lt l) (p : l.Perm m) : l = isort lt m := up_uniq O h (isort_up O m) (p.trans (isort_perm m).symm)
theorem isort_congr (O : Tot lt) {l m : List α} (p : l.Perm m) : isort lt l = isort lt m := isort_of O (isort_up O l) ((isort_perm l).trans p)
theorem mem_isort {x : α} {l : List α} : x ∈ isort lt l ↔ x ∈ l := (isort_perm l).mem_iff
theorem length_isort (l : List α) : (isort lt l).length = l.length := (isort_perm l).length_eq
theorem nodup_isort {l : List α} : (isort lt l).Nodup ↔ l.Nodup := (isort_perm l).nodup_iff
/-- by a key -/
theorem up_map {β : Type} {f : β → α} {l : List β} : Up (fun x y => lt (f x) (f y)) l ↔ Up lt (l.map f) := by
  unfold Up
  rw [List.pairwise_map]
end
open PySem
/-- lists by their first unlike element -/
def lex {α : Type} [DecidableEq α] (lt : α → α → Bool) : List α → List α → Bool
  | [], [] => false
  | [], _ :: _ => true
  | _ :: _, [] => false
  | x :: l, y :: m => if x = y then lex lt l m else lt x y
theorem lex_tot {α : Type} [DecidableEq α] {lt : α → α → Bool} (O : Tot lt) : Tot (lex lt) := by
  refine ⟨fun x => ?_, fun x => ?_, fun x => ?_⟩
  · induction x with
    | nil => rfl
    | cons a l ih => simp [lex, ih]
  · induction x with
    | nil =>
      intro y z h1 h2
      cases y with
      | nil => cases h1
      | cons b m =>
        cases z with
        | nil => cases h2
        | cons c n => rfl
    | cons a l ih =>
      intro y z h1 h2
      cases y with
      | nil => cases h1
      | cons b m =>
        cases z with
        | nil => cases h2
        | cons c n =>
          unfold lex at h1 h2 ⊢
          by_cases e1 : a = b
          · subst e1
            by_cases e2 : a = c
            · subst e2
              rw [if_pos rfl] at *
              exact ih m n h1 h2
            · rw [if_pos rfl] at h1
              rw [if_neg e2] at h2 ⊢
              exact h2
          · rw [if_neg e1] at h1
            by_cases e2 : b = c
            · subst e2
              rw [if_neg e1]
              exact h1
            · rw [if_neg e2] at h2
              have h3 := O.tr a b c h1 h2
              by_cases e3 : a = c
              · subst e3; rw [O.irr] at h3; cases h3
              · rw [if_neg e3]; exact h3
  · induction x with
    | nil =>
      intro y h1 h2
      cases y with
      | nil => rfl
      | cons b m => cases h1
    | cons a l ih =>
      intro y h1 h2
      cases y with
      | nil => cases h2
      | cons b m =>
        unfold lex at h1 h2
        by_cases e : a = b
        · subst e
          rw [if_pos rfl] at h1 h2
          rw [ih m h1 h2]
        · rw [if_neg e] at h1
          rw [if_neg (Ne.symm e)] at h2
          exact absurd (O.tri a b h1 h2) e
abbrev natLt (a b : Nat) : Bool := decide (a < b)
theorem natLt_tot : Tot natLt := ⟨fun x => by simp [natLt], fun x y z h1 h2 => by simp [natLt] at *; omega, fun x y h1 h2 => by simp [natLt] at *; omega⟩
/-- texts in order -/
def strLt (a b : Str) : Bool := lex natLt a.cps.toList b.cps.toList
theorem str_ext {a b : Str} (h : a.cps.toList = b.cps.toList) : a = b := by
  cases a; cases b; congr; exact Array.ext' h
theorem strLt_tot : Tot strLt := by
  have O := lex_tot natLt_tot
  exact ⟨fun x => O.irr _, fun x y z => O.tr _ _ _, fun x y h1 h2 => str_ext (O.tri _ _ h1 h2)⟩
theorem lex_nat (a b : List Nat) : lex natLt a b = decide (a < b) := by
  induction a generalizing b with
  | nil => cases b <;> simp [lex]
  | cons x l ih =>
    cases b with
    | nil => simp [lex]
    | cons y m =>
      unfold lex
      by_cases e : x = y
      · subst e; simp [ih]
      · rw [if_neg e]
        simp [natLt, List.cons_lt_cons_iff, e]
theorem strLt_eq (a b : Str) : strLt a b = decide (a.cps.toList < b.cps.toList) := lex_nat _ _
abbrev rowLt : List Str → List Str → Bool := lex strLt
theorem rowLt_tot : Tot rowLt := lex_tot strLt_tot
end Rs
set_option Elab.async false
set_option linter.all false
set_option maxRecDepth 100000
set_option maxHeartbeats 2000000
/-! sorted(..) of texts and of tuples of texts, any number of them: of a list, a tuple, a dict's keys. -/
namespace Rs
open PySem PySem.Spec PyProof.Rows L2 SrtO
section
variable {prog : Program} {w : World} {A : Around} {E : Value → Shared → Prop} {s : Shared}
def txtOf : Value → Str
  | .str x _ => x
  | _ => ⟨#[]⟩
theorem swo_of {α β : Type} {lt : α → α → Bool} (O : Tot lt) (f : β → α) : Swo fun x y => lt (f x) (f y) :=
  ⟨fun x y h => O.asym h, fun x y z h1 h2 => O.le h1 h2⟩
/-- texts are sortable -/
theorem sortable_txt {a : Addr} {vs : List Value} {ss : List Str} (h2 : 2 ≤ vs.length) (hS : StrsAre vs ss) : SortableO prog w A s a vs fun v u => strLt (txtOf v) (txtOf u) := by
  intro h' keep
  refine ⟨oneType', fun Q E hq => ?_, fun p q hp hq => ?_⟩
  · match vs, h2, hS with
    | v1 :: v2 :: r, _, hS =>
      rw [keyKind_strs hS]
      exact wpAny_pure hq
  · have st : ∀ (us : List Value) (ts : List Str), StrsAre us ts → ∀ v ∈ us, ∃ x t, v = Value.str x t := by
      intro us ts h
      induction h with
      | nil => intro v hv; cases hv
      | cons x t _ ih =>
        intro v hv
        rcases List.mem_cons.mp hv with rfl | hv
        · exact ⟨_, _, rfl⟩
        · exact ih v hv
    obtain ⟨x, t, ex⟩ := st _ _ hS _ hp
    obtain ⟨y, u, ey⟩ := st _ _ hS _ hq
    show wpAny _ _ (keyLt' oneType' p.1 q.1) (fun r s' => s' = _ ∧ r = strLt (txtOf p.1) (txtOf q.1)) _ _
    rw [ex, ey]
    exact PySem.W.kas_lt_str ⟨rfl, (strLt_eq x y).symm⟩
/-- a tuple of texts -/
def IsRow (h : Heap) (v : Value) (k : List Str) : Prop := ∃ a o its n, v = .ref a ∧ h.get? a = some o ∧ o.cls = .type "tuple" ∧ o.data = .seq its n ∧ StrsAre its.toList k
theorem IsRow.keeps {h h' : Heap} {v : Value} {k : List Str} (r : IsRow h v k) (kp : ∀ b o, h.get? b = some o → o.cls = .type "tuple" → h'.get? b = some o) : IsRow h' v k := by
  obtain ⟨a, o, its, n, e, ho, hc, hd, hS⟩ := r
  exact ⟨a, o, its, n, e, kp a o ho hc, hc, hd, hS⟩
theorem rows_lex : ∀ {xs ys : List Value} {k j : List Str} {b : Bool} {i : Nat} {Q : Bool → Shared → Prop}, StrsAre xs k → StrsAre ys j → (b = true → i = 0 ∨ True) → Q (rowLt k j) s →
    PySem.W.KatLex prog w A b (decide (xs.length < ys.length)) Q (xs.zip ys) i s
  | [], [], _, _, _, _, _, .nil, .nil, _, q => q
  | [], _ :: _, _, _, _, _, _, .nil, .cons _ _ _, _, q => q
  | _ :: _, [], _, _, _, _, _, .cons _ _ _, .nil, _, q => q
  | _ :: xs, _ :: ys, _ :: k, _ :: j, b, i, Q, .cons x t hx, .cons y u hy, hb, q => by
    refine PySem.W.kat_cons (wpAny_eqBool_str ?_)
    refine PySem.W.kat_go (fun e => ?_) (fun e => ?_)
    · have e' : x = y := by simpa using e
      refine PySem.W.kat_yes ?_
      have hl : decide ((Value.str x t :: xs).length < (Value.str y u :: ys).length) = decide (xs.length < ys.length) := by simp
      rw [hl]
      refine rows_lex hx hy (fun _ => .inr trivial) ?_
      unfold rowLt lex at q
      rw [if_pos e'] at q
      exact q
    · have e' : ¬ x = y := by simpa using e
      unfold rowLt lex at q
      rw [if_neg e', strLt_eq] at q
      refine PySem.W.kat_no ?_
      cases hbi : (b && i == 0) with
      | false => exact PySem.W.kat_one _ _ (PySem.P.lt_str q)
      | true => exact oneLt_str q
theorem firsts_rows {h : Heap} : ∀ {vs : List Value}, (∀ v ∈ vs, ∃ k, IsRow h v k ∧ k ≠ []) → ∃ fs : List Value, PySem.W.KatTups h vs fs ∧ fs.length = vs.length ∧ ∀ f ∈ fs, ∃ x t, f = Value.str x t
  | [], _ => ⟨[], trivial, rfl, fun f hf => (by cases hf)⟩
  | v :: vs, hp => by
    obtain ⟨fs, h1, h2, h3⟩ := firsts_rows fun u hu => hp u (List.mem_cons_of_mem _ hu)
    obtain ⟨k, ⟨a, o, its, n, rfl, ho, hc, hd, hS⟩, hk⟩ := hp v List.mem_cons_self
    have e : ∃ x t, its[0]? = some (Value.str x t) := by
      rw [← Array.getElem?_toList]
      generalize its.toList = l at hS
      cases hS with
      | nil => exact absurd rfl hk
      | cons x t _ => exact ⟨x, t, rfl⟩
    obtain ⟨x, t, e⟩ := e
    refine ⟨_ :: fs, PySem.W.KatTups.cons ho hc hd e h1, by simp [h2], fun f hf => ?_⟩
    rcases List.mem_cons.mp hf with rfl | hf
    · exact ⟨x, t, rfl⟩
    · exact h3 f hf
theorem sortable_rows {a : Addr} {vs : List Value} {k : Value → List Str} (h2 : 2 ≤ vs.length) (hp : ∀ v ∈ vs, IsRow s.heap v (k v) ∧ k v ≠ []) (ha : ∀ o, s.heap.get? a = some o → o.cls ≠ .type "tuple") :
    SortableO prog w A s a vs fun v u => rowLt (k v) (k u) := by
  intro h' keep
  have hp' : ∀ v ∈ vs, IsRow h' v (k v) ∧ k v ≠ [] := fun v hm => ⟨(hp v hm).1.keeps fun b o e c => keep b o (fun z => by subst z; exact ha o e c) e, (hp v hm).2⟩
  obtain ⟨fs, h1, hl, h3⟩ := firsts_rows fun v hm => ⟨_, hp' v hm⟩
  refine ⟨tuples' true, fun Q E hq => ?_, fun p q hm hm' => ?_⟩
  · refine PySem.W.kat_kind (T := .type "str") h1 (by omega) (fun f hm => ?_) (by rfl) ?_
    · obtain ⟨x, t, rfl⟩ := h3 f hm
      exact PySem.W.Looks.now
    · have e : (Value.type "str" != Value.type "tuple") = true := by first | decide +kernel | rfl | decide
      rw [e]
      exact hq
  · obtain ⟨a1, o1, i1, n1, e1, ho1, _, hd1, s1⟩ := (hp' _ hm).1
    obtain ⟨a2, o2, i2, n2, e2, ho2, _, hd2, s2⟩ := (hp' _ hm').1
    show wpAny (model prog w) A (keyLt' (tuples' true) p.1 q.1) (fun r s' => s' = _ ∧ r = rowLt (k p.1) (k q.1)) (fun _ _ => False) _
    generalize k p.1 = kp at s1
    generalize k q.1 = kq at s2
    rw [e1, e2]
    refine PySem.W.kat_lt (s := { s with heap := h' }) ho1 hd1 ho2 hd2 ?_
    rw [← Array.length_toList, ← Array.length_toList]
    exact rows_lex s1 s2 (fun _ => .inr trivial) ⟨rfl, rfl⟩
end
section
variable {X : Cx} {pins : List (Addr × Obj)} {σ : L2.St} {H : Hp} {s : Shared}
/-- the machine's way: a new list of what was gathered, sorted in place -/
theorem sort_tail {vs : List Value} {ltv : Value → Value → Bool} {Q : VK} {E : Value → Shared → Prop} (I : L2.Inv X pins σ H s) (O : Swo ltv) (hz : vs.length ≤ sizeLine)
    (hS : 2 ≤ vs.length → ∀ (h₁ : Heap) (a : Addr), h₁.get? a = some (seqObj "list" vs.toArray 0) → (∀ b o, s.heap.get? b = some o → b ≠ a ∧ h₁.get? b = some o) → SortableO X.prog X.w X.A.in1.in1 { s with heap := h₁ } a vs ltv)
    (q : ∀ out p, Srtd ltv out → out.Perm vs → H p = none → ∃ ys, Vals ys out ∧ Q (.ref p) (upd H p (.lst ys))) :
    wpAny (model X.prog X.w) X.A.in1 (do let l ← newList vs; let _ ← holding [l] (call (.builtin "list.sort") [l] []); ret l) (fun fin s' => ∃ v, fin = .done (.ret v) ∧ EP X pins σ Q v s') E s := by
  refine wpAny_bind (wpAny_newList ?_ hz)
  have hoL : (s.heap.push (seqObj "list" vs.toArray 0)).get? s.heap.objs.size = some (seqObj "list" vs.toArray 0) := Heap.get?_push_size _ rfl
  show wpAny _ _ _ _ _ { s with heap := s.heap.push (seqObj "list" vs.toArray 0) }
  refine wpAny_bind (wpAny_holding (wpAny_call_entry slot_list_sort ⟨_, hoL, rfl⟩ entry_list_sort
    (list_sort_ord O (s := { s with heap := s.heap.push (seqObj "list" vs.toArray 0) }) hoL hz (fun h2 => hS h2 _ _ hoL fun b o e => ⟨Nat.ne_of_lt (Heap.lt_size e), Heap.get?_push_of_some _ e⟩) fun out hs hb => ⟨_, rfl, ?_⟩)
    (args_list_sort _)))
  obtain ⟨ys, rv, q⟩ := q out s.heap.objs.size hs hb.perm (I.hok.fresh (Nat.le_refl _))
  obtain ⟨e', he'⟩ := sortedHeap_at (vs := vs) (out := out.toArray) hoL
  have hlen : ys.length ≤ sizeLine := by rw [rv.length, hb.perm.length_eq]; exact hz
  refine wpAny_pure ⟨_, rfl, .ref s.heap.objs.size, upd H s.heap.objs.size (.lst ys), I.laid (t' := s.toks) (fun b u e => ?_) (Nat.le_refl _)
    (show ObjOk X.prog X.w _ _ _ (.lst ys) from ⟨hlen, out, e', rv, he'⟩), rfl, q⟩
  have hb : b < s.heap.objs.size := Heap.lt_size e
  rw [sortedHeap_old (Nat.ne_of_lt hb) (by rw [size_push']; exact Nat.lt_succ_of_lt hb)]
  exact Heap.get?_push_of_some _ e
/-- what is gathered from an argument of sorted: its values, the heap kept -/
def Gath (X : Cx) (u : Value) (xs : List V) (s : Shared) : Prop :=
  ∀ (Q : List Value → Shared → Prop) (E : Value → Shared → Prop), (∀ vs h' tk, (∀ b o, s.heap.get? b = some o → h'.get? b = some o) → Vals xs vs → Q vs { s with heap := h', toks := tk }) → wpAny (model X.prog X.w) X.A.in1 (collect u) Q E s
theorem gath_seq {p : Addr} {xs : List V} (I : L2.Inv X pins σ H s) (h : SqL X.K H p xs ∨ SqT X.K H p xs) : Gath X (.ref p) xs s := by
  intro Q E q
  rcases h with h | h
  · obtain ⟨its, r, pl, hz⟩ := I.list h
    obtain ⟨o, ho, hc, n, hd⟩ := pl.isList
    refine wpAny_collect_seq p (.inl rfl) ho hc hd (fun h' k => ?_) (by simpa [← r.length] using hz)
    exact q _ h' s.toks k (by simpa using r)
  · obtain ⟨its, r, pl, hz⟩ := I.tuple h
    obtain ⟨o, ho, hc, n, hd⟩ := pl
    refine wpAny_collect_seq p (.inr rfl) ho hc hd (fun h' k => ?_) (by simpa [← r.length] using hz)
    exact q _ h' s.toks k (by simpa using r)
theorem gath_dK {d : Addr} {kvs : List (Key × V)} (hc : X.calm = true) (I : L2.Inv X pins σ H s) (h : Rd H d (.dK kvs)) : Gath X (.ref d) (kvs.map fun p => kV p.1) s := by
  intro Q E q
  obtain ⟨z, lo, vs, rel, dd⟩ := dk_rd I.hok h
  obtain ⟨ep, hat⟩ := dd.dictAt
  have hl : vs.length = kvs.length := by
    have e := congrArg List.length rel.keys
    simpa using e.symm
  refine PySem.W.kdu_collect (A := X.A.in1) (PySem.W.kdl_dict (knd := mixKind X.prog X.w) (kvs := vs) (ep := ep) lo) (I.ok.hd hc) hat (by omega) fun h' tk acc hk hacc => ?_
  have ek : (kvs.map fun kv => kV kv.1) = vs.map fun p => kV p.1 := by
    have e := congrArg (List.map kV) rel.keys
    rw [List.map_map, List.map_map] at e
    exact e
  rw [ek] at q
  exact q acc.toList h' tk hk (keys_at (by rw [Array.length_toList, hacc.1]) fun j v e => hacc.2 j v (by rw [← Array.getElem?_toList]; exact e))
theorem gath_dT {d : Addr} {kvs : List (List Key × V)} (hc : X.calm = true) (I : L2.Inv X pins σ H s) (h : Rd H d (.dT kvs)) : ∃ bs, IsKeys H kvs bs ∧ Gath X (.ref d) (bs.map V.ref) s := by
  obtain ⟨z, hs, ks, pr, o, es, ep, ho, hx, hdt, he, hn⟩ := (show ObjOk X.prog X.w H s.heap d (.dT kvs) from h.ok I.hok)
  have l1 : es.size = ks.length := size_of_entries he
  have l2 : kvs.length = ks.length := Paired.length pr
  refine ⟨_, isKeys_of pr, fun Q E q => ?_⟩
  refine PySem.W.kdu_collect (A := X.A.in1) (kdl_raw hs hx hdt) (I.ok.hd hc) ho (by omega) fun h' tk acc hk hacc => ?_
  refine q acc.toList h' tk hk ?_
  have ea : acc.toList = (ks.map fun x => x.2.1).map Value.ref := by
    have hl : acc.toList.length = ks.length := by rw [Array.length_toList, hacc.1]; exact l1
    apply List.ext_getElem?
    intro j
    rw [List.getElem?_map, List.getElem?_map]
    cases hj : acc.toList[j]? with
    | none =>
      have h1 := List.getElem?_eq_none_iff.mp hj
      rw [List.getElem?_eq_none (by omega)] <;> rfl
    | some v =>
      obtain ⟨en, hen, hv⟩ := hacc.2 j v (by rw [← Array.getElem?_toList]; exact hj)
      have qe := entry_at he j
      rw [hen] at qe
      cases hb : ks[j]? with
      | none => rw [hb] at qe; exact nomatch (show some en = none from qe)
      | some b =>
        rw [hb] at qe
        rw [hv, show en = entryOfKey (tupleKind (mixKind X.prog X.w)) b from Option.some.inj qe] <;> rfl
  rw [ea]
  exact vals_refs _
theorem strs_vals : ∀ {ss : List Str} {vs : List Value}, Vals (ss.map V.str) vs → StrsAre vs ss
  | [], _, .nil => .nil
  | x :: ss, _, .cons r t => by
    obtain ⟨k, rfl⟩ := r
    exact .cons _ _ (strs_vals t)
theorem vals_txt : ∀ {vs : List Value}, (∀ v ∈ vs, ∃ x t, v = Value.str x t) → Vals ((vs.map txtOf).map V.str) vs
  | [], _ => .nil
  | v :: vs, h => by
    obtain ⟨x, t, rfl⟩ := h v List.mem_cons_self
    exact .cons ⟨t, rfl⟩ (vals_txt fun u hu => h u (List.mem_cons_of_mem _ hu))
theorem txt_vals : ∀ {ss : List Str} {vs : List Value}, Vals (ss.map V.str) vs → vs.map txtOf = ss ∧ ∀ v ∈ vs, ∃ x t, v = Value.str x t
  | [], _, .nil => ⟨rfl, fun v hv => (by cases hv)⟩
  | x :: ss, _, .cons r t => by
    obtain ⟨k, rfl⟩ := r
    obtain ⟨e, h⟩ := txt_vals t
    refine ⟨by rw [List.map_cons, e] <;> rfl, fun v hv => ?_⟩
    rcases List.mem_cons.mp hv with rfl | hv
    · exact ⟨_, _, rfl⟩
    · exact h v hv
/-- where the texts come from -/
def TxtSrc (K : PySem.W.Frag) (H : Hp) (p : Addr) (ss : List Str) : Prop :=
  (SqL K H p (ss.map V.str) ∨ SqT K H p (ss.map V.str)) ∨ ∃ kvs, Rd H p (.dK kvs) ∧ kvs.map (·.1) = ss.map Sum.inr
def rSortS (K : PySem.W.Frag) : List V → Hp → VK → Prop := fun vs H Q => ∃ (p : Addr) (ss : List Str), vs = [.ref p] ∧ TxtSrc K H p ss ∧ ss.length ≤ sizeLine ∧ ∀ l, H l = none → Q (.ref l) (upd H l (.lst ((isort strLt ss).map V.str)))
theorem cr_sortS (hc : X.calm = true) : CallR X (.builtin "sorted") (rSortS X.K) := by
  intro pins s σ H xs us Q I r h
  obtain ⟨p, ss, rfl, src, hz, q⟩ := h
  rw [Vals.ref1 r]
  have G : Gath X (.ref p) (ss.map V.str) s := by
    rcases src with h | ⟨kvs, hd, e⟩
    · exact gath_seq I h
    · have g := gath_dK hc I hd
      have e2 : (kvs.map fun p => kV p.1) = ss.map V.str := by
        have := congrArg (List.map kV) e
        rw [List.map_map, List.map_map] at this
        exact this
      rwa [e2] at g
  refine Calls.call_function_entry kind_sorted plain_sorted entry_sorted (args_sorted1 _) ?_
  unfold Builtin.«sorted»
  refine wpAny_bind (m := checkCount "sorted" 1 1 _) (wpAny_pure ?_)
  refine wpAny_bind (G _ _ fun vs h' tk kp rv => ?_)
  obtain ⟨ev, hall⟩ := txt_vals rv
  have hl : vs.length = ss.length := by rw [← ev, List.length_map]
  refine sort_tail (I.kept (t' := tk) kp) (swo_of strLt_tot txtOf) (by omega) (fun h2 h₁ a _ _ => sortable_txt h2 (strs_vals rv)) fun out l hs hp hn => ?_
  refine ⟨(out.map txtOf).map V.str, vals_txt fun v hv => hall v (hp.mem_iff.mp hv), ?_⟩
  rw [isort_of strLt_tot (up_map.mp hs) (ev ▸ hp.map txtOf)]
  exact q l hn
/-- the rows' own texts -/
def RowAt (K : PySem.W.Frag) (H : Hp) (b : Addr) (k : List Str) : Prop := SqT K H b (k.map V.str)
theorem row_is {b : Addr} {k : List Str} (I : L2.Inv X pins σ H s) (h : RowAt X.K H b k) : IsRow s.heap (.ref b) k := by
  obtain ⟨its, r, ⟨o, ho, hc, n, hd⟩, _⟩ := I.tuple h
  exact ⟨b, o, its.toArray, n, rfl, ho, hc, hd, by simpa using strs_vals r⟩
def RowSrc (K : PySem.W.Frag) (H : Hp) (p : Addr) (bs : List Addr) : Prop :=
  SqL K H p (bs.map V.ref) ∨ SqT K H p (bs.map V.ref)
def refOf : Value → Addr
  | .ref a => a
  | _ => 0
theorem vals_ref : ∀ {bs : List Addr} {vs : List Value}, Vals (bs.map V.ref) vs → vs = bs.map Value.ref
  | [], _, .nil => rfl
  | b :: bs, _, .cons r t => by
    cases r
    rw [vals_ref t] <;> rfl
theorem refOf_map (bs : List Addr) : (bs.map Value.ref).map refOf = bs := by
  rw [List.map_map]
  exact List.map_id'' (fun _ => rfl) bs
/-- rows of texts, sorted: the same tuples in order -/
theorem sort_rows {u : Value} {bs : List Addr} {key : Addr → List Str} {Q : VK} (I : L2.Inv X pins σ H s) (G : Gath X u (bs.map V.ref) s) (hz : bs.length ≤ sizeLine) (hk : ∀ b ∈ bs, RowAt X.K H b (key b) ∧ key b ≠ [])
    (q : ∀ (l : Addr) (cs : List Addr), H l = none → cs.Perm bs → cs.map key = isort rowLt (bs.map key) → Q (.ref l) (upd H l (.lst (cs.map V.ref)))) : wpAny (model X.prog X.w) X.A (call (.builtin "sorted") [u]) (EP X pins σ Q) X.xe s := by
  refine Calls.call_function_entry kind_sorted plain_sorted entry_sorted (args_sorted1 _) ?_
  unfold Builtin.«sorted»
  refine wpAny_bind (m := checkCount "sorted" 1 1 _) (wpAny_pure ?_)
  refine wpAny_bind (G _ _ fun vs h' tk kp rv => ?_)
  cases vals_ref rv
  have I1 := I.kept (t' := tk) kp
  refine sort_tail I1 (swo_of rowLt_tot fun v => key (refOf v)) (by rw [List.length_map]; exact hz) (fun h2 h₁ a ha kk => ?_) fun out l hs hp hn => ?_
  · refine sortable_rows (s := { s with heap := h₁, toks := tk }) (k := fun v => key (refOf v)) h2 (fun v hv => ?_) fun o e => ?_
    · obtain ⟨b, hb, rfl⟩ := List.mem_map.mp hv
      exact ⟨(row_is I1 (hk b hb).1).keeps fun c o e _ => (kk c o e).2, (hk b hb).2⟩
    · have e' : some o = some (seqObj "list" (bs.map Value.ref).toArray 0) := e.symm.trans ha
      cases e'
      intro c
      exact absurd (Value.type.inj c) (by decide)
  · have hr : ∃ cs : List Addr, out = cs.map Value.ref := by
      refine ⟨out.map refOf, ?_⟩
      rw [List.map_map]
      have all : ∀ v ∈ out, v = (Value.ref ∘ refOf) v := fun v hv => by
        obtain ⟨b, _, rfl⟩ := List.mem_map.mp (hp.mem_iff.mp hv)
        rfl
      exact (List.map_id out).symm.trans (List.map_congr_left all)
    obtain ⟨cs, rfl⟩ := hr
    have hp' : cs.Perm bs := by
      have := hp.map refOf
      rwa [refOf_map, refOf_map] at this
    refine ⟨cs.map V.ref, vals_refs _, q l cs hn hp' ?_⟩
    have hu : Up rowLt (cs.map key) := by
      have := up_map.mp hs
      rw [List.map_map] at this
      exact this
    exact isort_of rowLt_tot hu (hp'.map key)
def rSortR (K : PySem.W.Frag) : List V → Hp → VK → Prop := fun vs H Q => ∃ (p : Addr) (bs : List Addr) (key : Addr → List Str), vs = [.ref p] ∧ RowSrc K H p bs ∧ bs.length ≤ sizeLine ∧ (∀ b ∈ bs, RowAt K H b (key b) ∧ key b ≠ []) ∧
  ∀ (l : Addr) (cs : List Addr), H l = none → cs.Perm bs → cs.map key = isort rowLt (bs.map key) → Q (.ref l) (upd H l (.lst (cs.map V.ref)))
theorem cr_sortR : CallR X (.builtin "sorted") (rSortR X.K) := by
  intro pins s σ H xs us Q I r h
  obtain ⟨p, bs, key, rfl, src, hz, hk, q⟩ := h
  rw [Vals.ref1 r]
  exact sort_rows I (gath_seq I src) hz hk q
/-- the same of a dict's keys -/
def rSortDT (K : PySem.W.Frag) : List V → Hp → VK → Prop := fun vs H Q => ∃ (d : Addr) (kvs : List (List Key × V)) (ks : List (List Str)), vs = [.ref d] ∧ Rd H d (.dT kvs) ∧ kvs.map (·.1) = ks.map (·.map Sum.inr) ∧ (∀ k ∈ ks, k ≠ []) ∧ kvs.length ≤ sizeLine ∧
  ∀ (l : Addr) (cs : List Addr), H l = none → Paired (fun (k : List PySem.Str) b => H b = some (.tup (k.map V.str))) (isort rowLt ks) cs → Q (.ref l) (upd H l (.lst (cs.map V.ref)))
def txtV : V → Str
  | .str x => x
  | _ => ⟨#[]⟩
def rowKey (H : Hp) (b : Addr) : List Str := match H b with
  | some (.tup xs) => xs.map txtV
  | _ => []
theorem rowKey_of {b : Addr} {k : List Str} (h : H b = some (.tup (k.map V.str))) : rowKey H b = k := by
  unfold rowKey
  rw [h]
  show (k.map V.str).map txtV = k
  rw [List.map_map]
  exact List.map_id'' (fun _ => rfl) k
theorem keys_rows : ∀ {kvs : List (List Key × V)} {ks : List (List Str)} {bs : List Addr}, IsKeys H kvs bs → kvs.map (·.1) = ks.map (·.map Sum.inr) → bs.map (rowKey H) = ks ∧ ∀ b ∈ bs, H b = some (.tup ((rowKey H b).map V.str)) := by
  intro kvs ks bs h
  unfold IsKeys at h
  induction h generalizing ks with
  | nil =>
    intro e
    cases ks with
    | nil => exact ⟨rfl, fun b hb => by cases hb⟩
    | cons k ks => cases e
  | @cons p b kvs bs h1 _ ih =>
    intro e
    cases ks with
    | nil => cases e
    | cons k ks =>
      obtain ⟨e1, e2⟩ := List.cons.inj e
      obtain ⟨i1, i2⟩ := ih e2
      have hb : H b = some (.tup (k.map V.str)) := by
        have e1' : p.1 = k.map Sum.inr := e1
        rw [h1, e1', List.map_map] <;> rfl
      have hk := rowKey_of hb
      refine ⟨by rw [List.map_cons, hk, i1], fun c hc => ?_⟩
      rcases List.mem_cons.mp hc with rfl | hc
      · rw [hk]; exact hb
      · exact i2 c hc
theorem paired_map {α β : Type} {R : α → β → Prop} {f : β → α} : ∀ {cs : List β}, (∀ c ∈ cs, R (f c) c) → Paired R (cs.map f) cs
  | [], _ => .nil
  | c :: cs, h => .cons (h c List.mem_cons_self) (paired_map fun x hx => h x (List.mem_cons_of_mem _ hx))
theorem cr_sortDT (hc : X.calm = true) : CallR X (.builtin "sorted") (rSortDT X.K) := by
  intro pins s σ H xs us Q I r h
  obtain ⟨d, kvs, ks, rfl, hd, e, ne, hz, q⟩ := h
  rw [Vals.ref1 r]
  obtain ⟨bs, ik, G⟩ := gath_dT hc I hd
  obtain ⟨e1, e2⟩ := keys_rows ik e
  have hl : bs.length = kvs.length := by
    have := congrArg List.length e1
    have := congrArg List.length e
    simp at *
    omega
  refine sort_rows (key := rowKey H) I G (by omega) (fun b hb => ⟨.inl (.inl (e2 b hb)), ne _ (e1 ▸ List.mem_map.mpr ⟨b, hb, rfl⟩)⟩) fun l cs hn hp hk => q l cs hn ?_
  rw [e1] at hk
  rw [← hk]
  exact paired_map fun c hc => e2 c (hp.mem_iff.mp hc)
/-- rows of texts by their texts alone -/
def rSortQ (K : PySem.W.Frag) : List V → Hp → VK → Prop := fun vs H Q => ∃ (p : Addr) (bs : List Addr) (ks : List (List Str)), vs = [.ref p] ∧ RowSrc K H p bs ∧ bs.length ≤ sizeLine ∧ Paired (fun k b => RowAt K H b k) ks bs ∧ (∀ k ∈ ks, k ≠ []) ∧
  ∀ (l : Addr) (cs : List Addr), H l = none → Paired (fun k b => RowAt K H b k) (isort rowLt ks) cs → Q (.ref l) (upd H l (.lst (cs.map V.ref)))
open Classical in
noncomputable def keyAt (K : PySem.W.Frag) (H : Hp) (b : Addr) : List Str := if h : ∃ k, RowAt K H b k then h.choose else []
theorem keyAt_of {b : Addr} {k : List Str} (I : L2.Inv X pins σ H s) (h : RowAt X.K H b k) : keyAt X.K H b = k := by
  have hex : ∃ k, RowAt X.K H b k := ⟨k, h⟩
  have h1 : RowAt X.K H b (keyAt X.K H b) := by
    unfold keyAt
    rw [dif_pos hex]
    exact hex.choose_spec
  have e := I.tuple_inj h1 h
  have : ∀ a b : List Str, a.map V.str = b.map V.str → a = b := by
    intro a
    induction a with
    | nil => intro b e; cases b with
      | nil => rfl
      | cons _ _ => cases e
    | cons x a ih => intro b e; cases b with
      | nil => cases e
      | cons y b =>
        obtain ⟨e1, e2⟩ := List.cons.inj e
        rw [V.str.inj e1, ih b e2]
  exact this _ _ e
theorem cr_sortQ : CallR X (.builtin "sorted") (rSortQ X.K) := by
  intro pins s σ H xs us Q I r h
  obtain ⟨p, bs, ks, rfl, src, hz, hk, ne, q⟩ := h
  rw [Vals.ref1 r]
  have both : ∀ {ks : List (List Str)} {bs : List Addr}, Paired (fun k b => RowAt X.K H b k) ks bs → bs.map (keyAt X.K H) = ks ∧ ∀ b ∈ bs, RowAt X.K H b (keyAt X.K H b) := by
    intro ks bs h
    induction h with
    | nil => exact ⟨rfl, fun b hb => by cases hb⟩
    | @cons k b ks bs h1 _ ih =>
      have e := keyAt_of I h1
      refine ⟨by rw [List.map_cons, e, ih.1], fun c hc => ?_⟩
      rcases List.mem_cons.mp hc with rfl | hc
      · rw [e]; exact h1
      · exact ih.2 c hc
  obtain ⟨e1, e2⟩ := both hk
  refine sort_rows (key := keyAt X.K H) I (gath_seq I src) hz (fun b hb => ⟨e2 b hb, ne _ (e1 ▸ List.mem_map.mpr ⟨b, hb, rfl⟩)⟩) fun l cs hn hp hkk => q l cs hn ?_
  rw [e1] at hkk
  rw [← hkk]
  exact paired_map fun c hc => e2 c (hp.mem_iff.mp hc)
end
end Rs
set_option Elab.async false
set_option linter.all false
set_option maxRecDepth 100000
set_option maxHeartbeats 2000000
/-! isinstance of a caught error that has fields of its own. -/
namespace Rs
open PySem PySem.Spec PySem.W PySem.Calls PyProof.Rows
section
variable {prog : Program} {w : World} {A : Around} {E : Value → Shared → Prop} {s : Shared} {K : Frag} {x D : Addr} {ox : Obj} {od : Option Obj}
theorem findObj_any {C : Addr} {name : Str} {a g : Value} (hc : (clsIn K C).isSome = true) (ha : findIn K (.ref C) name = some (some a)) (hg : specialIn K a "__get__" = some (some g)) (ht : takesIn K a = some true) : findObj K C od name = some (.bind g a) := by
  cases od with
  | none => exact findObj_dataN hc ha hg ht
  | some o => exact findObj_data hc ha hg ht
theorem class_of_exc {Q : Option Value → Shared → Prop} (C : L2.ExcC K D) (X : K.In s.heap) (I : PySem.W.InstAt s.heap x ox D od) (h : Q (some (.ref D)) { s with toks := s.toks + 1 }) : wpAny (model prog w) A (getAttr? (.ref x) "__class__") Q E s := by
  have hf : findObj K D od "__class__" = some (.bind (.builtin "getset_descriptor.__get__") (.builtin "object.__class__")) := findObj_any (by obtain ⟨cd, hc, _⟩ := any_some C.hd; rw [hc]; rfl) C.ha C.hn C.ht
  obtain ⟨hp, g, d, t, os⟩ := s
  have T0 := I.type (M := model prog w)
  have T1 := looks_findIn (M := model prog w) X C.hg
  have T2 := looks_findIn (M := model prog w) X C.hk
  have T3 := looks_find (M := model prog w) X I hf
  have sub : Looks (model prog w) hp (isInstance (.ref x) (.type "BaseException")) true := T0.andThen (looks_subIn X C.hs)
  have ne : (Value.builtin "BaseException.__getattribute__" == Value.builtin "object.__getattribute__") = false := by decide +kernel
  unfold getAttr? getAttrBy? getAttrBy
  refine wpAny_bind (wpAny_mkText (wpAny_bind (wpAny_attempt (wpAny_holding (wpAny_bind (T0.at (wpAny_bind (T1.at ?_))))))))
  show wpAny _ _ (if (onTheHeap (Value.ref D) && Value.builtin "BaseException.__getattribute__" == Value.builtin "object.__getattribute__") = true then _ else _) _ _ _
  rw [if_neg (by rw [ne]; simp)]
  unfold getAttrByItsOwn hookBefore
  refine wpAny_bind ?_
  rw [if_pos (show onTheHeap (Value.ref D) = true from rfl)]
  refine T2.at (wpAny_bind (wpAny_attempt (wpAny_holding ?_)))
  unfold callGetattribute
  rw [if_neg (by show ¬ (false && onTheHeap (Value.builtin "BaseException.__getattribute__")) = true; exact Bool.false_ne_true)]
  unfold boundAndCalled
  rw [PySem.F.excAttr_ValueError.ga.bind (.ref x)]
  refine wpAny_bind (wpAny_pure ?_)
  show wpAny _ _ (call (.builtin "BaseException.__getattribute__") [.ref x, .str "__class__" t]) _ _ _
  refine wpAny_call (codeAny_call_builtin PySem.F.excAttr_ValueError.ga.plain PySem.F.entry_bexc_ga ?_)
  refine @check_slot (model prog w) _ _ ⟨hp, g, d, t + 1, os⟩ "BaseException.__getattribute__" "BaseException" "__getattribute__" (.ref x) [.str "__class__" t] [] _ (by decide +kernel) (by decide +kernel) sub (PySem.F.args_bexc_ga (.ref x) (.str "__class__" t)) ?_
  unfold Builtin.«object.__getattribute__»
  refine wpAny_bind (wpAny_of_eq (a := ((Value.ref x : Value), [Value.str "__class__" t])) (by first | rfl | (simp only [slotArgs]; rfl)) ?_)
  refine wpAny_bind (wpAny_pure (wpAny_bind (T0.at (wpAny_bind (T3.at ?_)))))
  show wpAny _ _ (holding [Value.builtin "object.__class__"] (call (.builtin "getset_descriptor.__get__") [.builtin "object.__class__", .ref x, .ref D]) >>= ret) _ _ _
  refine wpAny_bind (wpAny_holding (wpAny_call (class_get (s := ⟨hp, g, d, t + 1, os⟩) X I C.hm ?_)))
  refine wpAny_pure ?_
  show wpAny _ _ (handedOut (.ref D)) _ _ _
  rw [handedOut_of (v := .ref D) rfl]
  exact wpAny_pure (wpAny_pure h)
theorem kit_exc (C : L2.ExcC K D) : KitX K (.ref x) (.ref D) (fun h => PySem.W.InstAt h x ox D od) where
  ty := fun _ _ _ I => I.type
  it := fun _ _ X _ => by
    obtain ⟨cdD, hcD, _⟩ := any_some C.hd
    unfold clsIn at hcD
    split at hcD
    · rename_i c' d' cd' sl' ho
      intro A' Q' E' s' k q
      unfold isType loadHead
      exact wpAny_bind (wpAny_loadPart (k _ _ (X _ _ ho)) (wpAny_pure q))
    · cases hcD
  ne := fun h tp dd its n sl X htp => by
    obtain ⟨cdD, hcD, _⟩ := any_some C.hd
    refine Bool.eq_false_iff.mpr fun q => ?_
    have e : D = tp := Value.ref.inj (beq_iff_eq.mp q)
    subst e
    unfold clsIn at hcD
    split at hcD
    · rename_i c' d' cd' sl' ho
      cases (X _ _ ho).symm.trans htp
    · cases hcD
  ca := fun X I k => class_of_exc C X I k
end
open L2
/-- isinstance(e, c), e the exception in hand, its fields at d (or none) -/
def rIsX (K : PySem.W.Frag) (D a : Addr) (d : Option Addr) : List V → Hp → VK → Prop := fun xs H Q => ∃ (c : V) (cv : Value) (b : Bool), xs = [.ref a, c] ∧ (∀ u, L2.RelV c u → u = cv) ∧ PySem.W.kitOne K (.ref D) cv = some b ∧ (∀ dd, d = some dd → ∃ fs, H dd = some (.xd fs)) ∧ Q (.bl b) H
theorem call_isX {X : Cx} {a D : Addr} {d : Option Addr} {oe : Obj} {pn : List (Addr × Obj)} (C : ExcC X.K D) (hz : Zc (.ref D) d oe) (hf : ∃ vs, oe.data = .fields vs) : CallR (X.suite a ((a, oe) :: pn)) (.builtin "isinstance") (rIsX X.K D a d) := by
  intro pins s σ H xs us Q I r h
  obtain ⟨c, cv, b, rfl, hcv, e, hd, q⟩ := h
  cases r with
  | cons rx rr =>
    cases rr with
    | cons rt rr =>
      cases rr
      cases rx
      cases hcv _ rt
      obtain ⟨hget, _⟩ := I.pin (a, oe) (List.mem_append.mpr (.inl List.mem_cons_self))
      obtain ⟨vs, hv⟩ := hf
      have J : ∃ od, PySem.W.InstAt s.heap a oe D od := by
        obtain ⟨oc, odi, oda, osl⟩ := oe
        obtain ⟨h1, h2⟩ := hz
        dsimp only at h1 h2 hv
        subst h1 h2 hv
        cases odi with
        | none => exact ⟨none, hget, rfl, rfl, trivial⟩
        | some dd =>
          obtain ⟨fs, ho⟩ := hd dd rfl
          obtain ⟨mA, ⟨od, _, _, hod, _⟩, _⟩ := I.hok dd _ ho
          exact ⟨some od, hget, rfl, rfl, hod⟩
      obtain ⟨od, J⟩ := J
      exact PySem.W.kia_one (kit_exc C) I.kIn J e (fun z => nomatch z) fun tk => ⟨.bl b, H, I.kept (t' := tk) fun _ _ z => z, rfl, q⟩
end Rs
set_option Elab.async false
set_option linter.all false
set_option maxRecDepth 100000
set_option maxHeartbeats 2000000
/-! Calls of defs by what is known of them, uniformly: W is what the place wishes of an error. -/
namespace Rs
open PySem PySem.Spec PyProof.Rows L2
theorem tTupS_ok {K : PySem.W.Frag} {h : Heap} {mg : PySem.Str → Option Value} (X : K.In h) (G : h.Ns mainGlobals mg) {x : PySem.Str} {ss : List PySem.Str} (c : tTupS x ss K = true) (hz : ss.length ≤ 1000 := by decide) :
    ∃ a, mg x = some (.ref a) ∧ ∀ H, SqT K H a (ss.map V.str) := by
  unfold tTupS at c
  split at c
  · rename_i a e
    split at c
    · rename_i dd its n sl ho
      replace c := of_decide_eq_true c
      refine ⟨a, PySem.W.mg_of X G e, fun H => .inr ⟨_, its, n, ho, rfl, rfl, ?_, ?_⟩⟩
      · have := congrArg List.length c
        simp at this
        rw [sizeLine_eq]
        omega
      · generalize its.toList = l at c
        induction l generalizing ss with
        | nil =>
          cases ss with
          | nil => exact .nil
          | cons s ss => cases c
        | cons v l ih =>
          cases ss with
          | nil => cases c
          | cons s ss =>
            obtain ⟨c1, c2⟩ := List.cons.inj c
            refine .cons ?_ (ih (by simp at hz; omega) c2)
            clear c c2 ih
            cases v with
            | str y t =>
              cases Option.some.inj c1
              exact ⟨_, rfl⟩
            | _ => cases c1
    · cases c
  · cases c
theorem PE.slots {X : Cx} {e : Expr} {t : L2.St → TE} (h : ∀ σ, PE X e (t σ)) : PE X e (fun σ H Q => t σ σ H Q) := ⟨fun pins s σ H Q I hw => (h σ).run pins s σ H Q I hw⟩
abbrev at_ (W : WX) (σ : L2.St) : XK := fun cls d H => W cls d σ H
abbrev W0 : WX := fun _ _ _ _ => False
section
variable (P : Program) (w : World) (K : PySem.W.Frag) (mg : PySem.Str → Option Value) (base : Heap)
/-- a def of the module under the name x -/
structure Cal (k : Nat) (x : PySem.Str) (ps : List PySem.Str) (sp : Sp) : Prop where
  ex : ∃ f fd, FnOk P w K mg base (L2.CX P w) k f fd ps sp ∧ mg x = some (.ref f) ∧ PySem.W.keepIn K (.ref f) = true ∧ L2.Binds K fd ps []
/-- a method m of the class at C -/
structure CalM (k : Nat) (C : Addr) (m : PySem.Str) (ps : List PySem.Str) (sp : Sp) : Prop where
  ex : ∃ f fd, FnOk P w K mg base (L2.CX P w) k f fd ps sp ∧ Meth K C m f ∧ L2.Binds K fd ps []
/-- the making of an instance of the class x at C -/
structure CalI (k : Nat) (C : Addr) (x : PySem.Str) (ps : List PySem.Str) (sp : Sp) : Prop where
  ex : ∃ f fd, FnOk P w K mg base (L2.CX P w) k f fd ps sp ∧ Mk K C f ∧ mg x = some (.ref C) ∧ L2.Binds K fd ps []
/-- a property f of the class at C -/
structure CalP (k : Nat) (C : Addr) (f : PySem.Str) (sp : Sp) : Prop where
  ex : ∃ p g fd, FnOk P w K mg base (L2.CX P w) k g fd ["self"] sp ∧ PropOf K C f p g ∧ L2.Binds K fd ["self"] []
/-- a special method of the class at C -/
structure CalD (k : Nat) (C : Addr) (m : PySem.Str) (ps : List PySem.Str) (sp : Sp) : Prop where
  ex : ∃ f fd, FnOk P w K mg base (L2.CX P w) k f fd ps sp ∧ Dun K C m f ∧ L2.Binds K fd ps []
/-- an own error class x at C, with its __init__ -/
structure CalE (k : Nat) (C : Addr) (x : PySem.Str) (ps : List PySem.Str) (sp : Sp) : Prop where
  ex : ∃ f fd, FnOk P w K mg base (L2.CX P w) k f fd ps sp ∧ OexC K C ∧ PySem.W.findIn K (.ref C) "__init__" = some (some (.ref f)) ∧ PySem.W.typeIn K (.ref f) = some (.type "function") ∧ mg x = some (.ref C) ∧ L2.Binds K fd ps []
end
section
variable {X : Cx} {k : Nat} {C : Addr} {x m : PySem.Str} {ps : List PySem.Str} {sp : Sp} {W : WX} {p pos apos : Pos} {e o : Expr} {es : List Expr} {ta : TE} {t : TA}
theorem pass_at (tk : Takes X W) (σ : L2.St) : PassesAt (L2.CX X.prog X.w) X σ (at_ W σ) := passAt tk σ
def tCalW (sp : Sp) (W : WX) (t : TA) : TE := fun σ H Q => t σ H fun vs H1 => sp vs H1 Q (at_ W σ)
theorem pe_cal (c : Cal X.prog X.w X.K X.mg X.base k x ps sp) (hr : Room k X.A) (tk : Takes X W) (ha : PA X (e :: es) t) (hg : Gl X x := by rfl)
    (hdb : (x == ("__debug__" : PySem.Str)) = false := by decide) (he : starEach (e :: es) X.env = (false, eval e X.env) :: starEach es X.env := by rfl) (hpl : (backTo pos (starEach es X.env)).any (·.1) = false := by rfl) :
    PE X (.Call (.Name x p) (e :: es) [] pos) (tCalW sp W t) := by
  obtain ⟨f, fd, F, hm, hk, hb⟩ := c.ex
  exact pe_callS (E := at_ W) F hr hg hm hk hb (fun σ => pass_at tk σ) ha hdb he hpl
/-- o.m(e, ..) -/
def tMethW (C : Addr) (m : PySem.Str) (sp : Sp) (W : WX) (ta : TE) (t : TA) : TE := fun σ H Q => ta σ H fun x H1 => ∃ a dx fs, x = .ref a ∧ H1 a = some (.ins C dx fs) ∧ fs.lookup m = none ∧ t σ H1 fun vs H2 => sp (.ref a :: vs) H2 Q (at_ W σ)
theorem pe_calm {pl : Sem Bool} (c : CalM X.prog X.w X.K X.mg X.base k C m ps sp) (cl : Cls X.K C) (hr : Room k X.A) (tk : Takes X W) (he : PE X o ta) (ha : PA X (e :: es) t)
    (hst : starEach (e :: es) X.env = (false, eval e X.env) :: starEach es X.env := by rfl) (hpl : (backTo pos (starEach es X.env)).any (·.1) = false := by rfl)
    (ht : eval (.Call (.Attribute o m apos) (e :: es) [] pos) X.env = (do
      let ov ← eval o X.env
      standAt apos.atName
      let (f, first) ← holding [ov] (getMethod ov m pl)
      callWith pos f first (backTo pos (starEach (e :: es) X.env)) (backToKw pos (keywordEach [] X.env))) := by rfl) :
    PE X (.Call (.Attribute o m apos) (e :: es) [] pos) (tMethW C m sp W ta t) := by
  obtain ⟨f, fd, F, hm, hb⟩ := c.ex
  refine ⟨fun pins s σ H Q I h => ?_⟩
  refine PySem.W.methodCall_KW (pl := pl) (thn (he.run pins s σ H _ I h) fun u s1 ⟨x, H1, I1, rx, a, dx, fs, ex, ea, l, q⟩ => ?_) ht
  subst ex
  obtain rfl : u = Value.ref a := rx
  refine getmeth_ok I1 ea cl hm l (PySem.W.callWith_K (first := [.ref a]) (h₀ := X.base) I.ok.mod.kin hm.kp (thn (ha.run pos pins s1 σ H1 _ I1 q) fun us s2 ⟨vs, H2, I2, r, q2⟩ => ⟨I2.kIn, ?_⟩) hst hpl)
  exact run_fnS (us := .ref a :: us) (vs := .ref a :: vs) (E := at_ W) F hr hb (pass_at tk σ) I2 (.cons rfl r) q2
theorem pe_calm0 {pl : Sem Bool} (c : CalM X.prog X.w X.K X.mg X.base k C m ps sp) (cl : Cls X.K C) (hr : Room k X.A) (tk : Takes X W) (he : PE X o ta)
    (ht : eval (.Call (.Attribute o m apos) [] [] pos) X.env = (do
      let ov ← eval o X.env
      standAt apos.atName
      let (f, first) ← holding [ov] (getMethod ov m pl)
      callWith pos f first (backTo pos (starEach [] X.env)) (backToKw pos (keywordEach [] X.env))) := by rfl) :
    PE X (.Call (.Attribute o m apos) [] [] pos) (tMethW C m sp W ta tNil) := by
  obtain ⟨f, fd, F, hm, hb⟩ := c.ex
  refine ⟨fun pins s σ H Q I h => ?_⟩
  refine PySem.W.methodCall_KW (pl := pl) (thn (he.run pins s σ H _ I h) fun u s1 ⟨x, H1, I1, rx, a, dx, fs, ex, ea, l, q⟩ => ?_) ht
  subst ex
  obtain rfl : u = Value.ref a := rx
  exact getmeth_ok I1 ea cl hm l (PySem.W.callWith_K0 (first := [.ref a]) I1.kIn hm.kp (run_fnS (us := [.ref a]) (vs := [.ref a]) (E := at_ W) F hr hb (pass_at tk σ) I1 (.cons rfl .nil) q))
/-- C(e, ..) -/
def tMakeW (C : Addr) (sp : Sp) (W : WX) (t : TA) : TE := fun σ H Q => t σ H fun vs H1 => ∀ x dx, H1 x = none → H1 dx = none → dx ≠ x → sp (.ref x :: vs) (upd (upd H1 dx (.own x)) x (.ins C dx [])) (fun v H2 => v = .non ∧ Q (.ref x) H2) (at_ W σ)
theorem run_mkS {pins : List (Addr × Obj)} {σ : L2.St} {H : Hp} {s : Shared} {Q : VK} {us : List Value} {vs : List V} {f : Addr} {fd : FuncData} (M : Mk X.K C f) (F : FnOk X.prog X.w X.K X.mg X.base (L2.CX X.prog X.w) k f fd ps sp) (hr : Room (k + 1) X.A) (hb : L2.Binds X.K fd ps [])
    (tk : Takes X W) (I : L2.Inv X pins σ H s) (r : Vals vs us)
    (h : ∀ x dx, H x = none → H dx = none → dx ≠ x → sp (.ref x :: vs) (upd (upd H dx (.own x)) x (.ins C dx [])) (fun v H2 => v = .non ∧ Q (.ref x) H2) (at_ W σ)) :
    wpAny (model X.prog X.w) X.A (call (.ref C) us) (EP X pins σ Q) X.xe s := by
  have hq := h (s.heap.objs.size + 1) s.heap.objs.size (I.hok.fresh (Nat.le_succ _)) (I.hok.fresh (Nat.le_refl _)) (Nat.ne_of_lt (Nat.lt_succ_self _))
  have I2 := L2.Inv.made (C := C) I
  have r2 : Vals (V.ref (s.heap.objs.size + 1) :: vs) (Value.ref (s.heap.objs.size + 1) :: us) := .cons rfl r
  have hl : (Value.ref (s.heap.objs.size + 1) :: us ++ []).length = ps.length := by
    rw [← F.len _ _ _ _ hq, List.append_nil]
    exact r2.length.symm
  have hb' := hb _ (Value.ref (s.heap.objs.size + 1) :: us) I2.kIn hl
  rw [List.append_nil] at hb'
  refine wpAny_call (make_map (f := f) I.kIn M.makes M.init (beq_iff_eq.mp M.fn) (codeAny_mono (F.run _ X.stack _ _ ⟨Value.ref (s.heap.objs.size + 1) :: us, []⟩ _ _ _ _ (hr.make C us []) (I2.env0.make C us []) hb' r2 hq) fun r s' hq' => ?_))
  cases r with
  | error e => exact pass_at tk σ pins _ _ e s' I2 hq'
  | ok fl =>
    cases fl with
    | ret u =>
      obtain ⟨v, H', I3, rv, ev, q3⟩ := I2.after hq'
      subst ev
      exact ⟨rv, ⟨V.ref (s.heap.objs.size + 1), H', I3, rfl, q3⟩⟩
    | next => exact False.elim hq'
    | brk => exact False.elim hq'
    | cont => exact False.elim hq'
theorem pe_cali (c : CalI X.prog X.w X.K X.mg X.base k C x ps sp) (hr : Room (k + 1) X.A) (tk : Takes X W) (ha : PA X (e :: es) t) (hg : Gl X x := by rfl)
    (hdb : (x == ("__debug__" : PySem.Str)) = false := by decide) (he : starEach (e :: es) X.env = (false, eval e X.env) :: starEach es X.env := by rfl) (hpl : (backTo pos (starEach es X.env)).any (·.1) = false := by rfl) :
    PE X (.Call (.Name x p) (e :: es) [] pos) (tMakeW C sp W t) := by
  obtain ⟨f, fd, F, M, hm, hb⟩ := c.ex
  refine ⟨fun pins s σ H Q I h => ?_⟩
  refine wpAny_Call_Name_kw (ld_glob I hg hm ?_ hdb)
  exact PySem.W.callWith_K (h₀ := X.base) I.ok.mod.kin M.kp (thn (ha.run pos pins s σ H _ I h) fun us s1 ⟨vs, H1, I1, r, q⟩ => ⟨I1.kIn, run_mkS M F hr hb tk I1 r q⟩) he hpl
/-- e.f, a property -/
theorem pe_calp {f : PySem.Str} (c : CalP X.prog X.w X.K X.mg X.base k C f sp) (cl : Cls X.K C) (hr : Room (k + 1) X.A) (he : PE X e ta) (hab : attributeBase e f X.env (eval e X.env) = eval e X.env := by rfl) :
    PE X (.Attribute e f pos) (tProp C sp [] E0 ta) := by
  obtain ⟨p, g, fd, F, hp, hb⟩ := c.ex
  exact pe_prop he cl hp F hr hb .nil passL hab
theorem op_calin (c : CalD X.prog X.w X.K X.mg X.base k C "__contains__" ps sp) (hr : Room k X.A) : OpR X (compareOp .In) (rInO C sp E0 false) := by
  obtain ⟨f, fd, F, d, hb⟩ := c.ex
  exact op_inO d F hr hb passL
theorem op_calnot (c : CalD X.prog X.w X.K X.mg X.base k C "__contains__" ps sp) (hr : Room k X.A) : OpR X (compareOp .NotIn) (rInO C sp E0 true) := by
  obtain ⟨f, fd, F, d, hb⟩ := c.ex
  exact op_notInO d F hr hb passL
theorem pe_calsub {a b : Expr} {ta tb : TE} (c : CalD X.prog X.w X.K X.mg X.base k C "__getitem__" ps sp) (hr : Room (k + 1) X.A) (ha : PE X a ta) (hb : PE X b tb)
    (hs : ∀ x y, subscripted b true x y = runValue (.builtin "lifetime.subscript" ⟨[x, y], []⟩) := by intro _ _; rfl) : PE X (.Subscript a b pos) (tOp (rSubO C sp E0) ta tb) := by
  obtain ⟨f, fd, F, d, hb'⟩ := c.ex
  exact pe_subO d F hr hb' passL ha hb hs
/-- o(e, ..), o an instance with its own __call__ -/
def tCallOW (C : Addr) (sp : Sp) (W : WX) (tf : TE) (t : TA) : TE := fun σ H Q => tf σ H fun y H1 => ∃ a, y = V.ref a ∧ t σ H1 fun vs H2 => (∃ dx fs, H2 a = some (.ins C dx fs)) ∧ sp (V.ref a :: vs) H2 Q (at_ W σ)
theorem pe_calo {fe : Expr} {tf : TE} (c : CalD X.prog X.w X.K X.mg X.base k C "__call__" ps sp) (hr : Room k X.A) (tk : Takes X W) (hf : PE X fe tf) (ha : PA X (e :: es) t)
    (ht : eval (.Call fe (e :: es) [] pos) X.env = (do callWith pos (← eval fe X.env) [] (backTo pos (starEach (e :: es) X.env)) (backToKw pos (keywordEach [] X.env))) := by rfl)
    (he : starEach (e :: es) X.env = (false, eval e X.env) :: starEach es X.env := by rfl) (hpl : (backTo pos (starEach es X.env)).any (·.1) = false := by rfl) : PE X (.Call fe (e :: es) [] pos) (tCallOW C sp W tf t) := by
  obtain ⟨g, fd, F, d, hb⟩ := c.ex
  refine ⟨fun pins s σ H Q I h => ?_⟩
  refine Call_ (thn (hf.run pins s σ H _ I h) fun u s1 ⟨y, H1, I1, ry, a, ey, q⟩ => ?_) ht
  subst ey
  obtain rfl : u = Value.ref a := ry
  refine StX.callO_with (thn (ha.run pos pins s1 σ H1 _ I1 q) fun us s2 ⟨vs, H2, I2, r, ⟨dx, fs, hi⟩, q2⟩ => ?_) he hpl
  obtain ⟨ox, od, J, hd⟩ := StX.insC_at I2 (.inr ⟨dx, fs, hi⟩)
  have r2 : Vals (V.ref a :: vs) (Value.ref a :: us) := .cons rfl r
  have hl : (Value.ref a :: us ++ []).length = ps.length := by
    rw [← F.len _ _ _ _ q2, List.append_nil]
    exact r2.length.symm
  have hb' := hb s2 (Value.ref a :: us) I2.kIn hl
  rw [List.append_nil] at hb'
  refine ⟨⟨C, ox, od, J, hd⟩, wpAny_call (PySem.W.kco_code I2.kIn J hd d.at_ d.fn d.fi (codeAny_mono (F.run X.A X.stack s2 H2 ⟨Value.ref a :: us, []⟩ _ _ Q (at_ W σ) hr I2.env0 hb' r2 q2) fun r s' hq => ?_))⟩
  cases r with
  | error e => exact pass_at tk σ pins H2 s2 e s' I2 hq
  | ok fl =>
    cases fl with
    | ret u => exact I2.after hq
    | next => exact False.elim hq
    | brk => exact False.elim hq
    | cont => exact False.elim hq
/-- raise C(e, ..) -/
theorem ps_cale (c : CalE X.prog X.w X.K X.mg X.base k C x ps sp) (hr : Room (k + 1) X.A) (tk : Takes X W) (ha : PA X (e :: es) t) (hc : X.calm = true := by rfl) (hg : Gl X x := by rfl)
    (hdb : (x == ("__debug__" : PySem.Str)) = false := by decide) (he : starEach (e :: es) X.env = (false, eval e X.env) :: starEach es X.env := by rfl) (hpl : (backTo pos (starEach es X.env)).any (·.1) = false := by rfl) :
    PS X (.Raise (some (.Call (.Name x p) (e :: es) [] pos)) none apos) (fun _ σ H => tMkO C sp [] t σ H fun cls d H' => W cls d σ H') := by
  obtain ⟨f, fd, F, T, iC, tI, hm, hb⟩ := c.ex
  exact ps_raise hc tk (pmk_oex T iC tI F hr hb .nil passL hg hm ha hdb he hpl)
end
/-! ### heaps that grow -/
theorem Same.new {H : Hp} {p : Addr} {o : HO} (h : H p = none) : Same H (upd H p o) := fun a u e => by
  rw [upd_ne (ne_of_none e h)]
  exact e
theorem Same.tq {K : PySem.W.Frag} {H H' : Hp} {a : Addr} {xs : List V} (e : Same H H') (h : SqT K H a xs) : SqT K H' a xs :=
  h.elim (fun h => .inl (h.elim (fun h => .inl (e _ _ h)) fun ⟨o, h⟩ => .inr ⟨o, e _ _ h⟩)) fun h => .inr h
/-! ### sorts of things -/
def sorts : List String := ["NoneType", "bool", "int", "str", "list", "tuple", "dict"]
abbrev Srt (K : PySem.W.Frag) (H : Hp) (v : V) (n : String) : Prop := TyX K H v (.type n) ∧ n ∈ sorts
theorem kit_b {K : PySem.W.Frag} (a : String) (ha : a ∈ sorts) (n : String) (hn : n ∈ ["int", "bool", "str", "list", "tuple", "dict"]) : PySem.W.kitOne K (.type a) (.type n) = some (decide (a = n) || (decide (a = "bool") && decide (n = "int"))) := by
  refine kit_ty ?_
  have : ∀ a ∈ sorts, ∀ n ∈ ["int", "bool", "str", "list", "tuple", "dict"], kitB a n = some (decide (a = n) || (decide (a = "bool") && decide (n = "int"))) := by decide +kernel
  exact this a ha n hn
theorem Srt.same {K : PySem.W.Frag} {H H' : Hp} {v : V} {n : String} (e : Same H H') (h : Srt K H v n) : Srt K H' v n := by
  refine ⟨?_, h.2⟩
  cases h.1 with
  | base b =>
    refine .base ?_
    cases b with
    | non => exact .non
    | bl y => exact .bl y
    | int i => exact .int i
    | str y => exact .str y
    | flt y => exact .flt y
    | lst ea => exact .lst (e _ _ ea)
    | frz ea => exact .frz (e _ _ ea)
    | tup ea => exact .tup (e _ _ ea)
    | dK ea => exact .dK (e _ _ ea)
    | dT ea => exact .dT (e _ _ ea)
  | byt b => exact .byt b
  | set ea => exact .set (e _ _ ea)
  | kList a c => exact .kList a c
  | kTuple a c => exact .kTuple a c
  | kDict a c => exact .kDict a c
  | fTuple ea => exact .fTuple (e _ _ ea)
  | fDict ea => exact .fDict (e _ _ ea)
theorem list_tuple_b {K : PySem.W.Frag} (n : String) (hn : n ∈ sorts) : PySem.W.kitAny K (.type n) [.type "list", .type "tuple"] = some (decide (n = "list") || decide (n = "tuple")) := by
  refine kitAny_cons (b := decide (n = "list")) (by have := kit_b (K := K) n hn "list" (by decide); simpa using this) (fun e => ?_) (fun e => by simp [e])
  refine kitAny_cons (b := decide (n = "tuple")) (by have := kit_b (K := K) n hn "tuple" (by decide); simpa using this) (fun e2 => ?_) (fun e2 => by simp [e2])
  rw [e, e2]
  rfl
theorem srt_str {K : PySem.W.Frag} {H : Hp} (x : PySem.Str) : Srt K H (.str x) "str" := ⟨.base (.str x), by decide⟩
theorem srt_non {K : PySem.W.Frag} {H : Hp} : Srt K H .non "NoneType" := ⟨.base .non, by decide⟩
theorem srt_bl {K : PySem.W.Frag} {H : Hp} (b : Bool) : Srt K H (.bl b) "bool" := ⟨.base (.bl b), by decide⟩
theorem srt_int {K : PySem.W.Frag} {H : Hp} (i : Int) : Srt K H (.int i) "int" := ⟨.base (.int i), by decide⟩
theorem srt_lst {K : PySem.W.Frag} {H : Hp} {a : Addr} {xs : List V} (h : H a = some (.lst xs)) : Srt K H (.ref a) "list" := ⟨.base (.lst h), by decide⟩
theorem srt_tup {K : PySem.W.Frag} {H : Hp} {a : Addr} {xs : List V} (h : H a = some (.tup xs)) : Srt K H (.ref a) "tuple" := ⟨.base (.tup h), by decide⟩
theorem srt_dK {K : PySem.W.Frag} {H : Hp} {a : Addr} {xs : List (Key × V)} (h : H a = some (.dK xs)) : Srt K H (.ref a) "dict" := ⟨.base (.dK h), by decide⟩
theorem srt_dT {K : PySem.W.Frag} {H : Hp} {a : Addr} {xs : List (List Key × V)} (h : H a = some (.dT xs)) : Srt K H (.ref a) "dict" := ⟨.base (.dT h), by decide⟩
theorem srt_tq {K : PySem.W.Frag} {H : Hp} {a : Addr} {xs : List V} (h : SqT K H a xs) : Srt K H (.ref a) "tuple" := by
  rcases h with (h | ⟨o, h⟩) | ⟨o, its, n, hk, hc, _⟩
  · exact srt_tup h
  · exact ⟨.fTuple h, by decide⟩
  · exact ⟨.kTuple hk hc, by decide⟩
theorem srt_lq {K : PySem.W.Frag} {H : Hp} {a : Addr} {xs : List V} (h : SqL K H a xs) : Srt K H (.ref a) "list" := by
  rcases h with (h | ⟨o, h⟩) | ⟨o, its, n, hk, hc, _⟩
  · exact srt_lst h
  · exact ⟨.base (.frz h), by decide⟩
  · exact ⟨.kList hk hc, by decide⟩
theorem srt_is_str {K : PySem.W.Frag} {H : Hp} {v : V} (h : Srt K H v "str") : ∃ z, v = .str z := by
  obtain ⟨ty, _⟩ := h
  generalize ht : Value.type "str" = t at ty
  cases ty with
  | base b => cases b <;> first | exact ⟨_, rfl⟩ | exact absurd (Value.type.inj ht) (by decide) | cases ht
  | _ => exact absurd (Value.type.inj ht) (by decide)
theorem all_range {α : Type} [Inhabited α] (l : List α) {n : Nat} (hn : n = l.length) (p : α → Bool) (d : α := default) : l.all p = (List.range n).all (id ∘ fun i => p (l.getD i d)) := by
  subst hn
  induction l with
  | nil => rfl
  | cons x l ih =>
    rw [List.length_cons, List.range_succ_eq_map, List.all_cons, List.all_cons, List.all_map, ih]
    rfl
section
variable {P : Program} {w : World} {K : PySem.W.Frag} {mg : PySem.Str → Option Value} {base : Heap}
theorem cal_of {x : PySem.Str} {st : Stmt} {f : Addr} {fd : FuncData} {ps : List PySem.Str} {k : Nat} {sp : Sp} (F : FunD K x x (defArgs st) (defBody st) (defScope st) [] [] f fd) (g : mg x = some (.ref f)) (hb : L2.Binds K fd ps []) (ok : FnOk P w K mg base (L2.CX P w) k f fd ps sp) :
    Cal P w K mg base k x ps sp := ⟨f, fd, ok, g, F.kp, hb⟩
/-- what a test of any thing says, leaving what stands -/
def spTest (R : PySem.W.Frag → Hp → V → Bool → Prop) (K : PySem.W.Frag) : Sp := fun vs H Q _ => ∃ v b, vs = [v] ∧ R K H v b ∧ ∀ H', Same H H' → Q (.bl b) H'
end
/-- isinstance of a thing whose sort is known -/
theorem isi_of {K : PySem.W.Frag} {H : Hp} {v : V} {n m : String} {Q : VK} (h : Srt K H v n) (hm : m ∈ ["int", "bool", "str", "list", "tuple", "dict"]) (q : Q (.bl (decide (n = m) || (decide (n = "bool") && decide (m = "int")))) H) : rIsi K [v, .ty m] H Q :=
  ⟨v, .ty m, _, _, _, rfl, .ty _, h.1, kit_b n h.2 m hm, q⟩
/-! ### comprehensions that only make things -/
theorem range_map_succ {α : Type} (f : Nat → α) (i : Nat) : (List.range (i + 1)).map f = (List.range i).map f ++ [f i] := by
  rw [List.range_succ, List.map_append] <;> rfl
/-- what the machine asks of a comprehension's loop -/
abbrev LcW (J : It) (g : TG) (tt : TT) (te : TE) (vs : List Nat) (σ : L2.St) (D : Addr) (H0 : Hp) (Qd : Hp → Prop) : Prop :=
  ∃ W : Nat → Nat → Hp → Prop, (∃ m, W 0 m H0) ∧ ∀ i m H, W i m H →
      (J.stop i H ∧ Qd H) ∨ (J.go i H ∧ ∃ Nx : Hp → Prop, (∀ H', Nx H' → ∃ m', m' < m ∧ W (i + 1) m' H') ∧ ∀ x H', J.yld i H x H' → g x (wipe σ vs) H' fun σ2 H2 => wipe σ2 vs = wipe σ vs ∧ tt σ2 H2 fun b H3 =>
        if b = true then te σ2 H3 fun y H4 => ∃ acc, H4 D = some (.lst acc) ∧ acc.length < sizeLine ∧ Nx (upd H4 D (.lst (acc ++ [y]))) else Nx H3)
theorem lc_map {J : It} {n : Nat} {G : Hp → Prop} {Y : Nat → Hp → V → Hp → Prop} (w : Walk J n G Y) {g : TG} {te : TE} {vs : List Nat} {σ : L2.St} {H1 : Hp} {D : Addr} {Qd : Hp → Prop} (hD : H1 D = none) (f : Nat → V) (hn : n ≤ sizeLine)
    (hG : ∀ H, Same H1 H → G H)
    (turn : ∀ i x H H', i < n → Same H1 H → Y i H x H' → Same H H' ∧ ∀ Kt : V → Hp → Prop, (∀ H4, Same H' H4 → Kt (f i) H4) → g x (wipe σ vs) H' fun σ2 H2 => wipe σ2 vs = wipe σ vs ∧ te σ2 H2 Kt)
    (mono : ∀ (σ : L2.St) (H : Hp) (x : V) (A B : L2.St → Hp → Prop), (∀ σ H, A σ H → B σ H) → g x σ H A → g x σ H B := by intro σ H x A B h z; exact h _ _ z)
    (hd : ∀ H, Same H1 H → H D = some (.lst ((List.range n).map f)) → Qd H) : LcW J g tYes te vs σ D (upd H1 D (.lst [])) Qd := by
  refine lc_it w (fun i H => Same H1 H ∧ H D = some (.lst ((List.range i).map f))) ⟨Same.new hD, upd_same⟩ (fun i H _ p => hG H p.1) (fun i x H H' hi p y => ?_) (fun H p => hd H p.1 p.2)
  obtain ⟨sy, t⟩ := turn i x H H' hi p.1 y
  refine mono _ _ _ _ _ (fun σ2 H2 z => ⟨z.1, ?_⟩) (t (fun y H4 => ∃ acc, H4 D = some (.lst acc) ∧ acc.length < sizeLine ∧ (Same H1 (upd H4 D (.lst (acc ++ [y]))) ∧ (upd H4 D (.lst (acc ++ [y]))) D = some (.lst ((List.range (i + 1)).map f)))) fun H4 s4 => ?_)
  · exact z.2
  · refine ⟨_, s4 _ _ (sy _ _ p.2), by simp; omega, ?_, ?_⟩
    · intro a o e
      rw [upd_ne (ne_of_none e hD)]
      exact s4 _ _ (sy _ _ (p.1 _ _ e))
    · rw [upd_same, range_map_succ]
/-! ### what a test of a sort says -/
theorem sort_is {n m : String} (hn : n ∈ sorts) (hm : m ∈ ["bool", "str", "list", "tuple", "dict"]) : (decide (n = m) || (decide (n = "bool") && decide (m = "int"))) = decide (n = m) := by
  have : ∀ m ∈ ["bool", "str", "list", "tuple", "dict"], decide (m = "int") = false := by decide
  rw [this m hm, Bool.and_false, Bool.or_false]
theorem isi_is {K : PySem.W.Frag} {H : Hp} {v : V} {n m : String} {Q : VK} (h : Srt K H v n) (hm : m ∈ ["bool", "str", "list", "tuple", "dict"]) (q : Q (.bl (decide (n = m))) H) : rIsi K [v, .ty m] H Q := by
  refine isi_of h (List.mem_cons_of_mem _ hm) ?_
  rw [sort_is h.2 hm]
  exact q
theorem srt_str_eq {K : PySem.W.Frag} {H : Hp} {z : PySem.Str} {n : String} (h : Srt K H (.str z) n) : n = "str" := by
  cases h.1 with
  | base b => cases b; rfl
theorem str_beq (a b : PySem.Str) : (a == b) = decide (b = a) := by
  by_cases e : b = a
  · subst e; simp
  · rw [decide_eq_false e]
    exact beq_eq_false_iff_ne.mpr (Ne.symm e)
/-- a local that holds a def of the module -/
theorem pe_calL {X : Cx} {k i : Nat} {y x : PySem.Str} {f : Addr} {ps : List PySem.Str} {sp : Sp} {p pos : Pos} {e : Expr} {es : List Expr} {t : TA} (c : Cal X.prog X.w X.K X.mg X.base k y ps sp) (g : X.mg y = some (.ref f)) (hr : Room k X.A) (hN : X.N[i]? = some x) (hv : Vis X.env.scope x) (ha : PA X (e :: es) t)
    (hdb : (x == ("__debug__" : PySem.Str)) = false := by decide) (hcd : (x == ("__classdict__" : PySem.Str)) = false := by decide)
    (he : starEach (e :: es) X.env = (false, eval e X.env) :: starEach es X.env := by rfl) (hpl : (backTo pos (starEach es X.env)).any (·.1) = false := by rfl) : PE X (.Call (.Name x p) (e :: es) [] pos) (tCallL i f sp [] E0 t) := by
  obtain ⟨f', fd, F, hm, hk, hb⟩ := c.ex
  cases Option.some.inj (hm.symm.trans g)
  exact pe_callL F hr hN hv hk hb .nil passL ha hdb hcd he hpl
/-! ### readings by their names -/
def rLenQ (K : PySem.W.Frag) : List V → Hp → VK → Prop := fun xs H Q => ∃ p ys, xs = [.ref p] ∧ (SqL K H p ys ∨ SqT K H p ys) ∧ Q (.int ys.length) H
theorem call_lenQ {X : Cx} : CallR X (.builtin "len") (rLenQ X.K) := call_len_seq
def rTupOf (K : PySem.W.Frag) : List V → Hp → VK → Prop := fun xs H Q => ∃ p ys, xs = [V.ref p] ∧ ((SqL K H p ys ∧ ∀ (l : Addr), H l = none → Q (V.ref l) (upd H l (HO.tup ys))) ∨ SqT K H p ys ∧ Q (V.ref p) H)
theorem call_tupOf {X : Cx} : CallR X (.type "tuple") (rTupOf X.K) := call_tuple_of
end Rs
set_option Elab.async false
set_option linter.all false
set_option maxRecDepth 100000
set_option maxHeartbeats 0
namespace Rs
open PySem PySem.Spec PyProof.Rows L2
def top (i : Nat) : Stmt := PySem.Challenge.pw_rightstate_k01_kinds_told.main.body.getD i (.Pass ⟨0, 0, 0, 0⟩)
abbrev s_BadKind_init : Stmt := inClass (top 2) 0
abbrev s_is_row : Stmt := top 8
abbrev s_is_text_of : Stmt := top 9
abbrev s_is_name : Stmt := top 10
abbrev s_is_error : Stmt := top 11
abbrev s_is_word : Stmt := top 12
abbrev s_are_unlike : Stmt := top 13
abbrev s_is_pair : Stmt := top 18
abbrev s_is_key : Stmt := top 19
abbrev s_are_ends : Stmt := top 20
abbrev s_are_outcomes : Stmt := top 21
abbrev s_are_moves : Stmt := top 22
abbrev s_Kind_init : Stmt := inClass (top 23) 0
abbrev s_Kind_name : Stmt := inClass (top 23) 1
abbrev s_Kind_start : Stmt := inClass (top 23) 2
abbrev s_Kind_ends : Stmt := inClass (top 23) 3
abbrev s_Kind_states : Stmt := inClass (top 23) 4
abbrev s_Kind_methods : Stmt := inClass (top 23) 5
abbrev s_Kind_moves : Stmt := inClass (top 23) 6
abbrev s_Kind_renamed : Stmt := inClass (top 23) 7
abbrev s_Kind_getitem : Stmt := inClass (top 23) 8
abbrev s_Kind_contains : Stmt := inClass (top 23) 9
abbrev s_Kind_iter : Stmt := inClass (top 23) 10
abbrev s_Kind_eq : Stmt := inClass (top 23) 11
abbrev s_l_source : Stmt := top 25
abbrev s_l_draw : Stmt := top 26
abbrev s_l_pick : Stmt := top 27
abbrev s_l_words : Stmt := top 28
abbrev s_l_sort : Stmt := top 29
abbrev s_l_sorts : Stmt := top 30
abbrev s_l_turned : Stmt := top 31
abbrev s_l_right : Stmt := top 32
abbrev s_l_unlike : Stmt := top 33
abbrev s_law : Stmt := top 34
def faT0 : List Tst := [fF (.free "isinstance"), fF (.free "list"), fF (.free "tuple"), fF (.free "str"), fF (.free "all"), fF (.free "len"), fF (.free "dict"), fF (.free "sorted"), fF (.free "property"), fF (.free "TypeError"), fF (.free "int"), fF (.free "range"), fF (.free "set"), fF (.str "SMALL" "abcdefghijklmnopqrstuvwxyz"), fF (.str "LARGE" "ABCDEFGHIJKLMNOPQRSTUVWXYZ"), fF (.int "MOST_SIGNS" 8), tTupS "ANSWERS" ["yes", "no"], fF (.int "MOST_STATES" 60), fF (.int "MOST_METHODS" 8), fF (.int "MOST_OUTCOMES" 8)]
def faT1 : List Tst := [fF (.glo "RightError"), tOex "RightError", tExc "RightError", fF (.glo "BadKind"), tOex "BadKind", tExc "BadKind", tIni "BadKind", fF (.noat "BadKind" "part"), fF (.glo "Kind"), fF (.cls "Kind"), fF (.mkr "Kind"), fF (.noat "Kind" "called"), fF (.noat "Kind" "begin"), fF (.noat "Kind" "last"), fF (.noat "Kind" "table"), tProp? "Kind" "name", tProp? "Kind" "start", tProp? "Kind" "ends", fF (.meth "Kind" "states"), fF (.meth "Kind" "methods")]
def faT2 : List Tst := [fF (.meth "Kind" "moves"), fF (.meth "Kind" "renamed"), tDun "Kind" "__getitem__", tDun "Kind" "__contains__", tDun "Kind" "__iter__", tDun "Kind" "__eq__", tKit "BadKind" "BadKind" true, tKit "Kind" "Kind" true, tExm "BadKind" "BadKind" true, fun K => He.eqO (PySem.W.findIn K (.ref (He.ga K "Kind")) "__ne__") (some (some (.builtin "object.__ne__"))), fun K => decide (PySem.W.mroIn K (He.ga K "Kind") (.type "object") = some true), fun K => He.eqO (PySem.W.findIn K (.ref (He.ga K "Kind")) "__class__") (some (some (.builtin "object.__class__"))), fun K => He.eqO (PySem.W.specialIn K (.builtin "object.__class__") "__get__") (some (some (.builtin "getset_descriptor.__get__"))), fun K => decide (PySem.W.takesIn K (.builtin "object.__class__") = some true), fun K => decide (PySem.W.kitOne K (.type "NoneType") (.ref (He.ga K "Kind")) = some false), fun K => decide (PySem.W.kitOne K (.type "bool") (.ref (He.ga K "Kind")) = some false), fun K => decide (PySem.W.kitOne K (.type "int") (.ref (He.ga K "Kind")) = some false), fun K => decide (PySem.W.kitOne K (.type "str") (.ref (He.ga K "Kind")) = some false), fun K => decide (PySem.W.kitOne K (.type "list") (.ref (He.ga K "Kind")) = some false), fun K => decide (PySem.W.kitOne K (.type "tuple") (.ref (He.ga K "Kind")) = some false)]
def faT3 : List Tst := [fun K => decide (PySem.W.kitOne K (.type "dict") (.ref (He.ga K "Kind")) = some false), fF (.glo "is_row"), fF (.glo "is_text_of"), fF (.glo "is_name"), fF (.glo "is_error"), fF (.glo "is_word"), fF (.glo "are_unlike"), fF (.glo "is_pair"), fF (.glo "is_key"), fF (.glo "are_ends"), fF (.glo "are_outcomes"), fF (.glo "are_moves"), fF (.glo "_law_source"), fF (.glo "_law_draw"), fF (.glo "_law_pick"), fF (.glo "_law_words"), fF (.glo "_law_sort"), fF (.glo "_law_sorts"), fF (.glo "_law_turned"), fF (.glo "_law_right")]
def faT4 : List Tst := [fF (.glo "_law_unlike"), fF (.glo "law")]
def faT : List Tst := faT0 ++ faT1 ++ faT2 ++ faT3 ++ faT4
def fnT0 : List He5.DefA := [dfM "BadKind" "__init__" "BadKind.__init__" s_BadKind_init, dfG "is_row" s_is_row, dfG "is_text_of" s_is_text_of, dfG "is_name" s_is_name, dfG "is_error" s_is_error, dfG "is_word" s_is_word, dfG "are_unlike" s_are_unlike, dfG "is_pair" s_is_pair, dfG "is_key" s_is_key, dfG "are_ends" s_are_ends, dfG "are_outcomes" s_are_outcomes, dfG "are_moves" s_are_moves, dfM "Kind" "__init__" "Kind.__init__" s_Kind_init, dfP "Kind" "name" "Kind.name" s_Kind_name, dfP "Kind" "start" "Kind.start" s_Kind_start, dfP "Kind" "ends" "Kind.ends" s_Kind_ends, dfM "Kind" "states" "Kind.states" s_Kind_states, dfM "Kind" "methods" "Kind.methods" s_Kind_methods, dfM "Kind" "moves" "Kind.moves" s_Kind_moves, dfM "Kind" "renamed" "Kind.renamed" s_Kind_renamed]
def fnT1 : List He5.DefA := [dfM "Kind" "__getitem__" "Kind.__getitem__" s_Kind_getitem, dfM "Kind" "__contains__" "Kind.__contains__" s_Kind_contains, dfM "Kind" "__iter__" "Kind.__iter__" s_Kind_iter, dfM "Kind" "__eq__" "Kind.__eq__" s_Kind_eq, dfG "_law_source" s_l_source, dfG "_law_draw" s_l_draw, dfG "_law_pick" s_l_pick, dfG "_law_words" s_l_words, dfG "_law_sort" s_l_sort, dfG "_law_sorts" s_l_sorts, dfG "_law_turned" s_l_turned, dfG "_law_right" s_l_right, dfG "_law_unlike" s_l_unlike, dfG "law" s_law]
def fnT : List He5.DefA := fnT0 ++ fnT1
abbrev RT : PySem.W.OpenRow := PySem.W.OpenLaw.row PySem.Challenge.rw_rightstate_k01_kinds_told
abbrev hkT : PySem.W.Hook := hookR 5 faT fnT
def obT (s : PySem.W.SharedT) : He.AlD := obsRG 5 faT fnT (HandSHeadRun.getT s)
theorem obT_eq (s : PySem.W.SharedT) : obT s = hkT.obs s.abs := obsRG_eq (HandSHeadRun.getT_eq s)
def nmT0 : List PySem.Str := ["__name__", "RightError", "BadKind", "SMALL", "LARGE", "MOST_SIGNS", "ANSWERS", "is_row", "is_text_of", "is_name", "is_error", "is_word", "are_unlike", "MOST_STATES", "MOST_METHODS", "MOST_OUTCOMES", "is_pair", "is_key", "are_ends", "are_outcomes", "are_moves", "Kind", "_law_source", "_law_draw", "_law_pick", "_law_words", "_law_sort", "_law_sorts", "_law_turned", "_law_right"]
def nmT1 : List PySem.Str := ["_law_unlike"]
def looseT : List PySem.Str := nmT0 ++ nmT1
abbrev lawAt : Nat := 34
structure Txt (K : PySem.W.Frag) (mg : PySem.Str → Option Value) : Prop where
  c : SaysR faT fnT K
  h : ∃ h : Heap, K.In h ∧ h.Ns mainGlobals mg
section
variable {K : PySem.W.Frag} {mg : PySem.Str → Option Value}
theorem Txt.b_isinstance (T : Txt K mg) : mg "isinstance" = none := let ⟨h, X, G⟩ := T.h; He.free_ok X G (T.c.fact 0)
theorem Txt.b_list (T : Txt K mg) : mg "list" = none := let ⟨h, X, G⟩ := T.h; He.free_ok X G (T.c.fact 1)
theorem Txt.b_tuple (T : Txt K mg) : mg "tuple" = none := let ⟨h, X, G⟩ := T.h; He.free_ok X G (T.c.fact 2)
theorem Txt.b_str (T : Txt K mg) : mg "str" = none := let ⟨h, X, G⟩ := T.h; He.free_ok X G (T.c.fact 3)
theorem Txt.b_all (T : Txt K mg) : mg "all" = none := let ⟨h, X, G⟩ := T.h; He.free_ok X G (T.c.fact 4)
theorem Txt.b_len (T : Txt K mg) : mg "len" = none := let ⟨h, X, G⟩ := T.h; He.free_ok X G (T.c.fact 5)
theorem Txt.b_dict (T : Txt K mg) : mg "dict" = none := let ⟨h, X, G⟩ := T.h; He.free_ok X G (T.c.fact 6)
theorem Txt.b_sorted (T : Txt K mg) : mg "sorted" = none := let ⟨h, X, G⟩ := T.h; He.free_ok X G (T.c.fact 7)
theorem Txt.b_property (T : Txt K mg) : mg "property" = none := let ⟨h, X, G⟩ := T.h; He.free_ok X G (T.c.fact 8)
theorem Txt.b_TypeError (T : Txt K mg) : mg "TypeError" = none := let ⟨h, X, G⟩ := T.h; He.free_ok X G (T.c.fact 9)
theorem Txt.b_int (T : Txt K mg) : mg "int" = none := let ⟨h, X, G⟩ := T.h; He.free_ok X G (T.c.fact 10)
theorem Txt.b_range (T : Txt K mg) : mg "range" = none := let ⟨h, X, G⟩ := T.h; He.free_ok X G (T.c.fact 11)
theorem Txt.b_set (T : Txt K mg) : mg "set" = none := let ⟨h, X, G⟩ := T.h; He.free_ok X G (T.c.fact 12)
theorem Txt.c_SMALL (T : Txt K mg) : ∃ t, mg "SMALL" = some (.str "abcdefghijklmnopqrstuvwxyz" t) := let ⟨h, X, G⟩ := T.h; He.str_ok X G (T.c.fact 13)
theorem Txt.c_LARGE (T : Txt K mg) : ∃ t, mg "LARGE" = some (.str "ABCDEFGHIJKLMNOPQRSTUVWXYZ" t) := let ⟨h, X, G⟩ := T.h; He.str_ok X G (T.c.fact 14)
theorem Txt.c_MOST_SIGNS (T : Txt K mg) : ∃ t, mg "MOST_SIGNS" = some (.int 8 t) := let ⟨h, X, G⟩ := T.h; He.int_ok X G (T.c.fact 15)
theorem Txt.c_ANSWERS (T : Txt K mg) : ∃ a, mg "ANSWERS" = some (.ref a) ∧ ∀ H, SqT K H a ((["yes", "no"] : List PySem.Str).map V.str) := let ⟨h, X, G⟩ := T.h; tTupS_ok X G (T.c.fact 16)
theorem Txt.c_MOST_STATES (T : Txt K mg) : ∃ t, mg "MOST_STATES" = some (.int 60 t) := let ⟨h, X, G⟩ := T.h; He.int_ok X G (T.c.fact 17)
theorem Txt.c_MOST_METHODS (T : Txt K mg) : ∃ t, mg "MOST_METHODS" = some (.int 8 t) := let ⟨h, X, G⟩ := T.h; He.int_ok X G (T.c.fact 18)
theorem Txt.c_MOST_OUTCOMES (T : Txt K mg) : ∃ t, mg "MOST_OUTCOMES" = some (.int 8 t) := let ⟨h, X, G⟩ := T.h; He.int_ok X G (T.c.fact 19)
theorem Txt.g_RightError (T : Txt K mg) : mg "RightError" = some (.ref (He.ga K "RightError")) := let ⟨h, X, G⟩ := T.h; He.glo_ok X G (T.c.fact 20)
theorem Txt.oex_RightError (T : Txt K mg) : OexC K (He.ga K "RightError") := oex_ok (T.c.fact 21)
theorem Txt.exc_RightError (T : Txt K mg) : tExc "RightError" K = true := (T.c.fact 22)
theorem Txt.g_BadKind (T : Txt K mg) : mg "BadKind" = some (.ref (He.ga K "BadKind")) := let ⟨h, X, G⟩ := T.h; He.glo_ok X G (T.c.fact 23)
theorem Txt.oex_BadKind (T : Txt K mg) : OexC K (He.ga K "BadKind") := oex_ok (T.c.fact 24)
theorem Txt.exc_BadKind (T : Txt K mg) : tExc "BadKind" K = true := (T.c.fact 25)
theorem Txt.ini_BadKind (T : Txt K mg) : tIni "BadKind" K = true := (T.c.fact 26)
theorem Txt.no_BadKind_part (T : Txt K mg) : NoAttr K (He.ga K "BadKind") "part" := He.noat_ok (T.c.fact 27)
theorem Txt.g_Kind (T : Txt K mg) : mg "Kind" = some (.ref (He.ga K "Kind")) := let ⟨h, X, G⟩ := T.h; He.glo_ok X G (T.c.fact 28)
theorem Txt.cl_Kind (T : Txt K mg) : Cls K (He.ga K "Kind") := He.cls_ok (T.c.fact 29)
theorem Txt.mk_Kind (T : Txt K mg) : Mk K (He.ga K "Kind") (He.ma K (He.ga K "Kind") "__init__") := He.mkr_ok (T.c.fact 30)
theorem Txt.no_Kind_called (T : Txt K mg) : NoAttr K (He.ga K "Kind") "called" := He.noat_ok (T.c.fact 31)
theorem Txt.no_Kind_begin (T : Txt K mg) : NoAttr K (He.ga K "Kind") "begin" := He.noat_ok (T.c.fact 32)
theorem Txt.no_Kind_last (T : Txt K mg) : NoAttr K (He.ga K "Kind") "last" := He.noat_ok (T.c.fact 33)
theorem Txt.no_Kind_table (T : Txt K mg) : NoAttr K (He.ga K "Kind") "table" := He.noat_ok (T.c.fact 34)
theorem Txt.pr_Kind_name (T : Txt K mg) : PropOf K (He.ga K "Kind") "name" (He.ma K (He.ga K "Kind") "name") (propAt K (He.ga K "Kind") "name") := prop_ok (T.c.fact 35)
theorem Txt.pr_Kind_start (T : Txt K mg) : PropOf K (He.ga K "Kind") "start" (He.ma K (He.ga K "Kind") "start") (propAt K (He.ga K "Kind") "start") := prop_ok (T.c.fact 36)
theorem Txt.pr_Kind_ends (T : Txt K mg) : PropOf K (He.ga K "Kind") "ends" (He.ma K (He.ga K "Kind") "ends") (propAt K (He.ga K "Kind") "ends") := prop_ok (T.c.fact 37)
theorem Txt.me_Kind_states (T : Txt K mg) : Meth K (He.ga K "Kind") "states" (He.ma K (He.ga K "Kind") "states") := He.meth_ok (T.c.fact 38)
theorem Txt.me_Kind_methods (T : Txt K mg) : Meth K (He.ga K "Kind") "methods" (He.ma K (He.ga K "Kind") "methods") := He.meth_ok (T.c.fact 39)
theorem Txt.me_Kind_moves (T : Txt K mg) : Meth K (He.ga K "Kind") "moves" (He.ma K (He.ga K "Kind") "moves") := He.meth_ok (T.c.fact 40)
theorem Txt.me_Kind_renamed (T : Txt K mg) : Meth K (He.ga K "Kind") "renamed" (He.ma K (He.ga K "Kind") "renamed") := He.meth_ok (T.c.fact 41)
theorem Txt.du_Kind_getitem (T : Txt K mg) : Dun K (He.ga K "Kind") "__getitem__" (He.ma K (He.ga K "Kind") "__getitem__") := dun_ok (T.c.fact 42)
theorem Txt.du_Kind_contains (T : Txt K mg) : Dun K (He.ga K "Kind") "__contains__" (He.ma K (He.ga K "Kind") "__contains__") := dun_ok (T.c.fact 43)
theorem Txt.du_Kind_iter (T : Txt K mg) : Dun K (He.ga K "Kind") "__iter__" (He.ma K (He.ga K "Kind") "__iter__") := dun_ok (T.c.fact 44)
theorem Txt.du_Kind_eq (T : Txt K mg) : Dun K (He.ga K "Kind") "__eq__" (He.ma K (He.ga K "Kind") "__eq__") := dun_ok (T.c.fact 45)
theorem Txt.kit_BadKind_BadKind (T : Txt K mg) : PySem.W.kitOne K (.ref (He.ga K "BadKind")) (.ref (He.ga K "BadKind")) = some true := of_decide_eq_true (T.c.fact 46)
theorem Txt.kit_Kind_Kind (T : Txt K mg) : PySem.W.kitOne K (.ref (He.ga K "Kind")) (.ref (He.ga K "Kind")) = some true := of_decide_eq_true (T.c.fact 47)
theorem Txt.exm_BadKind_BadKind (T : Txt K mg) : PySem.W.exmOne K (.ref (He.ga K "BadKind")) (.ref (He.ga K "BadKind")) = some true := of_decide_eq_true (T.c.fact 48)
theorem Txt.ne_Kind (T : Txt K mg) : PySem.W.findIn K (.ref (He.ga K "Kind")) "__ne__" = some (some (.builtin "object.__ne__")) := He.eqO_ok (T.c.fact 49)
theorem Txt.mro_Kind (T : Txt K mg) : PySem.W.mroIn K (He.ga K "Kind") (.type "object") = some true := of_decide_eq_true (T.c.fact 50)
theorem Txt.cla_Kind (T : Txt K mg) : PySem.W.findIn K (.ref (He.ga K "Kind")) "__class__" = some (some (.builtin "object.__class__")) := He.eqO_ok (T.c.fact 51)
theorem Txt.clg (T : Txt K mg) : PySem.W.specialIn K (.builtin "object.__class__") "__get__" = some (some (.builtin "getset_descriptor.__get__")) := He.eqO_ok (T.c.fact 52)
theorem Txt.clt (T : Txt K mg) : PySem.W.takesIn K (.builtin "object.__class__") = some true := of_decide_eq_true (T.c.fact 53)
theorem Txt.kno_NoneType (T : Txt K mg) : PySem.W.kitOne K (.type "NoneType") (.ref (He.ga K "Kind")) = some false := of_decide_eq_true (T.c.fact 54)
theorem Txt.kno_bool (T : Txt K mg) : PySem.W.kitOne K (.type "bool") (.ref (He.ga K "Kind")) = some false := of_decide_eq_true (T.c.fact 55)
theorem Txt.kno_int (T : Txt K mg) : PySem.W.kitOne K (.type "int") (.ref (He.ga K "Kind")) = some false := of_decide_eq_true (T.c.fact 56)
theorem Txt.kno_str (T : Txt K mg) : PySem.W.kitOne K (.type "str") (.ref (He.ga K "Kind")) = some false := of_decide_eq_true (T.c.fact 57)
theorem Txt.kno_list (T : Txt K mg) : PySem.W.kitOne K (.type "list") (.ref (He.ga K "Kind")) = some false := of_decide_eq_true (T.c.fact 58)
theorem Txt.kno_tuple (T : Txt K mg) : PySem.W.kitOne K (.type "tuple") (.ref (He.ga K "Kind")) = some false := of_decide_eq_true (T.c.fact 59)
theorem Txt.kno_dict (T : Txt K mg) : PySem.W.kitOne K (.type "dict") (.ref (He.ga K "Kind")) = some false := of_decide_eq_true (T.c.fact 60)
theorem Txt.g_is_row (T : Txt K mg) : mg "is_row" = some (.ref (He.ga K "is_row")) := let ⟨h, X, G⟩ := T.h; He.glo_ok X G (T.c.fact 61)
theorem Txt.g_is_text_of (T : Txt K mg) : mg "is_text_of" = some (.ref (He.ga K "is_text_of")) := let ⟨h, X, G⟩ := T.h; He.glo_ok X G (T.c.fact 62)
theorem Txt.g_is_name (T : Txt K mg) : mg "is_name" = some (.ref (He.ga K "is_name")) := let ⟨h, X, G⟩ := T.h; He.glo_ok X G (T.c.fact 63)
theorem Txt.g_is_error (T : Txt K mg) : mg "is_error" = some (.ref (He.ga K "is_error")) := let ⟨h, X, G⟩ := T.h; He.glo_ok X G (T.c.fact 64)
theorem Txt.g_is_word (T : Txt K mg) : mg "is_word" = some (.ref (He.ga K "is_word")) := let ⟨h, X, G⟩ := T.h; He.glo_ok X G (T.c.fact 65)
theorem Txt.g_are_unlike (T : Txt K mg) : mg "are_unlike" = some (.ref (He.ga K "are_unlike")) := let ⟨h, X, G⟩ := T.h; He.glo_ok X G (T.c.fact 66)
theorem Txt.g_is_pair (T : Txt K mg) : mg "is_pair" = some (.ref (He.ga K "is_pair")) := let ⟨h, X, G⟩ := T.h; He.glo_ok X G (T.c.fact 67)
theorem Txt.g_is_key (T : Txt K mg) : mg "is_key" = some (.ref (He.ga K "is_key")) := let ⟨h, X, G⟩ := T.h; He.glo_ok X G (T.c.fact 68)
theorem Txt.g_are_ends (T : Txt K mg) : mg "are_ends" = some (.ref (He.ga K "are_ends")) := let ⟨h, X, G⟩ := T.h; He.glo_ok X G (T.c.fact 69)
theorem Txt.g_are_outcomes (T : Txt K mg) : mg "are_outcomes" = some (.ref (He.ga K "are_outcomes")) := let ⟨h, X, G⟩ := T.h; He.glo_ok X G (T.c.fact 70)
theorem Txt.g_are_moves (T : Txt K mg) : mg "are_moves" = some (.ref (He.ga K "are_moves")) := let ⟨h, X, G⟩ := T.h; He.glo_ok X G (T.c.fact 71)
theorem Txt.g_law_source (T : Txt K mg) : mg "_law_source" = some (.ref (He.ga K "_law_source")) := let ⟨h, X, G⟩ := T.h; He.glo_ok X G (T.c.fact 72)
theorem Txt.g_law_draw (T : Txt K mg) : mg "_law_draw" = some (.ref (He.ga K "_law_draw")) := let ⟨h, X, G⟩ := T.h; He.glo_ok X G (T.c.fact 73)
theorem Txt.g_law_pick (T : Txt K mg) : mg "_law_pick" = some (.ref (He.ga K "_law_pick")) := let ⟨h, X, G⟩ := T.h; He.glo_ok X G (T.c.fact 74)
theorem Txt.g_law_words (T : Txt K mg) : mg "_law_words" = some (.ref (He.ga K "_law_words")) := let ⟨h, X, G⟩ := T.h; He.glo_ok X G (T.c.fact 75)
theorem Txt.g_law_sort (T : Txt K mg) : mg "_law_sort" = some (.ref (He.ga K "_law_sort")) := let ⟨h, X, G⟩ := T.h; He.glo_ok X G (T.c.fact 76)
theorem Txt.g_law_sorts (T : Txt K mg) : mg "_law_sorts" = some (.ref (He.ga K "_law_sorts")) := let ⟨h, X, G⟩ := T.h; He.glo_ok X G (T.c.fact 77)
theorem Txt.g_law_turned (T : Txt K mg) : mg "_law_turned" = some (.ref (He.ga K "_law_turned")) := let ⟨h, X, G⟩ := T.h; He.glo_ok X G (T.c.fact 78)
theorem Txt.g_law_right (T : Txt K mg) : mg "_law_right" = some (.ref (He.ga K "_law_right")) := let ⟨h, X, G⟩ := T.h; He.glo_ok X G (T.c.fact 79)
theorem Txt.g_law_unlike (T : Txt K mg) : mg "_law_unlike" = some (.ref (He.ga K "_law_unlike")) := let ⟨h, X, G⟩ := T.h; He.glo_ok X G (T.c.fact 80)
theorem Txt.g_law (T : Txt K mg) : mg "law" = some (.ref (He.ga K "law")) := let ⟨h, X, G⟩ := T.h; He.glo_ok X G (T.c.fact 81)
theorem Txt.d_BadKind_init (T : Txt K mg) : ∃ fd, FunD K "__init__" "BadKind.__init__" (defArgs s_BadKind_init) (defBody s_BadKind_init) (defScope s_BadKind_init) [] [] (He.ma K (He.ga K "BadKind") "__init__") fd := T.c.def_ 0
theorem Txt.d_is_row (T : Txt K mg) : ∃ fd, FunD K "is_row" "is_row" (defArgs s_is_row) (defBody s_is_row) (defScope s_is_row) [] [] (He.ga K "is_row") fd := T.c.def_ 1
theorem Txt.d_is_text_of (T : Txt K mg) : ∃ fd, FunD K "is_text_of" "is_text_of" (defArgs s_is_text_of) (defBody s_is_text_of) (defScope s_is_text_of) [] [] (He.ga K "is_text_of") fd := T.c.def_ 2
theorem Txt.d_is_name (T : Txt K mg) : ∃ fd, FunD K "is_name" "is_name" (defArgs s_is_name) (defBody s_is_name) (defScope s_is_name) [] [] (He.ga K "is_name") fd := T.c.def_ 3
theorem Txt.d_is_error (T : Txt K mg) : ∃ fd, FunD K "is_error" "is_error" (defArgs s_is_error) (defBody s_is_error) (defScope s_is_error) [] [] (He.ga K "is_error") fd := T.c.def_ 4
theorem Txt.d_is_word (T : Txt K mg) : ∃ fd, FunD K "is_word" "is_word" (defArgs s_is_word) (defBody s_is_word) (defScope s_is_word) [] [] (He.ga K "is_word") fd := T.c.def_ 5
theorem Txt.d_are_unlike (T : Txt K mg) : ∃ fd, FunD K "are_unlike" "are_unlike" (defArgs s_are_unlike) (defBody s_are_unlike) (defScope s_are_unlike) [] [] (He.ga K "are_unlike") fd := T.c.def_ 6
theorem Txt.d_is_pair (T : Txt K mg) : ∃ fd, FunD K "is_pair" "is_pair" (defArgs s_is_pair) (defBody s_is_pair) (defScope s_is_pair) [] [] (He.ga K "is_pair") fd := T.c.def_ 7
theorem Txt.d_is_key (T : Txt K mg) : ∃ fd, FunD K "is_key" "is_key" (defArgs s_is_key) (defBody s_is_key) (defScope s_is_key) [] [] (He.ga K "is_key") fd := T.c.def_ 8
theorem Txt.d_are_ends (T : Txt K mg) : ∃ fd, FunD K "are_ends" "are_ends" (defArgs s_are_ends) (defBody s_are_ends) (defScope s_are_ends) [] [] (He.ga K "are_ends") fd := T.c.def_ 9
theorem Txt.d_are_outcomes (T : Txt K mg) : ∃ fd, FunD K "are_outcomes" "are_outcomes" (defArgs s_are_outcomes) (defBody s_are_outcomes) (defScope s_are_outcomes) [] [] (He.ga K "are_outcomes") fd := T.c.def_ 10
theorem Txt.d_are_moves (T : Txt K mg) : ∃ fd, FunD K "are_moves" "are_moves" (defArgs s_are_moves) (defBody s_are_moves) (defScope s_are_moves) [] [] (He.ga K "are_moves") fd := T.c.def_ 11
theorem Txt.d_Kind_init (T : Txt K mg) : ∃ fd, FunD K "__init__" "Kind.__init__" (defArgs s_Kind_init) (defBody s_Kind_init) (defScope s_Kind_init) [] [] (He.ma K (He.ga K "Kind") "__init__") fd := T.c.def_ 12
theorem Txt.d_Kind_name (T : Txt K mg) : ∃ fd, FunD K "name" "Kind.name" (defArgs s_Kind_name) (defBody s_Kind_name) (defScope s_Kind_name) [] [] (propAt K (He.ga K "Kind") "name") fd := T.c.def_ 13
theorem Txt.d_Kind_start (T : Txt K mg) : ∃ fd, FunD K "start" "Kind.start" (defArgs s_Kind_start) (defBody s_Kind_start) (defScope s_Kind_start) [] [] (propAt K (He.ga K "Kind") "start") fd := T.c.def_ 14
theorem Txt.d_Kind_ends (T : Txt K mg) : ∃ fd, FunD K "ends" "Kind.ends" (defArgs s_Kind_ends) (defBody s_Kind_ends) (defScope s_Kind_ends) [] [] (propAt K (He.ga K "Kind") "ends") fd := T.c.def_ 15
theorem Txt.d_Kind_states (T : Txt K mg) : ∃ fd, FunD K "states" "Kind.states" (defArgs s_Kind_states) (defBody s_Kind_states) (defScope s_Kind_states) [] [] (He.ma K (He.ga K "Kind") "states") fd := T.c.def_ 16
theorem Txt.d_Kind_methods (T : Txt K mg) : ∃ fd, FunD K "methods" "Kind.methods" (defArgs s_Kind_methods) (defBody s_Kind_methods) (defScope s_Kind_methods) [] [] (He.ma K (He.ga K "Kind") "methods") fd := T.c.def_ 17
theorem Txt.d_Kind_moves (T : Txt K mg) : ∃ fd, FunD K "moves" "Kind.moves" (defArgs s_Kind_moves) (defBody s_Kind_moves) (defScope s_Kind_moves) [] [] (He.ma K (He.ga K "Kind") "moves") fd := T.c.def_ 18
theorem Txt.d_Kind_renamed (T : Txt K mg) : ∃ fd, FunD K "renamed" "Kind.renamed" (defArgs s_Kind_renamed) (defBody s_Kind_renamed) (defScope s_Kind_renamed) [] [] (He.ma K (He.ga K "Kind") "renamed") fd := T.c.def_ 19
theorem Txt.d_Kind_getitem (T : Txt K mg) : ∃ fd, FunD K "__getitem__" "Kind.__getitem__" (defArgs s_Kind_getitem) (defBody s_Kind_getitem) (defScope s_Kind_getitem) [] [] (He.ma K (He.ga K "Kind") "__getitem__") fd := T.c.def_ 20
theorem Txt.d_Kind_contains (T : Txt K mg) : ∃ fd, FunD K "__contains__" "Kind.__contains__" (defArgs s_Kind_contains) (defBody s_Kind_contains) (defScope s_Kind_contains) [] [] (He.ma K (He.ga K "Kind") "__contains__") fd := T.c.def_ 21
theorem Txt.d_Kind_iter (T : Txt K mg) : ∃ fd, FunD K "__iter__" "Kind.__iter__" (defArgs s_Kind_iter) (defBody s_Kind_iter) (defScope s_Kind_iter) [] [] (He.ma K (He.ga K "Kind") "__iter__") fd := T.c.def_ 22
theorem Txt.d_Kind_eq (T : Txt K mg) : ∃ fd, FunD K "__eq__" "Kind.__eq__" (defArgs s_Kind_eq) (defBody s_Kind_eq) (defScope s_Kind_eq) [] [] (He.ma K (He.ga K "Kind") "__eq__") fd := T.c.def_ 23
theorem Txt.d_l_source (T : Txt K mg) : ∃ fd, FunD K "_law_source" "_law_source" (defArgs s_l_source) (defBody s_l_source) (defScope s_l_source) [] [] (He.ga K "_law_source") fd := T.c.def_ 24
theorem Txt.d_l_draw (T : Txt K mg) : ∃ fd, FunD K "_law_draw" "_law_draw" (defArgs s_l_draw) (defBody s_l_draw) (defScope s_l_draw) [] [] (He.ga K "_law_draw") fd := T.c.def_ 25
theorem Txt.d_l_pick (T : Txt K mg) : ∃ fd, FunD K "_law_pick" "_law_pick" (defArgs s_l_pick) (defBody s_l_pick) (defScope s_l_pick) [] [] (He.ga K "_law_pick") fd := T.c.def_ 26
theorem Txt.d_l_words (T : Txt K mg) : ∃ fd, FunD K "_law_words" "_law_words" (defArgs s_l_words) (defBody s_l_words) (defScope s_l_words) [] [] (He.ga K "_law_words") fd := T.c.def_ 27
theorem Txt.d_l_sort (T : Txt K mg) : ∃ fd, FunD K "_law_sort" "_law_sort" (defArgs s_l_sort) (defBody s_l_sort) (defScope s_l_sort) [] [] (He.ga K "_law_sort") fd := T.c.def_ 28
theorem Txt.d_l_sorts (T : Txt K mg) : ∃ fd, FunD K "_law_sorts" "_law_sorts" (defArgs s_l_sorts) (defBody s_l_sorts) (defScope s_l_sorts) [] [] (He.ga K "_law_sorts") fd := T.c.def_ 29
theorem Txt.d_l_turned (T : Txt K mg) : ∃ fd, FunD K "_law_turned" "_law_turned" (defArgs s_l_turned) (defBody s_l_turned) (defScope s_l_turned) [] [] (He.ga K "_law_turned") fd := T.c.def_ 30
theorem Txt.d_l_right (T : Txt K mg) : ∃ fd, FunD K "_law_right" "_law_right" (defArgs s_l_right) (defBody s_l_right) (defScope s_l_right) [] [] (He.ga K "_law_right") fd := T.c.def_ 31
theorem Txt.d_l_unlike (T : Txt K mg) : ∃ fd, FunD K "_law_unlike" "_law_unlike" (defArgs s_l_unlike) (defBody s_l_unlike) (defScope s_l_unlike) [] [] (He.ga K "_law_unlike") fd := T.c.def_ 32
theorem Txt.d_law (T : Txt K mg) : ∃ fd, FunD K "law" "law" (defArgs s_law) (defBody s_law) (defScope s_law) [] [] (He.ga K "law") fd := T.c.def_ 33
end
theorem sc_BadKind_init : FnScope ["self", "part"] ["self", "part"] (defScope s_BadKind_init) := ⟨rfl, rfl, rfl, by decide +kernel, rfl, by decide +kernel, by decide +kernel⟩
theorem sc_is_row : FnScope ["thing"] ["thing"] (defScope s_is_row) := ⟨rfl, rfl, rfl, by decide +kernel, rfl, by decide +kernel, by decide +kernel⟩
theorem sc_is_text_of : FnScope ["thing", "signs", "sign"] ["thing", "signs"] (defScope s_is_text_of) := ⟨rfl, rfl, rfl, by decide +kernel, rfl, by decide +kernel, by decide +kernel⟩
theorem sc_is_name : FnScope ["thing"] ["thing"] (defScope s_is_name) := ⟨rfl, rfl, rfl, by decide +kernel, rfl, by decide +kernel, by decide +kernel⟩
theorem sc_is_error : FnScope ["thing"] ["thing"] (defScope s_is_error) := ⟨rfl, rfl, rfl, by decide +kernel, rfl, by decide +kernel, by decide +kernel⟩
theorem sc_is_word : FnScope ["thing"] ["thing"] (defScope s_is_word) := ⟨rfl, rfl, rfl, by decide +kernel, rfl, by decide +kernel, by decide +kernel⟩
theorem sc_are_unlike : FnScope ["some", "one"] ["some"] (defScope s_are_unlike) := ⟨rfl, rfl, rfl, by decide +kernel, rfl, by decide +kernel, by decide +kernel⟩
theorem sc_is_pair : FnScope ["thing", "first", "second"] ["thing", "first", "second"] (defScope s_is_pair) := ⟨rfl, rfl, rfl, by decide +kernel, rfl, by decide +kernel, by decide +kernel⟩
theorem sc_is_key : FnScope ["thing"] ["thing"] (defScope s_is_key) := ⟨rfl, rfl, rfl, by decide +kernel, rfl, by decide +kernel, by decide +kernel⟩
theorem sc_are_ends : FnScope ["thing", "one"] ["thing"] (defScope s_are_ends) := ⟨rfl, rfl, rfl, by decide +kernel, rfl, by decide +kernel, by decide +kernel⟩
theorem sc_are_outcomes : FnScope ["thing", "one"] ["thing"] (defScope s_are_outcomes) := ⟨rfl, rfl, rfl, by decide +kernel, rfl, by decide +kernel, by decide +kernel⟩
theorem sc_are_moves : FnScope ["thing", "at"] ["thing"] (defScope s_are_moves) := ⟨rfl, rfl, rfl, by decide +kernel, rfl, by decide +kernel, by decide +kernel⟩
theorem sc_Kind_init : FnScope ["self", "name", "start", "ends", "moves", "at", "one"] ["self", "name", "start", "ends", "moves"] (defScope s_Kind_init) := ⟨rfl, rfl, rfl, by decide +kernel, rfl, by decide +kernel, by decide +kernel⟩
theorem sc_Kind_name : FnScope ["self"] ["self"] (defScope s_Kind_name) := ⟨rfl, rfl, rfl, by decide +kernel, rfl, by decide +kernel, by decide +kernel⟩
theorem sc_Kind_start : FnScope ["self"] ["self"] (defScope s_Kind_start) := ⟨rfl, rfl, rfl, by decide +kernel, rfl, by decide +kernel, by decide +kernel⟩
theorem sc_Kind_ends : FnScope ["self"] ["self"] (defScope s_Kind_ends) := ⟨rfl, rfl, rfl, by decide +kernel, rfl, by decide +kernel, by decide +kernel⟩
theorem sc_Kind_states : FnScope ["self", "found", "one", "state", "method", "outcomes", "word"] ["self"] (defScope s_Kind_states) := ⟨rfl, rfl, rfl, by decide +kernel, rfl, by decide +kernel, by decide +kernel⟩
theorem sc_Kind_methods : FnScope ["self", "state", "method"] ["self"] (defScope s_Kind_methods) := ⟨rfl, rfl, rfl, by decide +kernel, rfl, by decide +kernel, by decide +kernel⟩
theorem sc_Kind_moves : FnScope ["self", "at"] ["self"] (defScope s_Kind_moves) := ⟨rfl, rfl, rfl, by decide +kernel, rfl, by decide +kernel, by decide +kernel⟩
theorem sc_Kind_renamed : FnScope ["self", "name"] ["self", "name"] (defScope s_Kind_renamed) := ⟨rfl, rfl, rfl, by decide +kernel, rfl, by decide +kernel, by decide +kernel⟩
theorem sc_Kind_getitem : FnScope ["self", "at"] ["self", "at"] (defScope s_Kind_getitem) := ⟨rfl, rfl, rfl, by decide +kernel, rfl, by decide +kernel, by decide +kernel⟩
theorem sc_Kind_contains : FnScope ["self", "at"] ["self", "at"] (defScope s_Kind_contains) := ⟨rfl, rfl, rfl, by decide +kernel, rfl, by decide +kernel, by decide +kernel⟩
theorem sc_Kind_iter : FnScope ["self"] ["self"] (defScope s_Kind_iter) := ⟨rfl, rfl, rfl, by decide +kernel, rfl, by decide +kernel, by decide +kernel⟩
theorem sc_Kind_eq : FnScope ["self", "other"] ["self", "other"] (defScope s_Kind_eq) := ⟨rfl, rfl, rfl, by decide +kernel, rfl, by decide +kernel, by decide +kernel⟩
theorem sc_l_source : FnScope ["_law_cell", "_law_number"] ["_law_cell"] (defScope s_l_source) := ⟨rfl, rfl, rfl, by decide +kernel, rfl, by decide +kernel, by decide +kernel⟩
theorem sc_l_draw : FnScope ["_law_well", "_law_many", "_law_found", "_law_number"] ["_law_well", "_law_many"] (defScope s_l_draw) := ⟨rfl, rfl, rfl, by decide +kernel, rfl, by decide +kernel, by decide +kernel⟩
theorem sc_l_pick : FnScope ["_law_well", "_law_some"] ["_law_well", "_law_some"] (defScope s_l_pick) := ⟨rfl, rfl, rfl, by decide +kernel, rfl, by decide +kernel, by decide +kernel⟩
theorem sc_l_words : FnScope ["_law_well", "_law_many", "_law_some", "_law_signs", "_law_found", "_law_start", "_law_k", "_law_way", "_law_word", "_law_turn", "_law_stem"] ["_law_well", "_law_many", "_law_some"] (defScope s_l_words) := ⟨rfl, rfl, rfl, by decide +kernel, rfl, by decide +kernel, by decide +kernel⟩
theorem sc_l_sort : FnScope ["_law_well", "_law_name", "_law_methods", "_law_errors", "_law_size", "_law_states", "_law_moves", "_law_state", "_law_method", "_law_outcomes", "_law_k", "_law_one", "_law_ends"] ["_law_well", "_law_name", "_law_methods", "_law_errors", "_law_size"] (defScope s_l_sort) := ⟨rfl, rfl, rfl, by decide +kernel, rfl, by decide +kernel, by decide +kernel⟩
theorem sc_l_sorts : FnScope ["_law_well", "_law_many", "_law_size", "_law_names", "_law_methods", "_law_errors", "_law_name", "_law_kinds"] ["_law_well", "_law_many", "_law_size"] (defScope s_l_sorts) := ⟨rfl, rfl, rfl, by decide +kernel, rfl, by decide +kernel, by decide +kernel⟩
theorem sc_l_turned : FnScope ["_law_well", "_law_some", "_law_left", "_law_k"] ["_law_well", "_law_some"] (defScope s_l_turned) := ⟨rfl, rfl, rfl, by decide +kernel, rfl, by decide +kernel, by decide +kernel⟩
theorem sc_l_right : FnScope ["_law_kind", "_law_name", "_law_start", "_law_ends", "_law_moves", "_law_state", "_law_method", "_law_states", "_law_some", "_law_word", "_law_methods", "_law_at", "_law_due", "_law_odd"] ["_law_kind", "_law_name", "_law_start", "_law_ends", "_law_moves"] (defScope s_l_right) := ⟨rfl, rfl, rfl, by decide +kernel, rfl, by decide +kernel, by decide +kernel⟩
theorem sc_l_unlike : FnScope ["_law_well", "_law_kind", "_law_name", "_law_start", "_law_ends", "_law_moves", "_law_others", "_law_some", "_law_it", "_law_state", "_law_method", "_law_more", "_law_other", "_law_odd"] ["_law_well", "_law_kind", "_law_name", "_law_start", "_law_ends", "_law_moves"] (defScope s_l_unlike) := ⟨rfl, rfl, rfl, by decide +kernel, rfl, by decide +kernel, by decide +kernel⟩
theorem sc_law : FnScope ["_law_script", "_law_cell", "_law_well", "_law_kinds", "_law_methods", "_law_errors", "_law_name", "_law_start", "_law_ends", "_law_moves", "_law_given", "_law_at", "_law_it", "_law_some", "_law_kind", "_law_again", "_law_known", "_law_one", "_law_other", "_law_odd", "e"] ["_law_script"] (defScope s_law) := ⟨rfl, rfl, rfl, by decide +kernel, rfl, by decide +kernel, by decide +kernel⟩
end Rs
set_option Elab.async false
set_option linter.all false
set_option maxRecDepth 100000
set_option maxHeartbeats 2000000
namespace Rs
open PySem PySem.Spec PyProof.Rows L2
local macro_rules | `(tactic| walk_at "rd") => `(tactic| simp only [L2.tRet, L2.tRetN, L2.tSeq, L2.tNext, L2.tIfS, L2.tAsg, L2.gName, L2.gNil, L2.gCons, L2.tVar, L2.tC, L2.tOp, L2.tUn, L2.tCB, L2.tCons, L2.tNil, L2.tAndV, L2.tOrV, L2.tNotV, L2.tAnd, L2.tOr, L2.tNot, L2.tB, L2.tTest, L2.tIf, L2.tChain, L2.tTup, L2.tLst, L2.tDrop, L2.start, L2.cxOf, L2.Cx.nox, L2.Cx.wish, L2.rI0, L2.rI, L2.tYes, Rs.tCalW, List.getElem?_cons_zero, List.getElem?_cons_succ, Option.some.injEq, exists_eq_left', exists_eq_left, exists_and_left, List.cons.injEq, and_true, true_and, L2.V.bl.injEq, L2.V.int.injEq, L2.V.str.injEq, L2.V.ref.injEq, List.set_cons_zero, List.set_cons_succ, List.map_cons, List.map_nil, List.length_cons, List.length_nil, List.replicate, List.cons_append, List.nil_append, List.append_nil, Nat.reduceSub, Nat.reduceAdd])
section
variable {P : Program} {w : World} {K : PySem.W.Frag} {mg : PySem.Str → Option Value} {base : Heap}
/-! ### is_integer, is_row -/
def isRow (n : String) : Bool := decide (n = "list") || decide (n = "tuple")
def sp_is_row (K : PySem.W.Frag) : Sp := fun vs H Q _ => ∃ v n, vs = [v] ∧ Srt K H v n ∧ ∀ H', Same H H' → Q (.bl (isRow n)) H'
theorem ok_is_row (T : Txt K mg) : Cal P w K mg base 1 "is_row" ["thing"] (sp_is_row K) := by
  obtain ⟨fd, F⟩ := T.d_is_row
  refine cal_of F T.g_is_row (F.bindsN fun _ _ _ _ _ _ us hl => match us, hl with | [_], _ => rfl) ?_
  refine F.ok sc_is_row (fun vs H Q E h => ?_) (fun cdv A outer s H vs Q E hr h => ?_)
  · obtain ⟨v, n, rfl, _⟩ := h
    rfl
  · refine ⟨_, PSs.nox (pss_one (ps_ret (pe_callB call_isiT rfl T.b_isinstance (by decide +kernel) (pa_cons (pv 0) (pa_cons (pe_tup (pa_cons (pe_bltn (v := .ty "list") rfl T.b_list (by decide +kernel) rfl) (pa_cons (pe_bltn (v := .ty "tuple") rfl T.b_tuple (by decide +kernel) rfl) pa_nil))) pa_nil))))), ?_⟩
    obtain ⟨v, n, rfl, sr, q⟩ := h
    walk_at "rd"
    refine ⟨by decide, fun p hp => ?_⟩
    exact ⟨v, p, _, _, _, _, rfl, upd_same, .cons (.ty _) (.cons (.ty _) .nil), (Srt.same (Same.new hp) sr).1, list_tuple_b n sr.2, q _ (Same.new hp)⟩
/-! ### is_text_of -/
def isTx (signs : PySem.Str) : V → Bool
  | .str s => decide (1 ≤ s.length) && (decide (s.length ≤ 8) && s.cps.toList.all fun c => decide (c ∈ signs.cps.toList))
  | _ => false
def sp_is_text_of (K : PySem.W.Frag) : Sp := fun vs H Q _ => ∃ v n signs, vs = [v, .str signs] ∧ Srt K H v n ∧ (∀ s, v = .str s → s.length ≤ sizeLine) ∧ ∀ H', Same H H' → Q (.bl (isTx signs v)) H'
theorem ok_is_text_of (T : Txt K mg) : Cal P w K mg base 1 "is_text_of" ["thing", "signs"] (sp_is_text_of K) := by
  obtain ⟨fd, F⟩ := T.d_is_text_of
  obtain ⟨tk, h_MOST_SIGNS⟩ := T.c_MOST_SIGNS
  refine cal_of F T.g_is_text_of (F.bindsN fun _ _ _ _ _ _ us hl => match us, hl with | [_, _], _ => rfl) ?_
  refine F.ok sc_is_text_of (fun vs H Q E h => ?_) (fun cdv A outer s H vs Q E hr h => ?_)
  · obtain ⟨v, n, sg, rfl, _⟩ := h
    rfl
  · refine ⟨_, PSs.nox (pss_one (ps_ret (pe_and (pe_callB (r := rIsi K) call_isi rfl T.b_isinstance (by decide +kernel) (pa_cons (pv 0) (pa_cons (pe_bltn (v := .ty "str") rfl T.b_str (by decide +kernel) rfl) pa_nil))) (pe_and (pe_chain op_le op_le pe_int (pe_callB call_len rfl T.b_len (by decide +kernel) (pa_cons (pv 0) pa_nil)) (pe_glob (v := .int 8) rfl h_MOST_SIGNS ⟨_, rfl⟩)) (pe_one (pe_callB (cr_all rfl) rfl T.b_all (by decide +kernel) (pa_cons (pe_lc (own := [("sign", 2)]) (g := gName 2) (tt := tYes) rfl sc_is_text_of.nd (pi_str (pv 0)) (blkOk_by (own := [("sign", 2)]) (N := ["thing", "signs", "sign"]) (sc := defScope s_is_text_of) (by decide +kernel)) (fun _ _ _ _ _ => (pg_name (i := 2) sc_is_text_of.nd rfl (by first | exact Or.inl rfl | exact Or.inr rfl))) (fun _ _ _ _ _ => pts_nil) (fun _ _ _ _ _ => (pe_cmpR op_in_sign (pv 2) (pv 1) rfl))) pa_nil))))))), ?_⟩
    obtain ⟨v, n, sg, rfl, sr, hl, q⟩ := h
    walk_at "rd"
    refine isi_of sr (by decide) ?_
    walk_at "rd"
    refine ite2 (fun e => ?_) (fun e => ?_)
    · have hs : ∃ z, v = .str z := by
        have : n = "str" := by
          have : ∀ n ∈ sorts, (decide (n = "str") || (decide (n = "bool") && decide ("str" = "int"))) = true → n = "str" := by decide +kernel
          exact this n sr.2 e
        subst this
        exact srt_is_str sr
      obtain ⟨z, rfl⟩ := hs
      have hz := hl z rfl
      refine ⟨z.length, ⟨hz, rfl⟩, ?_⟩
      have len : z.length = z.cps.toList.length := by simp [PySem.Str.length]
      refine ite2 (fun e1 => ?_) (fun e1 => ?_)
      · have e1 : 1 ≤ z.length := by have := of_decide_eq_true e1; omega
        refine ite2 (fun e2 => ?_) (fun e2 => ?_)
        · have e2 : z.length ≤ 8 := by have := of_decide_eq_true e2; omega
          refine ⟨_, rfl, z, rfl, fun D hD => lc_map (walk_str (z := z)) hD (fun i => .bl (decide (z.cps.toList.getD i 0 ∈ sg.cps.toList))) (by rw [sizeLine_eq]; have : z.cps.size = z.length := rfl; omega) (fun _ _ => trivial) (fun i x H2 H3 hi s2 y => ?_) (hd := fun H2 s2 h2 => ?_)⟩
          · obtain ⟨rfl, c, hc, rfl⟩ := y
            refine ⟨Same.refl _, fun Kt hK => ⟨rfl, _, rfl, _, rfl, c, rfl, sg, rfl, ?_⟩⟩
            have : z.cps.toList.getD i 0 = c := by
              rw [List.getD_eq_getElem?_getD, Array.getElem?_toList, hc] <;> rfl
            have hk := hK _ (Same.refl _)
            rw [this] at hk
            exact hk
          · refine ⟨D, (List.range z.cps.size).map (fun i => decide (z.cps.toList.getD i 0 ∈ sg.cps.toList)), rfl, SqL.of (by rw [h2, List.map_map] <;> rfl), ?_⟩
            have := q H2 s2
            have e3 : isTx sg (.str z) = ((List.range z.cps.size).map (fun i => decide (z.cps.toList.getD i 0 ∈ sg.cps.toList))).all id := by
              show (decide (1 ≤ z.length) && (decide (z.length ≤ 8) && z.cps.toList.all fun c => decide (c ∈ sg.cps.toList))) = _
              rw [decide_eq_true e1, decide_eq_true e2, Bool.true_and, Bool.true_and, List.all_map]
              exact all_range z.cps.toList (by simp) _
            rw [e3] at this
            exact this
        · have e2 : ¬ z.length ≤ 8 := by simp at e2; omega
          have := q H (Same.refl H)
          simp only [isTx, decide_eq_false e2, Bool.false_and, Bool.and_false] at this
          exact this
      · have e1 : ¬ 1 ≤ z.length := by simp at e1; omega
        have := q H (Same.refl H)
        simp only [isTx, decide_eq_false e1, Bool.false_and] at this
        exact this
    · have := q H (Same.refl H)
      have e3 : isTx sg v = false := by
        cases v with
        | str z =>
          have : n = "str" := by
            cases sr.1 with
            | base b => cases b; rfl
          subst this
          exact absurd rfl e
        | _ => rfl
      rw [e3] at this
      exact this
end
end Rs
set_option Elab.async false
set_option linter.all false
set_option maxRecDepth 100000
set_option maxHeartbeats 2000000
/-! len({x for x in xs}): how many unlike ones there are. -/
namespace Rs
open PySem PySem.Spec PyProof.Rows L2
section
variable {α : Type} [DecidableEq α]
/-- how many unlike elements -/
def cnt : List α → Nat
  | [] => 0
  | x :: l => (if x ∈ l then 0 else 1) + cnt l
theorem cnt_snoc (x : α) : ∀ l : List α, cnt (l ++ [x]) = cnt l + if x ∈ l then 0 else 1
  | [] => by simp [cnt]
  | y :: l => by
    rw [List.cons_append, cnt, cnt, cnt_snoc x l]
    by_cases hx : x ∈ l
    · have h1 : (y ∈ l ++ [x]) ↔ y ∈ l := by
        simp only [List.mem_append, List.mem_singleton]
        exact ⟨fun h => h.elim id fun e => e ▸ hx, .inl⟩
      simp only [h1, hx, List.mem_cons, or_true, if_true]
      omega
    · by_cases hy : y = x
      · subst hy
        simp [hx]
        omega
      · have h1 : (y ∈ l ++ [x]) ↔ y ∈ l := by
          simp only [List.mem_append, List.mem_singleton, hy, or_false]
        have h2 : ¬ x ∈ y :: l := by simp [hx, Ne.symm hy]
        simp only [h1, hx, h2, if_false]
        omega
theorem cnt_le : ∀ l : List α, cnt l ≤ l.length
  | [] => Nat.le_refl _
  | x :: l => by
    have := cnt_le l
    rw [cnt, List.length_cons]
    split <;> omega
theorem cnt_all : ∀ l : List α, cnt l = l.length ↔ l.Nodup
  | [] => by simp [cnt]
  | x :: l => by
    have := cnt_le l
    rw [cnt, List.length_cons, List.nodup_cons, ← cnt_all l]
    by_cases h : x ∈ l
    · simp only [h, if_true, not_true, false_and, iff_false]
      omega
    · simp only [h, if_false, not_false_eq_true, true_and]
      omega
theorem cnt_take {l : List α} {i : Nat} {x : α} (h : l[i]? = some x) : cnt (l.take (i + 1)) = cnt (l.take i) + if x ∈ l.take i then 0 else 1 := by
  rw [take_next h, cnt_snoc]
end
/-- the loop of a set comprehension -/
abbrev ScW (J : It) (Z : Addr → HO) (ad : V → List V → Hp → VK → Prop) (g : TG) (tt : TT) (te : TE) (vs : List Nat) (σ : L2.St) (D : Addr) (H0 : Hp) (Qd : Hp → Prop) : Prop :=
  ∃ W : Nat → Nat → Hp → Prop, (∃ m, W 0 m H0) ∧ ∀ i m H, W i m H →
      (J.stop i H ∧ Qd H) ∨ (J.go i H ∧ ∃ Nx : Hp → Prop, (∀ H', Nx H' → ∃ m', m' < m ∧ W (i + 1) m' H') ∧ ∀ x H', J.yld i H x H' → g x (wipe σ vs) H' fun σ2 H2 => wipe σ2 vs = wipe σ vs ∧ tt σ2 H2 fun b H3 =>
        if b = true then te σ2 H3 fun y H4 => ad (.ref D) [y] H4 fun _ H5 => Nx H5 else Nx H3)
theorem sc_it {J : It} {n : Nat} {G : Hp → Prop} {Y : Nat → Hp → V → Hp → Prop} (w : Walk J n G Y) {Z : Addr → HO} {ad : V → List V → Hp → VK → Prop} {g : TG} {tt : TT} {te : TE} {vs : List Nat} {σ : L2.St} {D : Addr} {H0 : Hp} {Qd : Hp → Prop} (Pv : Nat → Hp → Prop) (h0 : Pv 0 H0) (hG : ∀ i H, i ≤ n → Pv i H → G H)
    (hs : ∀ i x H H', i < n → Pv i H → Y i H x H' → g x (wipe σ vs) H' fun σ2 H2 => wipe σ2 vs = wipe σ vs ∧ tt σ2 H2 fun b H3 =>
      if b = true then te σ2 H3 fun y H4 => ad (.ref D) [y] H4 fun _ H5 => Pv (i + 1) H5 else Pv (i + 1) H3) (hd : ∀ H, Pv n H → Qd H) : ScW J Z ad g tt te vs σ D H0 Qd := by
  refine ⟨fun i m H => m = n - i ∧ i ≤ n ∧ Pv i H, ⟨n, by simp, Nat.zero_le _, h0⟩, ?_⟩
  rintro i m H ⟨rfl, hi, p⟩
  have q := hG i H hi p
  by_cases hlt : i < n
  · exact .inr ⟨w.goes i H hlt q, Pv (i + 1), fun H' p' => ⟨n - (i + 1), by omega, rfl, hlt, p'⟩, fun x H' y => hs i x H H' hlt p (w.yields i H x H' hlt q y)⟩
  · have e : i = n := by omega
    subst e
    exact .inl ⟨w.stops H q, hd H p⟩
section
variable {P : Program} {w : World} {K : PySem.W.Frag}
abbrev Zk (P : Program) (w : World) : Addr → HO := fun D => SetK P w D (fun _ => false) 0
abbrev Zt (P : Program) (w : World) : Addr → HO := fun D => SetT P w D []
theorem walk_lm {α : Type} {a : Addr} {f : α → V} {ss : List α} : Walk (Itl K a) ss.length (fun H => SqL K H a (ss.map f)) (YAt (ss.map f)) := by
  have := walk_list (K := K) (a := a) (xs := ss.map f)
  rwa [List.length_map] at this
theorem walk_tm {α : Type} {a : Addr} {f : α → V} {ss : List α} : Walk (Itt K a) ss.length (fun H => SqT K H a (ss.map f)) (YAt (ss.map f)) := by
  have := walk_tup (K := K) (a := a) (xs := ss.map f)
  rwa [List.length_map] at this
def inTx (l : List PySem.Str) : Key → Bool
  | .inr z => decide (z ∈ l)
  | .inl _ => false
/-- the texts of a row, each as it is -/
theorem sc_txts {J : It} {ss : List PySem.Str} {G : Hp → Prop} (wk : Walk J ss.length G (YAt (ss.map V.str))) {j : Nat} {σ : L2.St} {H1 : Hp} {D : Addr} {Qd : Hp → Prop} (hD : H1 D = none) (hG : ∀ H, Same H1 H → G H) (hj : j < σ.length) (hn : ss.length + 1 < scanBound)
    (hd : ∀ H S, Same H1 H → H D = some (SetK P w D S (cnt ss)) → Qd H) : ScW J (Zk P w) (rSAddK P w) (gName j) tYes (tVar j) [j] σ D (upd H1 D (Zk P w D)) Qd := by
  refine sc_it wk (fun i H => Same H1 H ∧ H D = some (SetK P w D (inTx (ss.take i)) (cnt (ss.take i)))) ⟨Same.new hD, ?_⟩ (fun i H _ p => hG H p.1) (fun i x H H' hi p y => ?_) (fun H p => hd H _ p.1 (by have := p.2; rw [List.take_length] at this; exact this))
  · rw [upd_same]
    have : (fun _ => false) = inTx (ss.take 0) := by funext k; cases k <;> simp [inTx]
    show some (SetK P w D _ _) = _
    rw [this]
    rfl
  · obtain ⟨rfl, hx⟩ := y
    rw [List.getElem?_map] at hx
    obtain ⟨z, hz⟩ : ∃ z, ss[i]? = some z := ⟨_, List.getElem?_eq_getElem hi⟩
    rw [hz] at hx
    cases Option.some.inj hx
    refine ⟨by simp [wipe, List.set_set], ?_⟩
    refine ⟨.str z, ?_, D, Sum.inr z, _, _, rfl, rfl, p.2, ?_, ?_, ?_⟩
    · rw [List.getElem?_set_self (by rw [wipe_length]; exact hj)]
    · have := cnt_le (ss.take i)
      have := List.length_take_le i ss
      omega
    · intro a o e
      rw [upd_ne (ne_of_none e hD)]
      exact p.1 _ _ e
    · rw [upd_same]
      congr 1
      have e1 : (fun j : Key => inTx (ss.take i) j || decide (j = (Sum.inr z : Key))) = inTx (ss.take (i + 1)) := by
        funext k
        rw [take_next hz]
        cases k with
        | inl a => simp [inTx]
        | inr a => simp [inTx, List.mem_append, Bool.decide_or]
      have e2 : (if inTx (ss.take i) (Sum.inr z) = true then cnt (ss.take i) else cnt (ss.take i) + 1) = cnt (ss.take (i + 1)) := by
        rw [cnt_take hz]
        by_cases h : z ∈ ss.take i
        · simp [inTx, h]
        · simp [inTx, h]
      show SetK P w D _ _ = SetK P w D _ _
      rw [e1, e2]
theorem map_inj {α β : Type} {f : α → β} (hf : ∀ x y, f x = f y → x = y) : ∀ {l m : List α}, l.map f = m.map f → l = m
  | [], [], _ => rfl
  | [], _ :: _, e => nomatch e
  | _ :: _, [], e => nomatch e
  | x :: l, y :: m, e => by
    obtain ⟨e1, e2⟩ := List.cons.inj e
    rw [hf x y e1, map_inj hf e2]
/-- the rows of a row -/
theorem sc_rows {J : It} {bs : List Addr} {ks : List (List PySem.Str)} {G : Hp → Prop} (wk : Walk J bs.length G (YAt (bs.map V.ref))) {j : Nat} {σ : L2.St} {H1 : Hp} {D : Addr} {Qd : Hp → Prop} (hD : H1 D = none) (hG : ∀ H, Same H1 H → G H) (hj : j < σ.length) (hn : bs.length < 63)
    (hk : Paired (fun k b => RowAt K H1 b k) ks bs)
    (hd : ∀ H L, Same H1 H → H D = some (SetT P w D L) → L.length = cnt ks → Qd H) : ScW J (Zt P w) (rAddT K P w) (gName j) tYes (tVar j) [j] σ D (upd H1 D (Zt P w D)) Qd := by
  have hlen : ks.length = bs.length := Paired.length hk
  have at_ : ∀ {ks : List (List PySem.Str)} {bs : List Addr}, Paired (fun k b => RowAt K H1 b k) ks bs → ∀ (i : Nat) (b : Addr), bs[i]? = some b → ∃ k, ks[i]? = some k ∧ RowAt K H1 b k := by
    intro ks bs h
    induction h with
    | nil => intro i b e; simp at e
    | cons h1 _ ih =>
      intro i b e
      cases i with
      | zero => simp at e; subst e; exact ⟨_, rfl, h1⟩
      | succ i => simp at e; obtain ⟨k, e1, e2⟩ := ih i b e; exact ⟨k, by simpa using e1, e2⟩
  let toK : List PySem.Str → List Key := fun k => k.map Sum.inr
  have inj : ∀ a b : List PySem.Str, toK a = toK b → a = b := fun a b e => map_inj (fun x y h => Sum.inr.inj h) e
  have kvmap : ∀ k : List PySem.Str, (toK k).map kV = k.map V.str := fun k => by simp [toK, kV, Function.comp_def]
  refine sc_it wk (fun i H => Same H1 H ∧ ∃ L : List (Addr × List Key), H D = some (SetT P w D L) ∧ L.length = cnt (ks.take i) ∧ (∀ p ∈ L, SqT K H1 p.1 (p.2.map kV)) ∧ ∀ k, k ∈ L.map (·.2) ↔ k ∈ (ks.take i).map toK)
    ⟨Same.new hD, [], upd_same, by simp [cnt], fun p hp => by simp at hp, by simp⟩ (fun i H _ p => hG H p.1) (fun i x H H' hi p y => ?_) (fun H p => ?_)
  · obtain ⟨rfl, hx⟩ := y
    rw [List.getElem?_map] at hx
    obtain ⟨b, hb⟩ : ∃ b, bs[i]? = some b := ⟨_, List.getElem?_eq_getElem hi⟩
    rw [hb] at hx
    cases Option.some.inj hx
    obtain ⟨s1, L, hL, hl, hq, hm⟩ := p
    obtain ⟨k, ek, hr⟩ := at_ hk i b hb
    refine ⟨by simp [wipe, List.set_set], ?_⟩
    have hle := cnt_le (ks.take i)
    have hle2 := List.length_take_le i ks
    refine ⟨.ref b, List.getElem?_set_self (by rw [wipe_length]; exact hj), D, b, toK k, L, rfl, rfl, hL, ?_, fun p hp => Same.tq s1 (hq p hp), by omega, fun L' h1 h2 => ⟨?_, L', upd_same, ?_, ?_, ?_⟩⟩
    · rw [kvmap]
      exact Same.tq s1 hr
    · intro a o e
      rw [upd_ne (ne_of_none e hD)]
      exact s1 _ _ e
    · rw [cnt_take ek]
      by_cases h : k ∈ ks.take i
      · rw [h1 ((hm _).mpr (List.mem_map.mpr ⟨k, h, rfl⟩)), hl, if_pos h, Nat.add_zero]
      · rw [(h2 fun z => h (by obtain ⟨k', h', e'⟩ := List.mem_map.mp ((hm _).mp z); exact inj _ _ e' ▸ h')).length_eq, List.length_cons, hl, if_neg h]
    · intro p hp
      by_cases h : k ∈ ks.take i
      · rw [h1 ((hm _).mpr (List.mem_map.mpr ⟨k, h, rfl⟩))] at hp
        exact hq p hp
      · rcases List.mem_cons.mp ((h2 fun z => h (by obtain ⟨k', h', e'⟩ := List.mem_map.mp ((hm _).mp z); exact inj _ _ e' ▸ h')).mem_iff.mp hp) with rfl | hp
        · rw [kvmap]; exact hr
        · exact hq p hp
    · intro k2
      rw [take_next ek, List.map_append, List.mem_append, ← hm k2]
      by_cases h : k ∈ ks.take i
      · rw [h1 ((hm _).mpr (List.mem_map.mpr ⟨k, h, rfl⟩))]
        refine ⟨.inl, fun z => z.elim id fun z => ?_⟩
        rw [List.map_cons, List.map_nil, List.mem_singleton] at z
        rw [z]
        exact (hm _).mpr (List.mem_map.mpr ⟨k, h, rfl⟩)
      · rw [((h2 fun z => h (by obtain ⟨k', h', e'⟩ := List.mem_map.mp ((hm _).mp z); exact inj _ _ e' ▸ h')).map (·.2)).mem_iff]
        simp only [List.map_cons, List.map_nil, List.mem_cons, List.not_mem_nil, or_false]
        exact Or.comm
  · obtain ⟨s1, L, hL, hl, _⟩ := p
    rw [← hlen, List.take_length] at hl
    exact hd H L s1 hL hl
end
end Rs
set_option Elab.async false
set_option linter.all false
set_option maxRecDepth 100000
set_option maxHeartbeats 2000000
namespace Rs
open PySem PySem.Spec PyProof.Rows L2
local macro_rules | `(tactic| walk_at "rd") => `(tactic| simp only [L2.tRet, L2.tRetN, L2.tSeq, L2.tNext, L2.tIfS, L2.tAsg, L2.gName, L2.gNil, L2.gCons, L2.tVar, L2.tC, L2.tOp, L2.tUn, L2.tCB, L2.tCons, L2.tNil, L2.tAndV, L2.tOrV, L2.tNotV, L2.tAnd, L2.tOr, L2.tNot, L2.tB, L2.tTest, L2.tIf, L2.tChain, L2.tTup, L2.tLst, L2.tDrop, L2.start, L2.cxOf, L2.Cx.nox, L2.Cx.wish, L2.rI0, L2.rI, L2.tYes, Rs.tCalW, List.getElem?_cons_zero, List.getElem?_cons_succ, Option.some.injEq, exists_eq_left', exists_eq_left, exists_and_left, List.cons.injEq, and_true, true_and, L2.V.bl.injEq, L2.V.int.injEq, L2.V.str.injEq, L2.V.ref.injEq, List.set_cons_zero, List.set_cons_succ, List.map_cons, List.map_nil, List.length_cons, List.length_nil, List.replicate, List.cons_append, List.nil_append, List.append_nil, Nat.reduceSub, Nat.reduceAdd])
section
variable {P : Program} {w : World} {K : PySem.W.Frag} {mg : PySem.Str → Option Value} {base : Heap}
abbrev StrOk (v : V) : Prop := ∀ s, v = .str s → s.length ≤ sizeLine
abbrev smallS : PySem.Str := "abcdefghijklmnopqrstuvwxyz"
abbrev largeS : PySem.Str := "ABCDEFGHIJKLMNOPQRSTUVWXYZ"
abbrev isName (v : V) : Bool := isTx smallS v
abbrev isError (v : V) : Bool := isTx largeS v
def isWord (v : V) : Bool := isError v || (decide (v = .str "yes") || decide (v = .str "no"))
def sp_is_name (K : PySem.W.Frag) : Sp := fun vs H Q _ => ∃ v n, vs = [v] ∧ Srt K H v n ∧ StrOk v ∧ ∀ H', Same H H' → Q (.bl (isName v)) H'
def sp_is_error (K : PySem.W.Frag) : Sp := fun vs H Q _ => ∃ v n, vs = [v] ∧ Srt K H v n ∧ StrOk v ∧ ∀ H', Same H H' → Q (.bl (isError v)) H'
def sp_is_word (K : PySem.W.Frag) : Sp := fun vs H Q _ => ∃ v n, vs = [v] ∧ Srt K H v n ∧ StrOk v ∧ ∀ H', Same H H' → Q (.bl (isWord v)) H'
theorem ok_is_name (T : Txt K mg) : Cal P w K mg base 2 "is_name" ["thing"] (sp_is_name K) := by
  have c_is_text_of := ok_is_text_of (P := P) (w := w) (base := base) T
  obtain ⟨fd, F⟩ := T.d_is_name
  obtain ⟨tk, h_SMALL⟩ := T.c_SMALL
  refine cal_of F T.g_is_name (F.bindsN fun _ _ _ _ _ _ us hl => match us, hl with | [_], _ => rfl) ?_
  refine F.ok sc_is_name (fun vs H Q E h => ?_) (fun cdv A outer s H vs Q E hr h => ?_)
  · obtain ⟨v, n, rfl, _⟩ := h
    rfl
  · refine ⟨_, PSs.nox (pss_one (ps_ret (pe_cal c_is_text_of (hr.mono (by decide)) takes0 (pa_cons (pv 0) (pa_cons (pe_glob (v := .str "abcdefghijklmnopqrstuvwxyz") rfl h_SMALL ⟨_, rfl⟩) pa_nil))))), ?_⟩
    obtain ⟨v, n, rfl, sr, ok, q⟩ := h
    walk_at "rd"
    exact ⟨v, n, _, rfl, sr, ok, q⟩
theorem ok_is_error (T : Txt K mg) : Cal P w K mg base 2 "is_error" ["thing"] (sp_is_error K) := by
  have c_is_text_of := ok_is_text_of (P := P) (w := w) (base := base) T
  obtain ⟨fd, F⟩ := T.d_is_error
  obtain ⟨tk, h_LARGE⟩ := T.c_LARGE
  refine cal_of F T.g_is_error (F.bindsN fun _ _ _ _ _ _ us hl => match us, hl with | [_], _ => rfl) ?_
  refine F.ok sc_is_error (fun vs H Q E h => ?_) (fun cdv A outer s H vs Q E hr h => ?_)
  · obtain ⟨v, n, rfl, _⟩ := h
    rfl
  · refine ⟨_, PSs.nox (pss_one (ps_ret (pe_cal c_is_text_of (hr.mono (by decide)) takes0 (pa_cons (pv 0) (pa_cons (pe_glob (v := .str "ABCDEFGHIJKLMNOPQRSTUVWXYZ") rfl h_LARGE ⟨_, rfl⟩) pa_nil))))), ?_⟩
    obtain ⟨v, n, rfl, sr, ok, q⟩ := h
    walk_at "rd"
    exact ⟨v, n, _, rfl, sr, ok, q⟩
theorem ok_is_word (T : Txt K mg) : Cal P w K mg base 3 "is_word" ["thing"] (sp_is_word K) := by
  have c_is_error := ok_is_error (P := P) (w := w) (base := base) T
  obtain ⟨fd, F⟩ := T.d_is_word
  obtain ⟨a_ANSWERS, h_ANSWERS, tA⟩ := T.c_ANSWERS
  refine cal_of F T.g_is_word (F.bindsN fun _ _ _ _ _ _ us hl => match us, hl with | [_], _ => rfl) ?_
  refine F.ok sc_is_word (fun vs H Q E h => ?_) (fun cdv A outer s H vs Q E hr h => ?_)
  · obtain ⟨v, n, rfl, _⟩ := h
    rfl
  · refine ⟨_, PSs.nox (pss_one (ps_ret (pe_or (pe_cal c_is_error (hr.mono (by decide)) takes0 (pa_cons (pv 0) pa_nil)) (pe_one (pe_and (pe_callB (r := rIsi K) call_isi rfl T.b_isinstance (by decide +kernel) (pa_cons (pv 0) (pa_cons (pe_bltn (v := .ty "str") rfl T.b_str (by decide +kernel) rfl) pa_nil))) (pe_one (pe_cmpR op_in_seq (pv 0) (pe_glob (v := .ref a_ANSWERS) rfl h_ANSWERS rfl) rfl))))))), ?_⟩
    obtain ⟨v, n, rfl, sr, ok, q⟩ := h
    walk_at "rd"
    refine ⟨v, n, rfl, sr, ok, fun H1 s1 => ?_⟩
    walk_at "rd"
    refine ite2 (fun e => ?_) (fun e => ?_)
    · have := q H1 s1
      rw [isWord, e, Bool.true_or] at this
      exact this
    · refine isi_is (Srt.same s1 sr) (by decide) ?_
      walk_at "rd"
      have e' : isError v = false := by simpa using e
      have q1 := q H1 s1
      rw [isWord, e', Bool.false_or] at q1
      refine ite2 (fun e1 => ?_) (fun e1 => ?_)
      · have := of_decide_eq_true e1
        subst this
        obtain ⟨z, rfl⟩ := srt_is_str sr
        refine ⟨a_ANSWERS, _, rfl, .inr (tA H1), rfl, rfl, ?_⟩
        have e2 : inV (.str z) (List.map V.str ["yes", "no"]) = (decide (V.str z = .str "yes") || decide (V.str z = .str "no")) := by
          simp only [inV, List.map_cons, List.map_nil, List.any_cons, List.any_nil, Bool.or_false, eqV, str_beq, V.str.injEq]
        show Q (.bl (inV (.str z) (List.map V.str ["yes", "no"]))) H1
        rw [e2]
        exact q1
      · have e2 : (decide (v = .str "yes") || decide (v = .str "no")) = false := by
          cases v with
          | str z => exact absurd (decide_eq_true (srt_str_eq sr)) e1
          | _ => rfl
        rw [e2] at q1
        exact q1
/-! ### are_unlike -/
theorem unlike_dec {α : Type} [DecidableEq α] (l : List α) : decide (V.int (cnt l : Nat) = V.int (l.length : Nat)) = decide l.Nodup := by
  have h := cnt_all l
  by_cases e : l.Nodup
  · rw [decide_eq_true e, h.mpr e]
    simp
  · rw [decide_eq_false e]
    refine decide_eq_false fun z => e (h.mp ?_)
    have := V.int.inj z
    omega
def sp_are_unlike (K : PySem.W.Frag) : Sp := fun vs H Q _ => ∃ p, vs = [.ref p] ∧
  ((∃ ss : List PySem.Str, (SqL K H p (ss.map V.str) ∨ SqT K H p (ss.map V.str)) ∧ ss.length ≤ 4000 ∧ ∀ H', Same H H' → Q (.bl (decide ss.Nodup)) H') ∨
   (∃ (bs : List Addr) (ks : List (List PySem.Str)), SqL K H p (bs.map V.ref) ∧ bs.length < 60 ∧ Paired (fun k b => RowAt K H b k) ks bs ∧ ∀ H', Same H H' → Q (.bl (decide ks.Nodup)) H'))
theorem ok_are_unlike (T : Txt K mg) : Cal P w K mg base 1 "are_unlike" ["some"] (sp_are_unlike K) := by
  obtain ⟨fd, F⟩ := T.d_are_unlike
  refine cal_of F T.g_are_unlike (F.bindsN fun _ _ _ _ _ _ us hl => match us, hl with | [_], _ => rfl) ?_
  refine F.ok sc_are_unlike (fun vs H Q E h => ?_) (fun cdv A outer s H vs Q E hr h => ?_)
  · obtain ⟨v, rfl, _⟩ := h
    rfl
  · have hu := hu_of hr
    obtain ⟨p, rfl, ⟨ss, hp | hp, hz, q⟩ | ⟨bs, ks, hp, hz, hk, q⟩⟩ := h
    · refine ⟨_, PSs.nox (pss_one (ps_ret (pe_cmpR op_eq (pe_callB cr_lenSet rfl T.b_len (by decide +kernel) (pa_cons (pe_scg (own := [("one", 1)]) (g := gName 1) (tt := tYes) (Z := Zk P w) (ad := rSAddK P w) setK_lay (fun _ _ _ _ => mt_saddK) rfl sc_are_unlike.nd (pi_list (pv 0)) (blkOk_by (own := [("one", 1)]) (N := ["some", "one"]) (sc := defScope s_are_unlike) (by decide +kernel)) (fun _ _ _ _ _ => (pg_name (i := 1) sc_are_unlike.nd rfl (by first | exact Or.inl rfl | exact Or.inr rfl))) (fun _ _ _ _ _ => pts_nil) (fun _ _ _ _ _ => (pv 1))) pa_nil)) (pe_callB call_len_seq rfl T.b_len (by decide +kernel) (pa_cons (pv 0) pa_nil)) (nomark _)))), ?_⟩
      walk_at "rd"
      refine ⟨.ref p, rfl, p, rfl, ⟨_, hp⟩, fun D hD => sc_txts (ss := ss) walk_lm hD (fun H2 s2 => Same.seq s2 hp) (by simp) (by show _ < 4096; omega) fun H2 S s2 h2 => ?_⟩
      refine ⟨D, cnt ss, rfl, .inr ⟨S, h2⟩, _, .inl (Same.seq s2 hp), rfl, ?_⟩
      rw [List.length_map, unlike_dec]
      exact q H2 s2
    · refine ⟨_, PSs.nox (pss_one (ps_ret (pe_cmpR op_eq (pe_callB cr_lenSet rfl T.b_len (by decide +kernel) (pa_cons (pe_scg (own := [("one", 1)]) (g := gName 1) (tt := tYes) (Z := Zk P w) (ad := rSAddK P w) setK_lay (fun _ _ _ _ => mt_saddK) rfl sc_are_unlike.nd (pi_tup (pv 0)) (blkOk_by (own := [("one", 1)]) (N := ["some", "one"]) (sc := defScope s_are_unlike) (by decide +kernel)) (fun _ _ _ _ _ => (pg_name (i := 1) sc_are_unlike.nd rfl (by first | exact Or.inl rfl | exact Or.inr rfl))) (fun _ _ _ _ _ => pts_nil) (fun _ _ _ _ _ => (pv 1))) pa_nil)) (pe_callB call_len_seq rfl T.b_len (by decide +kernel) (pa_cons (pv 0) pa_nil)) (nomark _)))), ?_⟩
      walk_at "rd"
      refine ⟨.ref p, rfl, p, rfl, ⟨_, hp⟩, fun D hD => sc_txts (ss := ss) walk_tm hD (fun H2 s2 => Same.tq s2 hp) (by simp) (by show _ < 4096; omega) fun H2 S s2 h2 => ?_⟩
      refine ⟨D, cnt ss, rfl, .inr ⟨S, h2⟩, _, .inr (Same.tq s2 hp), rfl, ?_⟩
      rw [List.length_map, unlike_dec]
      exact q H2 s2
    · refine ⟨_, PSs.nox (pss_one (ps_ret (pe_cmpR op_eq (pe_callB cr_lenSet rfl T.b_len (by decide +kernel) (pa_cons (pe_scg (own := [("one", 1)]) (g := gName 1) (tt := tYes) (Z := Zt P w) (ad := rAddT K P w) setT_lay (fun _ _ _ _ => mt_addT (by exact hu)) rfl sc_are_unlike.nd (pi_list (pv 0)) (blkOk_by (own := [("one", 1)]) (N := ["some", "one"]) (sc := defScope s_are_unlike) (by decide +kernel)) (fun _ _ _ _ _ => (pg_name (i := 1) sc_are_unlike.nd rfl (by first | exact Or.inl rfl | exact Or.inr rfl))) (fun _ _ _ _ _ => pts_nil) (fun _ _ _ _ _ => (pv 1))) pa_nil)) (pe_callB call_len_seq rfl T.b_len (by decide +kernel) (pa_cons (pv 0) pa_nil)) (nomark _)))), ?_⟩
      walk_at "rd"
      refine ⟨.ref p, rfl, p, rfl, ⟨_, hp⟩, fun D hD => sc_rows (ks := ks) (bs := bs) walk_lm hD (fun H2 s2 => Same.seq s2 hp) (by simp) (by omega) hk fun H2 L s2 h2 hl => ?_⟩
      refine ⟨D, cnt ks, rfl, .inl ⟨L, h2, hl.symm⟩, _, .inl (Same.seq s2 hp), rfl, ?_⟩
      rw [List.length_map, ← Paired.length hk, unlike_dec]
      exact q H2 s2
end
end Rs
set_option Elab.async false
set_option linter.all false
set_option maxRecDepth 100000
set_option maxHeartbeats 2000000
namespace Rs
open PySem PySem.Spec PyProof.Rows L2
local macro_rules | `(tactic| walk_at "rd") => `(tactic| simp only [L2.tRet, L2.tRetN, L2.tSeq, L2.tNext, L2.tIfS, L2.tAsg, L2.gName, L2.gNil, L2.gCons, L2.tVar, L2.tC, L2.tOp, L2.tUn, L2.tCB, L2.tCons, L2.tNil, L2.tAndV, L2.tOrV, L2.tNotV, L2.tAnd, L2.tOr, L2.tNot, L2.tB, L2.tTest, L2.tIf, L2.tChain, L2.tTup, L2.tLst, L2.tDrop, L2.start, L2.cxOf, L2.Cx.nox, L2.Cx.wish, L2.rI0, L2.rI, L2.tYes, Rs.tCalW, List.getElem?_cons_zero, List.getElem?_cons_succ, Option.some.injEq, exists_eq_left', exists_eq_left, exists_and_left, List.cons.injEq, and_true, true_and, L2.V.bl.injEq, L2.V.int.injEq, L2.V.str.injEq, L2.V.ref.injEq, List.set_cons_zero, List.set_cons_succ, List.map_cons, List.map_nil, List.length_cons, List.length_nil, List.replicate, List.cons_append, List.nil_append, List.append_nil, Nat.reduceSub, Nat.reduceAdd])

section
variable {P : Program} {w : World} {K : PySem.W.Frag} {mg : PySem.Str → Option Value} {base : Heap}
/-- a thing of which we know the sort, and, if it is a text, that it fits -/
def Any (K : PySem.W.Frag) (H : Hp) (x : V) : Prop := (∃ m, Srt K H x m) ∧ StrOk x
theorem Any.same {H H' : Hp} {x : V} (e : Same H H') (h : Any K H x) : Any K H' x := ⟨h.1.imp fun _ z => Srt.same e z, h.2⟩
abbrev SqR (K : PySem.W.Frag) (H : Hp) (p : Addr) (xs : List V) : Prop := SqL K H p xs ∨ SqT K H p xs
theorem SqR.same {H H' : Hp} {p : Addr} {xs : List V} (e : Same H H') (h : SqR K H p xs) : SqR K H' p xs := h.elim (fun h => .inl (Same.seq e h)) fun h => .inr (Same.tq e h)
theorem SqR.srt {H : Hp} {p : Addr} {xs : List V} (h : SqR K H p xs) : ∃ n, Srt K H (.ref p) n ∧ isRow n = true := h.elim (fun h => ⟨_, srt_lq h, rfl⟩) fun h => ⟨_, srt_tq h, rfl⟩
/-! ### is_pair, of a row -/
def pairB (p1 p2 : V → Bool) : List V → Bool
  | [a, b] => p1 a && p2 b
  | _ => false
def sp_is_pair (K : PySem.W.Frag) (f1 f2 : Addr) (p1 p2 : V → Bool) : Sp := fun vs H Q _ => ∃ v n, vs = [v, .ref f1, .ref f2] ∧ Srt K H v n ∧ ((isRow n = false ∧ ∀ H', Same H H' → Q (.bl false) H') ∨
  ∃ p xs, v = .ref p ∧ SqR K H p xs ∧ (xs.length = 2 → ∀ x ∈ xs, Any K H x) ∧ ∀ H', Same H H' → Q (.bl (pairB p1 p2 xs)) H')
/-- a test of any thing -/
def spAny (K : PySem.W.Frag) (p : V → Bool) : Sp := fun vs H Q _ => ∃ v n, vs = [v] ∧ Srt K H v n ∧ StrOk v ∧ ∀ H', Same H H' → Q (.bl (p v)) H'
theorem pair_shape {xs : List V} (h : xs.length = 2) : ∃ a b, xs = [a, b] := by
  match xs, h with
  | [a, b], _ => exact ⟨a, b, rfl⟩
theorem pairB_no {p1 p2 : V → Bool} {xs : List V} (h : xs.length ≠ 2) : pairB p1 p2 xs = false := by
  match xs, h with
  | [], _ => rfl
  | [_], _ => rfl
  | [_, _], h => exact absurd rfl h
  | _ :: _ :: _ :: _, _ => rfl
theorem ok_is_pair {k : Nat} {x1 x2 : PySem.Str} {f1 f2 : Addr} {p1 p2 : V → Bool} (T : Txt K mg) (c_1 : Cal P w K mg base 3 x1 ["thing"] (spAny K p1)) (c_2 : Cal P w K mg base 3 x2 ["thing"] (spAny K p2)) (g1 : mg x1 = some (.ref f1)) (g2 : mg x2 = some (.ref f2)) :
    Cal P w K mg base 4 "is_pair" ["thing", "first", "second"] (sp_is_pair K f1 f2 p1 p2) := by
  have c_is_row := ok_is_row (P := P) (w := w) (base := base) T
  obtain ⟨fd, F⟩ := T.d_is_pair
  refine cal_of F T.g_is_pair (F.bindsN fun _ _ _ _ _ _ us hl => match us, hl with | [_, _, _], _ => rfl) ?_
  refine F.ok sc_is_pair (fun vs H Q E h => ?_) (fun cdv A outer s H vs Q E hr h => ?_)
  · obtain ⟨v, n, rfl, _⟩ := h
    rfl
  · obtain ⟨v, n, rfl, sr, ⟨hn, q⟩ | ⟨p, xs, rfl, hp, hx, q⟩⟩ := h
    · refine ⟨_, PSs.nox (pss_one (ps_ret (pe_and (pe_cal c_is_row (hr.mono (by decide)) takes0 (pa_cons (pv 0) pa_nil)) (pe_and (pe_cmpR op_eq (pe_callB call_len_seq rfl T.b_len (by decide +kernel) (pa_cons (pv 0) pa_nil)) pe_int (nomark _)) (pe_and (pe_calL (i := 1) c_1 g1 (hr.mono (by decide)) rfl (.inl rfl) (pa_cons (pe_ix ix_list (pv 0) pe_int (fun _ _ => rfl)) pa_nil)) (pe_one (pe_calL (i := 2) c_2 g2 (hr.mono (by decide)) rfl (.inl rfl) (pa_cons (pe_ix ix_list (pv 0) pe_int (fun _ _ => rfl)) pa_nil)))))))), ?_⟩
      walk_at "rd"
      refine ⟨v, n, rfl, sr, fun H1 s1 => ?_⟩
      walk_at "rd"
      rw [if_neg (by rw [hn]; exact Bool.false_ne_true)]
      exact q H1 s1
    · obtain ⟨n', sr', hn'⟩ := hp.srt
      rcases hp with hp | hp
      · refine ⟨_, PSs.nox (pss_one (ps_ret (pe_and (pe_cal c_is_row (hr.mono (by decide)) takes0 (pa_cons (pv 0) pa_nil)) (pe_and (pe_cmpR op_eq (pe_callB call_len_seq rfl T.b_len (by decide +kernel) (pa_cons (pv 0) pa_nil)) pe_int (nomark _)) (pe_and (pe_calL (i := 1) c_1 g1 (hr.mono (by decide)) rfl (.inl rfl) (pa_cons (pe_ix ix_list (pv 0) pe_int (fun _ _ => rfl)) pa_nil)) (pe_one (pe_calL (i := 2) c_2 g2 (hr.mono (by decide)) rfl (.inl rfl) (pa_cons (pe_ix ix_list (pv 0) pe_int (fun _ _ => rfl)) pa_nil)))))))), ?_⟩
        walk_at "rd"
        refine ⟨_, n', rfl, sr', fun H1 s1 => ?_⟩
        walk_at "rd"
        rw [if_pos hn']
        refine ⟨xs, .inl (Same.seq s1 hp), rfl, _, rfl, ?_⟩
        by_cases hl : xs.length = 2
        · obtain ⟨a, b, rfl⟩ := pair_shape hl
          have ha := hx rfl a List.mem_cons_self
          have hb := hx rfl b (List.mem_cons_of_mem _ List.mem_cons_self)
          obtain ⟨⟨ma, sa⟩, oa⟩ := ha
          obtain ⟨⟨mb, sb⟩, ob⟩ := hb
          rw [if_pos (decide_eq_true (show V.int (([a, b] : List V).length : Nat) = V.int 2 from rfl))]
          refine ⟨rfl, _, rfl, p, [a, b], 0, a, rfl, rfl, Same.seq s1 hp, rfl, a, ma, rfl, Srt.same s1 sa, oa, fun H2 s2 => ⟨_, rfl, ?_⟩⟩
          have q2 := q H2 (s1.trans s2)
          cases e1 : p1 a with
          | false =>
            rw [if_neg (by decide)]
            simp only [pairB, e1, Bool.false_and] at q2
            exact q2
          | true =>
            rw [if_pos rfl]
            refine ⟨rfl, _, rfl, p, [a, b], 1, b, rfl, rfl, Same.seq (s1.trans s2) hp, rfl, b, mb, rfl, Srt.same (s1.trans s2) sb, ob, fun H3 s3 => ?_⟩
            have q3 := q H3 ((s1.trans s2).trans s3)
            simp only [pairB, e1, Bool.true_and] at q3
            exact q3
        · rw [if_neg (by intro z; exact hl (by have := V.int.inj (of_decide_eq_true z); omega))]
          have q1 := q H1 s1
          rw [pairB_no hl] at q1
          exact q1
      · refine ⟨_, PSs.nox (pss_one (ps_ret (pe_and (pe_cal c_is_row (hr.mono (by decide)) takes0 (pa_cons (pv 0) pa_nil)) (pe_and (pe_cmpR op_eq (pe_callB call_len_seq rfl T.b_len (by decide +kernel) (pa_cons (pv 0) pa_nil)) pe_int (nomark _)) (pe_and (pe_calL (i := 1) c_1 g1 (hr.mono (by decide)) rfl (.inl rfl) (pa_cons (pe_ix ix_tup (pv 0) pe_int (fun _ _ => rfl)) pa_nil)) (pe_one (pe_calL (i := 2) c_2 g2 (hr.mono (by decide)) rfl (.inl rfl) (pa_cons (pe_ix ix_tup (pv 0) pe_int (fun _ _ => rfl)) pa_nil)))))))), ?_⟩
        walk_at "rd"
        refine ⟨_, n', rfl, sr', fun H1 s1 => ?_⟩
        walk_at "rd"
        rw [if_pos hn']
        refine ⟨xs, .inr (Same.tq s1 hp), rfl, _, rfl, ?_⟩
        by_cases hl : xs.length = 2
        · obtain ⟨a, b, rfl⟩ := pair_shape hl
          have ha := hx rfl a List.mem_cons_self
          have hb := hx rfl b (List.mem_cons_of_mem _ List.mem_cons_self)
          obtain ⟨⟨ma, sa⟩, oa⟩ := ha
          obtain ⟨⟨mb, sb⟩, ob⟩ := hb
          rw [if_pos (decide_eq_true (show V.int (([a, b] : List V).length : Nat) = V.int 2 from rfl))]
          refine ⟨rfl, _, rfl, p, [a, b], 0, a, rfl, rfl, Same.tq s1 hp, rfl, a, ma, rfl, Srt.same s1 sa, oa, fun H2 s2 => ⟨_, rfl, ?_⟩⟩
          have q2 := q H2 (s1.trans s2)
          cases e1 : p1 a with
          | false =>
            rw [if_neg (by decide)]
            simp only [pairB, e1, Bool.false_and] at q2
            exact q2
          | true =>
            rw [if_pos rfl]
            refine ⟨rfl, _, rfl, p, [a, b], 1, b, rfl, rfl, Same.tq (s1.trans s2) hp, rfl, b, mb, rfl, Srt.same (s1.trans s2) sb, ob, fun H3 s3 => ?_⟩
            have q3 := q H3 ((s1.trans s2).trans s3)
            simp only [pairB, e1, Bool.true_and] at q3
            exact q3
        · rw [if_neg (by intro z; exact hl (by have := V.int.inj (of_decide_eq_true z); omega))]
          have q1 := q H1 s1
          rw [pairB_no hl] at q1
          exact q1
/-! ### is_key -/
def sp_is_key (K : PySem.W.Frag) : Sp := fun vs H Q _ => ∃ v n, vs = [v] ∧ Srt K H v n ∧ ((n ≠ "tuple" ∧ ∀ H', Same H H' → Q (.bl false) H') ∨
  ∃ p xs, v = .ref p ∧ SqT K H p xs ∧ (xs.length = 2 → ∀ x ∈ xs, Any K H x) ∧ ∀ H', Same H H' → Q (.bl (pairB isName isName xs)) H')
theorem ok_is_key (T : Txt K mg) : Cal P w K mg base 3 "is_key" ["thing"] (sp_is_key K) := by
  have c_is_name := ok_is_name (P := P) (w := w) (base := base) T
  obtain ⟨fd, F⟩ := T.d_is_key
  refine cal_of F T.g_is_key (F.bindsN fun _ _ _ _ _ _ us hl => match us, hl with | [_], _ => rfl) ?_
  refine F.ok sc_is_key (fun vs H Q E h => ?_) (fun cdv A outer s H vs Q E hr h => ?_)
  · obtain ⟨v, n, rfl, _⟩ := h
    rfl
  · refine ⟨_, PSs.nox (pss_one (ps_ret (pe_and (pe_callB (r := rIsi K) call_isi rfl T.b_isinstance (by decide +kernel) (pa_cons (pv 0) (pa_cons (pe_bltn (v := .ty "tuple") rfl T.b_tuple (by decide +kernel) rfl) pa_nil))) (pe_and (pe_cmpR op_eq (pe_callB call_len_seq rfl T.b_len (by decide +kernel) (pa_cons (pv 0) pa_nil)) pe_int (nomark _)) (pe_and (pe_cal c_is_name (hr.mono (by decide)) takes0 (pa_cons (pe_ix ix_tup (pv 0) pe_int (fun _ _ => rfl)) pa_nil)) (pe_one (pe_cal c_is_name (hr.mono (by decide)) takes0 (pa_cons (pe_ix ix_tup (pv 0) pe_int (fun _ _ => rfl)) pa_nil)))))))), ?_⟩
    obtain ⟨v, n, rfl, sr, ⟨hn, q⟩ | ⟨p, xs, rfl, hp, hx, q⟩⟩ := h
    · walk_at "rd"
      refine isi_is sr (by decide) ⟨_, rfl, ?_⟩
      rw [if_neg (by simpa using hn)]
      exact q H (Same.refl H)
    · walk_at "rd"
      refine isi_is (srt_tq hp) (by decide) ⟨_, rfl, ?_⟩
      rw [if_pos (by decide)]
      refine ⟨xs, .inr hp, rfl, _, rfl, ?_⟩
      by_cases hl : xs.length = 2
      · obtain ⟨a, b, rfl⟩ := pair_shape hl
        obtain ⟨⟨ma, sa⟩, oa⟩ := hx rfl a List.mem_cons_self
        obtain ⟨⟨mb, sb⟩, ob⟩ := hx rfl b (List.mem_cons_of_mem _ List.mem_cons_self)
        rw [if_pos (decide_eq_true (show V.int (([a, b] : List V).length : Nat) = V.int 2 from rfl))]
        refine ⟨p, [a, b], 0, a, rfl, rfl, hp, rfl, a, ma, rfl, sa, oa, fun H2 s2 => ⟨_, rfl, ?_⟩⟩
        have q2 := q H2 s2
        cases e1 : isName a with
        | false =>
          rw [if_neg (by decide)]
          simp only [pairB, e1, Bool.false_and] at q2
          exact q2
        | true =>
          rw [if_pos rfl]
          refine ⟨p, [a, b], 1, b, rfl, rfl, Same.tq s2 hp, rfl, b, mb, rfl, Srt.same s2 sb, ob, fun H3 s3 => ?_⟩
          have q3 := q H3 (s2.trans s3)
          simp only [pairB, e1, Bool.true_and] at q3
          exact q3
      · rw [if_neg (by intro z; exact hl (by have := V.int.inj (of_decide_eq_true z); omega))]
        have q1 := q H (Same.refl H)
        rw [pairB_no hl] at q1
        exact q1
end
end Rs
set_option Elab.async false
set_option linter.all false
set_option maxRecDepth 100000
set_option maxHeartbeats 2000000
namespace Rs
open PySem PySem.Spec PyProof.Rows L2
local macro_rules | `(tactic| walk_at "rd") => `(tactic| simp only [L2.tRet, L2.tRetN, L2.tSeq, L2.tNext, L2.tIfS, L2.tAsg, L2.gName, L2.gNil, L2.gCons, L2.tVar, L2.tC, L2.tOp, L2.tUn, L2.tCB, L2.tCons, L2.tNil, L2.tAndV, L2.tOrV, L2.tNotV, L2.tAnd, L2.tOr, L2.tNot, L2.tB, L2.tTest, L2.tIf, L2.tChain, L2.tTup, L2.tLst, L2.tDrop, L2.start, L2.cxOf, L2.Cx.nox, L2.Cx.wish, L2.rI0, L2.rI, L2.tYes, Rs.tCalW, List.getElem?_cons_zero, List.getElem?_cons_succ, Option.some.injEq, exists_eq_left', exists_eq_left, exists_and_left, List.cons.injEq, and_true, true_and, L2.V.bl.injEq, L2.V.int.injEq, L2.V.str.injEq, L2.V.ref.injEq, List.set_cons_zero, List.set_cons_succ, List.map_cons, List.map_nil, List.length_cons, List.length_nil, List.replicate, List.cons_append, List.nil_append, List.append_nil, Nat.reduceSub, Nat.reduceAdd])

section
variable {P : Program} {w : World} {K : PySem.W.Frag} {mg : PySem.Str → Option Value} {base : Heap}
theorem lock_same {H H' : Hp} {d : Addr} {u : HO} {od : Obj} (h : H d = some u) (e : Same (upd H d (.frz od u)) H') : Same H (upd H' d u) := fun a o ea => by
  by_cases z : a = d
  · subst z
    rw [h] at ea
    cases ea
    exact upd_same
  · rw [upd_ne z]
    exact e a o (by rw [upd_ne z]; exact ea)
theorem getD_of {α : Type} {l : List α} {i : Nat} {x d : α} (h : l[i]? = some x) : l.getD i d = x := by rw [List.getD_eq_getElem?_getD, h] <;> rfl
theorem all_names (ss : List PySem.Str) (p : V → Bool) : ((List.range ss.length).map fun i => p (.str (ss.getD i default))).all id = ss.all fun x => p (.str x) := by
  rw [List.all_map]
  exact (all_range ss rfl (fun x => p (.str x)) default).symm
/-- a test of each of a row's texts: [p(x) for x in row] -/
theorem lc_txts {J : It} {ss : List PySem.Str} {G : Hp → Prop} (wk : Walk J ss.length G (YAt (ss.map V.str))) {j : Nat} {te : TE} {σ : L2.St} {H1 : Hp} {D : Addr} {Qd : Hp → Prop} (p : V → Bool) (hD : H1 D = none) (hG : ∀ H, Same H1 H → G H) (hn : ss.length ≤ sizeLine)
    (turn : ∀ x H, x ∈ ss → Same H1 H → ∀ Kt : V → Hp → Prop, (∀ H4, Same H H4 → Kt (.bl (p (.str x))) H4) → te ((wipe σ [j]).set j (some (.str x))) H Kt)
    (hd : ∀ H, Same H1 H → H D = some (.lst (((List.range ss.length).map fun i => p (.str (ss.getD i default))).map V.bl)) → Qd H) : LcW J (gName j) tYes te [j] σ D (upd H1 D (.lst [])) Qd := by
  refine lc_map wk hD (fun i => .bl (p (.str (ss.getD i default)))) hn hG (fun i x H H' hi s1 y => ?_) (hd := fun H s1 h => hd H s1 (by rw [h, List.map_map] <;> rfl))
  obtain ⟨rfl, hx⟩ := y
  obtain ⟨z, hz⟩ : ∃ z, ss[i]? = some z := ⟨_, List.getElem?_eq_getElem hi⟩
  rw [List.getElem?_map, hz] at hx
  cases Option.some.inj hx
  refine ⟨Same.refl _, fun Kt hK => ⟨by simp [wipe, List.set_set], ?_⟩⟩
  refine turn z H' (List.mem_of_getElem? hz) s1 Kt fun H4 s4 => ?_
  have := hK H4 s4
  rw [getD_of hz] at this
  exact this
/-! ### are_ends, of a row of texts -/
def sp_are_ends (K : PySem.W.Frag) : Sp := fun vs H Q _ => ∃ (p : Addr) (ss : List PySem.Str), vs = [.ref p] ∧ SqR K H p (ss.map V.str) ∧ ss.length ≤ 4000 ∧ (∀ x ∈ ss, x.length ≤ sizeLine) ∧ ∀ H', Same H H' → Q (.bl ((ss.all fun x => isName (.str x)) && decide ss.Nodup)) H'
theorem ok_are_ends (T : Txt K mg) : Cal P w K mg base 3 "are_ends" ["thing"] (sp_are_ends K) := by
  have c_is_name := ok_is_name (P := P) (w := w) (base := base) T
  have c_is_row := ok_is_row (P := P) (w := w) (base := base) T
  have c_are_unlike := ok_are_unlike (P := P) (w := w) (base := base) T
  obtain ⟨fd, F⟩ := T.d_are_ends
  refine cal_of F T.g_are_ends (F.bindsN fun _ _ _ _ _ _ us hl => match us, hl with | [_], _ => rfl) ?_
  refine F.ok sc_are_ends (fun vs H Q E h => ?_) (fun cdv A outer s H vs Q E hr h => ?_)
  · obtain ⟨p, ss, rfl, _⟩ := h
    rfl
  · obtain ⟨p, ss, rfl, hp, hz, hs, q⟩ := h
    have tail : ∀ H1, Same H H1 → ∀ D H2, Same H1 H2 → H2 D = some (.lst (((List.range ss.length).map fun i => isName (.str (ss.getD i default))).map V.bl)) →
        (rAll K [.ref D] H2 fun x H3 => ∃ c, x = V.bl c ∧ if c = true then sp_are_unlike K [.ref p] H3 Q (at_ W0 [some (.ref p), none]) else Q (.bl false) H3) := by
      intro H1 s1 D H2 s2 h2
      refine ⟨D, _, rfl, SqL.of h2, _, rfl, ?_⟩
      rw [all_names ss isName]
      cases e : ss.all fun x => isName (.str x) with
      | false =>
        rw [if_neg (by decide)]
        have := q H2 (s1.trans s2)
        rw [e, Bool.false_and] at this
        exact this
      | true =>
        rw [if_pos rfl]
        refine ⟨p, rfl, .inl ⟨ss, SqR.same (s1.trans s2) hp, hz, fun H3 s3 => ?_⟩⟩
        have := q H3 ((s1.trans s2).trans s3)
        rw [e, Bool.true_and] at this
        exact this
    have turn : ∀ (H1 : Hp), Same H H1 → ∀ x H2, x ∈ ss → Same H1 H2 → ∀ Kt : V → Hp → Prop, (∀ H4, Same H2 H4 → Kt (.bl (isName (.str x))) H4) → sp_is_name K [.str x] H2 Kt (at_ W0 ((wipe [some (.ref p), none] [1]).set 1 (some (.str x)))) := by
      intro H1 s1 x H2 hx s2 Kt hK
      exact ⟨.str x, _, rfl, srt_str x, fun z e => by cases e; exact hs x hx, hK⟩
    obtain ⟨n', sr', hn'⟩ := hp.srt
    have hz' : ss.length ≤ sizeLine := by rw [sizeLine_eq]; omega
    rcases hp with hp | hp
    · refine ⟨_, PSs.nox (pss_one (ps_ret (pe_and (pe_cal c_is_row (hr.mono (by decide)) takes0 (pa_cons (pv 0) pa_nil)) (pe_and (pe_callB (cr_all rfl) rfl T.b_all (by decide +kernel) (pa_cons (pe_lc (own := [("one", 1)]) (g := gName 1) (tt := tYes) rfl sc_are_ends.nd (pi_list (pv 0)) (blkOk_by (own := [("one", 1)]) (N := ["thing", "one"]) (sc := defScope s_are_ends) (by decide +kernel)) (fun _ _ _ _ _ => (pg_name (i := 1) sc_are_ends.nd rfl (by first | exact Or.inl rfl | exact Or.inr rfl))) (fun _ _ _ _ _ => pts_nil) (fun _ _ _ _ _ => (pe_cal c_is_name (hr.mono (by decide)) takes0 (pa_cons (pv 1) pa_nil)))) pa_nil)) (pe_one (pe_cal c_are_unlike (hr.mono (by decide)) takes0 (pa_cons (pv 0) pa_nil))))))), ?_⟩
      walk_at "rd"
      refine ⟨_, n', rfl, sr', fun H1 s1 => ⟨_, rfl, ?_⟩⟩
      rw [if_pos hn']
      refine ⟨_, rfl, p, rfl, ⟨_, Same.seq s1 hp⟩, fun D hD => lc_txts walk_lm isName hD (fun H2 s2 => Same.seq (s1.trans s2) hp) hz' (fun x H2 hx s2 Kt hK => ?_) fun H2 s2 h2 => ?_⟩
      · exact ⟨_, rfl, turn H1 s1 x H2 hx s2 Kt hK⟩
      · exact tail H1 s1 D H2 s2 h2
    · refine ⟨_, PSs.nox (pss_one (ps_ret (pe_and (pe_cal c_is_row (hr.mono (by decide)) takes0 (pa_cons (pv 0) pa_nil)) (pe_and (pe_callB (cr_all rfl) rfl T.b_all (by decide +kernel) (pa_cons (pe_lc (own := [("one", 1)]) (g := gName 1) (tt := tYes) rfl sc_are_ends.nd (pi_tup (pv 0)) (blkOk_by (own := [("one", 1)]) (N := ["thing", "one"]) (sc := defScope s_are_ends) (by decide +kernel)) (fun _ _ _ _ _ => (pg_name (i := 1) sc_are_ends.nd rfl (by first | exact Or.inl rfl | exact Or.inr rfl))) (fun _ _ _ _ _ => pts_nil) (fun _ _ _ _ _ => (pe_cal c_is_name (hr.mono (by decide)) takes0 (pa_cons (pv 1) pa_nil)))) pa_nil)) (pe_one (pe_cal c_are_unlike (hr.mono (by decide)) takes0 (pa_cons (pv 0) pa_nil))))))), ?_⟩
      walk_at "rd"
      refine ⟨_, n', rfl, sr', fun H1 s1 => ⟨_, rfl, ?_⟩⟩
      rw [if_pos hn']
      refine ⟨_, rfl, p, rfl, ⟨_, Same.tq s1 hp⟩, fun D hD => lc_txts walk_tm isName hD (fun H2 s2 => Same.tq (s1.trans s2) hp) hz' (fun x H2 hx s2 Kt hK => ?_) fun H2 s2 h2 => ?_⟩
      · exact ⟨_, rfl, turn H1 s1 x H2 hx s2 Kt hK⟩
      · exact tail H1 s1 D H2 s2 h2
end
end Rs
set_option Elab.async false
set_option linter.all false
set_option maxRecDepth 100000
set_option maxHeartbeats 2000000
namespace Rs
open PySem PySem.Spec PyProof.Rows L2
local macro_rules | `(tactic| walk_at "rd") => `(tactic| simp only [L2.tRet, L2.tRetN, L2.tSeq, L2.tNext, L2.tIfS, L2.tAsg, L2.gName, L2.gNil, L2.gCons, L2.tVar, L2.tC, L2.tOp, L2.tUn, L2.tCB, L2.tCons, L2.tNil, L2.tAndV, L2.tOrV, L2.tNotV, L2.tAnd, L2.tOr, L2.tNot, L2.tB, L2.tTest, L2.tIf, L2.tChain, L2.tTup, L2.tLst, L2.tDrop, L2.start, L2.cxOf, L2.Cx.nox, L2.Cx.wish, L2.rI0, L2.rI, L2.tYes, Rs.tCalW, List.getElem?_cons_zero, List.getElem?_cons_succ, Option.some.injEq, exists_eq_left', exists_eq_left, exists_and_left, List.cons.injEq, and_true, true_and, L2.V.bl.injEq, L2.V.int.injEq, L2.V.str.injEq, L2.V.ref.injEq, List.set_cons_zero, List.set_cons_succ, List.map_cons, List.map_nil, List.length_cons, List.length_nil, List.replicate, List.cons_append, List.nil_append, List.append_nil, Nat.reduceSub, Nat.reduceAdd])

section
variable {P : Program} {w : World} {K : PySem.W.Frag} {mg : PySem.Str → Option Value} {base : Heap}
theorem tq_upd {H : Hp} {D b : Addr} {xs ys : List V} {o : HO} (hD : H D = some (.lst ys)) (h : SqT K H b xs) : SqT K (upd H D o) b xs := by
  rcases h with (h | ⟨ob, h⟩) | h
  · exact .inl (.inl (by rw [upd_ne (ne_of h hD (by intro z; cases z))]; exact h))
  · exact .inl (.inr ⟨ob, by rw [upd_ne (ne_of h hD (by intro z; cases z))]; exact h⟩)
  · exact .inr h
theorem Paired.imp {α β : Type} {R S : α → β → Prop} : ∀ {l : List α} {m : List β}, Paired R l m → (∀ a b, R a b → S a b) → Paired S l m
  | _, _, .nil, _ => .nil
  | _, _, .cons h t, f => .cons (f _ _ h) (Paired.imp t f)
theorem Paired.snoc {α β : Type} {R : α → β → Prop} : ∀ {l : List α} {m : List β} {a : α} {b : β}, Paired R l m → R a b → Paired R (l ++ [a]) (m ++ [b])
  | _, _, _, _, .nil, h => .cons h .nil
  | _, _, _, _, .cons h t, h' => .cons h (Paired.snoc t h')
theorem Paired.at {α β : Type} {R : α → β → Prop} : ∀ {l : List α} {m : List β} {i : Nat} {b : β}, Paired R l m → m[i]? = some b → ∃ a, l[i]? = some a ∧ R a b
  | _, _, _, _, .nil, e => by simp at e
  | _, _, 0, _, .cons h _, e => by simp at e; subst e; exact ⟨_, rfl, h⟩
  | _, _, i + 1, _, .cons _ t, e => by
    obtain ⟨a, e1, e2⟩ := Paired.at (i := i) t (by simpa using e)
    exact ⟨a, by simpa using e1, e2⟩
/-! ### are_outcomes, of a row of pairs of texts -/
abbrev PairAt (K : PySem.W.Frag) (H : Hp) (o : PySem.Str × PySem.Str) (b : Addr) : Prop := SqR K H b [.str o.1, .str o.2]
abbrev okOut (o : PySem.Str × PySem.Str) : Bool := isWord (.str o.1) && isName (.str o.2)
def outsB (os : List (PySem.Str × PySem.Str)) : Bool := decide (os.length ≤ 8) && (os.all okOut && decide os.Nodup)
def sp_are_outcomes (K : PySem.W.Frag) : Sp := fun vs H Q _ => ∃ (p : Addr) (bs : List Addr) (os : List (PySem.Str × PySem.Str)), vs = [.ref p] ∧ SqR K H p (bs.map V.ref) ∧ Paired (PairAt K H) os bs ∧ bs.length ≤ 4000 ∧ (∀ o ∈ os, o.1.length ≤ sizeLine ∧ o.2.length ≤ sizeLine) ∧
  ∀ H', Same H H' → Q (.bl (outsB os)) H'
/-- a test of each item of a row -/
theorem lc_tests {J : It} {xs : List V} {G : Hp → Prop} {n : Nat} (wk : Walk J n G (YAt xs)) {j : Nat} {te : TE} {σ : L2.St} {H1 : Hp} {D : Addr} {Qd : Hp → Prop} (f : Nat → Bool) (hD : H1 D = none) (hG : ∀ H, Same H1 H → G H) (hn : n ≤ sizeLine)
    (turn : ∀ (i : Nat) x H, i < n → xs[i]? = some x → Same H1 H → ∀ Kt : V → Hp → Prop, (∀ H4, Same H H4 → Kt (.bl (f i)) H4) → te ((wipe σ [j]).set j (some x)) H Kt)
    (hd : ∀ H, Same H1 H → H D = some (.lst (((List.range n).map f).map V.bl)) → Qd H) : LcW J (gName j) tYes te [j] σ D (upd H1 D (.lst [])) Qd := by
  refine lc_map wk hD (fun i => .bl (f i)) hn hG (fun i x H H' hi s1 y => ?_) (hd := fun H s1 h => hd H s1 (by rw [h, List.map_map] <;> rfl))
  obtain ⟨rfl, hx⟩ := y
  exact ⟨Same.refl _, fun Kt hK => ⟨by simp [wipe, List.set_set], turn i x H' hi hx s1 Kt hK⟩⟩
/-- [tuple(x) for x in row], of pairs of texts -/
theorem lc_tuples {J : It} {bs : List Addr} {os : List (PySem.Str × PySem.Str)} {G : Hp → Prop} (wk : Walk J bs.length G (YAt (bs.map V.ref))) {j : Nat} {σ : L2.St} {H1 : Hp} {D : Addr} {Qd : Hp → Prop} (hD : H1 D = none) (hG : ∀ H, Same H1 H → G H) (hn : bs.length ≤ 4000)
    (hk : Paired (PairAt K H1) os bs) (hj : j < σ.length) (hd : ∀ H cs, Same H1 H → H D = some (.lst (cs.map V.ref)) → Paired (fun k b => RowAt K H b k) (os.map fun o => [o.1, o.2]) cs → Qd H) :
    LcW J (gName j) tYes (tCB (rTupOf K) (tCons (tVar j) tNil)) [j] σ D (upd H1 D (.lst [])) Qd := by
  have hlen : os.length = bs.length := Paired.length hk
  refine lc_it wk (fun i H => Same H1 H ∧ ∃ cs : List Addr, H D = some (.lst (cs.map V.ref)) ∧ cs.length = i ∧ Paired (fun k b => RowAt K H b k) ((os.take i).map fun o => [o.1, o.2]) cs)
    ⟨Same.new hD, [], upd_same, rfl, by rw [List.take_zero]; exact .nil⟩ (fun i H _ p => hG H p.1) (fun i x H H' hi p y => ?_) (fun H p => ?_)
  · obtain ⟨rfl, hx⟩ := y
    obtain ⟨b, hb⟩ : ∃ b, bs[i]? = some b := ⟨_, List.getElem?_eq_getElem hi⟩
    rw [List.getElem?_map, hb] at hx
    cases Option.some.inj hx
    obtain ⟨s1, cs, hc, hl, hp⟩ := p
    obtain ⟨o, eo, ho⟩ := Paired.at hk hb
    refine ⟨by simp [wipe, List.set_set], ?_⟩
    have next : ∀ c H2, Same H' H2 → RowAt K H2 c [o.1, o.2] → ∃ acc, H2 D = some (.lst acc) ∧ acc.length < sizeLine ∧ (Same H1 (upd H2 D (.lst (acc ++ [.ref c]))) ∧ ∃ cs : List Addr, (upd H2 D (.lst (acc ++ [.ref c]))) D = some (.lst (cs.map V.ref)) ∧ cs.length = i + 1 ∧
        Paired (fun k b => RowAt K (upd H2 D (.lst (acc ++ [.ref c]))) b k) ((os.take (i + 1)).map fun o => [o.1, o.2]) cs) := by
      intro c H2 s2 hr
      have hD2 := s2 _ _ hc
      refine ⟨_, hD2, by rw [List.length_map, sizeLine_eq]; omega, fun a u e => by rw [upd_ne (ne_of_none e hD)]; exact s2 _ _ (s1 _ _ e), cs ++ [c], by rw [upd_same, List.map_append] <;> rfl, by simp [hl], ?_⟩
      rw [take_next eo, List.map_append]
      exact Paired.snoc (Paired.imp hp fun k b h => tq_upd hD2 (Same.tq s2 h)) (tq_upd hD2 hr)
    refine ⟨.ref b, List.getElem?_set_self (by rw [wipe_length]; exact hj), b, [.str o.1, .str o.2], rfl, ?_⟩
    rcases ho with ho | ho
    · exact .inl ⟨Same.seq s1 ho, fun l hl => next l _ (Same.new hl) (SqT.of upd_same)⟩
    · exact .inr ⟨Same.tq s1 ho, next b H' (Same.refl _) (Same.tq s1 ho)⟩
  · obtain ⟨s1, cs, hc, hl, hp⟩ := p
    rw [← hlen, List.take_length] at hp
    exact hd H cs s1 hc hp
theorem row_nodup (os : List (PySem.Str × PySem.Str)) : (os.map fun o => [o.1, o.2]).Nodup ↔ os.Nodup := by
  unfold List.Nodup
  rw [List.pairwise_map]
  refine ⟨fun h => h.imp fun hne e => hne (by rw [e]), fun h => h.imp fun hne e => hne ?_⟩
  obtain ⟨e1, e2⟩ := List.cons.inj e
  exact Prod.ext e1 (List.cons.inj e2).1
theorem ok_are_outcomes (T : Txt K mg) : Cal P w K mg base 5 "are_outcomes" ["thing"] (sp_are_outcomes K) := by
  have c_is_name : Cal P w K mg base 3 "is_name" ["thing"] (spAny K isName) := by
    obtain ⟨f, fd, F, r⟩ := (ok_is_name (P := P) (w := w) (base := base) T).ex
    exact ⟨f, fd, F.mono (by decide), r⟩
  have c_is_word : Cal P w K mg base 3 "is_word" ["thing"] (spAny K isWord) := ok_is_word (P := P) (w := w) (base := base) T
  have c_is_row := ok_is_row (P := P) (w := w) (base := base) T
  have c_is_pair := ok_is_pair (k := 0) T c_is_word c_is_name T.g_is_word T.g_is_name
  have c_are_unlike := ok_are_unlike (P := P) (w := w) (base := base) T
  obtain ⟨fd, F⟩ := T.d_are_outcomes
  obtain ⟨tk, h_MOST_OUTCOMES⟩ := T.c_MOST_OUTCOMES
  refine cal_of F T.g_are_outcomes (F.bindsN fun _ _ _ _ _ _ us hl => match us, hl with | [_], _ => rfl) ?_
  refine F.ok sc_are_outcomes (fun vs H Q E h => ?_) (fun cdv A outer s H vs Q E hr h => ?_)
  · obtain ⟨p, bs, os, rfl, _⟩ := h
    rfl
  · obtain ⟨p, bs, os, rfl, hp, hk, hz, hs, q⟩ := h
    obtain ⟨n', sr', hn'⟩ := hp.srt
    have hlen : os.length = bs.length := Paired.length hk
    -- both readings are the same but for how the row is walked
    have last : ∀ H1, Same H H1 → os.length ≤ 8 → outsB os = decide os.Nodup → ∀ {J : It} {G : Hp → Prop}, Walk J bs.length G (YAt (bs.map V.ref)) → (∀ H2, Same H H2 → G H2) → ∀ D, H1 D = none →
        LcW J (gName 1) tYes (tCB (rTupOf K) (tCons (tVar 1) tNil)) [1] [some (.ref p), none] D (upd H1 D (.lst [])) (fun H2 => sp_are_unlike K [.ref D] H2 Q (at_ (fun _ _ _ _ => False) [some (.ref p), none])) := by
      intro H1 s1 h8 eo J G wk hG D hD
      refine lc_tuples wk hD (fun H2 s2 => hG H2 (s1.trans s2)) hz (Paired.imp hk fun o b h => SqR.same s1 h) (by simp) fun H2 cs s2 h2 h3 => ?_
      have hcl : cs.length = bs.length := by rw [← Paired.length h3, List.length_map]; exact hlen
      refine ⟨D, rfl, .inr ⟨cs, _, SqL.of h2, by omega, h3, fun H3 s3 => ?_⟩⟩
      have := q H3 ((s1.trans s2).trans s3)
      rw [eo] at this
      rw [show decide ((os.map fun o => [o.1, o.2]).Nodup) = decide os.Nodup from by simp only [row_nodup]]
      exact this
    have first : ∀ H1, Same H H1 → os.length ≤ 8 → ∀ {J : It} {G : Hp → Prop}, Walk J bs.length G (YAt (bs.map V.ref)) → (∀ H2, Same H H2 → G H2) → ∀ D, H1 D = none → ∀ Qd : Hp → Prop, (∀ H2, Same H1 H2 → H2 D = some (.lst (((List.range bs.length).map fun i => okOut (os.getD i default)).map V.bl)) → Qd H2) →
        LcW J (gName 1) tYes (tCalW (sp_is_pair K (He.ga K "is_word") (He.ga K "is_name") isWord isName) (fun _ _ _ _ => False) (tCons (tVar 1) (tCons (tC (.ref (He.ga K "is_word"))) (tCons (tC (.ref (He.ga K "is_name"))) tNil)))) [1] [some (.ref p), none] D (upd H1 D (.lst [])) Qd := by
      intro H1 s1 h8 J G wk hG D hD Qd hd
      refine lc_tests wk (fun i => okOut (os.getD i default)) hD (fun H2 s2 => hG H2 (s1.trans s2)) (by rw [sizeLine_eq]; omega) (fun i x H2 hi hx s2 Kt hK => ?_) hd
      obtain ⟨b, hb⟩ : ∃ b, bs[i]? = some b := ⟨_, List.getElem?_eq_getElem hi⟩
      rw [List.getElem?_map, hb] at hx
      cases Option.some.inj hx
      obtain ⟨o, eo, ho⟩ := Paired.at hk hb
      rw [getD_of eo] at hK
      have ho' : PairAt K H2 o b := SqR.same (s1.trans s2) ho
      obtain ⟨m, sm, hm⟩ := ho'.srt
      refine ⟨.ref b, rfl, .ref b, m, rfl, sm, .inr ⟨b, _, rfl, ho', fun _ x hx => ?_, hK⟩⟩
      obtain ⟨l1, l2⟩ := hs o (List.mem_of_getElem? eo)
      rcases List.mem_cons.mp hx with rfl | hx
      · exact ⟨⟨_, srt_str _⟩, fun z e => by cases e; exact l1⟩
      · rcases List.mem_cons.mp hx with rfl | hx
        · exact ⟨⟨_, srt_str _⟩, fun z e => by cases e; exact l2⟩
        · cases hx
    have allOut : ((List.range bs.length).map fun i => okOut (os.getD i default)).all id = os.all okOut := by
      rw [List.all_map]
      exact (all_range os hlen.symm okOut default).symm
    rcases hp with hp | hp
    · refine ⟨_, PSs.nox (pss_cons (ps_if (PW.pt (pw_or (pt_not (pt_val (pe_cal c_is_row (hr.mono (by decide)) takes0 (pa_cons (pv 0) pa_nil)))) (pw_or (pt_cmpR op_gt (pe_callB (r := rLenQ K) call_lenQ rfl T.b_len (by decide +kernel) (pa_cons (pv 0) pa_nil)) (pe_glob (v := .int 8) rfl h_MOST_OUTCOMES ⟨_, rfl⟩) (nomark _)) (pw_or1 (pt_not (pt_val (pe_callB (cr_all rfl) rfl T.b_all (by decide +kernel) (pa_cons (pe_lc (own := [("one", 1)]) (g := gName 1) (tt := tYes) rfl sc_are_outcomes.nd (pi_list (pv 0)) (blkOk_by (own := [("one", 1)]) (N := ["thing", "one"]) (sc := defScope s_are_outcomes) (by decide +kernel)) (fun _ _ _ _ _ => (pg_name (i := 1) sc_are_outcomes.nd rfl (by first | exact Or.inl rfl | exact Or.inr rfl))) (fun _ _ _ _ _ => pts_nil) (fun _ _ _ _ _ => (pe_cal c_is_pair (hr.mono (by decide)) takes0 (pa_cons (pv 1) (pa_cons (pe_glob (v := .ref (He.ga K "is_word")) rfl T.g_is_word rfl) (pa_cons (pe_glob (v := .ref (He.ga K "is_name")) rfl T.g_is_name rfl) pa_nil)))))) pa_nil)))))))) (pss_one (ps_ret pe_bl)) pss_nil)
      (pss_one (ps_ret (pe_cal c_are_unlike (hr.mono (by decide)) takes0 (pa_cons (pe_lc (own := [("one", 1)]) (g := gName 1) (tt := tYes) rfl sc_are_outcomes.nd (pi_list (pv 0)) (blkOk_by (own := [("one", 1)]) (N := ["thing", "one"]) (sc := defScope s_are_outcomes) (by decide +kernel)) (fun _ _ _ _ _ => (pg_name (i := 1) sc_are_outcomes.nd rfl (by first | exact Or.inl rfl | exact Or.inr rfl))) (fun _ _ _ _ _ => pts_nil) (fun _ _ _ _ _ => (pe_callTy (r := rTupOf K) call_tupOf rfl T.b_tuple (by decide +kernel) (pa_cons (pv 1) pa_nil)))) pa_nil))))), ?_⟩
      walk_at "rd"
      refine ⟨_, n', rfl, sr', fun H1 s1 => ⟨_, rfl, ?_⟩⟩
      simp only [hn', Bool.not_true, Bool.false_eq_true, if_false]
      refine ⟨p, _, rfl, .inl (Same.seq s1 hp), _, rfl, ?_⟩
      rw [List.length_map]
      by_cases h8 : os.length ≤ 8
      · rw [if_neg (by simp; omega)]
        refine ⟨_, rfl, p, rfl, ⟨_, Same.seq s1 hp⟩, fun D hD => first H1 s1 h8 walk_lm (fun H2 s2 => Same.seq s2 hp) D hD _ fun H2 s2 h2 => ?_⟩
        refine ⟨D, _, rfl, SqL.of h2, _, rfl, ?_⟩
        rw [allOut]
        cases e : os.all okOut with
        | false =>
          simp only [Bool.not_false, if_true]
          have := q H2 (s1.trans s2)
          rw [outsB, e, Bool.false_and, Bool.and_false] at this
          exact this
        | true =>
          simp only [Bool.not_true, Bool.false_eq_true, if_false]
          exact ⟨_, rfl, p, rfl, ⟨_, Same.seq (s1.trans s2) hp⟩, fun D2 hD2 => last H2 (s1.trans s2) h8 (by rw [outsB, e, decide_eq_true h8, Bool.true_and, Bool.true_and]) walk_lm (fun H3 s3 => Same.seq s3 hp) D2 hD2⟩
      · rw [if_pos (by simp; omega), if_pos trivial]
        have := q H1 s1
        rw [outsB, decide_eq_false h8, Bool.false_and] at this
        exact this
    · refine ⟨_, PSs.nox (pss_cons (ps_if (PW.pt (pw_or (pt_not (pt_val (pe_cal c_is_row (hr.mono (by decide)) takes0 (pa_cons (pv 0) pa_nil)))) (pw_or (pt_cmpR op_gt (pe_callB (r := rLenQ K) call_lenQ rfl T.b_len (by decide +kernel) (pa_cons (pv 0) pa_nil)) (pe_glob (v := .int 8) rfl h_MOST_OUTCOMES ⟨_, rfl⟩) (nomark _)) (pw_or1 (pt_not (pt_val (pe_callB (cr_all rfl) rfl T.b_all (by decide +kernel) (pa_cons (pe_lc (own := [("one", 1)]) (g := gName 1) (tt := tYes) rfl sc_are_outcomes.nd (pi_tup (pv 0)) (blkOk_by (own := [("one", 1)]) (N := ["thing", "one"]) (sc := defScope s_are_outcomes) (by decide +kernel)) (fun _ _ _ _ _ => (pg_name (i := 1) sc_are_outcomes.nd rfl (by first | exact Or.inl rfl | exact Or.inr rfl))) (fun _ _ _ _ _ => pts_nil) (fun _ _ _ _ _ => (pe_cal c_is_pair (hr.mono (by decide)) takes0 (pa_cons (pv 1) (pa_cons (pe_glob (v := .ref (He.ga K "is_word")) rfl T.g_is_word rfl) (pa_cons (pe_glob (v := .ref (He.ga K "is_name")) rfl T.g_is_name rfl) pa_nil)))))) pa_nil)))))))) (pss_one (ps_ret pe_bl)) pss_nil)
      (pss_one (ps_ret (pe_cal c_are_unlike (hr.mono (by decide)) takes0 (pa_cons (pe_lc (own := [("one", 1)]) (g := gName 1) (tt := tYes) rfl sc_are_outcomes.nd (pi_tup (pv 0)) (blkOk_by (own := [("one", 1)]) (N := ["thing", "one"]) (sc := defScope s_are_outcomes) (by decide +kernel)) (fun _ _ _ _ _ => (pg_name (i := 1) sc_are_outcomes.nd rfl (by first | exact Or.inl rfl | exact Or.inr rfl))) (fun _ _ _ _ _ => pts_nil) (fun _ _ _ _ _ => (pe_callTy (r := rTupOf K) call_tupOf rfl T.b_tuple (by decide +kernel) (pa_cons (pv 1) pa_nil)))) pa_nil))))), ?_⟩
      walk_at "rd"
      refine ⟨_, n', rfl, sr', fun H1 s1 => ⟨_, rfl, ?_⟩⟩
      simp only [hn', Bool.not_true, Bool.false_eq_true, if_false]
      refine ⟨p, _, rfl, .inr (Same.tq s1 hp), _, rfl, ?_⟩
      rw [List.length_map]
      by_cases h8 : os.length ≤ 8
      · rw [if_neg (by simp; omega)]
        refine ⟨_, rfl, p, rfl, ⟨_, Same.tq s1 hp⟩, fun D hD => first H1 s1 h8 walk_tm (fun H2 s2 => Same.tq s2 hp) D hD _ fun H2 s2 h2 => ?_⟩
        refine ⟨D, _, rfl, SqL.of h2, _, rfl, ?_⟩
        rw [allOut]
        cases e : os.all okOut with
        | false =>
          simp only [Bool.not_false, if_true]
          have := q H2 (s1.trans s2)
          rw [outsB, e, Bool.false_and, Bool.and_false] at this
          exact this
        | true =>
          simp only [Bool.not_true, Bool.false_eq_true, if_false]
          exact ⟨_, rfl, p, rfl, ⟨_, Same.tq (s1.trans s2) hp⟩, fun D2 hD2 => last H2 (s1.trans s2) h8 (by rw [outsB, e, decide_eq_true h8, Bool.true_and, Bool.true_and]) walk_tm (fun H3 s3 => Same.tq s3 hp) D2 hD2⟩
      · rw [if_pos (by simp; omega), if_pos trivial]
        have := q H1 s1
        rw [outsB, decide_eq_false h8, Bool.false_and] at this
        exact this
end
end Rs
set_option Elab.async false
set_option linter.all false
set_option maxRecDepth 100000
set_option maxHeartbeats 2000000
namespace Rs
open PySem PySem.Spec PyProof.Rows L2
local macro_rules | `(tactic| walk_at "rd") => `(tactic| simp only [L2.tRet, L2.tRetN, L2.tSeq, L2.tNext, L2.tIfS, L2.tAsg, L2.gName, L2.gNil, L2.gCons, L2.tVar, L2.tC, L2.tOp, L2.tUn, L2.tCB, L2.tCons, L2.tNil, L2.tAndV, L2.tOrV, L2.tNotV, L2.tAnd, L2.tOr, L2.tNot, L2.tB, L2.tTest, L2.tIf, L2.tChain, L2.tTup, L2.tLst, L2.tDrop, L2.start, L2.cxOf, L2.Cx.nox, L2.Cx.wish, L2.rI0, L2.rI, L2.tYes, Rs.tCalW, List.getElem?_cons_zero, List.getElem?_cons_succ, Option.some.injEq, exists_eq_left', exists_eq_left, exists_and_left, List.cons.injEq, and_true, true_and, L2.V.bl.injEq, L2.V.int.injEq, L2.V.str.injEq, L2.V.ref.injEq, List.set_cons_zero, List.set_cons_succ, List.map_cons, List.map_nil, List.length_cons, List.length_nil, List.replicate, List.cons_append, List.nil_append, List.append_nil, Nat.reduceSub, Nat.reduceAdd])

section
variable {P : Program} {w : World} {K : PySem.W.Frag} {mg : PySem.Str → Option Value} {base : Heap}
/-! ### moves -/
abbrev Outs := List (PySem.Str × PySem.Str)
abbrev Mv := (PySem.Str × PySem.Str) × Outs
def MvAt (K : PySem.W.Frag) (H : Hp) (m : Mv) (kv : List Key × V) : Prop := kv.1 = [Sum.inr m.1.1, Sum.inr m.1.2] ∧ ∃ p bs, kv.2 = .ref p ∧ SqR K H p (bs.map V.ref) ∧ Paired (PairAt K H) m.2 bs
def MovesAt (K : PySem.W.Frag) (H : Hp) (d : Addr) (mv : List Mv) : Prop := ∃ kvs, H d = some (.dT kvs) ∧ Paired (MvAt K H) mv kvs ∧ (mv.map (·.1)).Nodup
structure MovesOk (mv : List Mv) : Prop where
  keys : ∀ m ∈ mv, isName (.str m.1.1) = true ∧ isName (.str m.1.2) = true
  outs : ∀ m ∈ mv, outsB m.2 = true
  few : cnt (mv.map (·.1.2)) ≤ 8
  size : mv.length ≤ 4000
theorem name_len {x : PySem.Str} (h : isName (.str x) = true) : x.length ≤ sizeLine := by
  have : x.length ≤ 8 := by
    simp only [isTx, Bool.and_eq_true, decide_eq_true_eq] at h
    exact h.2.1
  rw [sizeLine_eq]; omega
theorem tx_len {x s : PySem.Str} (h : isTx s (.str x) = true) : x.length ≤ 8 := by
  simp only [isTx, Bool.and_eq_true, decide_eq_true_eq] at h
  exact h.2.1
theorem word_len {x : PySem.Str} (h : isWord (.str x) = true) : x.length ≤ sizeLine := by
  unfold isWord at h
  rw [Bool.or_eq_true, Bool.or_eq_true] at h
  rw [sizeLine_eq]
  rcases h with h | h | h
  · have := tx_len h; omega
  · have e : x = "yes" := V.str.inj (of_decide_eq_true h)
    subst e; decide
  · have e : x = "no" := V.str.inj (of_decide_eq_true h)
    subst e; decide
theorem outs_len {os : Outs} (h : outsB os = true) : os.length ≤ 8 ∧ ∀ o ∈ os, o.1.length ≤ sizeLine ∧ o.2.length ≤ sizeLine := by
  simp only [outsB, Bool.and_eq_true, decide_eq_true_eq, List.all_eq_true] at h
  exact ⟨h.1, fun o ho => ⟨word_len (h.2.1 o ho).1, name_len (h.2.1 o ho).2⟩⟩
theorem MvAt.same {H H' : Hp} {m : Mv} {kv : List Key × V} (e : Same H H') (h : MvAt K H m kv) : MvAt K H' m kv := by
  obtain ⟨h1, p, bs, h2, h3, h4⟩ := h
  exact ⟨h1, p, bs, h2, SqR.same e h3, Paired.imp h4 fun o b z => SqR.same e z⟩
/-- what is not d stands also while d is locked -/
theorem sqR_lock {H : Hp} {d p : Addr} {u : HO} {od : Obj} {xs : List V} (hd : H d = some u) (hu : ∀ xs, u ≠ .lst xs ∧ u ≠ .tup xs) (hf : ∀ o v, u ≠ .frz o v) (h : SqR K H p xs) : SqR K (upd H d (.frz od u)) p xs := by
  have ne : ∀ o, H p = some o → (o ≠ u) → p ≠ d := fun o ho hne z => by subst z; rw [hd] at ho; exact hne (Option.some.inj ho).symm
  rcases h with ((h | ⟨o, h⟩) | h) | ((h | ⟨o, h⟩) | h)
  · exact .inl (.inl (.inl (by rw [upd_ne (ne _ h (fun z => (hu _).1 z.symm))]; exact h)))
  · exact .inl (.inl (.inr ⟨o, by rw [upd_ne (ne _ h (fun z => hf _ _ z.symm))]; exact h⟩))
  · exact .inl (.inr h)
  · exact .inr (.inl (.inl (by rw [upd_ne (ne _ h (fun z => (hu _).2 z.symm))]; exact h)))
  · exact .inr (.inl (.inr ⟨o, by rw [upd_ne (ne _ h (fun z => hf _ _ z.symm))]; exact h⟩))
  · exact .inr (.inr h)
theorem mvAt_lock {H : Hp} {d : Addr} {kvs : List (List Key × V)} {od : Obj} {m : Mv} {kv : List Key × V} (hd : H d = some (.dT kvs)) (h : MvAt K H m kv) : MvAt K (upd H d (.frz od (.dT kvs))) m kv := by
  obtain ⟨h1, p, bs, h2, h3, h4⟩ := h
  have hu : ∀ xs, HO.dT kvs ≠ .lst xs ∧ HO.dT kvs ≠ .tup xs := fun xs => ⟨(fun z => by cases z), (fun z => by cases z)⟩
  have hf : ∀ (o : Obj) (v : HO), HO.dT kvs ≠ .frz o v := fun o v z => by cases z
  exact ⟨h1, p, bs, h2, sqR_lock hd hu hf h3, Paired.imp h4 fun o b z => sqR_lock hd hu hf z⟩
def sp_are_moves (K : PySem.W.Frag) : Sp := fun vs H Q _ => ∃ (d : Addr) (mv : List Mv), vs = [.ref d] ∧ MovesAt K H d mv ∧ MovesOk mv ∧ ∀ H', Same H H' → Q (.bl true) H'
theorem valV_at {kvs : List (List Key × V)} {mv : List Mv} {kv : List Key × V} {H : Hp} (hp : Paired (MvAt K H) mv kvs) (nd : (mv.map (·.1)).Nodup) (h : kv ∈ kvs) : valV kvs kv.1 = some kv.2 := by
  unfold valV
  induction hp with
  | nil => cases h
  | @cons m k0 mv kvs h1 ht ih =>
    obtain ⟨n1, n2⟩ := List.nodup_cons.mp nd
    by_cases e : k0.1 = kv.1
    · rw [List.find?_cons_of_pos (by simpa using e)]
      rcases List.mem_cons.mp h with rfl | h
      · rfl
      · exfalso
        obtain ⟨i, hi⟩ := List.getElem?_of_mem h
        obtain ⟨m', em, hm⟩ := Paired.at ht hi
        refine n1 (List.mem_map.mpr ⟨m', List.mem_of_getElem? em, ?_⟩)
        rw [h1.1, hm.1] at e
        obtain ⟨e1, e2⟩ := List.cons.inj e
        obtain ⟨e2, _⟩ := List.cons.inj e2
        exact (Prod.ext (Sum.inr.inj e1) (Sum.inr.inj e2)).symm
    · rw [List.find?_cons_of_neg (by simpa using e)]
      rcases List.mem_cons.mp h with rfl | h
      · exact absurd rfl e
      · exact ih n2 h
theorem same_loc {H H' : Hp} {d : Addr} {u : HO} {od : Obj} (h : Same (upd H d (.frz od u)) H') : H' d = some (.frz od u) := h _ _ upd_same
/-- the methods of a dict's keys, as a set -/
theorem sc_meths {d : Addr} {od : Obj} {kvs : List (List Key × V)} {mv : List Mv} {H0 : Hp} (hp : Paired (MvAt K H0) mv kvs) {j : Nat} {σ : L2.St} {H1 : Hp} {D : Addr} {Qd : Hp → Prop} (hD : H1 D = none) (hG : H1 d = some (.frz od (.dT kvs))) (hj : j < σ.length) (hn : mv.length ≤ 4000)
    (hd : ∀ H S, Same H1 H → H D = some (SetK P w D S (cnt (mv.map (·.1.2)))) → Qd H) : ScW (Itkt d od kvs) (Zk P w) (rSAddK P w) (gName j) tYes (tOp (rIxT K) (tVar j) (tC (.int 1))) [j] σ D (upd H1 D (Zk P w D)) Qd := by
  have hlen : mv.length = kvs.length := Paired.length hp
  have hl2 : (mv.map (·.1.2)).length = kvs.length := by rw [List.length_map]; exact hlen
  refine sc_it walk_keysT (fun i H => Same H1 H ∧ H D = some (SetK P w D (inTx ((mv.map (·.1.2)).take i)) (cnt ((mv.map (·.1.2)).take i)))) ⟨Same.new hD, ?_⟩ (fun i H _ p => p.1 _ _ hG) (fun i x H H' hi p y => ?_) (fun H p => hd H _ p.1 (by have := p.2; rw [← hl2, List.take_length] at this; exact this))
  · rw [upd_same]
    have : (fun _ => false) = inTx ((mv.map (·.1.2)).take 0) := by funext k; cases k <;> simp [inTx]
    show some (SetK P w D _ _) = _
    rw [this]
    rfl
  · obtain ⟨rfl, k, v, b, hk, rfl, hb⟩ := y
    obtain ⟨m, em, h1, _⟩ := Paired.at hp hk
    have hz : (mv.map (·.1.2))[i]? = some m.1.2 := by rw [List.getElem?_map, em] <;> rfl
    rw [show k = [Sum.inr m.1.1, Sum.inr m.1.2] from h1] at hb
    refine ⟨by simp [wipe, List.set_set], ?_⟩
    refine ⟨.ref b, List.getElem?_set_self (by rw [wipe_length]; exact hj), b, [.str m.1.1, .str m.1.2], 1, .str m.1.2, rfl, rfl, SqT.of hb, rfl, D, Sum.inr m.1.2, _, _, rfl, rfl, p.2, ?_, ?_, ?_⟩
    · have := cnt_le ((mv.map (·.1.2)).take i)
      have := List.length_take_le i (mv.map (·.1.2))
      show _ < 4096
      omega
    · intro a o e
      rw [upd_ne (ne_of_none e hD)]
      exact p.1 _ _ e
    · rw [upd_same]
      congr 1
      have e1 : (fun j : Key => inTx ((mv.map (·.1.2)).take i) j || decide (j = (Sum.inr m.1.2 : Key))) = inTx ((mv.map (·.1.2)).take (i + 1)) := by
        funext k
        rw [take_next hz]
        cases k with
        | inl a => simp [inTx]
        | inr a => simp [inTx, List.mem_append, Bool.decide_or]
      have e2 : (if inTx ((mv.map (·.1.2)).take i) (Sum.inr m.1.2) = true then cnt ((mv.map (·.1.2)).take i) else cnt ((mv.map (·.1.2)).take i) + 1) = cnt ((mv.map (·.1.2)).take (i + 1)) := by
        rw [cnt_take hz]
        by_cases h : m.1.2 ∈ (mv.map (·.1.2)).take i
        · rw [if_pos (by simpa [inTx] using h), if_pos h, Nat.add_zero]
        · rw [if_neg (by simpa [inTx] using h), if_neg h]
      show SetK P w D _ _ = SetK P w D _ _
      rw [e1, e2]
theorem ok_are_moves (T : Txt K mg) : Cal P w K mg base 6 "are_moves" ["thing"] (sp_are_moves K) := by
  have c_is_key := ok_is_key (P := P) (w := w) (base := base) T
  have c_are_outcomes := ok_are_outcomes (P := P) (w := w) (base := base) T
  obtain ⟨fd, F⟩ := T.d_are_moves
  obtain ⟨tk, h_MOST_METHODS⟩ := T.c_MOST_METHODS
  refine cal_of F T.g_are_moves (F.bindsN fun _ _ _ _ _ _ us hl => match us, hl with | [_], _ => rfl) ?_
  refine F.ok sc_are_moves (fun vs H Q E h => ?_) (fun cdv A outer s H vs Q E hr h => ?_)
  · obtain ⟨p, mv, rfl, _⟩ := h
    rfl
  · have hu := hu_of hr
    refine ⟨_, PSs.nox (pss_cons (ps_if (pt_not (pt_val (pe_callB (r := rIsi K) call_isi rfl T.b_isinstance (by decide +kernel) (pa_cons (pv 0) (pa_cons (pe_bltn (v := .ty "dict") rfl T.b_dict (by decide +kernel) rfl) pa_nil))))) (pss_one (ps_ret pe_bl)) pss_nil)
      (pss_cons (ps_lock (ps_for PassesOwn.never rfl (pi_keys (pv 0)) (pg_name (i := 1) sc_are_moves.nd rfl (Or.inl rfl)) (pss_one (ps_if (PW.pt (pw_or (pt_not (pt_val (pe_cal c_is_key (hr.mono (by decide)) takes0 (pa_cons (pv 1) pa_nil)))) (pw_or1 (pt_not (pt_val (pe_cal c_are_outcomes (hr.mono (by decide)) takes0 (pa_cons (pe_dget hu (pv 0) (pv 1) (fun _ _ => rfl)) pa_nil))))))) (pss_one (ps_ret pe_bl)) pss_nil))))
      (pss_one (ps_ret (pe_cmpR op_le (pe_callB cr_lenSet rfl T.b_len (by decide +kernel) (pa_cons (pe_lock (pe_scg (own := [("at", 1)]) (g := gName 1) (tt := tYes) (Z := Zk P w) (ad := rSAddK P w) setK_lay (fun _ _ _ _ => mt_saddK) rfl sc_are_moves.nd (pi_keys (pv 0)) (blkOk_by (own := [("at", 1)]) (N := ["thing", "at"]) (sc := defScope s_are_moves) (by decide +kernel)) (fun _ _ _ _ _ => (pg_name (i := 1) sc_are_moves.nd rfl (by first | exact Or.inl rfl | exact Or.inr rfl))) (fun _ _ _ _ _ => pts_nil) (fun _ _ _ _ _ => (pe_ix (r := rIxT K) ix_tup (pv 1) pe_int (fun _ _ => rfl))))) pa_nil)) (pe_glob (v := .int 8) rfl h_MOST_METHODS ⟨_, rfl⟩) (nomark _)))))), ?_⟩
    obtain ⟨d, mv, rfl, ⟨kvs, hd, hp, nd⟩, ok, q⟩ := h
    walk_at "rd"
    refine isi_is (srt_dT hd) (by decide) ⟨_, rfl, ?_⟩
    rw [if_neg (by decide)]
    have hp' : ∀ od, Paired (MvAt K (upd H d (.frz od (.dT kvs)))) mv kvs := fun od => Paired.imp hp fun m kv h => mvAt_lock hd h
    refine ⟨d, _, hd, trivial, fun od => ?_⟩
    refine ⟨_, rfl, d, od, rfl, .inr ⟨kvs, same_loc (Same.refl _), ?_⟩⟩
    refine for_it walk_keysT (fun i σ H1 => (∃ v, σ = [some (.ref d), v]) ∧ Same (upd H d (.frz od (.dT kvs))) H1) ⟨⟨none, rfl⟩, Same.refl _⟩ (fun i σ H1 _ p => same_loc p.2) (fun i x σ H1 H2 hi p y => ?_) (fun σ H1 p => ?_)
    · obtain ⟨⟨v0, rfl⟩, s1⟩ := p
      obtain ⟨rfl, k, v, b, hk, rfl, hb⟩ := y
      obtain ⟨m, em, h1, pp, bs, e2, h3, h4⟩ := Paired.at (hp' od) hk
      have hm := List.mem_of_getElem? em
      have e1 : k = [Sum.inr m.1.1, Sum.inr m.1.2] := h1
      have e2' : v = .ref pp := e2
      subst e1 e2'
      obtain ⟨k1, k2⟩ := ok.keys m hm
      have hb' : SqT K H2 b [.str m.1.1, .str m.1.2] := SqT.of hb
      walk_at "rd"
      refine ⟨.ref b, _, rfl, srt_tq hb', .inr ⟨b, _, rfl, hb', fun _ x hx => ?_, fun H3 s3 => ?_⟩⟩
      · rcases List.mem_cons.mp hx with rfl | hx
        · exact ⟨⟨_, srt_str _⟩, fun z e => by cases e; exact name_len k1⟩
        · rcases List.mem_cons.mp hx with rfl | hx
          · exact ⟨⟨_, srt_str _⟩, fun z e => by cases e; exact name_len k2⟩
          · cases hx
      · refine ⟨_, rfl, ?_⟩
        have ep : pairB isName isName [.str m.1.1, .str m.1.2] = true := by simp only [pairB, k1, k2, Bool.and_true]
        rw [if_neg (by rw [ep]; decide)]
        have s13 := s1.trans s3
        refine ⟨.ref d, rfl, .ref b, rfl, d, .ref pp, rfl, .inr ⟨kvs, _, b, .inr ⟨od, same_loc s13⟩, rfl, s3 _ _ hb, ?_⟩, ?_⟩
        · exact (valV_at hp nd (List.mem_of_getElem? hk)).symm
        · obtain ⟨l8, ll⟩ := outs_len (ok.outs m hm)
          refine ⟨pp, bs, m.2, rfl, SqR.same s13 h3, Paired.imp h4 (fun o b z => SqR.same s13 z), ?_, ll, fun H4 s4 => ⟨_, rfl, ?_⟩⟩
          · have := Paired.length h4
            omega
          · rw [if_neg (by rw [ok.outs m hm]; decide)]
            exact ⟨⟨_, rfl⟩, s13.trans s4⟩
    · obtain ⟨⟨v0, rfl⟩, s1⟩ := p
      refine ⟨same_loc s1, ?_⟩
      have s2 := lock_same hd s1
      generalize upd H1 d (.dT kvs) = H2 at s2
      have hd2 := s2 _ _ hd
      walk_at "rd"
      refine ⟨d, _, hd2, trivial, fun od2 => ⟨_, rfl, d, od2, rfl, .inr ⟨kvs, upd_same, fun D hD => sc_meths hp hD upd_same (by simp) ok.size fun H3 S s3 h3 => ?_⟩⟩⟩
      refine ⟨same_loc s3, ?_⟩
      have s4 := lock_same hd2 s3
      have hDd : D ≠ d := by
        rintro rfl
        rw [upd_same] at hD
        cases hD
      refine ⟨D, _, rfl, .inr ⟨S, by rw [upd_ne hDd]; exact h3⟩, _, rfl, ?_⟩
      have e8 : decide ((cnt (mv.map (·.1.2)) : Int) ≤ 8) = true := decide_eq_true (by have := ok.few; omega)
      rw [e8]
      exact q _ (s2.trans s4)
end
end Rs
set_option Elab.async false
set_option linter.all false
set_option maxRecDepth 100000
set_option maxHeartbeats 2000000
/-! d.values() of a dict whose keys are tuples. -/
namespace Rs
open PySem PySem.Spec PyProof.Rows L2
def Itdt (d : Addr) (o : Obj) (kvs : List (List Key × V)) : It :=
  ⟨fun i H => H d = some (.frz o (.dT kvs)) ∧ i < kvs.length, fun i H x H' => H' = H ∧ ∃ k, kvs[i]? = some (k, x), fun i H => H d = some (.frz o (.dT kvs)) ∧ kvs.length ≤ i⟩
theorem walk_valuesT {d : Addr} {o : Obj} {kvs : List (List Key × V)} : Walk (Itdt d o kvs) kvs.length (fun H => H d = some (.frz o (.dT kvs))) (fun i H x H' => H' = H ∧ ∃ k, kvs[i]? = some (k, x)) :=
  ⟨fun _ _ hi q => ⟨q, hi⟩, fun _ q => ⟨q, Nat.le_refl _⟩, fun _ _ _ _ _ _ y => y⟩
theorem frzT_val {X : Cx} {pins : List (Addr × Obj)} {σ : L2.St} {H : Hp} {s : Shared} {d : Addr} {o : Obj} {kvs : List (List Key × V)} (I : L2.Inv X pins σ H s) (h : H d = some (.frz o (.dT kvs))) :
    (d == sysModules) = false ∧ ∃ (es : Array DictEntry) (ep : Nat), o.data = .dict es ep ∧ s.heap.DictRaw d es ep ∧ es.size = kvs.length ∧
      ∀ (i : Nat) (k : List Key) (v : V), kvs[i]? = some (k, v) → ∃ (en : DictEntry), es[i]? = some en ∧ RelV v en.val := by
  obtain ⟨hd, z, hs, xs, pr, o', es, ep, ho, hx, hdt, he, _⟩ := I.hok d _ h
  rw [hd] at ho
  cases ho
  refine ⟨hs, es, ep, hdt, ⟨o, hd, hx, hdt⟩, ?_, fun i k v e => ?_⟩
  · have l1 : es.size = xs.length := size_of_entries he
    have l2 : kvs.length = xs.length := Paired.length pr
    omega
  · obtain ⟨b, hb, e1, e2, e3⟩ := L2.paired_get pr e
    have q := entry_at he i
    rw [hb] at q
    exact ⟨_, q, e3⟩
theorem turn_valsT {P : Program} {w : World} {K : PySem.W.Frag} {tg : Expr} {d : Addr} {o : Obj} {es : Array DictEntry} {ep : Nat} {kvs : List (List Key × V)} (it : Addr) (hod : o.data = .dict es ep) : Turn P w K tg (Itdt d o kvs) [it] it (fun i h => h.IsValIter it d i kvs.length ep) where
  mem := by simp
  obj := fun i h st b hb => by
    cases (show b = it by simpa using hb)
    obtain ⟨oi, e, c, dd⟩ := st
    exact ⟨oi, e, fun v z => by rw [dd] at z; cases z⟩
  keep := fun i h h' st k => st.at fun oi e => k it (by simp) oi e
  item := by
    intro X hP hw hK hc i pins s σ H E I hf st hg
    subst hP hw hK
    obtain ⟨hd, hi⟩ := hg
    obtain ⟨f0, f1, f2, f3, f4, f5⟩ := hf it (by simp)
    obtain ⟨hs, es', ep', hdt, raw, hsz, ent⟩ := frzT_val I hd
    obtain ⟨rfl, rfl⟩ := dict_ep hod hdt
    obtain ⟨⟨k, v⟩, hkv⟩ : ∃ p, kvs[i]? = some p := ⟨kvs[i], List.getElem?_eq_getElem hi⟩
    obtain ⟨en, hen, hv⟩ := ent i k v hkv
    rw [← hsz] at st
    refine wpAny_pyNext_values_item_raw st raw (by omega) fun h' st' sb => ?_
    have I1 : L2.Inv X pins σ H { s with heap := h' } := I.turned (t' := s.toks) (fun b ob hb e => (sb.2 b hb).trans e) f0 f1 f3 f4 f5
    obtain ⟨oi, e, c, dd⟩ := id st'
    have hval : es'[i].val = en.val := by
      rw [Array.getElem?_eq_getElem (by omega)] at hen
      rw [Option.some.inj hen]
    refine ⟨_, rfl, go_of (s := { s with heap := h' }) e c dd (by decide) ⟨v, H, I1, by rw [hval]; exact hv, ⟨rfl, k, hkv⟩, by rw [← hsz]; exact st', fun b hb => (hf b hb).1⟩⟩
  done := by
    intro X hP hw hK hc i pins s σ H E I hf st hg
    subst hP hw hK
    obtain ⟨hd, hi⟩ := hg
    obtain ⟨f0, f1, f2, f3, f4, f5⟩ := hf it (by simp)
    obtain ⟨hs, es', ep', hdt, raw, hsz, ent⟩ := frzT_val I hd
    obtain ⟨rfl, rfl⟩ := dict_ep hod hdt
    rw [← hsz] at st
    exact wpAny_pyNext_values_end_raw (I.ok.hd hc) st raw (by omega) fun h' eb => ⟨rfl, I.turned (t' := s.toks) (fun b ob hb e => eb b ob hb e) f0 f1 f3 f4 f5⟩
  self := fun A i s Q E st h => wpAny_pyIter_valiter st h
def iValsT (td : TE) : TI := fun σ H R => td σ H fun x H1 => ∃ d o kvs, x = .ref d ∧ H1 d = some (.frz o (.dT kvs)) ∧ R (Itdt d o kvs) H1
theorem pi_valuesT {X : Cx} {tg e : Expr} {td : TE} {apos cpos : Pos} (he : PE X e td) (hbase : attributeBase e "values" X.env (eval e X.env) = eval e X.env := by rfl) (hline : (apos.endLine == cpos.line) = true := by rfl) : PI X tg (.Call (.Attribute e "values" apos) [] [] cpos) (iValsT td) := by
  refine ⟨fun pins s σ H R I h => ?_⟩
  refine wpAny_Call_method (T := "dict") (id := "dict.values") hbase rfl hline F.plainAttrs_dict F.slot_dict_values F.type_dict_values (thn (he.run pins s σ H _ I h) fun u s1 ⟨x, H1, I1, rx, d, o, kvs, ex, hd, q⟩ => ?_)
  subst ex
  obtain rfl : u = Value.ref d := rx
  obtain ⟨hs, es, ep, hdt, raw, hsz, ent⟩ := frzT_val I1 hd
  obtain ⟨o', ho', hx', hd'⟩ := id raw
  refine ⟨raw.typeIs, fun a e => by cases e; exact ⟨o', ho', hx'.2.1⟩, ?_⟩
  have I2 : L2.Inv X pins σ H1 { s1 with heap := s1.heap.push { cls := .type "dict_values", data := .fields #[.ref d] } } := I1.kept (t' := s1.toks) fun b ob q => Heap.get?_push_of_some _ q
  have fin : wpAny (model X.prog X.w) X.A (pyIter (.ref s1.heap.objs.size)) (PIE X pins σ tg R) X.xe { s1 with heap := s1.heap.push { cls := .type "dict_values", data := .fields #[.ref d] } } := by
    refine wpAny_pyIter_values_raw (d := d) ⟨_, Heap.get?_push_size _ rfl, rfl, rfl⟩ (raw.at fun ob e => Heap.get?_push_of_some _ e) (pi_one (tk := s1.toks) I2 _ (turn_valsT _ hdt) ⟨_, Heap.get?_push_size _ rfl, rfl, ?_⟩ q)
    rw [hsz] <;> rfl
  show wpAny _ _ (callWith cpos (.builtin "dict.values") [.ref d] [] []) _ X.xe s1
  exact method_meetsIn F.slot_dict_values F.entry_dict_values rfl (PySem.evalArgs_none ⟨rfl, raw.typeIs, F.args_dict_values_1 _, _, meets_dict_values_raw d hs, ⟨es, ep, raw⟩, fin⟩)
end Rs
set_option Elab.async false
set_option linter.all false
set_option maxRecDepth 100000
set_option maxHeartbeats 2000000
namespace Rs
open PySem PySem.Spec PyProof.Rows L2
local macro_rules | `(tactic| walk_at "rd") => `(tactic| simp only [L2.tRet, L2.tRetN, L2.tSeq, L2.tNext, L2.tIfS, L2.tAsg, L2.gName, L2.gNil, L2.gCons, L2.tVar, L2.tC, L2.tOp, L2.tUn, L2.tCB, L2.tCons, L2.tNil, L2.tAndV, L2.tOrV, L2.tNotV, L2.tAnd, L2.tOr, L2.tNot, L2.tB, L2.tTest, L2.tIf, L2.tChain, L2.tTup, L2.tLst, L2.tDrop, L2.tFld, L2.start, L2.cxOf, L2.Cx.nox, L2.Cx.wish, L2.rI0, L2.rI, L2.tYes, Rs.tCalW, List.getElem?_cons_zero, List.getElem?_cons_succ, Option.some.injEq, exists_eq_left', exists_eq_left, exists_and_left, List.cons.injEq, and_true, true_and, L2.V.bl.injEq, L2.V.int.injEq, L2.V.str.injEq, L2.V.ref.injEq, List.set_cons_zero, List.set_cons_succ, List.map_cons, List.map_nil, List.length_cons, List.length_nil, List.replicate, List.cons_append, List.nil_append, List.append_nil, Nat.reduceSub, Nat.reduceAdd])

section
variable {P : Program} {w : World} {K : PySem.W.Frag} {mg : PySem.Str → Option Value} {base : Heap}
/-! ### a kind, as it stands -/
structure KD where
  name : PySem.Str
  start : PySem.Str
  ends : List PySem.Str
  tab : List Mv
abbrev kC (K : PySem.W.Frag) : Addr := He.ga K "Kind"
abbrev kflds (name start : PySem.Str) (e tb : Addr) : List (PySem.Str × V) := [("called", .str name), ("begin", .str start), ("last", .ref e), ("table", .ref tb)]
/-- the outcomes of a move, in a tuple of tuples -/
def OutsAt (K : PySem.W.Frag) (H : Hp) (t : Addr) (os : Outs) : Prop := ∃ cs : List Addr, SqT K H t (cs.map V.ref) ∧ Paired (fun (o : PySem.Str × PySem.Str) b => RowAt K H b [o.1, o.2]) os cs
def TabE (K : PySem.W.Frag) (H : Hp) (m : Mv) (kv : List Key × V) : Prop := kv.1 = [Sum.inr m.1.1, Sum.inr m.1.2] ∧ ∃ t, kv.2 = .ref t ∧ OutsAt K H t m.2
def TabAt (K : PySem.W.Frag) (H : Hp) (tb : Addr) (tab : List Mv) : Prop := ∃ kvs, H tb = some (.dT kvs) ∧ Paired (TabE K H) tab kvs ∧ (tab.map (·.1)).Nodup ∧ tab.length ≤ 4000
def KindAt (K : PySem.W.Frag) (H : Hp) (p : Addr) (kd : KD) : Prop := ∃ dx e tb, H p = some (.ins (kC K) dx (kflds kd.name kd.start e tb)) ∧ SqT K H e (kd.ends.map V.str) ∧ TabAt K H tb kd.tab
theorem OutsAt.same {H H' : Hp} {t : Addr} {os : Outs} (e : Same H H') (h : OutsAt K H t os) : OutsAt K H' t os := let ⟨cs, h1, h2⟩ := h; ⟨cs, Same.tq e h1, Paired.imp h2 fun _ _ z => Same.tq e z⟩
theorem TabE.same {H H' : Hp} {m : Mv} {kv : List Key × V} (e : Same H H') (h : TabE K H m kv) : TabE K H' m kv := let ⟨h1, t, h2, h3⟩ := h; ⟨h1, t, h2, h3.same e⟩
theorem TabAt.same {H H' : Hp} {tb : Addr} {tab : List Mv} (e : Same H H') (h : TabAt K H tb tab) : TabAt K H' tb tab := let ⟨kvs, h1, h2, h3, h4⟩ := h; ⟨kvs, e _ _ h1, Paired.imp h2 fun _ _ z => z.same e, h3, h4⟩
theorem KindAt.same {H H' : Hp} {p : Addr} {kd : KD} (e : Same H H') (h : KindAt K H p kd) : KindAt K H' p kd := let ⟨dx, a, tb, h1, h2, h3⟩ := h; ⟨dx, a, tb, e _ _ h1, Same.tq e h2, h3.same e⟩
/-- the states that are named, in the order in which they are met -/
def statesOf (kd : KD) : List PySem.Str := kd.start :: (kd.ends ++ (kd.tab.map (·.1.1) ++ kd.tab.flatMap fun m => m.2.map (·.2)))
/-- the dict at f has just the texts of l as its keys -/
def Found (H : Hp) (f : Addr) (l : List PySem.Str) : Prop := ∃ (ks : List PySem.Str) (kvs : List (Key × V)), H f = some (.dK kvs) ∧ kvs.map (·.1) = ks.map Sum.inr ∧ ks.Nodup ∧ (∀ x, x ∈ ks ↔ x ∈ l) ∧ ks.length ≤ l.length
theorem putK_keys {kvs : List (Key × V)} {ks : List PySem.Str} {x : PySem.Str} {v : V} (h : kvs.map (·.1) = ks.map Sum.inr) : (putK kvs (Sum.inr x) v).map (·.1) = (if x ∈ ks then ks else ks ++ [x]).map Sum.inr := by
  have hm : (kvs.any fun kv => decide (kv.1 = (Sum.inr x : Key))) = true ↔ x ∈ ks := by
    rw [List.any_eq_true]
    constructor
    · rintro ⟨kv, hkv, e⟩
      have e := of_decide_eq_true e
      have : kv.1 ∈ ks.map Sum.inr := h ▸ List.mem_map.mpr ⟨kv, hkv, rfl⟩
      obtain ⟨y, hy, e2⟩ := List.mem_map.mp this
      rw [e] at e2
      cases Sum.inr.inj e2
      exact hy
    · intro hx
      have : (Sum.inr x : Key) ∈ kvs.map (·.1) := h ▸ List.mem_map.mpr ⟨x, hx, rfl⟩
      obtain ⟨kv, hkv, e⟩ := List.mem_map.mp this
      exact ⟨kv, hkv, decide_eq_true e⟩
  unfold putK
  by_cases hx : x ∈ ks
  · rw [if_pos (hm.mpr hx), if_pos hx, List.map_map, ← h]
    refine List.map_congr_left fun kv _ => ?_
    show (if kv.1 = Sum.inr x then (kv.1, v) else kv).1 = kv.1
    split <;> rfl
  · rw [if_neg fun z => hx (hm.mp z), if_neg hx, List.map_append, List.map_append, h] <;> rfl
theorem found_put {H : Hp} {f : Addr} {l : List PySem.Str} {x : PySem.Str} {v : V} (h : Found H f l) (hz : l.length < sizeLine) : ∃ o, DPut H f (.str x) v (upd H f o) ∧ Found (upd H f o) f (l ++ [x]) := by
  obtain ⟨ks, kvs, h1, h2, h3, h4, h5⟩ := h
  have hl : kvs.length = ks.length := by
    have := congrArg List.length h2
    simpa using this
  refine ⟨_, DPut.k (k := Sum.inr x) h1 (by omega), if x ∈ ks then ks else ks ++ [x], _, upd_same, putK_keys h2, ?_, fun y => ?_, ?_⟩
  · by_cases hx : x ∈ ks
    · rw [if_pos hx]; exact h3
    · rw [if_neg hx]
      exact List.nodup_append.mpr ⟨h3, (by simp), fun a ha b hb e => by rw [List.mem_singleton.mp hb] at e; subst e; exact hx ha⟩
  · rw [List.mem_append, List.mem_singleton, ← h4]
    by_cases hx : x ∈ ks
    · rw [if_pos hx]
      exact ⟨.inl, fun z => z.elim id fun e => e ▸ hx⟩
    · rw [if_neg hx, List.mem_append, List.mem_singleton]
  · by_cases hx : x ∈ ks
    · rw [if_pos hx, List.length_append]; exact Nat.le_add_right_of_le h5
    · rw [if_neg hx, List.length_append, List.length_append]; exact Nat.add_le_add_right h5 _
theorem found_upd {H : Hp} {f a : Addr} {l : List PySem.Str} {o : HO} (h : Found H f l) (ne : f ≠ a) : Found (upd H a o) f l := by
  obtain ⟨ks, kvs, h1, r⟩ := h
  exact ⟨ks, kvs, by rw [upd_ne ne]; exact h1, r⟩
theorem same_upd {H0 H : Hp} {f : Addr} {o : HO} (s : Same H0 H) (h : H0 f = none) : Same H0 (upd H f o) := fun a u e => by
  rw [upd_ne (ne_of_none e h)]
  exact s a u e
def sp_states (K : PySem.W.Frag) : Sp := fun vs H Q _ => ∃ p kd, vs = [.ref p] ∧ KindAt K H p kd ∧ (statesOf kd).length ≤ 100000 ∧ ∀ H' l ys, Same H H' → H l = none → H' l = some (.lst (ys.map V.str)) → Up strLt ys → ys.Nodup → (∀ x, x ∈ ys ↔ x ∈ statesOf kd) → Q (.ref l) H'
theorem ok_states (T : Txt K mg) : CalM P w K mg base 1 (kC K) "states" ["self"] (sp_states K) := by
  obtain ⟨fd, F⟩ := T.d_Kind_states
  refine ⟨_, fd, ?_, T.me_Kind_states, F.bindsN fun _ _ _ _ _ _ us hl => match us, hl with | [_], _ => rfl⟩
  refine F.ok sc_Kind_states (fun vs H Q E h => ?_) (fun cdv A outer s H vs Q E hr h => ?_)
  · obtain ⟨p, kd, rfl, _⟩ := h
    rfl
  · have hu := hu_of hr
    refine ⟨_, PSs.nox (pss_cons (ps_set (i := 1) sc_Kind_states.nd rfl (Or.inl rfl) (pe_disp (pps_cons (pe_fld (pv 0) rfl) pe_bl pps_nil) (by rfl) (by rfl) (fun z => by cases z) (by decide)))
      (pss_cons (ps_for PassesOwn.never rfl (pi_tup (pe_fld (pv 0) rfl)) (pg_name (i := 2) sc_Kind_states.nd rfl (Or.inl rfl))
      (pss_one (ps_dput hu (pv 1) (pv 2) pe_bl rfl)))
      (pss_cons (ps_lock (ps_for PassesOwn.never rfl (pi_keys (pe_fld (pv 0) rfl)) (pg_tup rfl (pgs_cons (pg_name (i := 3) sc_Kind_states.nd rfl (Or.inl rfl)) (pgs_cons (pg_name (i := 4) sc_Kind_states.nd rfl (Or.inl rfl)) pgs_nil))) (pss_one (ps_dput hu (pv 1) (pv 3) pe_bl rfl))))
      (pss_cons (ps_lock (ps_for PassesOwn.never rfl (pi_valuesT (pe_fld (pv 0) rfl)) (pg_name (i := 5) sc_Kind_states.nd rfl (Or.inl rfl)) (pss_one (ps_for PassesOwn.never rfl (pi_tup (pv 5)) (pg_tup rfl (pgs_cons (pg_name (i := 6) sc_Kind_states.nd rfl (Or.inl rfl)) (pgs_cons (pg_name (i := 3) sc_Kind_states.nd rfl (Or.inl rfl)) pgs_nil))) (pss_one (ps_dput hu (pv 1) (pv 3) pe_bl rfl))))))
      (pss_one (ps_ret (pe_callB (cr_sortS rfl) rfl T.b_sorted (by decide +kernel) (pa_cons (pv 1) pa_nil)))))))), ?_⟩
    obtain ⟨p, kd, rfl, ⟨dx, ea, tb, ho, he, ht⟩, hz, q⟩ := h
    walk_at "rd"
    refine fun f hf => ⟨_, rfl, p, kC K, dx, _, _, rfl, by rw [upd_ne (ne_of_none ho hf)]; exact ho, T.cl_Kind, T.no_Kind_begin, rfl, ?_⟩
    refine ⟨upd_same, [(Sum.inr kd.start, .bl true)], rfl, (by show 1 ≤ 15; decide), ?_⟩
    have hz : (statesOf kd).length ≤ 100000 := hz
    have hlen : (statesOf kd).length = 1 + (kd.ends.length + (kd.tab.length + (kd.tab.flatMap fun m => m.2.map (·.2)).length)) := by simp [statesOf]; omega
    have hline : sizeLine = 16777216 := sizeLine_eq
    obtain ⟨kvs, htb, hpt, nd, _⟩ := id ht
    have fd0 : Found (upd (upd H f (.dK [])) f (.dK (mergeK [] [(Sum.inr kd.start, .bl true)]))) f [kd.start] := ⟨[kd.start], _, upd_same, rfl, by simp, fun x => Iff.rfl, Nat.le_refl _⟩
    have sm0 : Same H (upd (upd H f (.dK [])) f (.dK (mergeK [] [(Sum.inr kd.start, .bl true)]))) := same_upd (Same.new hf) hf
    generalize (upd (upd H f (.dK [])) f (.dK (mergeK [] [(Sum.inr kd.start, .bl true)]))) = H1 at fd0 sm0
    have ntf : f ≠ tb := fun z => by subst z; rw [htb] at hf; cases hf
    have ntp : p ≠ tb := ne_of ho htb (by intro z; cases z)
    -- the ends
    refine ⟨_, rfl, p, kC K, dx, _, _, rfl, sm0 _ _ ho, T.cl_Kind, T.no_Kind_last, rfl, ea, rfl, ⟨_, Same.tq sm0 he⟩, for_it walk_tm (fun i σ H2 => (∃ a b c d e, σ = [some (.ref p), some (.ref f), a, b, c, d, e]) ∧ Same H H2 ∧ Found H2 f (kd.start :: kd.ends.take i))
      ⟨⟨_, _, _, _, _, rfl⟩, sm0, by simpa using fd0⟩ (fun i σ H2 _ q => Same.tq q.2.1 he) (fun i x σ H2 H3 hi pv y => ?_) (fun σ H2 pv => ?_)⟩
    · obtain ⟨⟨a, b, c, d, e, rfl⟩, s2, fd2⟩ := pv
      obtain ⟨rfl, hx⟩ := y
      obtain ⟨z, hz1⟩ : ∃ z, kd.ends[i]? = some z := ⟨_, List.getElem?_eq_getElem hi⟩
      rw [List.getElem?_map, hz1] at hx
      cases Option.some.inj hx
      have hi' : (kd.start :: kd.ends.take i).length < sizeLine := by simp; omega
      obtain ⟨o, dp, fd3⟩ := found_put (x := z) (v := .bl true) fd2 hi'
      refine ⟨.ref f, rfl, .str z, rfl, f, _, rfl, dp, ⟨_, _, _, _, _, rfl⟩, same_upd s2 hf, ?_⟩
      rw [take_next hz1]
      exact fd3
    obtain ⟨⟨a, b, c, d, e, rfl⟩, s2, fd2⟩ := pv
    rw [List.take_length] at fd2
    -- the table's keys
    refine ⟨tb, _, s2 _ _ htb, trivial, fun od => ⟨_, rfl, p, kC K, dx, _, _, rfl, by rw [upd_ne ntp]; exact s2 _ _ ho, T.cl_Kind, T.no_Kind_table, rfl, tb, od, rfl, .inr ⟨kvs, upd_same, ?_⟩⟩⟩
    refine for_it walk_keysT (fun i σ H3 => (∃ a b c d e, σ = [some (.ref p), some (.ref f), a, b, c, d, e]) ∧ Same (upd H tb (.frz od (.dT kvs))) H3 ∧ Found H3 f (kd.start :: (kd.ends ++ (kd.tab.take i).map (·.1.1))))
      ⟨⟨_, _, _, _, _, rfl⟩, fun a o e => ?_, by simpa using found_upd fd2 ntf⟩ (fun i σ H2 _ q => same_loc q.2.1) (fun i x σ H2 H3 hi pv y => ?_) (fun σ H3 pv => ?_)
    · by_cases z : a = tb
      · subst z; rw [upd_same] at e; cases e; exact upd_same
      · rw [upd_ne z] at e; rw [upd_ne z]; exact s2 _ _ e
    · obtain ⟨⟨a, b, c, d, e, rfl⟩, s3, fd3⟩ := pv
      obtain ⟨rfl, k, v, b', hk, rfl, hb⟩ := y
      obtain ⟨m, em, h1, _⟩ := Paired.at hpt hk
      have e1 : k = [Sum.inr m.1.1, Sum.inr m.1.2] := h1
      subst e1
      have hi' : (kd.start :: (kd.ends ++ (kd.tab.take i).map (·.1.1))).length < sizeLine := by simp; have := List.length_take_le i kd.tab; omega
      obtain ⟨o, dp, fd4⟩ := found_put (x := m.1.1) (v := .bl true) fd3 hi'
      refine ⟨b', [.str m.1.1, .str m.1.2], rfl, SqT.of hb, rfl, _, _, rfl, _, _, rfl, rfl, .ref f, rfl, .str m.1.1, rfl, f, _, rfl, dp, ⟨_, _, _, _, _, rfl⟩, same_upd s3 (by rw [upd_ne ntf]; exact hf), ?_⟩
      rw [take_next em, List.map_append]
      simpa using fd4
    obtain ⟨⟨a, b, c, d, e, rfl⟩, s3, fd3⟩ := pv
    refine ⟨same_loc s3, ?_⟩
    have s4 := lock_same htb s3
    have fd4 := found_upd (o := .dT kvs) fd3 ntf
    generalize upd H3 tb (.dT kvs) = H4 at s4 fd4
    have hkl : kd.tab.length = kvs.length := Paired.length hpt
    rw [← hkl, List.take_length] at fd4
    -- the outcomes
    refine ⟨tb, _, s4 _ _ htb, trivial, fun od2 => ⟨_, rfl, p, kC K, dx, _, _, rfl, by rw [upd_ne ntp]; exact s4 _ _ ho, T.cl_Kind, T.no_Kind_table, rfl, tb, od2, kvs, rfl, upd_same, ?_⟩⟩
    have hpt2 : Paired (TabE K (upd H tb (.frz od2 (.dT kvs)))) kd.tab kvs := Paired.imp hpt fun m kv h => by
      obtain ⟨h1, t, h2, cs, h3, h4⟩ := h
      have lk : ∀ {b : Addr} {xs : List V}, SqT K H b xs → SqT K (upd H tb (.frz od2 (.dT kvs))) b xs := fun {b xs} z => (sqR_lock htb (fun xs => ⟨(fun z => by cases z), (fun z => by cases z)⟩) (fun o v z => by cases z) (.inr z)).elim (fun y => by
        rcases z with (z | ⟨o, z⟩) | z
        · exact .inl (.inl (by rw [upd_ne (ne_of z htb (by intro q; cases q))]; exact z))
        · exact .inl (.inr ⟨o, by rw [upd_ne (ne_of z htb (by intro q; cases q))]; exact z⟩)
        · exact .inr z) id
      exact ⟨h1, t, h2, cs, lk h3, Paired.imp h4 fun _ _ z => lk z⟩
    refine for_it walk_valuesT (fun i σ H5 => (∃ a b c d e, σ = [some (.ref p), some (.ref f), a, b, c, d, e]) ∧ Same (upd H tb (.frz od2 (.dT kvs))) H5 ∧ Found H5 f (kd.start :: (kd.ends ++ (kd.tab.map (·.1.1) ++ (kd.tab.take i).flatMap fun m => m.2.map (·.2)))))
      ⟨⟨_, _, _, _, _, rfl⟩, fun a o e => ?_, by simpa using found_upd fd4 ntf⟩ (fun i σ H2 _ q => same_loc q.2.1) (fun i x σ H2 H5 hi pv y => ?_) (fun σ H5 pv => ?_)
    · by_cases z : a = tb
      · subst z; rw [upd_same] at e; cases e; exact upd_same
      · rw [upd_ne z] at e; rw [upd_ne z]; exact s4 _ _ e
    · obtain ⟨⟨a, b, c, d, e, rfl⟩, s5, fd5⟩ := pv
      obtain ⟨rfl, k, hk⟩ := y
      obtain ⟨m, em, h1, t, e2, cs, h3, h4⟩ := Paired.at hpt2 hk
      have e2' : x = .ref t := e2
      subst e2'
      have hcs : m.2.length = cs.length := Paired.length h4
      refine ⟨_, rfl, t, rfl, ⟨_, Same.tq s5 h3⟩, for_it walk_tm (fun j σ H6 => (∃ a b c d e, σ = [some (.ref p), some (.ref f), a, b, c, d, e]) ∧ Same (upd H tb (.frz od2 (.dT kvs))) H6 ∧ Found H6 f (kd.start :: (kd.ends ++ (kd.tab.map (·.1.1) ++ ((kd.tab.take i).flatMap (fun m => m.2.map (·.2)) ++ (m.2.take j).map (·.2))))))
        ⟨⟨_, _, _, _, _, rfl⟩, s5, by simpa using fd5⟩ (fun j σ H6 _ q => Same.tq q.2.1 h3) (fun j x σ H6 H7 hj pv y => ?_) (fun σ H6 pv => ?_)⟩
      · obtain ⟨⟨a, b, c, d, e, rfl⟩, s6, fd6⟩ := pv
        obtain ⟨rfl, hx⟩ := y
        obtain ⟨b', hb'⟩ : ∃ b', cs[j]? = some b' := ⟨_, List.getElem?_eq_getElem hj⟩
        rw [List.getElem?_map, hb'] at hx
        cases Option.some.inj hx
        obtain ⟨o, eo, hr⟩ := Paired.at h4 hb'
        have hi' : (kd.start :: (kd.ends ++ (kd.tab.map (·.1.1) ++ ((kd.tab.take i).flatMap (fun m => m.2.map (·.2)) ++ (m.2.take j).map (·.2))))).length < sizeLine := by
          have hsplit : (kd.tab.flatMap fun m => m.2.map (·.2)).length = ((kd.tab.take i).flatMap fun m => m.2.map (·.2)).length + ((kd.tab.drop i).flatMap fun m => m.2.map (·.2)).length := by
            rw [← List.length_append, ← List.flatMap_append, List.take_append_drop]
          have hd' : kd.tab.drop i = m :: kd.tab.drop (i + 1) := by
            obtain ⟨hlt, e⟩ := List.getElem?_eq_some_iff.mp em
            rw [← e]
            exact List.drop_eq_getElem_cons hlt
          rw [hd'] at hsplit
          simp only [List.flatMap_cons, List.length_append, List.length_map] at hsplit
          have := List.length_take_le j m.2
          simp only [List.length_cons, List.length_append, List.length_map]
          have h9 : (m.2.take j).length ≤ m.2.length := by rw [List.length_take]; omega
          omega
        obtain ⟨oo, dp, fd7⟩ := found_put (x := o.2) (v := .bl true) fd6 hi'
        refine ⟨b', [.str o.1, .str o.2], rfl, Same.tq s6 hr, rfl, _, _, rfl, _, _, rfl, rfl, .ref f, rfl, .str o.2, rfl, f, _, rfl, dp, ⟨_, _, _, _, _, rfl⟩, same_upd s6 (by rw [upd_ne ntf]; exact hf), ?_⟩
        rw [take_next eo, List.map_append]
        simpa using fd7
      · obtain ⟨⟨a, b, c, d, e, rfl⟩, s6, fd6⟩ := pv
        rw [← hcs, List.take_length] at fd6
        refine ⟨⟨_, _, _, _, _, rfl⟩, s6, ?_⟩
        rw [take_next em, List.flatMap_append]
        simpa using fd6
    obtain ⟨⟨a, b, c, d, e, rfl⟩, s5, fd5⟩ := pv
    refine ⟨same_loc s5, ?_⟩
    have s6 := lock_same htb s5
    have fd6 := found_upd (o := .dT kvs) fd5 ntf
    generalize upd H5 tb (.dT kvs) = H6 at s6 fd6
    rw [← hkl, List.take_length] at fd6
    obtain ⟨ks, kvs2, g1, g2, g3, g4, g5⟩ := fd6
    -- return sorted(found)
    have hks : ks.length ≤ sizeLine := by
      have : (kd.start :: (kd.ends ++ (kd.tab.map (·.1.1) ++ kd.tab.flatMap fun m => m.2.map (·.2)))).length = (statesOf kd).length := rfl
      omega
    refine ⟨.ref f, rfl, f, ks, rfl, .inr ⟨kvs2, .inl g1, g2⟩, hks, fun l hl => ?_⟩
    refine q _ l (isort strLt ks) (s6.trans (Same.new hl)) (s6.free hl) upd_same (isort_up strLt_tot ks) (nodup_isort.mpr g3) fun x => ?_
    rw [mem_isort, g4]
    exact Iff.rfl
end
end Rs
set_option Elab.async false
set_option linter.all false
set_option maxRecDepth 100000
set_option maxHeartbeats 2000000
/-! for x in row, the row a list or a tuple. -/
namespace Rs
open PySem PySem.Spec PyProof.Rows L2
def iSeq (K : PySem.W.Frag) (tl : TE) : TI := fun σ H R => tl σ H fun x H1 => ∃ a, x = .ref a ∧ (((∃ xs, SqL K H1 a xs) ∧ R (Itl K a) H1) ∨ ((∃ xs, SqT K H1 a xs) ∧ R (Itt K a) H1))
theorem pi_seq {X : Cx} {tg l : Expr} {tl : TE} (hl : PE X l tl) : PI X tg l (iSeq X.K tl) := by
  refine ⟨fun pins s σ H R I h => thn (hl.run pins s σ H _ I h) fun v s1 ⟨x, H1, I1, r1, a, e, hor⟩ => ?_⟩
  subst e
  cases r1
  have fresh : ∀ b ∈ [s1.heap.objs.size], FpOk X pins H1 b := fun b hb => by
    cases (show b = s1.heap.objs.size by simpa using hb)
    exact I1.fpOk (Nat.le_refl _) (I1.hok.fresh (Nat.le_refl _))
  rcases hor with ⟨⟨xs, hq⟩, q⟩ | ⟨⟨xs, hq⟩, q⟩
  · obtain ⟨its, rv, p, hz⟩ := I1.list hq
    exact wpAny_pyIter_list p.isList ⟨s1.heap.objs.size, [s1.heap.objs.size], _, _, H1, rfl, I1.kept (t' := s1.toks) fun b o e => Heap.get?_push_of_some _ e, turn_list a _, ⟨_, Heap.get?_push_size _ rfl, rfl, rfl⟩, fresh, q⟩
  · obtain ⟨its, rv, p, hz⟩ := I1.tuple hq
    exact wpAny_pyIter_tuple (show s1.heap.IsTuple a its.toArray from p) ⟨s1.heap.objs.size, [s1.heap.objs.size], _, _, H1, rfl, I1.kept (t' := s1.toks) fun b o e => Heap.get?_push_of_some _ e, turn_tuple a _, ⟨_, Heap.get?_push_size _ rfl, rfl, rfl⟩, fresh, q⟩
end Rs
set_option Elab.async false
set_option linter.all false
set_option maxRecDepth 100000
set_option maxHeartbeats 2000000
namespace Rs
open PySem PySem.Spec PyProof.Rows L2
local macro_rules | `(tactic| walk_at "rd") => `(tactic| simp only [L2.tRet, L2.tRetN, L2.tSeq, L2.tNext, L2.tIfS, L2.tAsg, L2.gName, L2.gNil, L2.gCons, L2.tVar, L2.tC, L2.tOp, L2.tUn, L2.tCB, L2.tCons, L2.tNil, L2.tAndV, L2.tOrV, L2.tNotV, L2.tAnd, L2.tOr, L2.tNot, L2.tB, L2.tTest, L2.tIf, L2.tChain, L2.tTup, L2.tLst, L2.tDrop, L2.tFld, L2.start, L2.cxOf, L2.Cx.nox, L2.Cx.wish, L2.rI0, L2.rI, L2.tYes, Rs.tCalW, List.getElem?_cons_zero, List.getElem?_cons_succ, Option.some.injEq, exists_eq_left', exists_eq_left, exists_and_left, List.cons.injEq, and_true, true_and, L2.V.bl.injEq, L2.V.int.injEq, L2.V.str.injEq, L2.V.ref.injEq, List.set_cons_zero, List.set_cons_succ, List.map_cons, List.map_nil, List.length_cons, List.length_nil, List.replicate, List.cons_append, List.nil_append, List.append_nil, Nat.reduceSub, Nat.reduceAdd])

section
variable {P : Program} {w : World} {K : PySem.W.Frag} {mg : PySem.Str → Option Value} {base : Heap}
theorem kflds_no {m : PySem.Str} {name start : PySem.Str} {e tb : Addr} (h : ([("called" : PySem.Str), "begin", "last", "table"]).all (fun x => decide (m ≠ x)) = true) : (kflds name start e tb).lookup m = none := by
  simp only [List.all_cons, List.all_nil, Bool.and_true, Bool.and_eq_true, decide_eq_true_eq] at h
  obtain ⟨h1, h2, h3, h4⟩ := h
  have q : ∀ {a b : PySem.Str}, a ≠ b → (a == b) = false := fun h => beq_eq_false_iff_ne.mpr h
  simp only [kflds, List.lookup_cons, q h1, q h2, q h3, q h4, List.lookup_nil]
/-! ### start, [], in -/
def sp_start (K : PySem.W.Frag) : Sp := fun vs H Q _ => ∃ p kd, vs = [.ref p] ∧ KindAt K H p kd ∧ Q (.str kd.start) H
theorem ok_start (T : Txt K mg) : CalP P w K mg base 1 (kC K) "start" (sp_start K) := by
  obtain ⟨fd, F⟩ := T.d_Kind_start
  refine ⟨_, _, fd, ?_, T.pr_Kind_start, F.bindsN fun _ _ _ _ _ _ us hl => match us, hl with | [_], _ => rfl⟩
  refine F.ok sc_Kind_start (fun vs H Q E h => ?_) (fun cdv A outer s H vs Q E hr h => ?_)
  · obtain ⟨p, kd, rfl, _⟩ := h
    rfl
  · refine ⟨_, PSs.nox (pss_one (ps_ret (pe_fld (pv 0) rfl))), ?_⟩
    obtain ⟨p, kd, rfl, ⟨dx, ea, tb, ho, he, ht⟩, q⟩ := h
    exact ⟨_, rfl, p, kC K, dx, _, _, rfl, ho, T.cl_Kind, T.no_Kind_begin, rfl, q⟩
/-- what a pair of texts is looked up as -/
def look (tab : List Mv) (k : PySem.Str × PySem.Str) : Option Outs := (tab.find? fun m => decide (m.1 = k)).map (·.2)
/-- the key is a tuple of two texts -/
def sp_getitem (K : PySem.W.Frag) : Sp := fun vs H Q _ => ∃ p kd b x y, vs = [.ref p, .ref b] ∧ KindAt K H p kd ∧ H b = some (.tup [.str x, .str y]) ∧ x.length ≤ sizeLine ∧ y.length ≤ sizeLine ∧
  ∀ H', Same H H' → match (if isName (.str x) = true ∧ isName (.str y) = true then look kd.tab (x, y) else none) with
    | none => Q .non H'
    | some os => ∀ t, OutsAt K H' t os → Q (.ref t) H'
theorem tab_look {H : Hp} {tab : List Mv} {kvs : List (List Key × V)} (hp : Paired (TabE K H) tab kvs) (x y : PySem.Str) :
    match look tab (x, y) with
    | none => valV kvs [Sum.inr x, Sum.inr y] = none
    | some os => ∃ t, valV kvs [Sum.inr x, Sum.inr y] = some (.ref t) ∧ OutsAt K H t os := by
  unfold look valV
  induction hp with
  | nil => exact rfl
  | @cons m kv tab kvs h1 _ ih =>
    by_cases e : m.1 = (x, y)
    · have e2 : kv.1 = [Sum.inr x, Sum.inr y] := by rw [h1.1, e]
      rw [List.find?_cons_of_pos (by simpa using e), List.find?_cons_of_pos (by simpa using e2)]
      obtain ⟨_, t, e3, h3⟩ := h1
      exact ⟨t, by rw [← e3] <;> rfl, h3⟩
    · have e2 : kv.1 ≠ [Sum.inr x, Sum.inr y] := fun z => e (by
        rw [h1.1] at z
        obtain ⟨z1, z2⟩ := List.cons.inj z
        exact Prod.ext (Sum.inr.inj z1) (Sum.inr.inj (List.cons.inj z2).1))
      rw [List.find?_cons_of_neg (by simpa using e), List.find?_cons_of_neg (by simpa using e2)]
      exact ih
theorem any2 {H : Hp} {x y : PySem.Str} (lx : x.length ≤ sizeLine) (ly : y.length ≤ sizeLine) : ∀ v ∈ [V.str x, V.str y], Any K H v := fun v hv => by
  rcases List.mem_cons.mp hv with rfl | hv
  · exact ⟨⟨_, srt_str _⟩, fun z e => by cases e; exact lx⟩
  · rcases List.mem_cons.mp hv with rfl | hv
    · exact ⟨⟨_, srt_str _⟩, fun z e => by cases e; exact ly⟩
    · cases hv
theorem ok_getitem (T : Txt K mg) : CalD P w K mg base 4 (kC K) "__getitem__" ["self", "at"] (sp_getitem K) := by
  have c_is_key := ok_is_key (P := P) (w := w) (base := base) T
  obtain ⟨fd, F⟩ := T.d_Kind_getitem
  refine ⟨_, fd, ?_, T.du_Kind_getitem, F.bindsN fun _ _ _ _ _ _ us hl => match us, hl with | [_, _], _ => rfl⟩
  refine F.ok sc_Kind_getitem (fun vs H Q E h => ?_) (fun cdv A outer s H vs Q E hr h => ?_)
  · obtain ⟨p, kd, b, x, y, rfl, _⟩ := h
    rfl
  · have hu := hu_of hr
    refine ⟨_, PSs.nox (pss_one (ps_ret (pe_ifExp (pt_val (pe_cal c_is_key (hr.mono (by decide)) takes0 (pa_cons (pv 1) pa_nil))) (pe_dget1 hu (pe_fld (pv 0) rfl) (pv 1) ⟨rfl, rfl, rfl, rfl⟩) pe_non))), ?_⟩
    obtain ⟨p, kd, b, x, y, rfl, ⟨dx, ea, tb, ho, he, ht⟩, hb, lx, ly, q⟩ := h
    walk_at "rd"
    refine ⟨.ref b, _, rfl, srt_tup hb, .inr ⟨b, _, rfl, SqT.of hb, fun _ => any2 lx ly, fun H1 s1 => ⟨_, rfl, ?_⟩⟩⟩
    have q1 := q H1 s1
    obtain ⟨kvs, htb, hpt, nd, _⟩ := id ht
    by_cases hk : isName (.str x) = true ∧ isName (.str y) = true
    · rw [if_pos (by simp only [pairB, hk.1, hk.2, Bool.and_true])]
      rw [if_pos hk] at q1
      refine ⟨_, rfl, p, kC K, dx, _, _, rfl, s1 _ _ ho, T.cl_Kind, T.no_Kind_table, rfl, tb, rfl, .inr ⟨kvs, .inl (s1 _ _ htb)⟩, _, rfl, _, .inr ⟨kvs, [Sum.inr x, Sum.inr y], b, .inl (s1 _ _ htb), rfl, s1 _ _ hb, rfl⟩, ?_⟩
      have tl := tab_look hpt x y
      cases e : look kd.tab (x, y) with
      | none =>
        rw [e] at tl q1
        rw [show valV kvs [Sum.inr x, Sum.inr y] = none from tl]
        exact q1
      | some os =>
        rw [e] at tl q1
        obtain ⟨t, e1, e2⟩ := tl
        rw [e1]
        exact q1 t (e2.same s1)
    · rw [if_neg (by simp only [pairB, Bool.and_eq_true]; exact hk)]
      rw [if_neg hk] at q1
      exact q1
/-! the key a tuple of two texts, or anything else that is no text -/
def sp_contains (K : PySem.W.Frag) : Sp := fun vs H Q _ => ∃ p kd b x y, vs = [.ref p, .ref b] ∧ KindAt K H p kd ∧ H b = some (.tup [.str x, .str y]) ∧ x.length ≤ sizeLine ∧ y.length ≤ sizeLine ∧
  ∀ H', Same H H' → Q (.bl ((isName (.str x) && isName (.str y)) && (look kd.tab (x, y)).isSome)) H'
theorem ok_contains (T : Txt K mg) : CalD P w K mg base 4 (kC K) "__contains__" ["self", "at"] (sp_contains K) := by
  have c_is_key := ok_is_key (P := P) (w := w) (base := base) T
  obtain ⟨fd, F⟩ := T.d_Kind_contains
  refine ⟨_, fd, ?_, T.du_Kind_contains, F.bindsN fun _ _ _ _ _ _ us hl => match us, hl with | [_, _], _ => rfl⟩
  refine F.ok sc_Kind_contains (fun vs H Q E h => ?_) (fun cdv A outer s H vs Q E hr h => ?_)
  · obtain ⟨p, kd, b, x, y, rfl, _⟩ := h
    rfl
  · have hu := hu_of hr
    refine ⟨_, PSs.nox (pss_one (ps_ret (pe_and (pe_cal c_is_key (hr.mono (by decide)) takes0 (pa_cons (pv 1) pa_nil)) (pe_one (pe_cmp (pc_din hu (pv 1) (pe_fld (pv 0) rfl)) rfl))))), ?_⟩
    obtain ⟨p, kd, b, x, y, rfl, ⟨dx, ea, tb, ho, he, ht⟩, hb, lx, ly, q⟩ := h
    walk_at "rd"
    refine ⟨.ref b, _, rfl, srt_tup hb, .inr ⟨b, _, rfl, SqT.of hb, fun _ => any2 lx ly, fun H1 s1 => ⟨_, rfl, ?_⟩⟩⟩
    have q1 := q H1 s1
    obtain ⟨kvs, htb, hpt, nd, _⟩ := id ht
    cases hk : (isName (.str x) && isName (.str y)) with
    | true =>
      rw [if_pos (by simpa only [pairB] using hk)]
      rw [hk, Bool.true_and] at q1
      refine ⟨_, rfl, _, rfl, p, kC K, dx, _, _, rfl, s1 _ _ ho, T.cl_Kind, T.no_Kind_table, rfl, tb, _, rfl, .inr ⟨kvs, [Sum.inr x, Sum.inr y], b, .inl (s1 _ _ htb), rfl, s1 _ _ hb, rfl⟩, ?_⟩
      have tl := tab_look hpt x y
      cases e : look kd.tab (x, y) with
      | none =>
        rw [e] at tl q1
        rw [show valV kvs [Sum.inr x, Sum.inr y] = none from tl]
        exact q1
      | some os =>
        rw [e] at tl q1
        obtain ⟨t, e1, e2⟩ := tl
        rw [e1]
        exact q1
    | false =>
      rw [if_neg (by simp only [pairB, hk]; decide)]
      rw [hk, Bool.false_and] at q1
      exact q1
end
end Rs
set_option Elab.async false
set_option linter.all false
set_option maxRecDepth 100000
set_option maxHeartbeats 2000000
namespace Rs
open PySem PySem.Spec PyProof.Rows L2
local macro_rules | `(tactic| walk_at "rd") => `(tactic| simp only [L2.tRet, L2.tRetN, L2.tSeq, L2.tNext, L2.tIfS, L2.tAsg, L2.gName, L2.gNil, L2.gCons, L2.tVar, L2.tC, L2.tOp, L2.tUn, L2.tCB, L2.tCons, L2.tNil, L2.tAndV, L2.tOrV, L2.tNotV, L2.tAnd, L2.tOr, L2.tNot, L2.tB, L2.tTest, L2.tIf, L2.tChain, L2.tTup, L2.tLst, L2.tDrop, L2.tFld, L2.sFld, L2.start, L2.cxOf, L2.Cx.nox, L2.Cx.wish, L2.rI0, L2.rI, L2.tYes, Rs.tCalW, List.getElem?_cons_zero, List.getElem?_cons_succ, Option.some.injEq, exists_eq_left', exists_eq_left, exists_and_left, List.cons.injEq, and_true, true_and, L2.V.bl.injEq, L2.V.int.injEq, L2.V.str.injEq, L2.V.ref.injEq, List.set_cons_zero, List.set_cons_succ, List.map_cons, List.map_nil, List.length_cons, List.length_nil, List.replicate, List.cons_append, List.nil_append, List.append_nil, Nat.reduceSub, Nat.reduceAdd])

section
variable {P : Program} {w : World} {K : PySem.W.Frag} {mg : PySem.Str → Option Value} {base : Heap}
/-! ### what stands but for one -/
def SameX (x : Addr) (H H' : Hp) : Prop := ∀ a u, a ≠ x → H a = some u → H' a = some u
theorem SameX.of {x : Addr} {H H' : Hp} (h : Same H H') : SameX x H H' := fun a u _ e => h a u e
theorem SameX.trans {x : Addr} {H H' H'' : Hp} (h : SameX x H H') (h' : SameX x H' H'') : SameX x H H'' := fun a u n e => h' a u n (h a u n e)
theorem SameX.upd {x : Addr} {H H' : Hp} {o : HO} (h : SameX x H H') : SameX x H (upd H' x o) := fun a u n e => by rw [upd_ne n]; exact h a u n e
theorem SameX.self {x : Addr} {H : Hp} {o : HO} : SameX x H (L2.upd H x o) := fun a u n e => by rw [upd_ne n]; exact e
theorem SameX.same {x : Addr} {H0 H H' : Hp} (h : SameX x H H') (s : Same H0 H) (n : H0 x = none) : Same H0 H' := fun a u e => h a u (ne_of_none e n) (s a u e)
def isTupO : HO → Bool
  | .tup _ => true
  | .frz _ _ => true
  | .lst _ => true
  | _ => false
theorem SameX.tq {x : Addr} {H H' : Hp} {o : HO} {a : Addr} {xs : List V} (h : SameX x H H') (hx : H x = some o) (ho : isTupO o = false) (q : SqT K H a xs) : SqT K H' a xs := by
  have ne : ∀ u, H a = some u → isTupO u = true → a ≠ x := fun u hu hh z => by subst z; rw [hx] at hu; cases Option.some.inj hu; rw [ho] at hh; cases hh
  rcases q with (q | ⟨ob, q⟩) | q
  · exact .inl (.inl (h _ _ (ne _ q rfl) q))
  · exact .inl (.inr ⟨ob, h _ _ (ne _ q rfl) q⟩)
  · exact .inr q
theorem SameX.lq {x : Addr} {H H' : Hp} {o : HO} {a : Addr} {xs : List V} (h : SameX x H H') (hx : H x = some o) (ho : isTupO o = false) (q : SqL K H a xs) : SqL K H' a xs := by
  have ne : ∀ u, H a = some u → isTupO u = true → a ≠ x := fun u hu hh z => by subst z; rw [hx] at hu; cases Option.some.inj hu; rw [ho] at hh; cases hh
  rcases q with (q | ⟨ob, q⟩) | q
  · exact .inl (.inl (h _ _ (ne _ q rfl) q))
  · exact .inl (.inr ⟨ob, h _ _ (ne _ q rfl) q⟩)
  · exact .inr q
theorem SameX.rq {x : Addr} {H H' : Hp} {o : HO} {a : Addr} {xs : List V} (h : SameX x H H') (hx : H x = some o) (ho : isTupO o = false) (q : SqR K H a xs) : SqR K H' a xs := q.elim (fun q => .inl (h.lq hx ho q)) fun q => .inr (h.tq hx ho q)
theorem SameX.outs {x : Addr} {H H' : Hp} {o : HO} {t : Addr} {os : Outs} (h : SameX x H H') (hx : H x = some o) (ho : isTupO o = false) (q : OutsAt K H t os) : OutsAt K H' t os :=
  let ⟨cs, h1, h2⟩ := q; ⟨cs, h.tq hx ho h1, Paired.imp h2 fun _ _ z => h.tq hx ho z⟩
theorem SameX.tab {x : Addr} {H H' : Hp} {o : HO} {m : Mv} {kv : List Key × V} (h : SameX x H H') (hx : H x = some o) (ho : isTupO o = false) (q : TabE K H m kv) : TabE K H' m kv :=
  let ⟨h1, t, h2, h3⟩ := q; ⟨h1, t, h2, h.outs hx ho h3⟩
theorem SameX.mv {x : Addr} {H H' : Hp} {o : HO} {m : Mv} {kv : List Key × V} (h : SameX x H H') (hx : H x = some o) (ho : isTupO o = false) (q : MvAt K H m kv) : MvAt K H' m kv :=
  let ⟨h1, p, bs, h2, h3, h4⟩ := q; ⟨h1, p, bs, h2, h.rq hx ho h3, Paired.imp h4 fun _ _ z => h.rq hx ho z⟩
/-! ### outcomes and moves in order -/
abbrev row2 (o : PySem.Str × PySem.Str) : List PySem.Str := [o.1, o.2]
def un2 (r : List PySem.Str) : PySem.Str × PySem.Str := (r.getD 0 "", r.getD 1 "")
theorem un2_row2 (o : PySem.Str × PySem.Str) : un2 (row2 o) = o := rfl
def sortOuts (os : Outs) : Outs := (isort rowLt (os.map row2)).map un2
def sortTab (mv : List Mv) : List Mv := (isort rowLt (mv.map fun m => row2 m.1)).map fun k => (un2 k, sortOuts ((look mv (un2 k)).getD []))
theorem row_sorted {os : List (PySem.Str × PySem.Str)} {k : List PySem.Str} (h : k ∈ isort rowLt (os.map row2)) : row2 (un2 k) = k ∧ un2 k ∈ os := by
  obtain ⟨o, ho, rfl⟩ := List.mem_map.mp (mem_isort.mp h)
  exact ⟨rfl, ho⟩
theorem Paired.mapL {α β γ : Type} {R : α → β → Prop} {S : γ → β → Prop} {f : α → γ} : ∀ {l : List α} {m : List β}, Paired R l m → (∀ a ∈ l, ∀ b, R a b → S (f a) b) → Paired S (l.map f) m
  | _, _, .nil, _ => .nil
  | _, _, .cons h t, g => .cons (g _ List.mem_cons_self _ h) (Paired.mapL t fun a ha b => g a (List.mem_cons_of_mem _ ha) b)
theorem look_mem {mv : List Mv} {m : Mv} (nd : (mv.map (·.1)).Nodup) (h : m ∈ mv) : look mv m.1 = some m.2 := by
  unfold look
  induction mv with
  | nil => cases h
  | cons n mv ih =>
    obtain ⟨n1, n2⟩ := List.nodup_cons.mp nd
    rcases List.mem_cons.mp h with rfl | h
    · rw [List.find?_cons_of_pos (by simp)] <;> rfl
    · rw [List.find?_cons_of_neg (by
        simp only [decide_eq_true_eq]
        exact fun e => n1 (List.mem_map.mpr ⟨m, h, e.symm⟩))]
      exact ih n2 h
theorem putK_new {α : Type} [DecidableEq α] {kvs : List (α × V)} {k : α} {v : V} (h : k ∉ kvs.map (·.1)) : putK kvs k v = kvs ++ [(k, v)] := by
  unfold putK
  rw [if_neg]
  intro e
  obtain ⟨p, hp, e⟩ := List.any_eq_true.mp e
  exact h (List.mem_map.mpr ⟨p, hp, of_decide_eq_true e⟩)
theorem paired_keys {H : Hp} : ∀ {mv : List Mv} {kvs : List (List Key × V)}, Paired (MvAt K H) mv kvs → kvs.map (·.1) = (mv.map fun m => row2 m.1).map (·.map Sum.inr)
  | _, _, .nil => rfl
  | _, _, .cons h t => by rw [List.map_cons, List.map_cons, List.map_cons, paired_keys t, h.1] <;> rfl
theorem Paired.atL {α β : Type} {R : α → β → Prop} : ∀ {l : List α} {m : List β} {i : Nat} {a : α}, Paired R l m → l[i]? = some a → ∃ b, m[i]? = some b ∧ R a b
  | _, _, _, _, .nil, e => by simp at e
  | _, _, 0, _, .cons h _, e => by simp at e; subst e; exact ⟨_, rfl, h⟩
  | _, _, i + 1, _, .cons _ t, e => by
    obtain ⟨a, e1, e2⟩ := Paired.atL (i := i) t (by simpa using e)
    exact ⟨a, by simpa using e1, e2⟩
theorem sortTab_keys (mv : List Mv) : ((sortTab mv).map (·.1)).Perm (mv.map (·.1)) := by
  have h := (isort_perm (lt := rowLt) (mv.map fun m => row2 m.1)).map un2
  rw [sortTab, List.map_map]
  rw [List.map_map] at h
  exact h
theorem sortTab_nodup {mv : List Mv} (nd : (mv.map (·.1)).Nodup) : ((sortTab mv).map (·.1)).Nodup := (sortTab_keys mv).nodup_iff.mpr nd
theorem look_in {mv : List Mv} {k : PySem.Str × PySem.Str} {os : Outs} (h : look mv k = some os) : (k, os) ∈ mv := by
  unfold look at h
  obtain ⟨m, hm, e⟩ := Option.map_eq_some_iff.mp h
  have h1 := List.find?_some hm
  have h2 := List.mem_of_find?_eq_some hm
  have : m.1 = k := of_decide_eq_true h1
  rw [← this, ← e]
  exact h2
theorem sortTab_few {mv : List Mv} (h : ∀ m ∈ mv, outsB m.2 = true) : ∀ m ∈ sortTab mv, m.2.length ≤ 8 := by
  intro m hm
  obtain ⟨k, _, rfl⟩ := List.mem_map.mp hm
  show (sortOuts ((look mv (un2 k)).getD [])).length ≤ 8
  rw [sortOuts, List.length_map, length_isort, List.length_map]
  cases e : look mv (un2 k) with
  | none => exact Nat.zero_le _
  | some os => exact (outs_len (h _ (look_in e))).1
theorem outs_sum : ∀ (tab : List Mv), (∀ m ∈ tab, m.2.length ≤ 8) → (tab.flatMap fun m => m.2.map (·.2)).length ≤ 8 * tab.length
  | [], _ => by simp
  | m :: tab, h => by
    have h1 := outs_sum tab fun n hn => h n (List.mem_cons_of_mem _ hn)
    have h2 := h m List.mem_cons_self
    rw [List.flatMap_cons, List.length_append, List.length_map, List.length_cons]
    omega
theorem tab_new {H : Hp} {mv : List Mv} {m : Mv} {i : Nat} {kvs' : List (List Key × V)} (nd : (mv.map (·.1)).Nodup) (h : mv[i]? = some m) (hp : Paired (TabE K H) (mv.take i) kvs') : [Sum.inr m.1.1, Sum.inr m.1.2] ∉ kvs'.map (·.1) := by
  intro hm
  obtain ⟨kv, hkv, e⟩ := List.mem_map.mp hm
  obtain ⟨j, hj⟩ := List.getElem?_of_mem hkv
  obtain ⟨n, hn, e2, _⟩ := Paired.at hp hj
  rw [e] at e2
  obtain ⟨z1, z2⟩ := List.cons.inj e2
  have e3 : m.1 = n.1 := Prod.ext (Sum.inr.inj z1) (Sum.inr.inj (List.cons.inj z2).1)
  have h1 : (mv.take (i + 1)).map (·.1) = (mv.take i).map (·.1) ++ [m.1] := by rw [take_next h, List.map_append] <;> rfl
  have h2 : ((mv.take (i + 1)).map (·.1)).Nodup := by
    rw [List.map_take]
    exact nd.sublist (List.take_sublist _ _)
  rw [h1] at h2
  exact (List.nodup_append.mp h2).2.2 n.1 (List.mem_map.mpr ⟨n, List.mem_of_getElem? hn, rfl⟩) m.1 (by simp) e3.symm
abbrev kfl2 (name start : PySem.Str) : List (PySem.Str × V) := [("called", .str name), ("begin", .str start)]
def sp_kind (K : PySem.W.Frag) : Sp := fun vs H Q _ => ∃ (x : Addr) (name start : PySem.Str) (e d : Addr) (ends : List PySem.Str) (mv : List Mv) (dx : Addr), vs = [.ref x, .str name, .str start, .ref e, .ref d] ∧ H x = some (.ins (kC K) dx []) ∧
  isName (.str name) = true ∧ isName (.str start) = true ∧ SqR K H e (ends.map V.str) ∧ (∀ y ∈ ends, isName (.str y) = true) ∧ ends.Nodup ∧ ends.length ≤ 4000 ∧ MovesAt K H d mv ∧ MovesOk mv ∧
  (∀ ys : List PySem.Str, ys.Nodup → (∀ y ∈ ys, y ∈ statesOf ⟨name, start, isort strLt ends, sortTab mv⟩) → ys.length ≤ 60) ∧
  ∀ H', SameX x H H' → KindAt K H' x ⟨name, start, isort strLt ends, sortTab mv⟩ → Q .non H'
/-- a kind whose table was not there before -/
def KindNew (K : PySem.W.Frag) (H0 H : Hp) (p : Addr) (kd : KD) : Prop := ∃ dx e tb, H0 tb = none ∧ H p = some (.ins (kC K) dx (kflds kd.name kd.start e tb)) ∧ SqT K H e (kd.ends.map V.str) ∧ TabAt K H tb kd.tab
theorem KindNew.at {H0 H : Hp} {p : Addr} {kd : KD} (h : KindNew K H0 H p kd) : KindAt K H p kd := let ⟨dx, e, tb, _, h⟩ := h; ⟨dx, e, tb, h⟩
theorem KindNew.mono {H0 H1 H : Hp} {p : Addr} {kd : KD} (d : ∀ c, H1 c = none → H0 c = none) (h : KindNew K H1 H p kd) : KindNew K H0 H p kd := let ⟨dx, e, tb, n, h⟩ := h; ⟨dx, e, tb, d _ n, h⟩
def sp_kindF (K : PySem.W.Frag) : Sp := fun vs H Q _ => ∃ (x : Addr) (name start : PySem.Str) (e d : Addr) (ends : List PySem.Str) (mv : List Mv) (dx : Addr), vs = [.ref x, .str name, .str start, .ref e, .ref d] ∧ H x = some (.ins (kC K) dx []) ∧
  isName (.str name) = true ∧ isName (.str start) = true ∧ SqR K H e (ends.map V.str) ∧ (∀ y ∈ ends, isName (.str y) = true) ∧ ends.Nodup ∧ ends.length ≤ 4000 ∧ MovesAt K H d mv ∧ MovesOk mv ∧
  (∀ ys : List PySem.Str, ys.Nodup → (∀ y ∈ ys, y ∈ statesOf ⟨name, start, isort strLt ends, sortTab mv⟩) → ys.length ≤ 60) ∧
  ∀ H', SameX x H H' → KindNew K H H' x ⟨name, start, isort strLt ends, sortTab mv⟩ → Q .non H'
theorem fn_kind (T : Txt K mg) {fd : FuncData} (F : FunD K "__init__" "Kind.__init__" (defArgs s_Kind_init) (defBody s_Kind_init) (defScope s_Kind_init) [] [] (He.ma K (He.ga K "Kind") "__init__") fd) : FnOk P w K mg base (L2.CX P w) 7 (He.ma K (He.ga K "Kind") "__init__") fd ["self", "name", "start", "ends", "moves"] (sp_kindF K) := by
  have c_is_name := ok_is_name (P := P) (w := w) (base := base) T
  have c_are_ends := ok_are_ends (P := P) (w := w) (base := base) T
  have c_are_moves := ok_are_moves (P := P) (w := w) (base := base) T
  have c_states := ok_states (P := P) (w := w) (base := base) T
  obtain ⟨tk, h_MOST_STATES⟩ := T.c_MOST_STATES
  refine F.ok sc_Kind_init (fun vs H Q E h => ?_) (fun cdv A outer s H vs Q E hr h => ?_)
  · obtain ⟨x, name, start, e, d, ends, mv, dx, rfl, _⟩ := h
    rfl
  · have hu := hu_of hr
    refine ⟨_, PSs.nox (pss_cons (ps_if (pt_not (pt_val (pe_cal c_is_name (hr.mono (by decide)) takes0 (pa_cons (pv 1) pa_nil)))) (pss_one ps_never) pss_nil)
      (pss_cons (ps_if (pt_not (pt_val (pe_cal c_is_name (hr.mono (by decide)) takes0 (pa_cons (pv 2) pa_nil)))) (pss_one ps_never) pss_nil)
      (pss_cons (ps_if (pt_not (pt_val (pe_cal c_are_ends (hr.mono (by decide)) takes0 (pa_cons (pv 3) pa_nil)))) (pss_one ps_never) pss_nil)
      (pss_cons (ps_if (pt_not (pt_val (pe_cal c_are_moves (hr.mono (by decide)) takes0 (pa_cons (pv 4) pa_nil)))) (pss_one ps_never) pss_nil)
      (pss_cons (ps_fld (pv 0) (pv 1) rfl)
      (pss_cons (ps_fld (pv 0) (pv 2) rfl)
      (pss_cons (ps_fld (pv 0) (pe_callTy (r := rTupOf K) call_tupOf rfl T.b_tuple (by decide +kernel) (pa_cons (pe_callB (cr_sortS rfl) rfl T.b_sorted (by decide +kernel) (pa_cons (pv 3) pa_nil)) pa_nil)) rfl)
      (pss_cons (ps_fld (pv 0) pe_dnewT rfl)
      (pss_cons (ps_for PassesOwn.never rfl (pi_list (pe_callB (r := rSortDT K) (cr_sortDT rfl) rfl T.b_sorted (by decide +kernel) (pa_cons (pv 4) pa_nil))) (pg_name (i := 5) sc_Kind_init.nd rfl (Or.inl rfl))
      (pss_one (ps_dput hu (pe_fld (pv 0) rfl) (pv 5) (pe_callTy (r := rTupOf K) call_tupOf rfl T.b_tuple (by decide +kernel) (pa_cons (pe_callB (r := rSortQ K) cr_sortQ rfl T.b_sorted (by decide +kernel) (pa_cons (pe_lc (own := [("one", 6)]) (g := gName 6) (tt := tYes) rfl sc_Kind_init.nd (pi_seq (pe_dget hu (pv 4) (pv 5) (fun _ _ => rfl))) (blkOk_by (own := [("one", 6)]) (N := ["self", "name", "start", "ends", "moves", "at", "one"]) (sc := defScope s_Kind_init) (by decide +kernel)) (fun _ _ _ _ _ => (pg_name (i := 6) sc_Kind_init.nd rfl (by first | exact Or.inl rfl | exact Or.inr rfl))) (fun _ _ _ _ _ => pts_nil) (fun _ _ _ _ _ => (pe_callTy (r := rTupOf K) call_tupOf rfl T.b_tuple (by decide +kernel) (pa_cons (pv 6) pa_nil)))) pa_nil)) pa_nil)) rfl)))
      (pss_one (ps_if (pt_cmpR op_gt (pe_callB (r := rLenQ K) call_lenQ rfl T.b_len (by decide +kernel) (pa_cons (pe_calm0 c_states T.cl_Kind (hr.mono (by decide)) takes0 (pv 0)) pa_nil)) (pe_glob (v := .int 60) rfl h_MOST_STATES ⟨_, rfl⟩) (nomark _)) (pss_one ps_never) pss_nil))))))))))), ?_⟩
    obtain ⟨x, name, start, e, d, ends, mv, dx, rfl, hx, n1, n2, he, hen, hnd, hez, hmv, mok, few, q⟩ := h
    walk_at "rd"
    have hsE : ∀ y ∈ ends, y.length ≤ sizeLine := fun y hy => name_len (hen y hy)
    refine ⟨_, _, rfl, srt_str _, (fun z e => by cases e; exact name_len n1), fun H1 s1 => ⟨_, rfl, ?_⟩⟩
    rw [if_neg (by rw [n1]; decide)]
    refine ⟨_, _, rfl, srt_str _, (fun z e => by cases e; exact name_len n2), fun H2 s2 => ⟨_, rfl, ?_⟩⟩
    rw [if_neg (by rw [n2]; decide)]
    have s12 := s1.trans s2
    refine ⟨e, ends, rfl, SqR.same s12 he, hez, hsE, fun H3 s3 => ⟨_, rfl, ?_⟩⟩
    rw [if_neg (by rw [show (ends.all fun x => isName (.str x)) = true from List.all_eq_true.mpr hen, decide_eq_true hnd]; decide)]
    have s13 := s12.trans s3
    obtain ⟨kvs, hd, hp, nd⟩ := hmv
    refine ⟨d, mv, rfl, ⟨kvs, s13 _ _ hd, Paired.imp hp fun _ _ z => z.same s13, nd⟩, mok, fun H4 s4 => ⟨_, rfl, ?_⟩⟩
    rw [if_neg (by decide)]
    have s14 := s13.trans s4
    have hx4 := s14 _ _ hx
    have hd4 := s14 _ _ hd
    have he4 := SqR.same s14 he
    have hp4 : Paired (MvAt K H4) mv kvs := Paired.imp hp fun _ _ z => z.same s14
    have q4 : ∀ H', SameX x H4 H' → KindNew K H4 H' x ⟨name, start, isort strLt ends, sortTab mv⟩ → Q .non H' := fun H' h hk => q H' (SameX.trans (SameX.of s14) h) (hk.mono fun c e => s14.free e)
    clear q hx hd he hp s1 s2 s3 s4 s12 s13 s14
    refine ⟨kC K, dx, _, hx4, T.cl_Kind, T.no_Kind_called, (by decide), ?_⟩
    refine ⟨kC K, dx, _, upd_same, T.cl_Kind, T.no_Kind_begin, (by show 1 < 1000; decide), ?_⟩
    rw [show putF "begin" (V.str start) (putF "called" (V.str name) []) = (kfl2 name start) from rfl]
    have sx5 : SameX x H4 (upd (upd H4 x (.ins (kC K) dx (putF "called" (V.str name) []))) x (.ins (kC K) dx (kfl2 name start))) := SameX.upd SameX.self
    have hx5 : (upd (upd H4 x (.ins (kC K) dx (putF "called" (V.str name) []))) x (.ins (kC K) dx (kfl2 name start))) x = some (.ins (kC K) dx (kfl2 name start)) := upd_same
    generalize (upd (upd H4 x (.ins (kC K) dx (putF "called" (V.str name) []))) x (.ins (kC K) dx (kfl2 name start))) = H5 at sx5 hx5
    refine ⟨e, ends, rfl, .inl (sx5.rq hx4 rfl he4), (by rw [sizeLine_eq]; omega), fun l hl => ⟨l, _, rfl, .inl ⟨SqL.of upd_same, fun t ht => ?_⟩⟩⟩
    have sl : Same H5 (upd H5 l (.lst ((isort strLt ends).map V.str))) := Same.new hl
    have st : Same H5 (upd (upd H5 l (.lst ((isort strLt ends).map V.str))) t (.tup ((isort strLt ends).map V.str))) := sl.trans (Same.new ht)
    have htt : (upd (upd H5 l (.lst ((isort strLt ends).map V.str))) t (.tup ((isort strLt ends).map V.str))) t = some (.tup ((isort strLt ends).map V.str)) := upd_same
    generalize (upd (upd H5 l (.lst ((isort strLt ends).map V.str))) t (.tup ((isort strLt ends).map V.str))) = H6 at st htt
    have hx6 := st _ _ hx5
    have sx6 : SameX x H4 H6 := sx5.trans (SameX.of st)
    refine ⟨kC K, dx, _, hx6, T.cl_Kind, T.no_Kind_last, (by show 2 < 1000; decide), fun tb htb => ⟨kC K, dx, _, by rw [upd_ne (fun z => by subst z; rw [upd_same] at htb; cases htb)]; exact upd_same, T.cl_Kind, T.no_Kind_table, (by show 3 < 1000; decide), ?_⟩⟩
    have ntx : tb ≠ x := fun z => by subst z; rw [upd_same] at htb; cases htb
    have ht6 : H6 tb = none := by rw [upd_ne ntx] at htb; exact htb
    have ntt : tb ≠ t := fun z => by subst z; rw [htt] at ht6; cases ht6
    have htx : t ≠ x := ne_of htt hx6 (by intro z; cases z)
    have h4b : H4 tb = none := by
      cases z : H4 tb with
      | none => rfl
      | some u => rw [sx6 _ _ ntx z] at ht6; cases ht6
    rw [show putF "table" (V.ref tb) (putF "last" (V.ref t) (kfl2 name start)) = kflds name start t tb from rfl]
    generalize hH7 : (upd (upd (upd H6 x (.ins (kC K) dx (putF "last" (V.ref t) (kfl2 name start)))) tb (.dT [])) x (.ins (kC K) dx (kflds name start t tb))) = H7
    have hx7 : H7 x = some (.ins (kC K) dx (kflds name start t tb)) := by rw [← hH7]; exact upd_same
    have htb7 : H7 tb = some (.dT []) := by rw [← hH7, upd_ne ntx]; exact upd_same
    have htt7 : H7 t = some (.tup ((isort strLt ends).map V.str)) := by rw [← hH7, upd_ne htx, upd_ne ntt.symm, upd_ne htx]; exact htt
    have sx7 : SameX x H4 H7 := by
      intro a u n z
      rw [← hH7, upd_ne n, upd_ne (ne_of_none z h4b), upd_ne n]
      exact sx6 _ _ n z
    clear hH7 htb ht6 sx6 hx6 htt st sl ht hl sx5 hx5
    have hd7 : H7 d = some (.dT kvs) := sx7 _ _ (ne_of hd4 hx4 (by intro z; cases z)) hd4
    have hp7 : Paired (MvAt K H7) mv kvs := Paired.imp hp4 fun _ _ z => sx7.mv hx4 rfl z
    refine ⟨_, rfl, d, kvs, mv.map fun m => row2 m.1, rfl, .inl hd7, paired_keys hp7, (fun k hk => by obtain ⟨m, _, rfl⟩ := List.mem_map.mp hk; intro z; cases z), (by have := Paired.length hp7; have := mok.size; rw [sizeLine_eq]; omega), fun l2 cs hl2 hcs => ?_⟩
    generalize hH8 : upd H7 l2 (.lst (cs.map V.ref)) = H8
    have s8 : Same H7 H8 := hH8 ▸ Same.new hl2
    have hl8 : H8 l2 = some (.lst (cs.map V.ref)) := by rw [← hH8]; exact upd_same
    have htb8 := s8 _ _ htb7
    have hx8 := s8 _ _ hx7
    have hcs8 : Paired (fun (k : List PySem.Str) b => H8 b = some (.tup (k.map V.str))) (isort rowLt (mv.map fun m => row2 m.1)) cs := Paired.imp hcs fun _ _ z => s8 _ _ z
    have ndT := sortTab_nodup nd
    have hlT : (sortTab mv).length = mv.length := by rw [sortTab, List.length_map, length_isort, List.length_map]
    have hlc : (sortTab mv).length = cs.length := by rw [← Paired.length hcs, sortTab, List.length_map]
    refine ⟨l2, rfl, ⟨_, SqL.of hl8⟩, for_it walk_lm (fun i σ H => (∃ a b, σ = [some (.ref x), some (.str name), some (.str start), some (.ref e), some (.ref d), a, b]) ∧ SameX tb H8 H ∧ ∃ kvs', H tb = some (.dT kvs') ∧ Paired (TabE K H) ((sortTab mv).take i) kvs')
      ⟨⟨_, _, rfl⟩, SameX.of (Same.refl _), [], htb8, by rw [List.take_zero]; exact .nil⟩ (fun i σ H9 _ q => q.2.1.lq htb8 rfl (SqL.of hl8)) (fun i y σ H10 H9 hi pv yy => ?_) (fun σ H9 pv => ?_)⟩
    · obtain ⟨⟨a, b, rfl⟩, s9, kvs', htb9, hp9⟩ := pv
      obtain ⟨rfl, hy⟩ := yy
      obtain ⟨c, hc⟩ : ∃ c, cs[i]? = some c := ⟨_, List.getElem?_eq_getElem hi⟩
      rw [List.getElem?_map, hc] at hy
      cases Option.some.inj hy
      obtain ⟨k, hk, hkc⟩ := Paired.at hcs8 hc
      obtain ⟨ek, km⟩ := row_sorted (os := mv.map (·.1)) (k := k) (by rw [List.map_map]; exact List.mem_of_getElem? hk)
      obtain ⟨m, hm, em⟩ := List.mem_map.mp km
      have ek' : k = row2 m.1 := by rw [em]; exact ek.symm
      subst ek'
      obtain ⟨j, hj⟩ := List.getElem?_of_mem hm
      have hp10 : Paired (MvAt K H9) mv kvs := Paired.imp hp7 fun _ _ z => s9.mv htb8 rfl (z.same s8)
      obtain ⟨kv, hkv, e1, pp, bs, e2, h3, h4⟩ := Paired.atL hp10 hj
      have ndt : d ≠ tb := fun z => by subst z; rw [h4b] at hd4; cases hd4
      have hd9 : H9 d = some (.dT kvs) := s9 _ _ ndt (s8 _ _ hd7)
      have nct : c ≠ tb := ne_of hkc htb8 (by intro z; cases z)
      have hc9 := s9 _ _ nct hkc
      have hx9 := s9 _ _ ntx.symm hx8
      have hv : valV kvs kv.1 = some kv.2 := valV_at hp10 nd (List.mem_of_getElem? hkv)
      obtain ⟨l8, ll⟩ := outs_len (mok.outs m hm)
      have hbl : bs.length ≤ 8 := by have := Paired.length h4; omega
      walk_at "rd"
      refine ⟨.ref d, rfl, .ref c, rfl, d, .ref pp, rfl, .inr ⟨kvs, [Sum.inr m.1.1, Sum.inr m.1.2], c, .inl hd9, rfl, hc9, by rw [← e1, hv, e2]⟩, pp, rfl, ?_⟩
      have next : ∀ D H10 cs2, Same H9 H10 → H10 D = some (.lst (cs2.map V.ref)) → Paired (fun k b => RowAt K H10 b k) (m.2.map fun o => [o.1, o.2]) cs2 → ∀ l3 cs3, H10 l3 = none → Paired (fun k b => RowAt K H10 b k) (isort rowLt (m.2.map row2)) cs3 → ∀ t3, (upd H10 l3 (.lst (cs3.map V.ref))) t3 = none →
          ∃ G, G = upd (upd H10 l3 (.lst (cs3.map V.ref))) t3 (.tup (cs3.map V.ref)) ∧ G x = some (.ins (kC K) dx (kflds name start t tb)) ∧ ∃ H4, DPut G tb (.ref c) (.ref t3) H4 ∧ SameX tb H8 H4 ∧ ∃ kvs', H4 tb = some (.dT kvs') ∧ Paired (TabE K H4) ((sortTab mv).take (i + 1)) kvs' := by
        intro D H10 cs2 s10 hD10 hc2 l3 cs3 hl3 hp3 t3 ht3
        have sG : Same H9 (upd (upd H10 l3 (.lst (cs3.map V.ref))) t3 (.tup (cs3.map V.ref))) := (s10.trans (Same.new hl3)).trans (Same.new ht3)
        have s10G : Same H10 (upd (upd H10 l3 (.lst (cs3.map V.ref))) t3 (.tup (cs3.map V.ref))) := (Same.new hl3).trans (Same.new ht3)
        have htG : (upd (upd H10 l3 (.lst (cs3.map V.ref))) t3 (.tup (cs3.map V.ref))) t3 = some (.tup (cs3.map V.ref)) := upd_same
        refine ⟨_, rfl, ?_⟩
        generalize (upd (upd H10 l3 (.lst (cs3.map V.ref))) t3 (.tup (cs3.map V.ref))) = G at sG s10G htG
        have htbG := sG _ _ htb9
        have hkl : kvs'.length ≤ 4000 := by
          have := Paired.length hp9
          have := List.length_take_le i (sortTab mv)
          have := mok.size
          omega
        refine ⟨sG _ _ hx9, _, DPut.t (k := [Sum.inr m.1.1, Sum.inr m.1.2]) htbG (sG _ _ hc9) (by rw [sizeLine_eq]; omega), SameX.upd (fun a u n z => sG _ _ (s9 _ _ n z)), _, upd_same, ?_⟩
        have hsk : (sortTab mv)[i]? = some (m.1, sortOuts m.2) := by
          rw [sortTab, List.getElem?_map, hk]
          show some (un2 (row2 m.1), sortOuts ((look mv (un2 (row2 m.1))).getD [])) = _
          rw [un2_row2, look_mem nd hm] <;> rfl
        have sU : SameX tb G (upd G tb (.dT (putK kvs' [Sum.inr m.1.1, Sum.inr m.1.2] (.ref t3)))) := SameX.self
        rw [take_next hsk, putK_new]
        · rw [putK_new] at sU
          · refine Paired.snoc (Paired.imp hp9 fun _ _ z => sU.tab htbG rfl (z.same sG)) ⟨rfl, t3, rfl, cs3, sU.tq htbG rfl (SqT.of htG), ?_⟩
            refine Paired.mapL hp3 fun r hr b hb => ?_
            have := (row_sorted hr).1
            show RowAt K _ b (row2 (un2 r))
            rw [this]
            exact sU.tq htbG rfl (Same.tq s10G hb)
          · exact tab_new (m := (m.1, sortOuts m.2)) ndT hsk hp9
        · exact tab_new (m := (m.1, sortOuts m.2)) ndT hsk hp9
      refine h3.elim (fun h3 => .inl ⟨⟨_, h3⟩, fun D hD => lc_tuples walk_lm hD (fun H2 s2 => Same.seq s2 h3) (by omega) h4 (by simp) (fun H10 cs2 s10 hD10 hc2 => ?_)⟩) (fun h3 => .inr ⟨⟨_, h3⟩, fun D hD => lc_tuples walk_tm hD (fun H2 s2 => Same.tq s2 h3) (by omega) h4 (by simp) (fun H10 cs2 s10 hD10 hc2 => ?_)⟩)
      all_goals
        have hcl : cs2.length ≤ 8 := by rw [← Paired.length hc2, List.length_map]; exact l8
        refine ⟨D, cs2, _, rfl, .inl (SqL.of hD10), (by rw [sizeLine_eq]; omega), hc2, (fun k hk => by obtain ⟨m, _, rfl⟩ := List.mem_map.mp hk; intro z; cases z), fun l3 cs3 hl3 hp3 => ⟨l3, _, rfl, .inl ⟨SqL.of upd_same, fun t3 ht3 => ?_⟩⟩⟩
        obtain ⟨G, eG, hxG, H11, dp, r1, r2⟩ := next D H10 cs2 s10 hD10 hc2 l3 cs3 hl3 hp3 t3 ht3
        rw [← eG]
        exact ⟨_, rfl, x, kC K, dx, _, _, rfl, hxG, T.cl_Kind, T.no_Kind_table, rfl, _, rfl, tb, H11, rfl, dp, ⟨_, _, rfl⟩, r1, r2⟩
    · obtain ⟨⟨a, b, rfl⟩, s9, kvs', htb9, hp9⟩ := pv
      have hp9' : Paired (TabE K H9) (sortTab mv) kvs' := by rw [← hlc, List.take_length] at hp9 <;> exact hp9
      have hx9 := s9 _ _ ntx.symm hx8
      have ht9 : SqT K H9 t ((isort strLt ends).map V.str) := s9.tq htb8 rfl (SqT.of (s8 _ _ htt7))
      have hK : KindAt K H9 x ⟨name, start, isort strLt ends, sortTab mv⟩ := ⟨dx, t, tb, hx9, ht9, kvs', htb9, hp9', ndT, by have := mok.size; show (sortTab mv).length ≤ 4000; omega⟩
      refine ⟨_, rfl, x, dx, _, rfl, hx9, (kflds_no (by decide +kernel)), x, _, rfl, hK, ?_, fun H10 l ys s10 hl hl' up ndy mem => ⟨l, _, rfl, .inl (SqL.of hl'), ?_⟩⟩
      · have h1 : (statesOf ⟨name, start, isort strLt ends, sortTab mv⟩).length = 1 + (ends.length + ((sortTab mv).length + ((sortTab mv).flatMap fun m => m.2.map (·.2)).length)) := by simp [statesOf, length_isort]; omega
        have h2 := outs_sum (sortTab mv) (sortTab_few mok.outs)
        have := mok.size
        omega
      · refine ⟨_, _, rfl, rfl, _, rfl, ?_⟩
        walk_at "rd"
        rw [if_neg]
        · exact q4 H10 (fun a u n z => s10 _ _ (s9 _ _ (ne_of_none z h4b) (s8 _ _ (sx7 _ _ n z)))) ⟨dx, t, tb, h4b, s10 _ _ hx9, Same.tq s10 ht9, TabAt.same s10 ⟨kvs', htb9, hp9', ndT, by have := mok.size; show (sortTab mv).length ≤ 4000; omega⟩⟩
        · have := few ys ndy fun y hy => (mem y).mp hy
          simp only [List.length_map, decide_eq_true_eq]
          omega
theorem ok_kind (T : Txt K mg) : CalI P w K mg base 7 (kC K) "Kind" ["self", "name", "start", "ends", "moves"] (sp_kind K) := by
  obtain ⟨fd, F⟩ := T.d_Kind_init
  refine ⟨_, fd, (fn_kind T F).imp fun vs H Q E h => ?_, T.mk_Kind, T.g_Kind, F.bindsN fun _ _ _ _ _ _ us hl => match us, hl with | [_, _, _, _, _], _ => rfl⟩
  obtain ⟨x, name, start, e, d, ends, mv, dx, h1, h2, h3, h4, h5, h6, h7, h8, h9, h10, h11, h12⟩ := h
  exact ⟨x, name, start, e, d, ends, mv, dx, h1, h2, h3, h4, h5, h6, h7, h8, h9, h10, h11, fun H' s k => h12 H' s k.at⟩
end
end Rs
set_option Elab.async false
set_option linter.all false
set_option maxRecDepth 100000
set_option maxHeartbeats 2000000
/-! Sets of texts that can be walked: their members in the order in which they came. -/
namespace Rs
open PySem PySem.Spec PyProof.Rows L2
abbrev hT (P : Program) (w : World) (x : PySem.Str) : Int := (mixKind P w).hash (Sum.inr x)
/-- an entry that is a text -/
def EntT (P : Program) (w : World) (e : Int × Value) : Prop := ∃ x t, e.2 = Value.str x t ∧ e.1 = hT P w x
abbrev entTxt (e : Int × Value) : PySem.Str := txtOf e.2
structure SetSR (P : Program) (w : World) (h : Heap) (a : Addr) (ss : List PySem.Str) (o : Obj) (es : Array (Int × Value)) (ep : Nat) (t : SetTable) : Prop where
  ob : h.get? a = some o
  ex : o.ExactSet
  dt : o.data = .set es ep t
  ent : ∀ e ∈ es.toList, EntT P w e
  mem : (es.toList.map entTxt).Perm ss
  nd : ss.Nodup
  few : es.size < scanBound
  fit : t.fits es.size = true
  ris : Ris t.place.toList
  led : w.params.followText "set-order" = true ∨ t.led = true
def SetSO (P : Program) (w : World) (a : Addr) (ss : List PySem.Str) : HO := .ext fun h => ∃ o es ep t, SetSR P w h a ss o es ep t
section
variable {P : Program} {w : World} {h h' : Heap} {a : Addr} {ss : List PySem.Str} {o : Obj} {es : Array (Int × Value)} {ep : Nat} {t : SetTable}
theorem SetSR.at (R : SetSR P w h a ss o es ep t) (k : ∀ u, h.get? a = some u → h'.get? a = some u) : SetSR P w h' a ss o es ep t :=
  { R with ob := k _ R.ob }
theorem setS_ok {H : Hp} (R : ∃ o es ep t, SetSR P w h a ss o es ep t) : ObjOk P w H h a (SetSO P w a ss) :=
  ⟨R, let ⟨o, _, _, _, r⟩ := R; ⟨o, r.ob⟩, fun _ _ ⟨o, es, ep, t, r⟩ k => ⟨o, es, ep, t, r.at k⟩⟩
theorem ent_elems {l : List (Int × Value)} (g : ∀ e ∈ l, EntT P w e) : ElemsOf (mixKind P w) l := by
  intro e he
  obtain ⟨x, t, h1, h2⟩ := g e he
  refine ⟨⟨.inr x, ?_, h2⟩, ?_⟩
  · rw [h1]; exact mixKind_str P w x t
  · rw [h1] <;> rfl
theorem ent_is {e : Int × Value} (g : EntT P w e) (x : PySem.Str) : (mixKind P w).is (.inr x) e.2 = true ↔ entTxt e = x := by
  obtain ⟨y, t, h1, _⟩ := g
  show keyIs (.inr x) e.2 = true ↔ txtOf e.2 = x
  rw [h1]
  constructor
  · intro z
    rcases keyIs_shape z with ⟨i, t', e1, e2⟩ | ⟨y', t', e1, e2⟩
    · cases e1
    · cases e1
      cases e2
      rfl
  · intro z
    have z' : y = x := z
    subst z'
    exact keyIs_str y t
theorem setS_lay (H : Hp) (h : Heap) : ObjOk P w H (h.push (set0 w)) h.objs.size (SetSO P w h.objs.size []) := by
  refine setS_ok ⟨_, #[], 0, _, ⟨Heap.get?_push_size _ rfl, ⟨rfl, rfl, rfl⟩, rfl, fun e he => by simp at he, List.Perm.refl _, List.nodup_nil, by decide, by rfl, List.Pairwise.nil, ?_⟩⟩
  show _ ∨ (!w.params.followText "set-order") = true
  generalize w.params.followText "set-order" = b
  cases b <;> decide
end
section
variable {P : Program} {w : World} {A : Around} {E : Value → Shared → Prop} {s : Shared} {a : Addr} {ss : List PySem.Str}
/-- what storing new entries leaves -/
theorem setS_put {g : Bool → Sem Unit} (hg : ∀ (b : Bool) (s' : Shared) (Q' : Unit → Shared → Prop), Q' () s' → wpAny (model P w) A (g b) Q' E s') {o : Obj} {es es1 : Array (Int × Value)} {ep : Nat} {t t1 : SetTable} {ss1 : List PySem.Str} {b1 : Bool} {Q : Option Bool → Shared → Prop}
    (ho : s.heap.get? a = some o) (hex : o.ExactSet) (hd : o.data = .set es ep t) (ent : ∀ e ∈ es1.toList, EntT P w e) (mem : (es1.toList.map entTxt).Perm ss1) (nd : ss1.Nodup) (few : es1.size < scanBound)
    (fit : t1.fits es1.size = true) (ris : Ris t1.place.toList) (led : w.params.followText "set-order" = true ∨ t1.led = true)
    (q : ∀ h', Heap.SameBut a s.heap h' → (∃ o es ep t, SetSR P w h' a ss1 o es ep t) → Q (some true) { s with heap := h' }) :
    wpAny (model P w) A (do
        storeSet a es1 t1
        if (!b1 && t1.tooFull) = true then do
            g (relayAll t1 es1 (SetTable.grown es1.size)).2.2
            storeSet a (relayAll t1 es1 (SetTable.grown es1.size)).1 (relayAll t1 es1 (SetTable.grown es1.size)).2.1
            pure (some true)
          else pure (some true)) Q E s := by
  have o1 := store_at (es' := es1) (t' := t1) ho hd
  have c1 := Heap.SameBut.update s.heap a (Obj.putSet es1 t1)
  refine wpAny_bind (wpAny_storeSet_of ho hd ?_ (fits_of_scanBound few))
  by_cases hfull : (!b1 && t1.tooFull) = true
  · rw [if_pos hfull]
    have p2 := relayAll_perm t1 es1 (SetTable.grown es1.size)
    have f2 := relayAll_fits t1 es1 (SetTable.grown es1.size)
    have r2 := relayAll_ris t1 es1 (SetTable.grown es1.size)
    have l2 := relayAll_led t1 es1 (SetTable.grown es1.size)
    generalize relayAll t1 es1 (SetTable.grown es1.size) = Y at p2 f2 r2 l2 ⊢
    obtain ⟨es2, t2, _⟩ := Y
    dsimp only at p2 f2 r2 l2 ⊢
    have few2 : es2.size < scanBound := by
      have e := p2.length_eq
      rw [Array.length_toList, Array.length_toList] at e
      omega
    refine wpAny_bind (hg _ _ _ (wpAny_bind (wpAny_storeSet_of o1 rfl (wpAny_pure (q _ (c1.trans (Heap.SameBut.update _ a _)) ?_)) (fits_of_scanBound few2))))
    exact ⟨_, es2, _, t2, store_at o1 rfl, hex, rfl, fun e he => ent e (p2.mem_iff.mp he), (p2.map entTxt).trans mem, nd, few2, f2, r2, led.imp id fun z => l2.trans z⟩
  · rw [if_neg hfull]
    exact wpAny_pure (q _ c1 ⟨_, es1, _, t1, o1, hex, rfl, ent, mem, nd, few, fit, ris, led⟩)
def addS (ss : List PySem.Str) (x : PySem.Str) : List PySem.Str := if x ∈ ss then ss else ss ++ [x]
theorem setS_hashed {x : PySem.Str} {tk : Tok} {Q : Bool → Shared → Prop} (R : ∃ o es ep t, SetSR P w s.heap a ss o es ep t) (room : ss.length + 1 < scanBound)
    (q : ∀ b h', Heap.SameBut a s.heap h' → (∃ o es ep t, SetSR P w h' a (addS ss x) o es ep t) → Q b { s with heap := h' }) :
    wpAny (model P w) A (setAddHashed a (.str x tk) (hT P w x)) Q E s := by
  obtain ⟨o, es, ep, t, R⟩ := R
  have hk : (mixKind P w).is (.inr x) (.str x tk) = true := mixKind_str P w x tk
  have sc : (Value.str x tk).scannable = true := rfl
  have el : ElemsOf (mixKind P w) es.toList := ent_elems R.ent
  have hlen : es.size = ss.length := by rw [← R.mem.length_eq, List.length_map, Array.length_toList]
  unfold setAddHashed setAddHashedIn
  refine wpAny_holding (wpAny_bind (wpAny_setState_of R.ob R.dt R.fit ?_))
  dsimp only
  rw [byScan_of sc R.few el]
  simp only [↓reduceIte]
  unfold setAddByScan
  refine wpAny_bind (wpAny_bind (wpAny_rule (wpAny_bind (wpAny_setScan_of hk R.ob R.dt R.fit el ?_))))
  have hin : x ∈ ss ↔ ∃ e ∈ es.toList, (mixKind P w).is (.inr x) e.2 = true := by
    rw [← R.mem.mem_iff, List.mem_map]
    exact ⟨fun ⟨e, he, z⟩ => ⟨e, he, (ent_is (R.ent e he) x).mpr z⟩, fun ⟨e, he, z⟩ => ⟨e, he, (ent_is (R.ent e he) x).mp z⟩⟩
  cases hfi : List.findIdx? (fun e => (mixKind P w).is (.inr x) e.2) es.toList with
  | some j =>
    dsimp only
    obtain ⟨hj, pj, _⟩ := List.findIdx?_eq_some_iff_getElem.mp hfi
    have hx : x ∈ ss := hin.mpr ⟨es.toList[j], List.getElem_mem hj, pj⟩
    have z := q false s.heap (Heap.SameBut.refl a s.heap) ⟨o, es, ep, t, by rw [addS, if_pos hx]; exact R⟩
    exact wpAny_pure (wpAny_pure z)
  | none =>
    dsimp only
    have hx : x ∉ ss := fun z => by
      obtain ⟨e, he, z⟩ := hin.mp z
      have c := List.findIdx?_eq_none_iff.mp hfi e he
      rw [z] at c
      cases c
    have pm := layNew_perm t es (hT P w x) (.str x tk)
    have fm := layNew_fits t es (hT P w x) (.str x tk)
    have rm := layNew_ris t es (hT P w x) (.str x tk) R.ris
    have lm := layNew_led t es (hT P w x) (.str x tk)
    generalize layNew t es (hT P w x) (.str x tk) = Y at pm fm rm lm ⊢
    obtain ⟨es1, t1, b1, b2⟩ := Y
    dsimp only at pm fm rm lm ⊢
    rw [Array.toList_push] at pm
    have ent1 : ∀ e ∈ es1.toList, EntT P w e := fun e he => by
      rcases List.mem_append.mp (pm.mem_iff.mp he) with z | z
      · exact R.ent e z
      · rw [List.mem_singleton.mp z]; exact ⟨x, tk, rfl, rfl⟩
    have mem1 : (es1.toList.map entTxt).Perm (addS ss x) := by
      have z := pm.map entTxt
      rw [List.map_append] at z
      rw [addS, if_neg hx]
      exact z.trans (R.mem.append_right _)
    have nd1 : (addS ss x).Nodup := by
      rw [addS, if_neg hx]
      exact List.nodup_append.mpr ⟨R.nd, by simp, fun y hy z hz e => hx (by rw [← List.mem_singleton.mp hz, ← e]; exact hy)⟩
    have few1 : es1.size < scanBound := by
      have e := pm.length_eq
      rw [Array.length_toList, List.length_append, Array.length_toList, List.length_singleton] at e
      omega
    have led1 : w.params.followText "set-order" = true ∨ t1.led = true := R.led.imp id fun z => lm.trans z
    have giv : ∀ (b : Bool) (s' : Shared) (Q' : Unit → Shared → Prop), Q' () s' → wpAny (model P w) A (match b with | true => rule "set.scan.the-table-gave-way" | false => pure ()) Q' E s' := by
      intro b s' Q' z
      cases b
      · exact wpAny_pure z
      · exact wpAny_rule z
    refine wpAny_bind (giv _ _ _ ?_)
    split
    · rw [hashByValue_scannable 8 sc]
      refine wpAny_bind (wpAny_pure ?_)
      refine setS_put giv R.ob R.ex R.dt ent1 mem1 nd1 few1 ?_ ?_ ?_ (fun h' sb r => ?_)
      · first | (split <;> first | exact fm | exact SetTable.fits_plain_off fm) | exact fm
      · first | (split <;> exact rm) | exact rm
      · first | (split <;> exact led1) | exact led1
      · dsimp only; exact wpAny_pure (q true h' sb r)
    · refine wpAny_bind (wpAny_pure ?_)
      simp only [↓reduceIte]
      exact setS_put giv R.ob R.ex R.dt ent1 mem1 nd1 few1 fm rm led1 (fun h' sb r => by dsimp only; exact wpAny_pure (q true h' sb r))
end
end Rs
set_option Elab.async false
set_option linter.all false
set_option maxRecDepth 100000
set_option maxHeartbeats 3200000
/-! Sets of texts: add, set(row), sorted(set), len. -/
namespace Rs
open PySem PySem.Spec PyProof.Rows L2
theorem addS_len (ss : List PySem.Str) (x : PySem.Str) : (addS ss x).length ≤ ss.length + 1 := by
  unfold addS
  split
  · omega
  · simp
def addAll (ss : List PySem.Str) : List PySem.Str → List PySem.Str
  | [] => ss
  | x :: r => addAll (addS ss x) r
theorem mem_addS {ss : List PySem.Str} {x y : PySem.Str} : y ∈ addS ss x ↔ y ∈ ss ∨ y = x := by
  unfold addS
  split
  · rename_i h
    exact ⟨.inl, fun z => z.elim id fun e => e ▸ h⟩
  · simp
theorem nodup_addS {ss : List PySem.Str} {x : PySem.Str} (h : ss.Nodup) : (addS ss x).Nodup := by
  unfold addS
  split
  · exact h
  · rename_i hx
    exact List.nodup_append.mpr ⟨h, by simp, fun y hy z hz e => hx (by rw [← List.mem_singleton.mp hz, ← e]; exact hy)⟩
/-- the unlike ones of a row, in the order in which they come first -/
def uniq (xs : List PySem.Str) : List PySem.Str := xs.foldl addS []
theorem mem_foldS {xs : List PySem.Str} : ∀ {ss : List PySem.Str} {y : PySem.Str}, y ∈ xs.foldl addS ss ↔ y ∈ ss ∨ y ∈ xs := by
  induction xs with
  | nil => intro ss y; simp
  | cons x xs ih =>
    intro ss y
    rw [List.foldl_cons, ih, mem_addS, List.mem_cons, or_assoc]
theorem nodup_foldS {xs : List PySem.Str} : ∀ {ss : List PySem.Str}, ss.Nodup → (xs.foldl addS ss).Nodup := by
  induction xs with
  | nil => intro ss h; exact h
  | cons x xs ih => intro ss h; exact ih (nodup_addS h)
theorem foldS_len {xs : List PySem.Str} : ∀ {ss : List PySem.Str}, (xs.foldl addS ss).length ≤ ss.length + xs.length := by
  induction xs with
  | nil => intro ss; simp
  | cons x xs ih =>
    intro ss
    have h1 := ih (ss := addS ss x)
    have h2 := addS_len ss x
    rw [List.foldl_cons, List.length_cons]
    omega
theorem mem_uniq {xs : List PySem.Str} {y : PySem.Str} : y ∈ uniq xs ↔ y ∈ xs := by
  rw [uniq, mem_foldS]
  simp
theorem nodup_uniq (xs : List PySem.Str) : (uniq xs).Nodup := nodup_foldS List.nodup_nil
theorem uniq_len (xs : List PySem.Str) : (uniq xs).length ≤ xs.length := by
  have := foldS_len (xs := xs) (ss := [])
  rw [List.length_nil, Nat.zero_add] at this
  exact this
theorem uniq_snoc (xs : List PySem.Str) (x : PySem.Str) : uniq (xs ++ [x]) = addS (uniq xs) x := by
  rw [uniq, List.foldl_append] <;> rfl
section
variable {X : Cx}
theorem setS_get {pins : List (Addr × Obj)} {σ : L2.St} {H : Hp} {s : Shared} {a : Addr} {ss : List PySem.Str} (I : L2.Inv X pins σ H s) (ha : H a = some (SetSO X.prog X.w a ss)) : ∃ o es ep t, SetSR X.prog X.w s.heap a ss o es ep t := (I.hok a _ ha).1
def rAddS (P : Program) (w : World) : V → List V → Hp → VK → Prop := fun x xs H Q => ∃ (a : Addr) (y : PySem.Str) (ss : List PySem.Str), x = V.ref a ∧ xs = [.str y] ∧ H a = some (SetSO P w a ss) ∧ ss.length + 1 < scanBound ∧ Q .non (upd H a (SetSO P w a (addS ss y)))
theorem mt_addS : MtR X "set.add" (rAddS X.prog X.w) := by
  intro pins s σ H x xs v us Q I rx rxs h
  obtain ⟨a, y, ss, rfl, rfl, ha, room, q⟩ := h
  cases rx
  cases rxs with
  | cons ry rt =>
    cases rt
    obtain ⟨tk, rfl⟩ := ry
    obtain ⟨o, es, ep, t, R⟩ := setS_get I ha
    refine wpAny_call_entry F.slot_set_add (⟨o, R.ob, R.ex.1⟩ : s.TypeIs (.ref a) "set") F.entry_set_add ?_ (F.args_set_add_2 _ _)
    unfold Builtin.«set.add» Builtin.Frozenset.oneOther
    simp only [List.isEmpty_nil, bind_assoc]
    unfold Builtin.Frozenset.addrOf setAdd
    refine wpAny_bind (wpAny_pure ?_)
    refine wpAny_bind (wpAny_pure (wpAny_bind (wpAny_holding ?_)))
    refine wpAny_bind ((mixKind X.prog X.w).pyHash (k := .inr y) (mixKind_str _ _ _ _) ?_)
    refine setS_hashed (s := { s with toks := s.toks + 1 }) ⟨o, es, ep, t, R⟩ room fun b h' sb R' => ?_
    refine wpAny_pure ⟨Value.none, rfl, ?_⟩
    have he : ∃ u, h'.get? a = some u := let ⟨o, _, _, _, r⟩ := R'; ⟨o, r.ob⟩
    exact ⟨.non, upd H a (SetSO X.prog X.w a (addS ss y)), I.write (e := a) (t' := s.toks + 1) (by rw [ha]; trivial) (.inl rfl) (fun b u hb hu => (sb.2 b hb).trans hu) he (setS_ok R'), rfl, q⟩
/-- len of such a set -/
def rLenS (P : Program) (w : World) : List V → Hp → VK → Prop := fun xs H Q => ∃ a ss, xs = [.ref a] ∧ H a = some (SetSO P w a ss) ∧ Q (.int (ss.length : Nat)) H
theorem cr_lenS : CallR X (.builtin "len") (rLenS X.prog X.w) := by
  intro pins s σ H xs us Q I r h
  obtain ⟨a, ss, rfl, ha, q⟩ := h
  rw [Vals.ref1 r]
  obtain ⟨o, es, ep, t, R⟩ := setS_get I ha
  have : (scanBound : Int) < 2 ^ 63 := by decide
  have few := R.few
  have hl : es.size = ss.length := by rw [← R.mem.length_eq, List.length_map, Array.length_toList]
  exact call_len_set R.ob R.ex R.dt R.fit (by omega) ⟨.int (ss.length : Nat), H, I.tok _, ⟨_, by rw [hl]⟩, q⟩
/-- sorted of such a set -/
def rSortSet (P : Program) (w : World) : List V → Hp → VK → Prop := fun xs H Q => ∃ a ss, xs = [.ref a] ∧ H a = some (SetSO P w a ss) ∧ ∀ l, H l = none → Q (.ref l) (upd H l (.lst ((isort strLt ss).map V.str)))
theorem cr_sortSet (hc : X.calm = true) : CallR X (.builtin "sorted") (rSortSet X.prog X.w) := by
  intro pins s σ H xs us Q I r h
  obtain ⟨p, ss, rfl, ha, q⟩ := h
  rw [Vals.ref1 r]
  obtain ⟨o, es, ep, t, R⟩ := setS_get I ha
  refine Calls.call_function_entry kind_sorted plain_sorted entry_sorted (args_sorted1 _) ?_
  unfold Builtin.«sorted»
  refine wpAny_bind (m := checkCount "sorted" 1 1 _) (wpAny_pure ?_)
  refine wpAny_bind (collect_set (A := X.A.in1) (I.ok.hd hc) ⟨o, R.ob, R.ex.1, R.dt⟩ R.fit R.few R.ris R.led fun s' vs kp _ hg ho pm => ?_)
  have J : L2.Inv X pins σ H s' := I.call' (ch := []) ho (Un.kept kp) (I.hok.kept kp) (by rw [hg]; exact I.bare) (fun _ z => nomatch z)
  have hall : ∀ v ∈ vs, ∃ x t, v = Value.str x t := fun v hv => by
    obtain ⟨e, he, z⟩ := List.mem_map.mp (pm.mem_iff.mp hv)
    obtain ⟨x, t, h1, _⟩ := R.ent e he
    exact ⟨x, t, by rw [← z]; exact h1⟩
  have pss : (vs.map txtOf).Perm ss := by
    have z := pm.map txtOf
    rw [List.map_map] at z
    exact z.trans R.mem
  have hlen : vs.length = es.size := by rw [pm.length_eq, List.length_map, Array.length_toList]
  refine sort_tail J (swo_of strLt_tot txtOf) (by rw [hlen]; exact fits_of_scanBound R.few) (fun h2 h₁ a _ _ => sortable_txt h2 (strs_vals (vals_txt hall))) fun out l hs hp hn => ?_
  refine ⟨(out.map txtOf).map V.str, vals_txt fun v hv => hall v (hp.mem_iff.mp hv), ?_⟩
  rw [isort_of strLt_tot (up_map.mp hs) (hp.map txtOf), isort_congr strLt_tot pss]
  exact q l hn
end
/-! ### set(row) of texts -/
section
variable {P : Program} {w : World} {A : Around} {E : Value → Shared → Prop} {s : Shared}
theorem set_update_txts {I : Addr} {fp wr : List Addr} {G : Array GenState → Array GenState → Prop} {n : Nat} {Pv : Nat → Value → Prop} {St : Nat → Shared → Prop} {R : Result → Shared → Prop}
    (W : WalksS P w A.in1 I fp wr G n Pv St) (S : Addr) (hSf : S ∉ fp) (xs : List PySem.Str) (hn : n = xs.length) (hb : xs.length + 1 < scanBound) (hval : ∀ i v, Pv i v → ∃ x t, xs[i]? = some x ∧ v = .str x t) :
    ∀ (k i : Nat) (s : Shared), n - i = k → i ≤ n → St i s → (∃ o es ep t, SetSR P w s.heap S (uniq (xs.take i)) o es ep t) →
      (∀ s', Moved (S :: wr) G s s' → (∃ o es ep t, SetSR P w s'.heap S (uniq xs) o es ep t) → R (.ok (.ret .none)) s') →
      codeAny (model P w) A (.builtin "set.update.loop" ⟨[.ref S, .ref I], []⟩) R s := by
  have nw : S ∉ wr := fun h => hSf (W.sub _ h)
  have sub : ∀ b ∈ wr, b ∈ S :: wr := fun b hb => List.mem_cons_of_mem _ hb
  intro k
  induction k with
  | zero =>
    intro i s hk hi hst hS hR
    obtain rfl : i = n := by omega
    refine codeAny_builtin F.entry_set_update_loop ?_
    rw [Around.under_plainId F.plain_set_update_loop _]
    show wpAny _ A.in1 (pyNext (.ref I) >>= _) _ _ s
    refine wpAny_bind (W.done s _ _ hst fun s1 hm => ?_)
    show wpAny _ A.in1 (ret Value.none) _ _ s1
    rw [List.take_of_length_le (by omega)] at hS
    obtain ⟨o, es, ep, t, r⟩ := hS
    exact wpAny_pure (hR s1 (hm.mono sub) ⟨o, es, ep, t, r.at fun u e => hm.heap S u nw e⟩)
  | succ k ih =>
    intro i s hk hi hst hS hR
    have hlt : i < n := by omega
    refine codeAny_builtin F.entry_set_update_loop ?_
    rw [Around.under_plainId F.plain_set_update_loop _]
    show wpAny _ A.in1 (pyNext (.ref I) >>= _) _ _ s
    refine wpAny_bind (W.item i s _ _ hlt hst fun v s1 hP hst1 hm => ?_)
    obtain ⟨x, t, hx, rfl⟩ := hval i v hP
    have hS1 : ∃ o es ep t, SetSR P w s1.heap S (uniq (xs.take i)) o es ep t := let ⟨o, es, ep, t, r⟩ := hS; ⟨o, es, ep, t, r.at fun u e => hm.heap S u nw e⟩
    show wpAny _ A.in1 (holding [Value.str x t] (setAdd S (.str x t)) >>= _) _ _ s1
    refine wpAny_bind (wpAny_holding ?_)
    unfold setAdd
    refine wpAny_holding (wpAny_bind ((mixKind P w).pyHash (k := .inr x) (mixKind_str _ _ _ _) ?_))
    have hl := uniq_len (xs.take i)
    rw [List.length_take] at hl
    refine setS_hashed (s := { s1 with toks := s1.toks + 1 }) hS1 (by omega) fun b h2 sb R2 => ?_
    rw [← uniq_snoc] at R2
    have et : xs.take i ++ [x] = xs.take (i + 1) := by rw [List.take_add_one, hx] <;> rfl
    rw [et] at R2
    refine wpAny_pure ⟨plainId_quiet F.plain_set_update_loop _, ih (i + 1) _ (by omega) hlt (W.frame _ s1 _ _ hst1 (Nat.le_succ _) fun c hc u e => ?_) R2 fun s3 hm3 R3 => ?_⟩
    · rw [sb.2 c (fun z : c = S => hSf (z ▸ hc))]; exact e
    · refine hR s3 (Moved.trans W.gtrans ((hm.mono sub).then_heap (Nat.le_succ _) fun c u hc e => ?_) hm3) R3
      rw [sb.2 c (fun z : c = S => hc (z ▸ List.mem_cons_self))]; exact e
end
end Rs
set_option Elab.async false
set_option linter.all false
set_option maxRecDepth 100000
set_option maxHeartbeats 3200000
/-! set(row) of a list of texts. -/
namespace Rs
open PySem PySem.Spec PyProof.Rows L2
section
variable {P : Program} {w : World} {A : Around} {E : Value → Shared → Prop} {s : Shared}
theorem setS_start {h : Heap} {a : Addr} (ho : h.get? a = some (set0 w)) : ∃ o es ep t, SetSR P w h a [] o es ep t := by
  refine ⟨_, #[], 0, _, ho, ⟨rfl, rfl, rfl⟩, rfl, fun e he => by simp at he, List.Perm.refl _, List.nodup_nil, by decide, by rfl, List.Pairwise.nil, ?_⟩
  show _ ∨ (!w.params.followText "set-order") = true
  generalize w.params.followText "set-order" = b
  cases b <;> decide
theorem strs_nth : ∀ {us : List Value} {xs : List PySem.Str}, StrsAre us xs → ∀ (i : Nat) (v : Value), us[i]? = some v → ∃ x t, xs[i]? = some x ∧ v = .str x t
  | _, _, .nil, i, v, h => by simp at h
  | _, _, .cons x t r, 0, v, h => by
    simp at h
    exact ⟨x, t, rfl, h.symm⟩
  | _, _, .cons x t r, i + 1, v, h => by
    obtain ⟨y, t', h1, h2⟩ := strs_nth r i v (by simpa using h)
    exact ⟨y, t', by simpa using h1, h2⟩
theorem set_of_txts {l : Addr} {its : Array Value} (xs : List PySem.Str) {Q : Value → Shared → Prop} (hh : A.handled = none) (hl : s.heap.IsList l its) (hit : StrsAre its.toList xs) (hb : xs.length + 1 < scanBound)
    (q : ∀ (h1 : Heap) (tk : Nat), (∃ o es ep t, SetSR P w h1 s.heap.objs.size (uniq xs) o es ep t) → (∀ b o, s.heap.get? b = some o → h1.get? b = some o) → Q (.ref s.heap.objs.size) { s with heap := h1, toks := tk }) :
    wpAny (model P w) A (call (.type "set") [.ref l]) Q E s := by
  have hsz : its.size = xs.length := by rw [← Array.length_toList]; exact StrsAre.len_eq hit
  obtain ⟨c, tl, hmro⟩ := F.called_set.mro
  have m1 := F.called_set.made
  have m2 := F.called_set.sub
  refine wpAny_call (codeAny_of_tree ?_)
  show wpAny _ _ (callAny (.type "set") _) _ _ _
  refine wpAny_pure ⟨Code.quiet_builtin _ (by decide +kernel), codeAny_builtin F.entry_type_call ?_⟩
  rw [Around.under_plain (weight_type_call_type "set" [.ref l] []) rfl]
  have m3 := F.called_set.notType
  have m4 := F.called_set.canCreate
  have m5 := F.typeCall_set_1 (.ref l)
  repeat (any_goals (first | assumption | wp_step))
  refine codeAny_mono (code_set_led1 (.ref l) (E := E) (Q₁ := fun v s1 => v = .ref s.heap.objs.size ∧ s1 = { s with heap := s.heap.push (set0 w) }) ⟨rfl, rfl⟩) fun r s1 hr => ?_
  cases r with
  | error e => exact hr
  | ok fl =>
    cases fl with
    | ret v =>
      obtain ⟨rfl, rfl⟩ := hr
      have hS : (s.heap.push (set0 w)).get? s.heap.objs.size = some (set0 w) := Heap.get?_push_size _ rfl
      have hT : Shared.TypeIs { s with heap := s.heap.push (set0 w) } (.ref s.heap.objs.size) "set" := ⟨_, hS, rfl⟩
      have i1 := F.called_set.init.lookup
      have i2 := F.called_set.init.bind (.ref s.heap.objs.size)
      repeat (any_goals (first | assumption | wp_step))
      refine codeAny_mono (codeAny_call_builtin (R := wants (fun r s2 => r = .none ∧ ∃ h1 tk, s2 = { s with heap := h1, toks := tk } ∧ (∃ o es ep t, SetSR P w h1 s.heap.objs.size (uniq xs) o es ep t) ∧ ∀ b o, s.heap.get? b = some o → h1.get? b = some o) E) F.called_set.init.plain F.entry_set_init (check_set_init_1 hT ?_)) fun r2 s2 hr2 => ?_
      · obtain ⟨⟨oc, od, ot, os⟩, hol, hcl, nl, hdl⟩ := hl
        simp only at hcl hdl
        subst hcl hdl
        have hol1 : (s.heap.push (set0 w)).get? l = some { cls := .type "list", dict := od, data := .seq its nl, slots := os } := Heap.get?_push_of_some _ hol
        have u1 := F.sub_list_set
        have u2 := F.sub_list_frozenset
        have u3 : (Value.type "list" == Value.type "dict") = false := by decide
        have hl1 : (s.heap.push (set0 w)).IsList l its := ⟨_, hol1, rfl, nl, rfl⟩
        unfold Builtin.«set.__init__» noKeywords Builtin.Frozenset.updateFrom
        generalize hPI : pyIter = PI
        wp_walk
        subst hPI
        refine wpAny_pyIter_list hl1 (wpAny_bind (wpAny_runValue ?_))
        have hlS : l < s.heap.objs.size := Heap.lt_size hol
        have hh3 : A.in1.in1.in1.handled = none := by simp [hh]
        have zS : (s.heap.push (set0 w)).objs.size = s.heap.objs.size + 1 := Heap.size_push ..
        have nI : l ≠ (s.heap.push (set0 w)).objs.size := by rw [zS]; exact Nat.ne_of_lt (Nat.lt_succ_of_lt hlS)
        have nS : s.heap.objs.size ∉ [(s.heap.push (set0 w)).objs.size, l] := by
          rw [zS]
          simp only [List.mem_cons, List.not_mem_nil, or_false, not_or]
          exact ⟨Nat.ne_of_lt (Nat.lt_succ_self _), Nat.ne_of_gt hlS⟩
        have hval : ∀ (i : Nat) (v : Value), its[i]? = some v → ∃ x t, xs[i]? = some x ∧ v = .str x t := fun i v hv => strs_nth hit i v (by rw [Array.getElem?_toList]; exact hv)
        refine set_update_txts ((Walks.list hh3 _ l nI its).toS) s.heap.objs.size nS xs hsz hb hval (its.size - 0) 0 _ (by omega) (Nat.zero_le _)
          ⟨⟨_, Heap.get?_push_size _ rfl, rfl, rfl⟩, (hl1.push _)⟩ ?st ?fin
        case st => exact setS_start (Heap.get?_push_of_some _ hS)
        case fin =>
          intro s3 hm R3
          obtain ⟨h3, g3, d3, t3, o3⟩ := s3
          obtain rfl : g3 = s.gens := hm.gens
          obtain rfl : d3 = s.drawn := hm.drawn
          obtain rfl : o3 = s.os := hm.os
          show wpAny _ _ _ _ _ _
          refine wpAny_pure ?_
          show wpAny _ _ (ret Value.none) _ _ _
          refine wpAny_pure ⟨rfl, h3, t3, rfl, R3, fun b o e => ?_⟩
          have hb0 : b < s.heap.objs.size := Heap.lt_size e
          exact hm.heap b o (by simp only [List.mem_cons, List.not_mem_nil, or_false, not_or]; rw [zS]; exact ⟨Nat.ne_of_lt hb0, Nat.ne_of_lt (Nat.lt_succ_of_lt hb0)⟩) (Heap.get?_push_of_some _ (Heap.get?_push_of_some _ e))
      · cases r2 with
        | error e => exact hr2
        | ok fl2 =>
          cases fl2 with
          | ret r =>
            obtain ⟨rfl, h1, tk, rfl, R3, k3⟩ := hr2
            repeat (any_goals (first | assumption | wp_step))
            exact q _ _ R3 k3
          | _ => exact hr2.elim
    | _ => exact hr.elim
end
def rSetOfS (K : PySem.W.Frag) (P : Program) (w : World) : List V → Hp → VK → Prop := fun vs H Q => ∃ (l : Addr) (xs : List PySem.Str), vs = [.ref l] ∧ SqL K H l (xs.map V.str) ∧ xs.length + 1 < scanBound ∧ ∀ a, H a = none → Q (.ref a) (upd H a (SetSO P w a (uniq xs)))
theorem cr_setOfS {X : Cx} (hc : X.calm = true) : CallR X (.type "set") (rSetOfS X.K X.prog X.w) := by
  intro pins s σ H vs us Q I r h
  obtain ⟨l, xs, rfl, hl, hb, q⟩ := h
  rw [Vals.ref1 r]
  obtain ⟨its, rv, pl, hz⟩ := I.list hl
  refine set_of_txts (P := X.prog) (w := X.w) xs (I.ok.hd hc) pl.isList (by simpa using strs_vals rv) hb fun h1 tk R k => ?_
  exact ⟨.ref s.heap.objs.size, upd H s.heap.objs.size (SetSO X.prog X.w s.heap.objs.size (uniq xs)), I.laid (t' := tk) k (Nat.le_refl _) (setS_ok R), rfl, q _ (I.hok.fresh (Nat.le_refl _))⟩
end Rs
set_option Elab.async false
set_option linter.all false
set_option maxRecDepth 100000
set_option maxHeartbeats 2000000
namespace Rs
open PySem PySem.Spec PyProof.Rows L2
local macro_rules | `(tactic| walk_at "rd") => `(tactic| simp only [L2.tRet, L2.tRetN, L2.tSeq, L2.tNext, L2.tIfS, L2.tAsg, L2.gName, L2.gNil, L2.gCons, L2.tVar, L2.tC, L2.tOp, L2.tUn, L2.tCB, L2.tCons, L2.tNil, L2.tAndV, L2.tOrV, L2.tNotV, L2.tAnd, L2.tOr, L2.tNot, L2.tB, L2.tTest, L2.tIf, L2.tChain, L2.tTup, L2.tLst, L2.tDrop, L2.tFld, L2.sFld, L2.tOst, L2.tBM, L2.rNe, L2.tMkO, L2.start, L2.cxOf, L2.Cx.nox, L2.Cx.wish, L2.rI0, L2.rI, L2.tYes, Rs.tCalW, List.getElem?_cons_zero, List.getElem?_cons_succ, Option.some.injEq, exists_eq_left', exists_eq_left, exists_and_left, List.cons.injEq, and_true, true_and, L2.V.bl.injEq, L2.V.int.injEq, L2.V.str.injEq, L2.V.ref.injEq, List.set_cons_zero, List.set_cons_succ, List.map_cons, List.map_nil, List.length_cons, List.length_nil, List.replicate, List.cons_append, List.nil_append, List.append_nil, Nat.reduceSub, Nat.reduceAdd])
local macro_rules | `(tactic| walk_at "dn") => `(tactic| dsimp only [L2.tCons, L2.tC, L2.tNil])
section
variable {P : Program} {w : World} {K : PySem.W.Frag} {mg : PySem.Str → Option Value} {base : Heap}
/-! ### the methods of a kind -/
abbrev Zs (P : Program) (w : World) : Addr → HO := fun D => SetSO P w D []
def methodsOf (kd : KD) : List PySem.Str := isort strLt (uniq (kd.tab.map (·.1.2)))
theorem mem_methodsOf {kd : KD} {m : PySem.Str} : m ∈ methodsOf kd ↔ m ∈ kd.tab.map (·.1.2) := by rw [methodsOf, mem_isort, mem_uniq]
theorem tabE_lock {H : Hp} {tb : Addr} {kvs : List (List Key × V)} {od : Obj} {m : Mv} {kv : List Key × V} (htb : H tb = some (.dT kvs)) (h : TabE K H m kv) : TabE K (upd H tb (.frz od (.dT kvs))) m kv := by
  obtain ⟨h1, t, h2, cs, h3, h4⟩ := h
  have lk : ∀ {b : Addr} {xs : List V}, SqT K H b xs → SqT K (upd H tb (.frz od (.dT kvs))) b xs := fun {b xs} z => by
    rcases z with (z | ⟨o, z⟩) | z
    · exact .inl (.inl (by rw [upd_ne (ne_of z htb (by intro q; cases q))]; exact z))
    · exact .inl (.inr ⟨o, by rw [upd_ne (ne_of z htb (by intro q; cases q))]; exact z⟩)
    · exact .inr z
  exact ⟨h1, t, h2, cs, lk h3, Paired.imp h4 fun _ _ z => lk z⟩
def sp_methods (K : PySem.W.Frag) : Sp := fun vs H Q _ => ∃ p kd, vs = [.ref p] ∧ KindAt K H p kd ∧ kd.tab.length ≤ 4000 ∧ ∀ H' l, Same H H' → H l = none → H' l = some (.lst ((methodsOf kd).map V.str)) → Q (.ref l) H'
theorem ok_methods (T : Txt K mg) : CalM P w K mg base 1 (kC K) "methods" ["self"] (sp_methods K) := by
  obtain ⟨fd, F⟩ := T.d_Kind_methods
  refine ⟨_, fd, ?_, T.me_Kind_methods, F.bindsN fun _ _ _ _ _ _ us hl => match us, hl with | [_], _ => rfl⟩
  refine F.ok sc_Kind_methods (fun vs H Q E h => ?_) (fun cdv A outer s H vs Q E hr h => ?_)
  · obtain ⟨p, kd, rfl, _⟩ := h
    rfl
  · have hu := hu_of hr
    refine ⟨_, PSs.nox (pss_one (ps_ret (pe_callB (r := rSortSet P w) (cr_sortSet rfl) rfl T.b_sorted (by decide +kernel) (pa_cons (pe_lock (pe_scg (own := [("state", 1), ("method", 2)]) (g := gTup K 2 (gCons (gName 1) (gCons (gName 2) (gNil)))) (tt := tYes) (Z := Zs P w) (ad := rAddS P w) setS_lay (fun _ _ _ _ => mt_addS) rfl sc_Kind_methods.nd (pi_keys (pe_fld (pv 0) rfl)) (blkOk_by (own := [("state", 1), ("method", 2)]) (N := ["self", "state", "method"]) (sc := defScope s_Kind_methods) (by decide +kernel)) (fun _ _ _ _ _ => (pg_tup rfl (pgs_cons (pg_name (i := 1) sc_Kind_methods.nd rfl (by first | exact Or.inl rfl | exact Or.inr rfl)) (pgs_cons (pg_name (i := 2) sc_Kind_methods.nd rfl (by first | exact Or.inl rfl | exact Or.inr rfl)) pgs_nil)))) (fun _ _ _ _ _ => pts_nil) (fun _ _ _ _ _ => (pv 2)))) pa_nil)))), ?_⟩
    obtain ⟨p, kd, rfl, ⟨dx, ea, tb, ho, he, ht⟩, hz, q⟩ := h
    obtain ⟨kvs, htb, hpt, nd, _⟩ := id ht
    have ntp : p ≠ tb := ne_of ho htb (by intro z; cases z)
    refine ⟨tb, _, htb, trivial, fun od => ⟨_, rfl, p, kC K, dx, _, _, rfl, by rw [upd_ne ntp]; exact ho, T.cl_Kind, T.no_Kind_table, rfl, tb, od, rfl, .inr ⟨kvs, upd_same, fun D hD => ?_⟩⟩⟩
    have hkl : kd.tab.length = kvs.length := Paired.length hpt
    have hDt : D ≠ tb := fun z => by subst z; rw [upd_same] at hD; cases hD
    refine sc_it (Z := Zs P w) walk_keysT (fun i H1 => Same (upd H tb (.frz od (.dT kvs))) H1 ∧ H1 D = some (SetSO P w D (uniq ((kd.tab.take i).map (·.1.2))))) ⟨Same.new hD, upd_same⟩ (fun i H1 _ z => same_loc z.1) (fun i x H1 H2 hi pv y => ?_) (fun H1 pv => ?_)
    · obtain ⟨s1, hD1⟩ := pv
      obtain ⟨rfl, k, v, b, hk, rfl, hb⟩ := y
      obtain ⟨m, em, h1, _⟩ := Paired.at hpt hk
      have e1 : k = [Sum.inr m.1.1, Sum.inr m.1.2] := h1
      subst e1
      refine ⟨b, [.str m.1.1, .str m.1.2], rfl, SqT.of hb, rfl, _, _, rfl, _, _, rfl, rfl, rfl, ?_⟩
      have hl := uniq_len ((kd.tab.take i).map (·.1.2))
      rw [List.length_map, List.length_take] at hl
      refine ⟨.str m.1.2, rfl, D, m.1.2, _, rfl, rfl, hD1, by show _ < 4096; omega, same_upd s1 hD, ?_⟩
      rw [upd_same, ← uniq_snoc, take_next em, List.map_append] <;> rfl
    · obtain ⟨s1, hD1⟩ := pv
      rw [← hkl, List.take_length] at hD1
      refine ⟨same_loc s1, ?_⟩
      have s2 := lock_same htb s1
      have hD2 : (upd H1 tb (.dT kvs)) D = some (SetSO P w D (uniq (kd.tab.map (·.1.2)))) := by rw [upd_ne hDt]; exact hD1
      generalize upd H1 tb (.dT kvs) = H2 at s2 hD2
      refine ⟨D, _, rfl, hD2, fun l hl => ?_⟩
      exact q _ l (s2.trans (Same.new hl)) (s2.free hl) upd_same
end
end Rs
set_option Elab.async false
set_option linter.all false
set_option maxRecDepth 100000
set_option maxHeartbeats 2000000
namespace Rs
open PySem PySem.Spec PyProof.Rows L2
section
variable {P : Program} {w : World} {K : PySem.W.Frag} {mg : PySem.Str → Option Value} {base : Heap}
/-! ### errors with one field -/
def sp_err (C : Addr) (f : PySem.Str) : Sp := fun vs H Q _ => ∃ a y, vs = [.ref a, y] ∧ H a = some (exo a C none) ∧ ∀ dx, H dx = none → dx ≠ a → Q .non (upd (upd H dx (exd dx [(f, y)])) a (exo a C (some dx)))
/-- what is raised: the class, and its one field in a new dict -/
def Raised (C : Addr) (f : PySem.Str) (y : V) (H : Hp) (E : XK) : Prop := ∀ H' d, Same H H' → H d = none → H' d = some (.xd [(f, y)]) → E (.ref C) (some d) H'
theorem Raised.same {C : Addr} {f : PySem.Str} {y : V} {H H1 : Hp} {E : XK} (s : Same H H1) (h : Raised C f y H E) : Raised C f y H1 E := fun H' d s' hd e => h H' d (s.trans s') (s.free hd) e
theorem err_made {C : Addr} {f : PySem.Str} {y : V} {H : Hp} {E : XK} (h : Raised C f y H E) : ∀ a, H a = none → sp_err C f [.ref a, y] (upd H a (exo a C none))
    (fun v H2 => v = .non ∧ ∃ d : Addr, H2 a = some (exo a C (some d)) ∧ ∃ fs : List (PySem.Str × V), H2 d = some (exd d fs) ∧ H d = none ∧ E (.ref C) (some d) (upd (del H2 a) d (.xd fs))) (fun _ _ _ => False) := by
  intro a ha
  refine ⟨a, y, rfl, upd_same, fun dx hdx ne => ⟨rfl, dx, upd_same, _, by rw [upd_ne ne]; exact upd_same, by rw [upd_ne ne] at hdx; exact hdx, ?_⟩⟩
  have hd : H dx = none := by rw [upd_ne ne] at hdx; exact hdx
  refine h _ dx (fun b u e => ?_) hd upd_same
  have nb : b ≠ a := ne_of_none e ha
  have nd : b ≠ dx := ne_of_none e hd
  rw [upd_ne nd, del_ne nb, upd_ne nb, upd_ne nd, upd_ne nb]
  exact e
theorem err_raw {C : Addr} {f : PySem.Str} {y : V} {H : Hp} {E : XK} (h : Raised C f y H E) : ∀ a, H a = none → sp_err C f [.ref a, y] (upd H a (exo a C none))
    (fun v H2 => v = .non ∧ ∃ (d : Addr) (fs : List (PySem.Str × V)), H2 a = some (exo a C (some d)) ∧ H2 d = some (exd d fs) ∧ H d = none ∧ E (.ref C) (some d) (upd (del H2 a) d (.xd fs))) (fun _ _ _ => False) := by
  intro a ha
  obtain ⟨b, y', e, h1, h2⟩ := err_made h a ha
  refine ⟨b, y', e, h1, fun dx n1 n2 => ?_⟩
  obtain ⟨z1, d, z2, fs, z3, z4, z5⟩ := h2 dx n1 n2
  exact ⟨z1, d, fs, z2, z3, z4, z5⟩
end
end Rs
set_option Elab.async false
set_option linter.all false
set_option maxRecDepth 100000
set_option maxHeartbeats 2000000
namespace Rs
open PySem PySem.Spec PyProof.Rows L2
local macro_rules | `(tactic| walk_at "rd") => `(tactic| simp only [L2.tRet, L2.tRetN, L2.tSeq, L2.tNext, L2.tIfS, L2.tAsg, L2.gName, L2.gNil, L2.gCons, L2.tVar, L2.tC, L2.tOp, L2.tUn, L2.tCB, L2.tCons, L2.tNil, L2.tAndV, L2.tOrV, L2.tNotV, L2.tAnd, L2.tOr, L2.tNot, L2.tB, L2.tTest, L2.tIf, L2.tChain, L2.tTup, L2.tLst, L2.tDrop, L2.tFld, L2.sFld, L2.start, L2.cxOf, L2.Cx.nox, L2.Cx.wish, L2.rI0, L2.rI, L2.tYes, Rs.tCalW, List.getElem?_cons_zero, List.getElem?_cons_succ, Option.some.injEq, exists_eq_left', exists_eq_left, exists_and_left, List.cons.injEq, and_true, true_and, L2.V.bl.injEq, L2.V.int.injEq, L2.V.str.injEq, L2.V.ref.injEq, List.set_cons_zero, List.set_cons_succ, List.map_cons, List.map_nil, List.length_cons, List.length_nil, List.replicate, List.cons_append, List.nil_append, List.append_nil, Nat.reduceSub, Nat.reduceAdd])
section
variable {P : Program} {w : World} {K : PySem.W.Frag} {mg : PySem.Str → Option Value} {base : Heap}
/-! ### moves that may be too many -/
structure MovesPre (mv : List Mv) : Prop where
  keys : ∀ m ∈ mv, isName (.str m.1.1) = true ∧ isName (.str m.1.2) = true
  outs : ∀ m ∈ mv, m.2.length ≤ 4000 ∧ ∀ o ∈ m.2, o.1.length ≤ sizeLine ∧ o.2.length ≤ sizeLine
  size : mv.length ≤ 4000
def movesB (mv : List Mv) : Bool := (mv.all fun m => outsB m.2) && decide (cnt (mv.map (·.1.2)) ≤ 8)
theorem MovesPre.ok {mv : List Mv} (h : MovesPre mv) (b : movesB mv = true) : MovesOk mv := by
  simp only [movesB, Bool.and_eq_true, decide_eq_true_eq, List.all_eq_true] at b
  exact ⟨h.keys, b.1, b.2, h.size⟩
def sp_are_movesB (K : PySem.W.Frag) : Sp := fun vs H Q _ => ∃ (d : Addr) (mv : List Mv), vs = [.ref d] ∧ MovesAt K H d mv ∧ MovesPre mv ∧ ∀ H', Same H H' → Q (.bl (movesB mv)) H'
theorem ok_are_movesB (T : Txt K mg) : Cal P w K mg base 6 "are_moves" ["thing"] (sp_are_movesB K) := by
  have c_is_key := ok_is_key (P := P) (w := w) (base := base) T
  have c_are_outcomes := ok_are_outcomes (P := P) (w := w) (base := base) T
  obtain ⟨fd, F⟩ := T.d_are_moves
  obtain ⟨tk, h_MOST_METHODS⟩ := T.c_MOST_METHODS
  refine cal_of F T.g_are_moves (F.bindsN fun _ _ _ _ _ _ us hl => match us, hl with | [_], _ => rfl) ?_
  refine F.ok sc_are_moves (fun vs H Q E h => ?_) (fun cdv A outer s H vs Q E hr h => ?_)
  · obtain ⟨p, mv, rfl, _⟩ := h
    rfl
  · have hu := hu_of hr
    refine ⟨_, PSs.nox (pss_cons (ps_if (pt_not (pt_val (pe_callB (r := rIsi K) call_isi rfl T.b_isinstance (by decide +kernel) (pa_cons (pv 0) (pa_cons (pe_bltn (v := .ty "dict") rfl T.b_dict (by decide +kernel) rfl) pa_nil))))) (pss_one (ps_ret pe_bl)) pss_nil)
      (pss_cons (ps_lock (ps_for PassesOwn.never rfl (pi_keys (pv 0)) (pg_name (i := 1) sc_are_moves.nd rfl (Or.inl rfl)) (pss_one (ps_if (PW.pt (pw_or (pt_not (pt_val (pe_cal c_is_key (hr.mono (by decide)) takes0 (pa_cons (pv 1) pa_nil)))) (pw_or1 (pt_not (pt_val (pe_cal c_are_outcomes (hr.mono (by decide)) takes0 (pa_cons (pe_dget hu (pv 0) (pv 1) (fun _ _ => rfl)) pa_nil))))))) (pss_one (ps_ret pe_bl)) pss_nil))))
      (pss_one (ps_ret (pe_cmpR op_le (pe_callB cr_lenSet rfl T.b_len (by decide +kernel) (pa_cons (pe_lock (pe_scg (own := [("at", 1)]) (g := gName 1) (tt := tYes) (Z := Zk P w) (ad := rSAddK P w) setK_lay (fun _ _ _ _ => mt_saddK) rfl sc_are_moves.nd (pi_keys (pv 0)) (blkOk_by (own := [("at", 1)]) (N := ["thing", "at"]) (sc := defScope s_are_moves) (by decide +kernel)) (fun _ _ _ _ _ => (pg_name (i := 1) sc_are_moves.nd rfl (by first | exact Or.inl rfl | exact Or.inr rfl))) (fun _ _ _ _ _ => pts_nil) (fun _ _ _ _ _ => (pe_ix (r := rIxT K) ix_tup (pv 1) pe_int (fun _ _ => rfl))))) pa_nil)) (pe_glob (v := .int 8) rfl h_MOST_METHODS ⟨_, rfl⟩) (nomark _)))))), ?_⟩
    obtain ⟨d, mv, rfl, ⟨kvs, hd, hp, nd⟩, ok, q⟩ := h
    walk_at "rd"
    refine isi_is (srt_dT hd) (by decide) ⟨_, rfl, ?_⟩
    rw [if_neg (by decide)]
    have hp' : ∀ od, Paired (MvAt K (upd H d (.frz od (.dT kvs)))) mv kvs := fun od => Paired.imp hp fun m kv h => mvAt_lock hd h
    refine ⟨d, _, hd, trivial, fun od => ?_⟩
    refine ⟨_, rfl, d, od, rfl, .inr ⟨kvs, same_loc (Same.refl _), ?_⟩⟩
    refine for_it walk_keysT (fun i σ H1 => (∃ v, σ = [some (.ref d), v]) ∧ Same (upd H d (.frz od (.dT kvs))) H1 ∧ ∀ m ∈ mv.take i, outsB m.2 = true) ⟨⟨none, rfl⟩, Same.refl _, fun m hm => by rw [List.take_zero] at hm; cases hm⟩ (fun i σ H1 _ p => same_loc p.2.1) (fun i x σ H1 H2 hi p y => ?_) (fun σ H1 p => ?_)
    · obtain ⟨⟨v0, rfl⟩, s1, good⟩ := p
      obtain ⟨rfl, k, v, b, hk, rfl, hb⟩ := y
      obtain ⟨m, em, h1, pp, bs, e2, h3, h4⟩ := Paired.at (hp' od) hk
      have hm := List.mem_of_getElem? em
      have e1 : k = [Sum.inr m.1.1, Sum.inr m.1.2] := h1
      have e2' : v = .ref pp := e2
      subst e1 e2'
      obtain ⟨k1, k2⟩ := ok.keys m hm
      have hb' : SqT K H2 b [.str m.1.1, .str m.1.2] := SqT.of hb
      walk_at "rd"
      refine ⟨.ref b, _, rfl, srt_tq hb', .inr ⟨b, _, rfl, hb', fun _ x hx => ?_, fun H3 s3 => ?_⟩⟩
      · rcases List.mem_cons.mp hx with rfl | hx
        · exact ⟨⟨_, srt_str _⟩, fun z e => by cases e; exact name_len k1⟩
        · rcases List.mem_cons.mp hx with rfl | hx
          · exact ⟨⟨_, srt_str _⟩, fun z e => by cases e; exact name_len k2⟩
          · cases hx
      · refine ⟨_, rfl, ?_⟩
        have ep : pairB isName isName [.str m.1.1, .str m.1.2] = true := by simp only [pairB, k1, k2, Bool.and_true]
        rw [if_neg (by rw [ep]; decide)]
        have s13 := s1.trans s3
        refine ⟨.ref d, rfl, .ref b, rfl, d, .ref pp, rfl, .inr ⟨kvs, _, b, .inr ⟨od, same_loc s13⟩, rfl, s3 _ _ hb, ?_⟩, ?_⟩
        · exact (valV_at hp nd (List.mem_of_getElem? hk)).symm
        · obtain ⟨l8, ll⟩ := ok.outs m hm
          refine ⟨pp, bs, m.2, rfl, SqR.same s13 h3, Paired.imp h4 (fun o b z => SqR.same s13 z), ?_, ll, fun H4 s4 => ⟨_, rfl, ?_⟩⟩
          · have := Paired.length h4
            omega
          · cases eo : outsB m.2 with
            | true =>
              rw [if_neg (by decide)]
              refine ⟨⟨_, rfl⟩, s13.trans s4, fun n hn => ?_⟩
              rw [take_next em, List.mem_append, List.mem_singleton] at hn
              rcases hn with hn | rfl
              · exact good n hn
              · exact eo
            | false =>
              rw [if_pos (by decide)]
              have ef : movesB mv = false := by
                unfold movesB
                rw [List.all_eq_false.mpr ⟨m, hm, by rw [eo]; decide⟩, Bool.false_and]
              refine ⟨same_loc (s13.trans s4), ?_⟩
              have := q _ (lock_same hd (s13.trans s4))
              rw [ef] at this
              exact this
    · obtain ⟨⟨v0, rfl⟩, s1, good⟩ := p
      refine ⟨same_loc s1, ?_⟩
      have s2 := lock_same hd s1
      generalize upd H1 d (.dT kvs) = H2 at s2
      have hd2 := s2 _ _ hd
      walk_at "rd"
      refine ⟨d, _, hd2, trivial, fun od2 => ⟨_, rfl, d, od2, rfl, .inr ⟨kvs, upd_same, fun D hD => sc_meths hp hD upd_same (by simp) ok.size fun H3 S s3 h3 => ?_⟩⟩⟩
      refine ⟨same_loc s3, ?_⟩
      have s4 := lock_same hd2 s3
      have hDd : D ≠ d := by
        rintro rfl
        rw [upd_same] at hD
        cases hD
      refine ⟨D, _, rfl, .inr ⟨S, by rw [upd_ne hDd]; exact h3⟩, _, rfl, ?_⟩
      have e8 : decide ((cnt (mv.map (·.1.2)) : Int) ≤ 8) = movesB mv := by
        have hlen : mv.length = kvs.length := Paired.length hp
        rw [← hlen, List.take_length] at good
        unfold movesB
        rw [List.all_eq_true.mpr good, Bool.true_and]
        exact decide_eq_decide.mpr (by omega)
      rw [e8]
      exact q _ (s2.trans s4)
theorem ok_BadKind (T : Txt K mg) : CalE P w K mg base 1 (He.ga K "BadKind") "BadKind" ["self", "part"] (sp_err (He.ga K "BadKind") "part") := by
  obtain ⟨fd, F⟩ := T.d_BadKind_init
  obtain ⟨i1, i2⟩ := ini_ok T.ini_BadKind
  refine ⟨_, fd, ?_, T.oex_BadKind, i1, i2, T.g_BadKind, F.bindsN fun _ _ _ _ _ _ us hl => match us, hl with | [_, _], _ => rfl⟩
  refine F.ok sc_BadKind_init (fun vs H Q E h => ?_) (fun cdv A outer s H vs Q E hr h => ?_)
  · obtain ⟨a, y, rfl, _⟩ := h
    rfl
  · refine ⟨_, PSs.nox (pss_one (ps_ost (pv 0) (pv 1))), ?_⟩
    obtain ⟨a, y, rfl, ha, q⟩ := h
    exact ⟨y, rfl, _, rfl, a, _, rfl, T.oex_BadKind, T.no_BadKind_part, .inl ⟨ha, q⟩⟩
def sp_kindE (K : PySem.W.Frag) : Sp := fun vs H Q E => ∃ (x : Addr) (name start : PySem.Str) (e d : Addr) (ends : List PySem.Str) (mv : List Mv) (dx : Addr) (N : List PySem.Str), vs = [.ref x, .str name, .str start, .ref e, .ref d] ∧ H x = some (.ins (kC K) dx []) ∧
  isName (.str name) = true ∧ isName (.str start) = true ∧ SqR K H e (ends.map V.str) ∧ (∀ y ∈ ends, isName (.str y) = true) ∧ ends.Nodup ∧ ends.length ≤ 4000 ∧ MovesAt K H d mv ∧ MovesPre mv ∧
  N.Nodup ∧ (∀ y, y ∈ N ↔ y ∈ statesOf ⟨name, start, isort strLt ends, sortTab mv⟩) ∧
  if (movesB mv && decide (N.length ≤ 60)) = true then ∀ H', SameX x H H' → KindAt K H' x ⟨name, start, isort strLt ends, sortTab mv⟩ → Q .non H'
  else ∀ H', SameX x H H' → Raised (He.ga K "BadKind") "part" (.str "moves") H' E
theorem ok_kindE (T : Txt K mg) : CalI P w K mg base 7 (kC K) "Kind" ["self", "name", "start", "ends", "moves"] (sp_kindE K) := by
  have c_is_name := ok_is_name (P := P) (w := w) (base := base) T
  have c_are_ends := ok_are_ends (P := P) (w := w) (base := base) T
  have c_are_moves := ok_are_movesB (P := P) (w := w) (base := base) T
  have c_BadKind := ok_BadKind (P := P) (w := w) (base := base) T
  have c_states := ok_states (P := P) (w := w) (base := base) T
  obtain ⟨fd, F⟩ := T.d_Kind_init
  obtain ⟨tk, h_MOST_STATES⟩ := T.c_MOST_STATES
  refine ⟨_, fd, ?_, T.mk_Kind, T.g_Kind, F.bindsN fun _ _ _ _ _ _ us hl => match us, hl with | [_, _, _, _, _], _ => rfl⟩
  refine F.ok sc_Kind_init (fun vs H Q E h => ?_) (fun cdv A outer s H vs Q E hr h => ?_)
  · obtain ⟨x, name, start, e, d, ends, mv, dx, N, rfl, _⟩ := h
    rfl
  · have hu := hu_of hr
    refine ⟨_, (pss_cons (ps_if (pt_not (pt_val (pe_cal c_is_name (hr.mono (by decide)) (takes_of rfl rfl rfl rfl) (pa_cons (pv 1) pa_nil)))) (pss_one ps_never) pss_nil)
      (pss_cons (ps_if (pt_not (pt_val (pe_cal c_is_name (hr.mono (by decide)) (takes_of rfl rfl rfl rfl) (pa_cons (pv 2) pa_nil)))) (pss_one ps_never) pss_nil)
      (pss_cons (ps_if (pt_not (pt_val (pe_cal c_are_ends (hr.mono (by decide)) (takes_of rfl rfl rfl rfl) (pa_cons (pv 3) pa_nil)))) (pss_one ps_never) pss_nil)
      (pss_cons (ps_if (pt_not (pt_val (pe_cal c_are_moves (hr.mono (by decide)) (takes_of rfl rfl rfl rfl) (pa_cons (pv 4) pa_nil)))) (pss_one (ps_cale c_BadKind (hr.mono (by decide)) (takes_of rfl rfl rfl rfl) (pa_cons pe_str pa_nil))) pss_nil)
      (pss_cons (ps_fld (pv 0) (pv 1) rfl)
      (pss_cons (ps_fld (pv 0) (pv 2) rfl)
      (pss_cons (ps_fld (pv 0) (pe_callTy (r := rTupOf K) call_tupOf rfl T.b_tuple (by decide +kernel) (pa_cons (pe_callB (cr_sortS rfl) rfl T.b_sorted (by decide +kernel) (pa_cons (pv 3) pa_nil)) pa_nil)) rfl)
      (pss_cons (ps_fld (pv 0) pe_dnewT rfl)
      (pss_cons (ps_for (passes_of rfl) rfl (pi_list (pe_callB (r := rSortDT K) (cr_sortDT rfl) rfl T.b_sorted (by decide +kernel) (pa_cons (pv 4) pa_nil))) (pg_name (i := 5) sc_Kind_init.nd rfl (Or.inl rfl))
      (pss_one (ps_dput hu (pe_fld (pv 0) rfl) (pv 5) (pe_callTy (r := rTupOf K) call_tupOf rfl T.b_tuple (by decide +kernel) (pa_cons (pe_callB (r := rSortQ K) cr_sortQ rfl T.b_sorted (by decide +kernel) (pa_cons (pe_lc (own := [("one", 6)]) (g := gName 6) (tt := tYes) rfl sc_Kind_init.nd (pi_seq (pe_dget hu (pv 4) (pv 5) (fun _ _ => rfl))) (blkOk_by (own := [("one", 6)]) (N := ["self", "name", "start", "ends", "moves", "at", "one"]) (sc := defScope s_Kind_init) (by decide +kernel)) (fun _ _ _ _ _ => (pg_name (i := 6) sc_Kind_init.nd rfl (by first | exact Or.inl rfl | exact Or.inr rfl))) (fun _ _ _ _ _ => pts_nil) (fun _ _ _ _ _ => (pe_callTy (r := rTupOf K) call_tupOf rfl T.b_tuple (by decide +kernel) (pa_cons (pv 6) pa_nil)))) pa_nil)) pa_nil)) rfl)))
      (pss_one (ps_if (pt_cmpR op_gt (pe_callB (r := rLenQ K) call_lenQ rfl T.b_len (by decide +kernel) (pa_cons (pe_calm0 c_states T.cl_Kind (hr.mono (by decide)) (takes_of rfl rfl rfl rfl) (pv 0)) pa_nil)) (pe_glob (v := .int 60) rfl h_MOST_STATES ⟨_, rfl⟩) (nomark _)) (pss_one (ps_cale c_BadKind (hr.mono (by decide)) (takes_of rfl rfl rfl rfl) (pa_cons pe_str pa_nil))) pss_nil))))))))))), ?_⟩
    obtain ⟨x, name, start, e, d, ends, mv, dx, N, rfl, hx, n1, n2, he, hen, hnd, hez, hmv, pre, ndN, memN, q⟩ := h
    walk_at "rd"
    have hsE : ∀ y ∈ ends, y.length ≤ sizeLine := fun y hy => name_len (hen y hy)
    refine ⟨_, _, rfl, srt_str _, (fun z e => by cases e; exact name_len n1), fun H1 s1 => ⟨_, rfl, ?_⟩⟩
    rw [if_neg (by rw [n1]; decide)]
    refine ⟨_, _, rfl, srt_str _, (fun z e => by cases e; exact name_len n2), fun H2 s2 => ⟨_, rfl, ?_⟩⟩
    rw [if_neg (by rw [n2]; decide)]
    have s12 := s1.trans s2
    refine ⟨e, ends, rfl, SqR.same s12 he, hez, hsE, fun H3 s3 => ⟨_, rfl, ?_⟩⟩
    rw [if_neg (by rw [show (ends.all fun x => isName (.str x)) = true from List.all_eq_true.mpr hen, decide_eq_true hnd]; decide)]
    have s13 := s12.trans s3
    obtain ⟨kvs, hd, hp, nd⟩ := hmv
    refine ⟨d, mv, rfl, ⟨kvs, s13 _ _ hd, Paired.imp hp fun _ _ z => z.same s13, nd⟩, pre, fun H4 s4 => ⟨_, rfl, ?_⟩⟩
    have s14 := s13.trans s4
    cases eB : movesB mv with
    | false =>
      rw [eB, Bool.false_and] at q
      rw [if_pos (by decide)]
      exact ⟨by show 1 ≤ 1000; decide, err_raw (q H4 (SameX.of s14))⟩
    | true =>
    have mok := pre.ok eB
    rw [eB, Bool.true_and] at q
    rw [if_neg (by decide)]
    have hx4 := s14 _ _ hx
    have hd4 := s14 _ _ hd
    have he4 := SqR.same s14 he
    have hp4 : Paired (MvAt K H4) mv kvs := Paired.imp hp fun _ _ z => z.same s14
    have q4 : if decide (N.length ≤ 60) = true then ∀ H', SameX x H4 H' → KindAt K H' x ⟨name, start, isort strLt ends, sortTab mv⟩ → Q .non H' else ∀ H', SameX x H4 H' → Raised (He.ga K "BadKind") "part" (.str "moves") H' E := by
      by_cases hN : decide (N.length ≤ 60) = true
      · rw [if_pos hN] at q ⊢
        exact fun H' h hk => q H' (SameX.trans (SameX.of s14) h) hk
      · rw [if_neg hN] at q ⊢
        exact fun H' h => q H' (SameX.trans (SameX.of s14) h)
    clear q hx hd he hp s1 s2 s3 s4 s12 s13 s14
    refine ⟨kC K, dx, _, hx4, T.cl_Kind, T.no_Kind_called, (by decide), ?_⟩
    refine ⟨kC K, dx, _, upd_same, T.cl_Kind, T.no_Kind_begin, (by show 1 < 1000; decide), ?_⟩
    rw [show putF "begin" (V.str start) (putF "called" (V.str name) []) = (kfl2 name start) from rfl]
    have sx5 : SameX x H4 (upd (upd H4 x (.ins (kC K) dx (putF "called" (V.str name) []))) x (.ins (kC K) dx (kfl2 name start))) := SameX.upd SameX.self
    have hx5 : (upd (upd H4 x (.ins (kC K) dx (putF "called" (V.str name) []))) x (.ins (kC K) dx (kfl2 name start))) x = some (.ins (kC K) dx (kfl2 name start)) := upd_same
    generalize (upd (upd H4 x (.ins (kC K) dx (putF "called" (V.str name) []))) x (.ins (kC K) dx (kfl2 name start))) = H5 at sx5 hx5
    refine ⟨e, ends, rfl, .inl (sx5.rq hx4 rfl he4), (by rw [sizeLine_eq]; omega), fun l hl => ⟨l, _, rfl, .inl ⟨SqL.of upd_same, fun t ht => ?_⟩⟩⟩
    have sl : Same H5 (upd H5 l (.lst ((isort strLt ends).map V.str))) := Same.new hl
    have st : Same H5 (upd (upd H5 l (.lst ((isort strLt ends).map V.str))) t (.tup ((isort strLt ends).map V.str))) := sl.trans (Same.new ht)
    have htt : (upd (upd H5 l (.lst ((isort strLt ends).map V.str))) t (.tup ((isort strLt ends).map V.str))) t = some (.tup ((isort strLt ends).map V.str)) := upd_same
    generalize (upd (upd H5 l (.lst ((isort strLt ends).map V.str))) t (.tup ((isort strLt ends).map V.str))) = H6 at st htt
    have hx6 := st _ _ hx5
    have sx6 : SameX x H4 H6 := sx5.trans (SameX.of st)
    refine ⟨kC K, dx, _, hx6, T.cl_Kind, T.no_Kind_last, (by show 2 < 1000; decide), fun tb htb => ⟨kC K, dx, _, by rw [upd_ne (fun z => by subst z; rw [upd_same] at htb; cases htb)]; exact upd_same, T.cl_Kind, T.no_Kind_table, (by show 3 < 1000; decide), ?_⟩⟩
    have ntx : tb ≠ x := fun z => by subst z; rw [upd_same] at htb; cases htb
    have ht6 : H6 tb = none := by rw [upd_ne ntx] at htb; exact htb
    have ntt : tb ≠ t := fun z => by subst z; rw [htt] at ht6; cases ht6
    have htx : t ≠ x := ne_of htt hx6 (by intro z; cases z)
    have h4b : H4 tb = none := by
      cases z : H4 tb with
      | none => rfl
      | some u => rw [sx6 _ _ ntx z] at ht6; cases ht6
    rw [show putF "table" (V.ref tb) (putF "last" (V.ref t) (kfl2 name start)) = kflds name start t tb from rfl]
    generalize hH7 : (upd (upd (upd H6 x (.ins (kC K) dx (putF "last" (V.ref t) (kfl2 name start)))) tb (.dT [])) x (.ins (kC K) dx (kflds name start t tb))) = H7
    have hx7 : H7 x = some (.ins (kC K) dx (kflds name start t tb)) := by rw [← hH7]; exact upd_same
    have htb7 : H7 tb = some (.dT []) := by rw [← hH7, upd_ne ntx]; exact upd_same
    have htt7 : H7 t = some (.tup ((isort strLt ends).map V.str)) := by rw [← hH7, upd_ne htx, upd_ne ntt.symm, upd_ne htx]; exact htt
    have sx7 : SameX x H4 H7 := by
      intro a u n z
      rw [← hH7, upd_ne n, upd_ne (ne_of_none z h4b), upd_ne n]
      exact sx6 _ _ n z
    clear hH7 htb ht6 sx6 hx6 htt st sl ht hl sx5 hx5
    have hd7 : H7 d = some (.dT kvs) := sx7 _ _ (ne_of hd4 hx4 (by intro z; cases z)) hd4
    have hp7 : Paired (MvAt K H7) mv kvs := Paired.imp hp4 fun _ _ z => sx7.mv hx4 rfl z
    refine ⟨_, rfl, d, kvs, mv.map fun m => row2 m.1, rfl, .inl hd7, paired_keys hp7, (fun k hk => by obtain ⟨m, _, rfl⟩ := List.mem_map.mp hk; intro z; cases z), (by have := Paired.length hp7; have := mok.size; rw [sizeLine_eq]; omega), fun l2 cs hl2 hcs => ?_⟩
    generalize hH8 : upd H7 l2 (.lst (cs.map V.ref)) = H8
    have s8 : Same H7 H8 := hH8 ▸ Same.new hl2
    have hl8 : H8 l2 = some (.lst (cs.map V.ref)) := by rw [← hH8]; exact upd_same
    have htb8 := s8 _ _ htb7
    have hx8 := s8 _ _ hx7
    have hcs8 : Paired (fun (k : List PySem.Str) b => H8 b = some (.tup (k.map V.str))) (isort rowLt (mv.map fun m => row2 m.1)) cs := Paired.imp hcs fun _ _ z => s8 _ _ z
    have ndT := sortTab_nodup nd
    have hlT : (sortTab mv).length = mv.length := by rw [sortTab, List.length_map, length_isort, List.length_map]
    have hlc : (sortTab mv).length = cs.length := by rw [← Paired.length hcs, sortTab, List.length_map]
    refine ⟨l2, rfl, ⟨_, SqL.of hl8⟩, for_it walk_lm (fun i σ H => (∃ a b, σ = [some (.ref x), some (.str name), some (.str start), some (.ref e), some (.ref d), a, b]) ∧ SameX tb H8 H ∧ ∃ kvs', H tb = some (.dT kvs') ∧ Paired (TabE K H) ((sortTab mv).take i) kvs')
      ⟨⟨_, _, rfl⟩, SameX.of (Same.refl _), [], htb8, by rw [List.take_zero]; exact .nil⟩ (fun i σ H9 _ q => q.2.1.lq htb8 rfl (SqL.of hl8)) (fun i y σ H10 H9 hi pv yy => ?_) (fun σ H9 pv => ?_)⟩
    · obtain ⟨⟨a, b, rfl⟩, s9, kvs', htb9, hp9⟩ := pv
      obtain ⟨rfl, hy⟩ := yy
      obtain ⟨c, hc⟩ : ∃ c, cs[i]? = some c := ⟨_, List.getElem?_eq_getElem hi⟩
      rw [List.getElem?_map, hc] at hy
      cases Option.some.inj hy
      obtain ⟨k, hk, hkc⟩ := Paired.at hcs8 hc
      obtain ⟨ek, km⟩ := row_sorted (os := mv.map (·.1)) (k := k) (by rw [List.map_map]; exact List.mem_of_getElem? hk)
      obtain ⟨m, hm, em⟩ := List.mem_map.mp km
      have ek' : k = row2 m.1 := by rw [em]; exact ek.symm
      subst ek'
      obtain ⟨j, hj⟩ := List.getElem?_of_mem hm
      have hp10 : Paired (MvAt K H9) mv kvs := Paired.imp hp7 fun _ _ z => s9.mv htb8 rfl (z.same s8)
      obtain ⟨kv, hkv, e1, pp, bs, e2, h3, h4⟩ := Paired.atL hp10 hj
      have ndt : d ≠ tb := fun z => by subst z; rw [h4b] at hd4; cases hd4
      have hd9 : H9 d = some (.dT kvs) := s9 _ _ ndt (s8 _ _ hd7)
      have nct : c ≠ tb := ne_of hkc htb8 (by intro z; cases z)
      have hc9 := s9 _ _ nct hkc
      have hx9 := s9 _ _ ntx.symm hx8
      have hv : valV kvs kv.1 = some kv.2 := valV_at hp10 nd (List.mem_of_getElem? hkv)
      obtain ⟨l8, ll⟩ := outs_len (mok.outs m hm)
      have hbl : bs.length ≤ 8 := by have := Paired.length h4; omega
      walk_at "rd"
      refine ⟨.ref d, rfl, .ref c, rfl, d, .ref pp, rfl, .inr ⟨kvs, [Sum.inr m.1.1, Sum.inr m.1.2], c, .inl hd9, rfl, hc9, by rw [← e1, hv, e2]⟩, pp, rfl, ?_⟩
      have next : ∀ D H10 cs2, Same H9 H10 → H10 D = some (.lst (cs2.map V.ref)) → Paired (fun k b => RowAt K H10 b k) (m.2.map fun o => [o.1, o.2]) cs2 → ∀ l3 cs3, H10 l3 = none → Paired (fun k b => RowAt K H10 b k) (isort rowLt (m.2.map row2)) cs3 → ∀ t3, (upd H10 l3 (.lst (cs3.map V.ref))) t3 = none →
          ∃ G, G = upd (upd H10 l3 (.lst (cs3.map V.ref))) t3 (.tup (cs3.map V.ref)) ∧ G x = some (.ins (kC K) dx (kflds name start t tb)) ∧ ∃ H4, DPut G tb (.ref c) (.ref t3) H4 ∧ SameX tb H8 H4 ∧ ∃ kvs', H4 tb = some (.dT kvs') ∧ Paired (TabE K H4) ((sortTab mv).take (i + 1)) kvs' := by
        intro D H10 cs2 s10 hD10 hc2 l3 cs3 hl3 hp3 t3 ht3
        have sG : Same H9 (upd (upd H10 l3 (.lst (cs3.map V.ref))) t3 (.tup (cs3.map V.ref))) := (s10.trans (Same.new hl3)).trans (Same.new ht3)
        have s10G : Same H10 (upd (upd H10 l3 (.lst (cs3.map V.ref))) t3 (.tup (cs3.map V.ref))) := (Same.new hl3).trans (Same.new ht3)
        have htG : (upd (upd H10 l3 (.lst (cs3.map V.ref))) t3 (.tup (cs3.map V.ref))) t3 = some (.tup (cs3.map V.ref)) := upd_same
        refine ⟨_, rfl, ?_⟩
        generalize (upd (upd H10 l3 (.lst (cs3.map V.ref))) t3 (.tup (cs3.map V.ref))) = G at sG s10G htG
        have htbG := sG _ _ htb9
        have hkl : kvs'.length ≤ 4000 := by
          have := Paired.length hp9
          have := List.length_take_le i (sortTab mv)
          have := mok.size
          omega
        refine ⟨sG _ _ hx9, _, DPut.t (k := [Sum.inr m.1.1, Sum.inr m.1.2]) htbG (sG _ _ hc9) (by rw [sizeLine_eq]; omega), SameX.upd (fun a u n z => sG _ _ (s9 _ _ n z)), _, upd_same, ?_⟩
        have hsk : (sortTab mv)[i]? = some (m.1, sortOuts m.2) := by
          rw [sortTab, List.getElem?_map, hk]
          show some (un2 (row2 m.1), sortOuts ((look mv (un2 (row2 m.1))).getD [])) = _
          rw [un2_row2, look_mem nd hm] <;> rfl
        have sU : SameX tb G (upd G tb (.dT (putK kvs' [Sum.inr m.1.1, Sum.inr m.1.2] (.ref t3)))) := SameX.self
        rw [take_next hsk, putK_new]
        · rw [putK_new] at sU
          · refine Paired.snoc (Paired.imp hp9 fun _ _ z => sU.tab htbG rfl (z.same sG)) ⟨rfl, t3, rfl, cs3, sU.tq htbG rfl (SqT.of htG), ?_⟩
            refine Paired.mapL hp3 fun r hr b hb => ?_
            have := (row_sorted hr).1
            show RowAt K _ b (row2 (un2 r))
            rw [this]
            exact sU.tq htbG rfl (Same.tq s10G hb)
          · exact tab_new (m := (m.1, sortOuts m.2)) ndT hsk hp9
        · exact tab_new (m := (m.1, sortOuts m.2)) ndT hsk hp9
      refine h3.elim (fun h3 => .inl ⟨⟨_, h3⟩, fun D hD => lc_tuples walk_lm hD (fun H2 s2 => Same.seq s2 h3) (by omega) h4 (by simp) (fun H10 cs2 s10 hD10 hc2 => ?_)⟩) (fun h3 => .inr ⟨⟨_, h3⟩, fun D hD => lc_tuples walk_tm hD (fun H2 s2 => Same.tq s2 h3) (by omega) h4 (by simp) (fun H10 cs2 s10 hD10 hc2 => ?_)⟩)
      all_goals
        have hcl : cs2.length ≤ 8 := by rw [← Paired.length hc2, List.length_map]; exact l8
        refine ⟨D, cs2, _, rfl, .inl (SqL.of hD10), (by rw [sizeLine_eq]; omega), hc2, (fun k hk => by obtain ⟨m, _, rfl⟩ := List.mem_map.mp hk; intro z; cases z), fun l3 cs3 hl3 hp3 => ⟨l3, _, rfl, .inl ⟨SqL.of upd_same, fun t3 ht3 => ?_⟩⟩⟩
        obtain ⟨G, eG, hxG, H11, dp, r1, r2⟩ := next D H10 cs2 s10 hD10 hc2 l3 cs3 hl3 hp3 t3 ht3
        rw [← eG]
        exact ⟨_, rfl, x, kC K, dx, _, _, rfl, hxG, T.cl_Kind, T.no_Kind_table, rfl, _, rfl, tb, H11, rfl, dp, ⟨_, _, rfl⟩, r1, r2⟩
    · obtain ⟨⟨a, b, rfl⟩, s9, kvs', htb9, hp9⟩ := pv
      have hp9' : Paired (TabE K H9) (sortTab mv) kvs' := by rw [← hlc, List.take_length] at hp9 <;> exact hp9
      have hx9 := s9 _ _ ntx.symm hx8
      have ht9 : SqT K H9 t ((isort strLt ends).map V.str) := s9.tq htb8 rfl (SqT.of (s8 _ _ htt7))
      have hK : KindAt K H9 x ⟨name, start, isort strLt ends, sortTab mv⟩ := ⟨dx, t, tb, hx9, ht9, kvs', htb9, hp9', ndT, by have := mok.size; show (sortTab mv).length ≤ 4000; omega⟩
      refine ⟨_, rfl, x, dx, _, rfl, hx9, (kflds_no (by decide +kernel)), x, _, rfl, hK, ?_, fun H10 l ys s10 hl hl' up ndy mem => ⟨l, _, rfl, .inl (SqL.of hl'), ?_⟩⟩
      · have h1 : (statesOf ⟨name, start, isort strLt ends, sortTab mv⟩).length = 1 + (ends.length + ((sortTab mv).length + ((sortTab mv).flatMap fun m => m.2.map (·.2)).length)) := by simp [statesOf, length_isort]; omega
        have h2 := outs_sum (sortTab mv) (sortTab_few mok.outs)
        have := mok.size
        omega
      · refine ⟨_, _, rfl, rfl, _, rfl, ?_⟩
        walk_at "rd"
        have hl60 : ys.length = N.length := (List.perm_ext_iff_of_nodup ndy ndN).mpr (fun y => by rw [mem, memN]) |>.length_eq
        have sx10 : SameX x H4 H10 := fun a u n z => s10 _ _ (s9 _ _ (ne_of_none z h4b) (s8 _ _ (sx7 _ _ n z)))
        by_cases hN : N.length ≤ 60
        · rw [if_pos (decide_eq_true hN)] at q4
          rw [if_neg (by simp only [List.length_map, decide_eq_true_eq]; omega)]
          exact q4 H10 sx10 (hK.same s10)
        · rw [if_neg (by rw [decide_eq_false hN]; decide)] at q4
          rw [if_pos (by simp only [List.length_map, decide_eq_true_eq]; omega)]
          exact ⟨by show 1 ≤ 1000; decide, err_raw (q4 H10 sx10)⟩
end
end Rs
set_option Elab.async false
set_option linter.all false
set_option maxRecDepth 100000
set_option maxHeartbeats 2000000
/-! Dicts whose keys are tuples: len(d), list(d.items()), dict(pairs), {k: v for ..}. -/
namespace Rs
open PySem PySem.Spec PyProof.Rows L2
abbrev TK := List (List Key × V)
theorem pair_at {α β : Type} {R : α → β → Prop} : ∀ {l : List α} {m : List β} {i : Nat} {b : β}, Paired R l m → m[i]? = some b → ∃ a, l[i]? = some a ∧ R a b
  | _, _, _, _, .nil, e => by simp at e
  | _, _, 0, _, .cons h _, e => by simp at e; subst e; exact ⟨_, rfl, h⟩
  | _, _, i + 1, _, .cons _ t, e => by
    obtain ⟨a, e1, e2⟩ := pair_at (i := i) t (by simpa using e)
    exact ⟨a, by simpa using e1, e2⟩
def mergeT (kvs more : TK) : TK := more.foldl (fun acc kv => putK acc kv.1 kv.2) kvs
theorem length_mergeT : ∀ (more kvs : TK), (mergeT kvs more).length ≤ kvs.length + more.length
  | [], kvs => Nat.le_refl _
  | p :: more, kvs => by
    have h1 := length_mergeT more (putK kvs p.1 p.2)
    have h2 := length_putK kvs p.1 p.2
    show (mergeT (putK kvs p.1 p.2) more).length ≤ kvs.length + (more.length + 1)
    omega
theorem KT_merge {H : Hp} : ∀ {more : TK} {rs : List (List Key × Addr × Value)} {kvs : TK} {vs : List (List Key × Addr × Value)}, KT H more rs → KT H kvs vs → KT H (mergeT kvs more) (storedAllH vs rs)
  | _, _, _, _, .nil, q => q
  | _, _, _, _, .cons (a := p) (b := r) h t, q => by
    obtain ⟨h1, h2, h3⟩ := h
    have e := KT.put q p.1 (b := r.2.1) (u := r.2.2) h2 h3
    rw [h1] at e
    have z := KT_merge t e
    rw [← h1] at z
    show KT H (mergeT (putK _ p.1 p.2) _) (storedAllH (storedH _ r.1 r.2.1 r.2.2) _)
    rw [← h1]
    exact z
/-- a pair of a key and a value, at p -/
def PrT (H : Hp) (p : Addr) (kv : List Key × V) : Prop := ∃ b, H p = some (.tup [.ref b, kv.2]) ∧ H b = some (.tup (kv.1.map kV))
theorem PrT.keeps {H H' : Hp} {p : Addr} {kv : List Key × V} (h : PrT H p kv) (k : ∀ b xs, H b = some (.tup xs) → H' b = some (.tup xs)) : PrT H' p kv := let ⟨b, h1, h2⟩ := h; ⟨b, k _ _ h1, k _ _ h2⟩
section
variable {X : Cx} {pins : List (Addr × Obj)} {σ : L2.St} {H : Hp} {s : Shared}
/-! ### len -/
theorem dT_raw {d : Addr} {kvs : TK} (I : Inv X pins σ H s) (hd : Rd H d (.dT kvs)) : kvs.length ≤ sizeLine ∧ (d == sysModules) = false ∧ ∃ (xs : List (List Key × Addr × Value)) (es : Array DictEntry) (ep : Nat), KT H kvs xs ∧ s.heap.DictRaw d es ep ∧ es.toList = xs.map (entryOfKey (tupleKind (mixKind X.prog X.w))) ∧ es.size = kvs.length := by
  obtain ⟨z, hs, xs, pr, o, es, ep, ho, hx, hdt, he, hn⟩ := (show ObjOk X.prog X.w H s.heap d (.dT kvs) from hd.ok I.hok)
  have l1 : es.size = xs.length := size_of_entries he
  have l2 : kvs.length = xs.length := Paired.length pr
  exact ⟨z, hs, xs, es, ep, pr, ⟨o, ho, hx, hdt⟩, he, by omega⟩
theorem call_lenT : CallR X (.builtin "len") (fun xs H Q => ∃ d kvs, xs = [V.ref d] ∧ Rd H d (.dT kvs) ∧ Q (.int kvs.length) H) := by
  intro pins s σ H xs us Q I r h
  obtain ⟨d, kvs, rfl, hd, q⟩ := h
  obtain ⟨u, rfl, rx⟩ := r.one
  cases rx
  obtain ⟨z, hs, ks, es, ep, pr, raw, he, hl⟩ := dT_raw I hd
  have hfit : (es.size : Int) < 2 ^ 63 := by rw [hl]; rw [sizeLine_eq] at z; omega
  refine Calls.call_function_entry kind_len plain_len entry_len (args_len1 _) ?_
  unfold Builtin.«len»
  refine wpAny_bind (m := oneArg "len" _) (wpAny_pure ?_)
  refine wpAny_bind (m := callSpecial? (.ref d) (PySem.Str.ofString "__len__")) (wpAny_callSpecial?_slot (name := PySem.Str.ofString "__len__") raw.typeIs F.slot_dict_len (call_len_raw hs raw ?_))
  show wpAny _ _ _ _ _ { s with toks := s.toks + 1 }
  refine wpAny_bind (wpAny_holding (wpAny_pure ?_))
  refine wpAny_bind (wpAny_letGo ?_)
  show wpAny _ _ (if ((es.size : Nat) : Int) < 0 then _ else _) _ _ _
  rw [if_neg (by omega)]
  show wpAny _ _ (if ((es.size : Nat) : Int) ≥ 2 ^ 63 then _ else _) _ _ _
  rw [if_neg (by omega)]
  exact wpAny_bind (wpAny_mkInt (wpAny_pure ⟨_, rfl, .int kvs.length, H, I.tok _, ⟨_, by rw [hl]⟩, q⟩))
/-! ### dict(pairs) -/
theorem prs_of (I : Inv X pins σ H s) : ∀ {ps : List Addr} {kvs : TK}, Paired (PrT H) ps kvs → ∃ rs : List (List Key × Addr × Value), KT H kvs rs ∧ Paired (fun p (r : List Key × Addr × Value) => PySem.PairAt s.heap p (.ref r.2.1) r.2.2) ps rs
  | _, _, .nil => ⟨[], .nil, .nil⟩
  | _, _, .cons (a := p) (b := kv) h t => by
    obtain ⟨rs, r, hp⟩ := prs_of I t
    obtain ⟨b, h1, h2⟩ := h
    obtain ⟨its, rv, ht, _⟩ := I.tuple (SqT.of h1)
    obtain ⟨u, y, ei, ru, ry⟩ := vals2 rv
    subst ei
    cases (show u = Value.ref b from ru)
    refine ⟨(kv.1, b, y) :: rs, .cons ⟨rfl, h2, ry⟩ r, .cons (.inl ?_) hp⟩
    obtain ⟨o, e1, e2, n, e3⟩ := ht
    exact ⟨o, e1, e2, n, e3⟩
def rDictT (K : PySem.W.Frag) : List V → Hp → VK → Prop := fun xs H Q => ∃ (a : Addr) (ps : List Addr) (kvs : TK), xs = [.ref a] ∧ SqL K H a (ps.map V.ref) ∧ Paired (PrT H) ps kvs ∧ ∀ p, H p = none → Q (.ref p) (upd H p (.dT (mergeT [] kvs)))
theorem call_dictT (hcalm : X.calm = true) (hu : X.A.units + 2 < cLine) : CallR X (.type "dict") (rDictT X.K) := by
  intro pins s σ H xs us Q I r q
  obtain ⟨a, ps, kvs, ex, hq, hp, q⟩ := q
  subst ex
  obtain ⟨u, eu, rx⟩ := vals1 r
  subst eu
  cases rx
  obtain ⟨its, rv, pl, hz⟩ := I.list hq
  have ei := refs_at rv
  subst ei
  rw [List.length_map] at hz
  obtain ⟨rs, rel, hpr⟩ := prs_of I hp
  have lr : ps.length = rs.length := Paired.length hpr
  obtain ⟨o, n, ho, hc, hd, hdat⟩ := pl
  have lk : kvs.length = rs.length := Paired.length rel
  refine call_dict_pairsH (knd := tupleKind (mixKind X.prog X.w)) (ps := rs) (PairArg.list (prog := X.prog) (w := X.w) a (ps.map Value.ref).toArray (fun j => ps.getD j 0) (rs.map fun r => (Value.ref r.2.1, r.2.2))) (I.ok.hd hcalm) (show X.A.in1.units + 1 < cLine from hu) ⟨⟨o, n, ho, hc, hd, hdat⟩, ?_, fun j k v e => ?_⟩ ⟨by rw [List.length_map], fun i k v e => ?_⟩ (fun h' hk x hx => ?_) (by rw [List.length_map, ← lr]; exact hz) fun h' tk hd' k => ?_
  · simp [lr]
  · rw [List.getElem?_map] at e
    obtain ⟨r1, e1, e2⟩ := Option.map_eq_some_iff.mp e
    cases e2
    obtain ⟨p, e3, e4⟩ := pair_at hpr e1
    refine ⟨by simp [e3, List.getD], ?_⟩
    show PySem.PairAt s.heap (ps.getD j 0) _ _
    rw [List.getD, e3]
    exact e4
  · have e : (rs.map fun r => (Value.ref r.2.1, r.2.2))[i]? = some (k, v) := e
    rw [List.getElem?_map] at e
    obtain ⟨r1, e1, e2⟩ := Option.map_eq_some_iff.mp e
    cases e2
    exact ⟨r1.1, r1.2.1, e1, rfl⟩
  · obtain ⟨i, hi⟩ := List.getElem?_of_mem hx
    obtain ⟨p, e1, e2, e3, e4⟩ := pair_at rel hi
    obtain ⟨oo, its2, n2, g1, g2, g3, g4⟩ := key_of (P := X.prog) (w := X.w) I.hok e3
    rw [← e2]
    exact ⟨oo, its2, n2, hk _ _ (Nat.ne_of_lt (Heap.lt_size g1)) (by simp) g1, g2, g3, g4⟩
  · have hm : (s.heap.objs.size == sysModules) = false := beq_eq_false_iff_ne.mpr (Nat.ne_of_gt I.big)
    have hlen : (mergeT [] kvs).length ≤ sizeLine := by
      have := length_mergeT kvs []
      rw [List.length_nil, Nat.zero_add] at this
      omega
    obtain ⟨oo, es, ep, h1, h2, h3, h4, _, h5⟩ := hd'
    have kt : KT H (mergeT [] kvs) (storedAllH [] rs) := KT_merge rel .nil
    refine ⟨.ref s.heap.objs.size, upd H s.heap.objs.size (.dT (mergeT [] kvs)), I.laid (t' := tk) (fun b o e => k b o (by simp) e) (Nat.le_refl _) ⟨hlen, hm, storedAllH [] rs, kt.keeps fun b ys e => ?_, oo, es, ep, h1, h2, h3, h4, h5⟩, rfl, q _ (I.hok.fresh (Nat.le_refl _))⟩
    rw [upd_ne (ne_of_none e (I.hok.fresh (Nat.le_refl _)))]
    exact e
/-! ### list(d.items()) -/
/-- the pairs tracked at their addresses -/
def putP : Hp → List Addr → List (Addr × V) → Hp
  | H, a :: as, p :: kvs => putP (upd H a (.tup [.ref p.1, p.2])) as kvs
  | H, _, _ => H
theorem putP_off {b : Addr} : ∀ (as : List Addr) (kvs : List (Addr × V)) (H : Hp), b ∉ as → putP H as kvs b = H b
  | [], _, _, _ => rfl
  | _ :: _, [], _, _ => rfl
  | a :: as, p :: kvs, H, h => by
    refine (putP_off as kvs _ fun z => h (List.mem_cons_of_mem _ z)).trans (upd_ne fun z => h ?_)
    rw [z]; exact List.mem_cons_self
theorem putP_at : ∀ (as : List Addr) (kvs : List (Addr × V)) (H : Hp), as.length = kvs.length → as.Nodup → Paired (fun (t : Addr) (p : Addr × V) => putP H as kvs t = some (.tup [.ref p.1, p.2])) as kvs
  | [], [], _, _, _ => .nil
  | [], _ :: _, _, h, _ => by cases h
  | _ :: _, [], _, h, _ => by cases h
  | a :: as, p :: kvs, H, h, hn => by
    obtain ⟨n1, n2⟩ := List.nodup_cons.mp hn
    exact .cons ((putP_off as kvs _ n1).trans upd_same) (putP_at as kvs _ (Nat.succ.inj h) n2)
theorem pair_map {α β γ : Type} {R : α → γ → Prop} {f : β → γ} : ∀ {l : List α} {m : List β}, Paired R l (m.map f) → Paired (fun a b => R a (f b)) l m
  | [], [], _ => .nil
  | [], _ :: _, h => nomatch h
  | _ :: _, [], h => nomatch h
  | _ :: _, _ :: _, .cons h t => .cons h (pair_map t)
/-- pairs by a middle one -/
theorem pair_thru {α β γ : Type} {R : α → β → Prop} {S : γ → β → Prop} {T : α → γ → Prop} (g : ∀ a b c, R a b → S c b → T a c) : ∀ {l : List α} {m : List β} {n : List γ}, Paired R l m → Paired S n m → Paired T l n
  | _, _, _, .nil, .nil => .nil
  | _, _, _, .cons h t, .cons h' t' => .cons (g _ _ _ h h') (pair_thru g t t')
def rItemsLT : V → Hp → VK → Prop := fun x H Q => ∃ (d : Addr) (kvs : TK), x = .ref d ∧ H d = some (.dT kvs) ∧
  ∀ (H' : Hp) (p : Addr) (ts : List Addr), (∀ b o, H b = some o → H' b = some o) → H p = none → (∀ t ∈ ts, H t = none) → p ∉ ts → H' p = some (.lst (ts.map V.ref)) → Paired (PrT H') ts kvs → Q (.ref p) H'
def tListItemsT (te : TE) : TE := fun σ H Q => te σ H fun x H1 => rItemsLT x H1 Q
theorem itemsT_laid {h' : Heap} {tk : Nat} {kvs : TK} {xs : List (List Key × Addr × Value)} {es : Array DictEntry} {acc : Array Value} {c : Nat} {as : List Addr} (I : Inv X pins σ H s) (hz : kvs.length ≤ sizeLine) (kt : KT H kvs xs) (he : es.toList = xs.map (entryOfKey (tupleKind (mixKind X.prog X.w))))
    (hk : ∀ b o, s.heap.get? b = some o → h'.get? b = some o) (hS : h'.get? s.heap.objs.size = some { cls := .type "list", dict := none, data := .seq acc c, slots := #[] }) (hl : as.length = es.size) (hG : PySem.W.DilG es s.heap.objs.size h' as) (hacc : acc.toList = as.map Value.ref) :
    ∃ H' : Hp, (∀ b o, H b = some o → H' b = some o) ∧ H s.heap.objs.size = none ∧ (∀ t ∈ as, H t = none) ∧ s.heap.objs.size ∉ as ∧ H' s.heap.objs.size = some (.lst (as.map V.ref)) ∧ Paired (PrT H') as kvs ∧ Inv X pins σ H' { s with heap := h', toks := tk } := by
  have l1 : es.size = xs.length := size_of_entries he
  have lk : kvs.length = xs.length := Paired.length kt
  have hSn : s.heap.objs.size ∉ as := fun z => Nat.lt_irrefl _ (hG.above _ z)
  have nd : as.Nodup := List.Pairwise.imp (fun {a b} (h : a < b) => Nat.ne_of_lt h) hG.rise
  have new : ∀ t ∈ as, H t = none := fun t ht => I.hok.fresh (Nat.le_of_lt (hG.above t ht))
  have newS : H s.heap.objs.size = none := I.hok.fresh (Nat.le_refl _)
  obtain ⟨ms, hms⟩ : ∃ ms : List (Addr × V), Paired (fun (m : Addr × V) (x : List Key × Addr × Value) => m.1 = x.2.1 ∧ RelV m.2 x.2.2) ms xs ∧ Paired (fun (m : Addr × V) (kv : List Key × V) => m.2 = kv.2 ∧ H m.1 = some (.tup (kv.1.map kV))) ms kvs := by
    clear he l1 lk hl hz
    induction kt with
    | nil => exact ⟨[], .nil, .nil⟩
    | @cons p q ps qs h t ih =>
      obtain ⟨ms, h1, h2⟩ := ih
      exact ⟨(q.2.1, p.2) :: ms, .cons ⟨rfl, h.2.2⟩ h1, .cons ⟨rfl, h.2.1⟩ h2⟩
  obtain ⟨hm1, hm2⟩ := hms
  have lm : ms.length = xs.length := Paired.length hm1
  generalize hH' : putP (upd H s.heap.objs.size (.lst (as.map V.ref))) as ms = H'
  have atP : Paired (fun (t : Addr) (p : Addr × V) => H' t = some (.tup [.ref p.1, p.2])) as ms := by rw [← hH']; exact putP_at as ms _ (by omega) nd
  have off : ∀ b, b ∉ as → b ≠ s.heap.objs.size → H' b = H b := fun b h1 h2 => by rw [← hH', putP_off as ms _ h1, upd_ne h2]
  have low : ∀ b o, s.heap.get? b = some o → b ∉ as ∧ b ≠ s.heap.objs.size := fun b o e => ⟨fun z => absurd (Heap.lt_size e) (Nat.not_lt.mpr (Nat.le_of_lt (hG.above b z))), Nat.ne_of_lt (Heap.lt_size e)⟩
  have kp : ∀ b u, H b = some u → H' b = some u := fun b u e => by
    rw [off b (fun z => by rw [new b z] at e; cases e) (fun z => by rw [z, newS] at e; cases e)]
    exact e
  have eS : H' s.heap.objs.size = some (.lst (as.map V.ref)) := by rw [← hH', putP_off as ms _ hSn, upd_same]
  refine ⟨H', kp, newS, new, hSn, eS, ?_, ?_⟩
  · have q : Paired (fun (kv : List Key × V) (m : Addr × V) => m.2 = kv.2 ∧ H m.1 = some (.tup (kv.1.map kV))) kvs ms := by
      clear atP lm hm1 hH' he kt l1 lk hz
      induction hm2 with
      | nil => exact .nil
      | cons h t ih => exact .cons h ih
    exact pair_thru (fun t m kv h1 h2 => ⟨m.1, by rw [← h2.1]; exact h1, kp _ _ h2.2⟩) atP q
  refine I.call' (ch := []) rfl ⟨fun b o q _ _ _ => hk b o q, fun b o q _ _ _ => ⟨o.slots, hk b o q⟩, fun b o q n _ => ?_, fun b o q _ => ⟨o, hk b o q⟩, fun b xs q => kp b _ q, fun b o u q => kp b _ q, fun b ps q => ⟨#[], by rw [kp b _ q]; simp⟩⟩ (fun b u q => ?_) I.bare fun b z => by simp at z
  · obtain ⟨z1, z2⟩ := low b o q
    rw [off b z1 z2]
    exact n
  · by_cases hb : b ∈ as
    · obtain ⟨j, m, e1, e2, e3⟩ := LiI.paired_ix atP hb
      rw [e3] at q
      cases q
      obtain ⟨hj, f3⟩ := hG.pairs j b e1
      obtain ⟨x, g1, g2, g3⟩ := LiI.paired_get hm1 e2
      have ge := entry_at he j
      rw [g1, Array.getElem?_eq_getElem hj] at ge
      have ge : es[j] = entryOfKey (tupleKind (mixKind X.prog X.w)) x := Option.some.inj ge
      rw [ge] at f3
      refine ⟨by show 2 ≤ sizeLine; decide, [.ref x.2.1, x.2.2], .cons (by rw [g2]; rfl) (.cons g3 .nil), ⟨_, f3, rfl, _, rfl⟩⟩
    · by_cases hb2 : b = s.heap.objs.size
      · subst hb2
        rw [eS] at q
        cases q
        refine ⟨by rw [List.length_map]; omega, acc.toList, c, by rw [hacc]; exact LiI.vals_refs as, ?_⟩
        rw [Array.toArray_toList]
        exact hS
      · rw [off b hb hb2] at q
        exact (I.hok b u q).stay (fun d v _ y => hk d v y) (fun d y => kp d _ y) fun d xs y => kp d _ y
end
section
variable {X : Cx} {e : Expr} {te : TE} {p apos cpos pos : Pos}
/-- list(e.items()), the keys tuples -/
theorem pe_listItemsT (hc : X.calm = true) (he : PE X e te) (hg : Gl X "list") (hm : X.mg "list" = none) (hv : bootBuiltins "list" = some (.type "list")) (hbase : attributeBase e "items" X.env (eval e X.env) = eval e X.env := by rfl) (hline : (apos.endLine == cpos.line) = true := by rfl)
    (hs : starEach [.Call (.Attribute e "items" apos) [] [] cpos] X.env = (false, eval (.Call (.Attribute e "items" apos) [] [] cpos) X.env) :: starEach [] X.env := by rfl) :
    PE X (.Call (.Name "list" p) [.Call (.Attribute e "items" apos) [] [] cpos] [] pos) (tListItemsT te) := by
  refine ⟨fun pins s σ H Q I hq => ?_⟩
  refine wpAny_Call_Name_kw (ld_blt I hg hm hv ?_)
  refine PyProof.Rows.callWith_type1 ?_ hs rfl
  rw [hs]
  show wpAny _ _ (spliced ((false, eval (.Call (.Attribute e "items" apos) [] [] cpos) X.env) :: backTo pos (starEach [] X.env))) _ _ s
  refine Calls.spliced_cons ?_
  refine wpAny_Call_method (T := "dict") (id := "dict.items") hbase rfl hline F.plainAttrs_dict F.slot_dict_items F.type_dict_items (thn (he.run pins s σ H _ I hq) fun u s1 ⟨x, H1, I1, rx, d, kvs, ex, hd, q⟩ => ?_)
  subst ex
  obtain rfl : u = Value.ref d := rx
  obtain ⟨hz, hs0, xs, es, ep, kt, raw, hent, hl⟩ := dT_raw I1 (.inl hd)
  have I2 : Inv X pins σ H1 { s1 with heap := s1.heap.push { cls := .type "dict_items", data := .fields #[.ref d] } } := I1.kept (t' := s1.toks) fun b ob q => Heap.get?_push_of_some _ q
  refine ⟨raw.typeIs, (let ⟨o, ho, hx, _⟩ := raw; fun b q => by cases q; exact ⟨o, ho, hx.2.1⟩), ?_⟩
  show wpAny _ _ (callWith cpos (.builtin "dict.items") [.ref d] [] []) _ X.xe s1
  refine method_meetsIn F.slot_dict_items F.entry_dict_items rfl (PySem.evalArgs_none ⟨rfl, raw.typeIs, F.args_dict_items_1 _, _, meets_dict_items_raw d hs0, ⟨es, ep, raw⟩, ?_⟩)
  refine Calls.spliced_nil ?_
  refine PySem.W.dil_call (es := es) (ep := ep) (I1.ok.hd hc) ⟨_, Heap.get?_push_size _ rfl, rfl, rfl⟩ (raw.push _) (by omega) fun h' tk acc c as hk hS hl hG hacc => ?_
  obtain ⟨H', k1, k2, k3, k4, k5, k6, J⟩ := itemsT_laid (tk := tk) I2 hz kt hent hk hS hl hG hacc
  exact ⟨.ref _, H', J, rfl, q H' _ as k1 k2 k3 k4 k5 k6⟩
end
end Rs
set_option Elab.async false
set_option linter.all false
set_option maxRecDepth 100000
set_option maxHeartbeats 2000000
/-! {k: v for x in it if ..} where the keys are tuples. -/
namespace Rs
open PySem PySem.Spec PyProof.Rows L2
/-- what such a comprehension asks: D the new dict -/
def tDcT (wi : TI) (g : TG) (tt : TT) (tk tv : TE) (vs : List Nat) : TE := fun σ H Q => wi σ H fun J H1 => ∀ D, H1 D = none → ∃ W : Nat → Nat → Hp → Prop, (∃ m, W 0 m (upd H1 D (.dT []))) ∧ ∀ i m H, W i m H →
  (J.stop i H ∧ Q (.ref D) H) ∨ (J.go i H ∧ ∃ Nx : Hp → Prop, (∀ H', Nx H' → ∃ m', m' < m ∧ W (i + 1) m' H') ∧ ∀ x H', J.yld i H x H' → g x (wipe σ vs) H' fun σ2 H2 => wipe σ2 vs = wipe σ vs ∧ tt σ2 H2 fun b H3 =>
    if b = true then tk σ2 H3 fun y H4 => tv σ2 H4 fun z H5 => ∃ (kvs : List (List Key × V)) (k : List Key) (b : Addr), y = .ref b ∧ H5 b = some (.tup (k.map kV)) ∧ H5 D = some (.dT kvs) ∧ kvs.length < sizeLine ∧ Nx (upd H5 D (.dT (putK kvs k z))) else Nx H3)
theorem dT_set {X : Cx} {pins : List (Addr × Obj)} {σ : L2.St} {H : Hp} {s : Shared} {E : Value → Shared → Prop} {D b : Addr} {kvs : List (List Key × V)} {k : List Key} {v : V} {r : Value} {Q : Unit → Shared → Prop} (hu : X.A.units < cLine) (I : Inv X pins σ H s) (hD : H D = some (.dT kvs)) (hz : kvs.length < sizeLine)
    (hb : H b = some (.tup (k.map kV))) (rv : RelV v r) (h : ∀ s', Inv X pins σ (upd H D (.dT (putK kvs k v))) s' → Q () s') : wpAny (model X.prog X.w) X.A (dictSet D (.ref b) r) Q E s := by
  obtain ⟨z, hd, xs, rel, dd⟩ := dt_of I.hok hD
  have hzv : xs.length ≤ sizeLine := by rw [← Paired.length rel]; exact z
  have hl : (putK kvs k v).length ≤ sizeLine := by have := length_putK kvs k v; omega
  refine wpAny_dictSet_heap (hsz := hzv) (knd := tupleKind (mixKind X.prog X.w)) hu (key_of I.hok hb) dd fun h' dd' hs => h _ ?_
  obtain ⟨q, es, ep, hq, h2, h3, h4, _, h5⟩ := dd'
  refine d_write I (by rw [hD]; exact True.intro) hs ⟨q, hq⟩ ⟨hl, hd, _, (rel.put k hb rv).keeps fun c ys ec => ?_, q, es, ep, hq, h2, h3, h4, h5⟩
  rw [upd_ne (ne_of ec hD (fun z => nomatch z))]
  exact ec
section
variable {X : Cx}
theorem dct_core {pins : List (Addr × Obj)} {s : Shared} {σ : L2.St} {H : Hp} {Q : VK} {kx vx tg iter : Expr} {ifs : List Expr} {scope : Scope} {own : List (PySem.Str × Nat)} {pos pos' : Pos} {wi : TI} {g : TG} {tt : TT} {tk tv : TE} {use : Option (Value → Sem Unit)} {Qf : Value → Shared → Prop}
    (hu : X.A.units < cLine)
    (hc : X.calm = true) (hN : X.N.Nodup) (I : Inv X pins σ H s) (hi : PI X tg iter wi) (ok : BlkOk X.N X.env.scope scope own)
    (hg : ∀ (s : Shared) (H : Hp) (C : Addr) (cl : List (PySem.Str × Addr)) (fp : List Addr), PG (X.blk s H scope (compEnvC scope cl C X.env) fp) tg g)
    (ht : ∀ (s : Shared) (H : Hp) (C : Addr) (cl : List (PySem.Str × Addr)) (fp : List Addr), PTs (X.blk s H scope (compEnvC scope cl C X.env) fp) ifs tt)
    (hk : ∀ (s : Shared) (H : Hp) (C : Addr) (cl : List (PySem.Str × Addr)) (fp : List Addr), PE (X.blk s H scope (compEnvC scope cl C X.env) fp) kx tk)
    (he : ∀ (s : Shared) (H : Hp) (C : Addr) (cl : List (PySem.Str × Addr)) (fp : List Addr), PE (X.blk s H scope (compEnvC scope cl C X.env) fp) vx tv)
    (hs : ∀ x, foldedSetIterable iter X.env x = pure x) (h : tDcT wi g tt tk tv (own.map (·.2)) σ H Q)
    (fin : ∀ D C s' m H', Inv X pins σ H' s' → Q (.ref D) H' → s'.heap.Ns C m → FpOk X pins H' C → compPost (model X.prog X.w) X.A X.xe use Qf (.ref D) C (.ok .next) s') :
    wpAny (model X.prog X.w) X.A (comprehension (.DictComp kx vx [⟨tg, iter, ifs, 0⟩] scope pos) scope X.env pos' newDict false (eval iter X.env) use) Qf X.xe s := by
  have outer : ∀ y ∈ scope.names, y.2 = .free → ∃ c, X.env.cells.lookup y.1 = some c := fun y hy e => by
    rcases ok.free y hy e with k | k
    · exact I.ok.has _ (.inl k)
    · exact I.ok.has _ (.inr k)
  refine wpAny_comprehension_free (use := use) rfl hs (closure_ok outer) ok.kind (fun y hy e => by rw [ok.uniq y hy, e])
    (thn (hi.run pins s σ H _ I h) fun xv s1 hx => thn hx fun itv s2 h2 => ?_)
  obtain ⟨it, fp, tn, J, H2, e, I2, T, st2, f2, q⟩ := h2
  subst e
  refine wpAny_newObj_type (newEnv_comp ?_)
  obtain ⟨D, hD⟩ : ∃ D, s2.heap.objs.size = D := ⟨_, rfl⟩
  have hfree : H2 D = none := I2.hok.fresh (Nat.le_of_eq hD)
  obtain ⟨W, ⟨m0, w0⟩, turn⟩ := q D hfree
  -- the dict is laid
  obtain ⟨s3, hs3⟩ : ∃ s3 : Shared, { s2 with heap := s2.heap.push { cls := .type "dict", data := .dict #[] } } = s3 := ⟨_, rfl⟩
  have hh3 : s3.heap = s2.heap.push { cls := .type "dict", data := .dict #[] } := by rw [← hs3]
  have I3 : Inv X pins σ (upd H2 D (.dT [])) s3 := by
    rw [← hs3, ← hD]
    exact I2.laid (t' := s2.toks) (fun b o e => Heap.get?_push_of_some _ e) (Nat.le_refl _) (dt_empty s2.heap I2.big)
  have low : ∀ b ∈ fp, b < s2.heap.objs.size := fun b hb => let ⟨_, e, _⟩ := T.obj _ _ st2 b hb; Heap.lt_size e
  have f3 : ∀ b ∈ fp, FpOk X pins (upd H2 D (.dT [])) b ∧ b < s3.heap.objs.size := fun b hb => by
    have hlt := low b hb
    have hne : b ≠ D := by rw [← hD]; exact Nat.ne_of_lt hlt
    exact ⟨⟨by rw [upd_ne hne]; exact (f2 b hb).1, (f2 b hb).2⟩, by rw [hh3, Heap.size_push]; exact Nat.lt_succ_of_lt hlt⟩
  have st3 : tn 0 s3.heap := T.keep _ _ _ st2 fun b _ o e => by rw [hh3]; exact Heap.get?_push_of_some _ e
  have I4 := block_start I3 ok hN f3
  have pg := hg s3 (upd H2 D (.dT [])) s3.heap.objs.size (cellsFrom (s3.heap.objs.size + 1) scope.names (cloFrom X.env.cells scope.names [])) fp
  have pt := ht s3 (upd H2 D (.dT [])) s3.heap.objs.size (cellsFrom (s3.heap.objs.size + 1) scope.names (cloFrom X.env.cells scope.names [])) fp
  have pk := hk s3 (upd H2 D (.dT [])) s3.heap.objs.size (cellsFrom (s3.heap.objs.size + 1) scope.names (cloFrom X.env.cells scope.names [])) fp
  have pe := he s3 (upd H2 D (.dT [])) s3.heap.objs.size (cellsFrom (s3.heap.objs.size + 1) scope.names (cloFrom X.env.cells scope.names [])) fp
  rw [hs3]
  show codeAny _ _ (.compStart (.DictComp kx vx [⟨tg, iter, ifs, 0⟩] scope pos) 0 (.ref it) (.ref s2.heap.objs.size) (compEnvC scope (cellsFrom (s3.heap.objs.size + 1) scope.names (cloFrom X.env.cells scope.names [])) s3.heap.objs.size X.env)) (compPost (model X.prog X.w) X.A X.xe use Qf (.ref s2.heap.objs.size) s3.heap.objs.size) { s3 with heap := pushCells (s3.heap.push { cls := .type "dict", data := .dict #[] }) scope.names }
  rw [hD]
  have nfp : ∀ b ∈ fp, (upd H2 D (.dT [])) b = none := fun b hb => (f3 b hb).1.1
  generalize hce : compEnvC scope (cellsFrom (s3.heap.objs.size + 1) scope.names (cloFrom X.env.cells scope.names [])) s3.heap.objs.size X.env = ce at I4 pg pt pk pe ⊢
  have cL : ce.locals = s3.heap.objs.size := by subst hce; rfl
  generalize hH3 : upd H2 D (.dT []) = H3 at I3 I4 pg pt pk pe w0 nfp f3
  generalize hs4 : ({ s3 with heap := pushCells (s3.heap.push { cls := .type "dict", data := .dict #[] }) scope.names } : Shared) = s4 at I4 ⊢
  have st4 : tn 0 s4.heap := T.keep _ _ _ st3 fun b _ o e => by rw [← hs4]; exact pushCells_keeps _ _ _ _ (Heap.get?_push_of_some _ e)
  have stand : ∀ {σ' : L2.St} {H' : Hp} {s' : Shared}, Inv (X.blk s3 H3 scope ce fp) [] σ' H' s' → (∀ b ∈ fp, H' b = none) → ∀ b ∈ fp, FpOk (X.blk s3 H3 scope ce fp) [] H' b := fun {σ' H' s'} J' hn b hb =>
    ⟨hn b hb, (J'.ok.exf b hb).1, J'.ok.exfs b hb, .inl hb, fun x c e => (J'.ok.exf b hb).2 x c e, fun p hp => absurd (show p ∈ ([] : List (Addr × Obj)) ++ [] from hp) (by simp)⟩
  have loop : codeAny (model X.prog X.w) X.A (.compLoop (.DictComp kx vx [⟨tg, iter, ifs, 0⟩] scope pos) 0 (.ref it) (.ref D) ce) (compPost (model X.prog X.w) X.A X.xe use Qf (.ref D) s3.heap.objs.size) s4 := by
    refine compLoop_anyD (fun n s' => ∃ i H', Inv (X.blk s3 H3 scope ce fp) [] (wipe σ (own.map (·.2))) H' s' ∧ tn i s'.heap ∧ (∀ b ∈ fp, H' b = none) ∧ W i n H') ?_ m0 ⟨0, H3, I4, st4, nfp, w0⟩
    rintro n s5 ⟨i, H5, I5, st5, n5, w5⟩
    rcases turn i n H5 w5 with ⟨stop, qq⟩ | ⟨go, Nx, hNx, step⟩
    · refine thnF (T.done (X.blk s3 H3 scope ce fp) rfl rfl rfl hc i [] s5 _ H5 (fun _ _ => False) I5 (stand I5 n5) st5 stop) fun r s6 ⟨hr, I6⟩ => ?_
      subst hr
      have I7 : Inv X pins σ H5 s6 := I3.call' (ch := fp) I6.os I6.base I6.hok I6.bare fun b hb => ⟨(f3 b hb).1.2.2.2.1, (f3 b hb).1.2.1, (f3 b hb).1.2.2.2.2.1, (f3 b hb).1.2.2.2.2.2⟩
      have nC : H5 s3.heap.objs.size = none := cL ▸ (show H5 ce.locals = none from I6.free)
      obtain ⟨m, hn, _⟩ := I6.loc
      exact fin D s3.heap.objs.size s6 m H5 I7 qq (cL ▸ (show s6.heap.Ns ce.locals m from hn)) (I3.fpOk (Nat.le_refl _) nC)
    · refine thnF (T.item (X.blk s3 H3 scope ce fp) rfl rfl rfl hc i [] s5 _ H5 (fun _ _ => False) I5 (stand I5 n5) st5 go) fun r s6 ⟨u, hr, h6⟩ => ?_
      subst hr
      refine thnF h6 fun _ s7 ⟨x, H7, I7, r7, y7, st7, n7⟩ => ?_
      have I7' := I7.pinned (stand I7 n7) (T.obj _ _ st7)
      refine thnF (pg.run _ s7 _ H7 x u _ I7' r7 (step x H7 y7)) fun _ s8 ⟨σ8, H8, I8, hw8, q8⟩ => ?_
      refine thnF (pt.run _ s8 σ8 H8 _ I8 q8) fun b s9 ⟨H9, I9, q9⟩ => ?_
      have next : ∀ {s' : Shared} {H' : Hp}, Inv (X.blk s3 H3 scope ce fp) ([] ++ pinsAt fp s7.heap) σ8 H' s' → Nx H' → ∃ m, m < n ∧ ∃ i H', Inv (X.blk s3 H3 scope ce fp) [] (wipe σ (own.map (·.2))) H' s' ∧ tn i s'.heap ∧ (∀ b ∈ fp, H' b = none) ∧ W i m H' := fun {s' H'} J' nx => by
        obtain ⟨m', hm, w'⟩ := hNx H' nx
        have pin' : ∀ b ∈ fp, ∀ o, s7.heap.get? b = some o → s'.heap.get? b = some o ∧ H' b = none := fun b hb o e =>
          let z := J'.pin (b, o) (List.mem_append_right _ (List.mem_append_right _ (mem_pinsAt hb e)))
          ⟨z.1, z.2.1⟩
        have hl : (wipe σ (own.map (·.2))).length = σ8.length := by rw [← hw8, wipe_length]
        refine ⟨m', hm, i + 1, H', (J'.unpinned (pins := [])).weak hl (fun j v e => ?_), T.keep _ _ _ st7 fun b hb o e => (pin' b hb o e).1, fun b hb => ?_, w'⟩
        · rw [← hw8] at e
          exact (wipe_some e).1
        · obtain ⟨o, e, _⟩ := T.obj _ _ st7 b hb
          exact (pin' b hb o e).2
      dsimp only at q9
      by_cases hb : b = true
      · rw [if_pos hb] at q9 ⊢
        refine thnF (pk.run _ s9 σ8 H9 _ I9 q9) fun z s10 ⟨yk, H10, I10, r10, q10⟩ => ?_
        refine thnF (pe.run _ s10 σ8 H10 _ I10 q10) fun z2 s11 ⟨yv, H11, I11, r11, kvs, k, bk, ek, hbk, hD11, hz11, nx⟩ => ?_
        subst ek
        obtain rfl : z = Value.ref bk := r10
        exact dT_set (X := X.blk s3 H3 scope ce fp) hu I11 hD11 hz11 hbk r11 fun s12 I12 => next I12 nx
      · rw [if_neg hb] at q9 ⊢
        exact next I9 q9
  exact codeAny_compStart_dict loop (T.self X.A 0 _ _ _ st4 loop)
/-- as a value -/
theorem pe_dcT {kx vx tg iter : Expr} {ifs : List Expr} {scope : Scope} {own : List (PySem.Str × Nat)} {pos : Pos} {wi : TI} {g : TG} {tt : TT} {tk tv : TE}
    (hu : X.A.units < cLine)
    (hc : X.calm = true) (hN : X.N.Nodup) (hi : PI X tg iter wi) (ok : BlkOk X.N X.env.scope scope own)
    (hg : ∀ (s : Shared) (H : Hp) (C : Addr) (cl : List (PySem.Str × Addr)) (fp : List Addr), PG (X.blk s H scope (compEnvC scope cl C X.env) fp) tg g)
    (ht : ∀ (s : Shared) (H : Hp) (C : Addr) (cl : List (PySem.Str × Addr)) (fp : List Addr), PTs (X.blk s H scope (compEnvC scope cl C X.env) fp) ifs tt)
    (hk : ∀ (s : Shared) (H : Hp) (C : Addr) (cl : List (PySem.Str × Addr)) (fp : List Addr), PE (X.blk s H scope (compEnvC scope cl C X.env) fp) kx tk)
    (he : ∀ (s : Shared) (H : Hp) (C : Addr) (cl : List (PySem.Str × Addr)) (fp : List Addr), PE (X.blk s H scope (compEnvC scope cl C X.env) fp) vx tv)
    (hs : ∀ x, foldedSetIterable iter X.env x = pure x := by intro _; rfl) :
    PE X (.DictComp kx vx [⟨tg, iter, ifs, 0⟩] scope pos) (tDcT wi g tt tk tv (own.map (·.2))) := by
  refine ⟨fun pins s σ H Q I h => ?_⟩
  rw [arm_eval_DictComp]
  refine dct_core hu hc hN I hi ok hg ht hk he hs h fun D C s' m H' I' q hn f => ⟨m, hn, fun h'' sb => ?_⟩
  obtain ⟨f0, f1, f2, f3, f4, f5⟩ := f
  exact ⟨.ref D, H', I'.turned (t' := s'.toks) (fun b o hb e => (sb.2 b hb).trans e) f0 f1 f3 f4 f5, rfl, q⟩
end
end Rs
set_option Elab.async false
set_option linter.all false
set_option maxRecDepth 100000
set_option maxHeartbeats 2000000
namespace Rs
open PySem PySem.Spec PyProof.Rows L2
local macro_rules | `(tactic| walk_at "rd") => `(tactic| simp only [L2.tRet, L2.tRetN, L2.tSeq, L2.tNext, L2.tIfS, L2.tAsg, L2.gName, L2.gNil, L2.gCons, L2.tVar, L2.tC, L2.tOp, L2.tUn, L2.tCB, L2.tCons, L2.tNil, L2.tAndV, L2.tOrV, L2.tNotV, L2.tAnd, L2.tOr, L2.tNot, L2.tB, L2.tTest, L2.tIf, L2.tChain, L2.tTup, L2.tLst, L2.tDrop, L2.tFld, L2.sFld, L2.tOst, L2.tBM, L2.rNe, L2.tMkO, L2.start, L2.cxOf, L2.Cx.nox, L2.Cx.wish, L2.rI0, L2.rI, L2.tYes, Rs.tCalW, List.getElem?_cons_zero, List.getElem?_cons_succ, Option.some.injEq, exists_eq_left', exists_eq_left, exists_and_left, List.cons.injEq, and_true, true_and, L2.V.bl.injEq, L2.V.int.injEq, L2.V.str.injEq, L2.V.ref.injEq, List.set_cons_zero, List.set_cons_succ, List.map_cons, List.map_nil, List.length_cons, List.length_nil, List.replicate, List.cons_append, List.nil_append, List.append_nil, Nat.reduceSub, Nat.reduceAdd])
local macro_rules | `(tactic| walk_at "dn") => `(tactic| dsimp only [L2.tCons, L2.tC, L2.tNil])
section
variable {P : Program} {w : World} {K : PySem.W.Frag} {mg : PySem.Str → Option Value} {base : Heap}
theorem pe_dgetC {X : Cx} {o i : Expr} {pos : Pos} {td ty : TE} (ho : PE X o td) (hi : PE X i ty) (hs : NoSl i) (hu : X.A.units + 1 < cLine) : PE X (.Subscript o i pos) (tDGet td ty) := pe_dget hu ho hi hs
theorem pe_fldC {X : Cx} {K : PySem.W.Frag} {e : Expr} {f : PySem.Str} {pos : Pos} {ta : TE} (he : PE X e ta) (hb : attributeBase e f X.env (eval e X.env) = eval e X.env) (hK : X.K = K) : PE X (.Attribute e f pos) (tFld K ta f) := hK ▸ pe_fld he hb
/-! ### ends, moves -/
def sp_ends (K : PySem.W.Frag) : Sp := fun vs H Q _ => ∃ p kd, vs = [.ref p] ∧ KindAt K H p kd ∧ ∀ e, SqT K H e (kd.ends.map V.str) → Q (.ref e) H
theorem ok_ends (T : Txt K mg) : CalP P w K mg base 1 (kC K) "ends" (sp_ends K) := by
  obtain ⟨fd, F⟩ := T.d_Kind_ends
  refine ⟨_, _, fd, ?_, T.pr_Kind_ends, F.bindsN fun _ _ _ _ _ _ us hl => match us, hl with | [_], _ => rfl⟩
  refine F.ok sc_Kind_ends (fun vs H Q E h => ?_) (fun cdv A outer s H vs Q E hr h => ?_)
  · obtain ⟨p, kd, rfl, _⟩ := h
    rfl
  · refine ⟨_, PSs.nox (pss_one (ps_ret (pe_fld (pv 0) rfl))), ?_⟩
    obtain ⟨p, kd, rfl, ⟨dx, ea, tb, ho, he, ht⟩, q⟩ := h
    exact ⟨_, rfl, p, kC K, dx, _, _, rfl, ho, T.cl_Kind, T.no_Kind_last, rfl, q _ he⟩
/-- the reading of a dict comprehension over anything that goes by a Walk -/
theorem dc_it {J : It} {n : Nat} {G : Hp → Prop} {Y : Nat → Hp → V → Hp → Prop} (wk : Walk J n G Y) {g : TG} {tt : TT} {tk tv : TE} {vs : List Nat} {σ : L2.St} {H1 : Hp} {D : Addr} {Qd : Hp → Prop} (Pv : Nat → Hp → Prop) (h0 : Pv 0 (upd H1 D (.dT []))) (hG : ∀ i H, i ≤ n → Pv i H → G H)
    (hs : ∀ i x H H', i < n → Pv i H → Y i H x H' → g x (wipe σ vs) H' fun σ2 H2 => wipe σ2 vs = wipe σ vs ∧ tt σ2 H2 fun b H3 =>
      if b = true then tk σ2 H3 fun y H4 => tv σ2 H4 fun z H5 => ∃ (kvs : List (List Key × V)) (k : List Key) (b : Addr), y = .ref b ∧ H5 b = some (.tup (k.map kV)) ∧ H5 D = some (.dT kvs) ∧ kvs.length < sizeLine ∧ Pv (i + 1) (upd H5 D (.dT (putK kvs k z))) else Pv (i + 1) H3)
    (hd : ∀ H, Pv n H → Qd H) :
    ∃ W : Nat → Nat → Hp → Prop, (∃ m, W 0 m (upd H1 D (.dT []))) ∧ ∀ i m H, W i m H →
      (J.stop i H ∧ Qd H) ∨ (J.go i H ∧ ∃ Nx : Hp → Prop, (∀ H', Nx H' → ∃ m', m' < m ∧ W (i + 1) m' H') ∧ ∀ x H', J.yld i H x H' → g x (wipe σ vs) H' fun σ2 H2 => wipe σ2 vs = wipe σ vs ∧ tt σ2 H2 fun b H3 =>
        if b = true then tk σ2 H3 fun y H4 => tv σ2 H4 fun z H5 => ∃ (kvs : List (List Key × V)) (k : List Key) (b : Addr), y = .ref b ∧ H5 b = some (.tup (k.map kV)) ∧ H5 D = some (.dT kvs) ∧ kvs.length < sizeLine ∧ Nx (upd H5 D (.dT (putK kvs k z))) else Nx H3) := by
  refine ⟨fun i m H => m = n - i ∧ i ≤ n ∧ Pv i H, ⟨n, (Nat.sub_zero n).symm, Nat.zero_le _, h0⟩, ?_⟩
  rintro i m H ⟨rfl, hi, p⟩
  have q := hG i H hi p
  by_cases hlt : i < n
  · exact .inr ⟨wk.goes i H hlt q, Pv (i + 1), fun H' p' => ⟨n - (i + 1), by omega, rfl, hlt, p'⟩, fun x H' y => hs i x H H' hlt p (wk.yields i H x H' hlt q y)⟩
  · have e : i = n := by omega
    subst e
    exact .inl ⟨wk.stops H q, hd H p⟩
theorem tab_nodup {H : Hp} : ∀ {tab : List Mv} {kvs : List (List Key × V)}, Paired (TabE K H) tab kvs → (tab.map (·.1)).Nodup → (kvs.map (·.1)).Nodup
  | _, _, .nil, _ => List.nodup_nil
  | m :: tab, kv :: kvs, .cons h t, nd => by
    obtain ⟨n1, n2⟩ := List.nodup_cons.mp nd
    refine List.nodup_cons.mpr ⟨fun hm => ?_, tab_nodup t n2⟩
    obtain ⟨kv2, hkv, e⟩ := List.mem_map.mp hm
    obtain ⟨j, hj⟩ := List.getElem?_of_mem hkv
    obtain ⟨m2, em, e2, _⟩ := Paired.at t hj
    have e : kv2.1 = kv.1 := e
    rw [e2, h.1] at e
    obtain ⟨z1, z2⟩ := List.cons.inj e
    exact n1 (List.mem_map.mpr ⟨m2, List.mem_of_getElem? em, Prod.ext (Sum.inr.inj z1) (Sum.inr.inj (List.cons.inj z2).1)⟩)
theorem valV_nd : ∀ {kvs : List (List Key × V)} {k : List Key} {v : V}, (kvs.map (·.1)).Nodup → (k, v) ∈ kvs → valV kvs k = some v
  | [], _, _, _, h => by cases h
  | p :: kvs, k, v, nd, h => by
    obtain ⟨n1, n2⟩ := List.nodup_cons.mp nd
    rcases List.mem_cons.mp h with e | h
    · rw [← e, valV_pos rfl]
    · have ne : p.1 ≠ k := fun e => n1 (List.mem_map.mpr ⟨_, h, e.symm⟩)
      rw [valV_neg ne]
      exact valV_nd n2 h
def sp_moves (K : PySem.W.Frag) : Sp := fun vs H Q _ => ∃ p kd, vs = [.ref p] ∧ KindAt K H p kd ∧ ∀ H' D, Same H H' → H D = none → TabAt K H' D kd.tab → Q (.ref D) H'
theorem ok_moves (T : Txt K mg) : CalM P w K mg base 1 (kC K) "moves" ["self"] (sp_moves K) := by
  obtain ⟨fd, F⟩ := T.d_Kind_moves
  refine ⟨_, fd, ?_, T.me_Kind_moves, F.bindsN fun _ _ _ _ _ _ us hl => match us, hl with | [_], _ => rfl⟩
  refine F.ok sc_Kind_moves (fun vs H Q E h => ?_) (fun cdv A outer s H vs Q E hr h => ?_)
  · obtain ⟨p, kd, rfl, _⟩ := h
    rfl
  · have hu := hu_of hr
    refine ⟨_, PSs.nox (pss_one (ps_ret (pe_lock (pe_dcT (own := [("at", 1)]) (g := gName 1) (tt := tYes) (Nat.lt_of_succ_lt hu) rfl sc_Kind_moves.nd (pi_keys (pe_fld (pv 0) rfl)) (blkOk_by (own := [("at", 1)]) (N := ["self", "at"]) (sc := defScope s_Kind_moves) (by decide +kernel)) (fun _ _ _ _ _ => (pg_name (i := 1) sc_Kind_moves.nd rfl (by first | exact Or.inl rfl | exact Or.inr rfl))) (fun _ _ _ _ _ => pts_nil) (fun _ _ _ _ _ => (pv 1)) (fun _ _ _ _ _ => by exact (pe_dgetC (pe_fldC (K := K) (pv 0) rfl rfl) (pv 1) (fun _ _ => rfl) hu)))))), ?_⟩
    obtain ⟨p, kd, rfl, ⟨dx, ea, tb, ho, he, ht⟩, q⟩ := h
    obtain ⟨kvs, htb, hpt, nd, hz⟩ := id ht
    have ntp : p ≠ tb := ne_of ho htb (by intro z; cases z)
    refine ⟨tb, _, htb, trivial, fun od => ⟨_, rfl, p, kC K, dx, _, _, rfl, by rw [upd_ne ntp]; exact ho, T.cl_Kind, T.no_Kind_table, rfl, tb, od, rfl, .inr ⟨kvs, upd_same, fun D hD => ?_⟩⟩⟩
    have hkl : kd.tab.length = kvs.length := Paired.length hpt
    have hDt : D ≠ tb := fun z => by subst z; rw [upd_same] at hD; cases hD
    have hpt2 : Paired (TabE K (upd H tb (.frz od (.dT kvs)))) kd.tab kvs := Paired.imp hpt fun m kv h => tabE_lock htb h
    refine dc_it walk_keysT (fun i H1 => Same (upd H tb (.frz od (.dT kvs))) H1 ∧ H1 D = some (.dT (kvs.take i))) ⟨Same.new hD, upd_same⟩ (fun i H1 _ z => same_loc z.1) (fun i x H1 H2 hi pv y => ?_) (fun H1 pv => ?_)
    · obtain ⟨s1, hD1⟩ := pv
      obtain ⟨rfl, k, v, b, hk, rfl, hb⟩ := y
      have ndk := tab_nodup hpt nd
      refine ⟨rfl, .ref b, rfl, .ref p, rfl, p, kC K, dx, _, _, rfl, s1 _ _ (by rw [upd_ne ntp]; exact ho), T.cl_Kind, T.no_Kind_table, rfl, .ref b, rfl, tb, v, rfl, .inr ⟨kvs, k, b, .inr ⟨od, same_loc s1⟩, rfl, hb, (valV_nd ndk (List.mem_of_getElem? hk)).symm⟩, _, k, b, rfl, hb, hD1, ?_, same_upd s1 hD, ?_⟩
      · rw [List.length_take, sizeLine_eq]; omega
      · rw [upd_same, putK_new, take_next hk]
        intro hm
        have h2 : ((kvs.take (i + 1)).map (·.1)).Nodup := by
          rw [List.map_take]
          exact ndk.sublist (List.take_sublist _ _)
        rw [take_next hk, List.map_append] at h2
        exact (List.nodup_append.mp h2).2.2 k hm k (by simp) rfl
    · obtain ⟨s1, hD1⟩ := pv
      refine ⟨same_loc s1, ?_⟩
      have s2 := lock_same htb s1
      have hD2 : (upd H1 tb (.dT kvs)) D = some (.dT kvs) := by rw [upd_ne hDt, hD1, List.take_length]
      generalize upd H1 tb (.dT kvs) = H2 at s2 hD2
      have hDH : H D = none := by rw [upd_ne hDt] at hD; exact hD
      exact q _ D s2 hDH ⟨kvs, hD2, Paired.imp hpt fun _ _ z => z.same s2, nd, hz⟩
end
end Rs
set_option Elab.async false
set_option linter.all false
set_option maxRecDepth 100000
set_option maxHeartbeats 2000000
namespace Rs
open PySem PySem.Spec PyProof.Rows L2
local macro_rules | `(tactic| walk_at "rd") => `(tactic| simp only [L2.tRet, L2.tRetN, L2.tSeq, L2.tNext, L2.tIfS, L2.tAsg, L2.gName, L2.gNil, L2.gCons, L2.tVar, L2.tC, L2.tOp, L2.tUn, L2.tCB, L2.tCons, L2.tNil, L2.tAndV, L2.tOrV, L2.tNotV, L2.tAnd, L2.tOr, L2.tNot, L2.tB, L2.tTest, L2.tIf, L2.tChain, L2.tTup, L2.tLst, L2.tDrop, L2.tFld, L2.sFld, L2.tOst, L2.tBM, L2.rNe, L2.tMkO, L2.start, L2.cxOf, L2.Cx.nox, L2.Cx.wish, L2.rI0, L2.rI, L2.tYes, Rs.tCalW, List.getElem?_cons_zero, List.getElem?_cons_succ, Option.some.injEq, exists_eq_left', exists_eq_left, exists_and_left, List.cons.injEq, and_true, true_and, L2.V.bl.injEq, L2.V.int.injEq, L2.V.str.injEq, L2.V.ref.injEq, List.set_cons_zero, List.set_cons_succ, List.map_cons, List.map_nil, List.length_cons, List.length_nil, List.replicate, List.cons_append, List.nil_append, List.append_nil, Nat.reduceSub, Nat.reduceAdd])
local macro_rules | `(tactic| walk_at "dn") => `(tactic| dsimp only [L2.tCons, L2.tC, L2.tNil])
section
variable {P : Program} {w : World} {K : PySem.W.Frag} {mg : PySem.Str → Option Value} {base : Heap}
/-! ### kinds with names that are none -/
def sp_kindN (K : PySem.W.Frag) : Sp := fun vs H Q E => ∃ (x : Addr) (v a b c : V) (n : String), vs = [.ref x, v, a, b, c] ∧ Srt K H v n ∧ StrOk v ∧ isName v = false ∧ ∀ H', Same H H' → Raised (He.ga K "BadKind") "part" (.str "name") H' E
theorem fn_kindN (T : Txt K mg) {fd : FuncData} (F : FunD K "__init__" "Kind.__init__" (defArgs s_Kind_init) (defBody s_Kind_init) (defScope s_Kind_init) [] [] (He.ma K (He.ga K "Kind") "__init__") fd) : FnOk P w K mg base (L2.CX P w) 7 (He.ma K (He.ga K "Kind") "__init__") fd ["self", "name", "start", "ends", "moves"] (sp_kindN K) := by
  have c_is_name := ok_is_name (P := P) (w := w) (base := base) T
  have c_BadKind := ok_BadKind (P := P) (w := w) (base := base) T
  refine F.ok sc_Kind_init (fun vs H Q E h => ?_) (fun cdv A outer s H vs Q E hr h => ?_)
  · obtain ⟨x, v, a, b, c, n, rfl, _⟩ := h
    rfl
  · refine ⟨_, (pss_cons (ps_if (pt_not (pt_val (pe_cal c_is_name (hr.mono (by decide)) (takes_of rfl rfl rfl rfl) (pa_cons (pv 1) pa_nil)))) (pss_one (ps_cale c_BadKind (hr.mono (by decide)) (takes_of rfl rfl rfl rfl) (pa_cons pe_str pa_nil))) pss_nil)
      (pss_cons ps_never
      (pss_cons ps_never
      (pss_cons ps_never
      (pss_cons ps_never
      (pss_cons ps_never
      (pss_cons ps_never
      (pss_cons ps_never
      (pss_cons ps_never
      (pss_one ps_never)))))))))), ?_⟩
    obtain ⟨x, v, a, b, c, n, rfl, sr, ok, hn, q⟩ := h
    walk_at "rd"
    refine ⟨_, n, rfl, sr, ok, fun H1 s1 => ⟨_, rfl, ?_⟩⟩
    rw [if_pos (by rw [hn] <;> rfl)]
    exact ⟨by show 1 ≤ 1000; decide, err_made (q H1 s1)⟩
def sp_kindA (K : PySem.W.Frag) : Sp := fun vs H Q E => sp_kindF K vs H Q E ∨ sp_kindN K vs H Q E
theorem FnOk.or {CX : CXT} {k : Nat} {f : Addr} {fd : FuncData} {ps : List PySem.Str} {sp sp' : Sp} (F : FnOk P w K mg base CX k f fd ps sp) (G : FnOk P w K mg base CX k f fd ps sp') : FnOk P w K mg base CX k f fd ps (fun vs H Q E => sp vs H Q E ∨ sp' vs H Q E) :=
  ⟨fun vs H Q E h => h.elim (F.len vs H Q E) (G.len vs H Q E), fun A outer s H args us vs Q E hr he hb hv h => h.elim (F.run A outer s H args us vs Q E hr he hb hv) (G.run A outer s H args us vs Q E hr he hb hv)⟩
theorem ok_kindA (T : Txt K mg) : CalI P w K mg base 7 (kC K) "Kind" ["self", "name", "start", "ends", "moves"] (sp_kindA K) := by
  obtain ⟨fd, F⟩ := T.d_Kind_init
  exact ⟨_, fd, FnOk.or (fn_kind T F) (fn_kindN T F), T.mk_Kind, T.g_Kind, F.bindsN fun _ _ _ _ _ _ us hl => match us, hl with | [_, _, _, _, _], _ => rfl⟩
/-- what a kind is made of -/
structure KParts (K : PySem.W.Frag) (H : Hp) (name start : PySem.Str) (e d : Addr) (ends : List PySem.Str) (mv : List Mv) : Prop where
  nm : isName (.str name) = true
  sn : isName (.str start) = true
  endsA : SqR K H e (ends.map V.str)
  endsN : ∀ y ∈ ends, isName (.str y) = true
  endsU : ends.Nodup
  endsL : ends.length ≤ 4000
  mvs : MovesAt K H d mv
  ok : MovesOk mv
  few : ∀ ys : List PySem.Str, ys.Nodup → (∀ y ∈ ys, y ∈ statesOf ⟨name, start, isort strLt ends, sortTab mv⟩) → ys.length ≤ 60
theorem MovesAt.same {H H' : Hp} {d : Addr} {mv : List Mv} (s : Same H H') (h : MovesAt K H d mv) : MovesAt K H' d mv := let ⟨kvs, h1, h2, h3⟩ := h; ⟨kvs, s _ _ h1, Paired.imp h2 fun _ _ z => z.same s, h3⟩
theorem mk_kind {H : Hp} {name start : PySem.Str} {e d : Addr} {ends : List PySem.Str} {mv : List Mv} {Q : VK} {E : XK} (p : KParts K H name start e d ends mv)
    (q : ∀ H' k, Same H H' → H k = none → KindNew K H H' k ⟨name, start, isort strLt ends, sortTab mv⟩ → Q (.ref k) H') :
    ∀ x dx, H x = none → H dx = none → dx ≠ x → sp_kindA K [.ref x, .str name, .str start, .ref e, .ref d] (L2.upd (L2.upd H dx (.own x)) x (.ins (kC K) dx [])) (fun v H2 => v = .non ∧ Q (.ref x) H2) E := by
  intro x dx hx hdx ne
  have s6 : Same H (L2.upd (L2.upd H dx (.own x)) x (.ins (kC K) dx [])) := (Same.new hdx).trans (Same.new (by rw [upd_ne ne.symm]; exact hx))
  have hx6 : (L2.upd (L2.upd H dx (.own x)) x (.ins (kC K) dx [])) x = some (.ins (kC K) dx []) := upd_same
  generalize L2.upd (L2.upd H dx (.own x)) x (.ins (kC K) dx []) = H7 at s6 hx6 ⊢
  refine .inl ⟨x, name, start, e, d, ends, mv, dx, rfl, hx6, p.nm, p.sn, SqR.same s6 p.endsA, p.endsN, p.endsU, p.endsL, p.mvs.same s6, p.ok, p.few, fun H8 sx8 kd8 => ⟨rfl, ?_⟩⟩
  exact q H8 x (sx8.same s6 hx) hx (kd8.mono fun c z => s6.free z)
/-! ### name, renamed -/
def sp_kname (K : PySem.W.Frag) : Sp := fun vs H Q _ => ∃ p kd, vs = [.ref p] ∧ KindAt K H p kd ∧ Q (.str kd.name) H
theorem ok_kname (T : Txt K mg) : CalP P w K mg base 1 (kC K) "name" (sp_kname K) := by
  obtain ⟨fd, F⟩ := T.d_Kind_name
  refine ⟨_, _, fd, ?_, T.pr_Kind_name, F.bindsN fun _ _ _ _ _ _ us hl => match us, hl with | [_], _ => rfl⟩
  refine F.ok sc_Kind_name (fun vs H Q E h => ?_) (fun cdv A outer s H vs Q E hr h => ?_)
  · obtain ⟨p, kd, rfl, _⟩ := h
    rfl
  · refine ⟨_, PSs.nox (pss_one (ps_ret (pe_fld (pv 0) rfl))), ?_⟩
    obtain ⟨p, kd, rfl, ⟨dx, ea, tb, ho, he, ht⟩, q⟩ := h
    exact ⟨_, rfl, p, kC K, dx, _, _, rfl, ho, T.cl_Kind, T.no_Kind_called, rfl, q⟩
/-- a kind that may be made again of its own parts -/
structure KdOk (kd : KD) : Prop where
  start : isName (.str kd.start) = true
  endsN : ∀ y ∈ kd.ends, isName (.str y) = true
  endsU : kd.ends.Nodup
  endsL : kd.ends.length ≤ 4000
  ok : MovesOk kd.tab
  few : ∀ n (ys : List PySem.Str), ys.Nodup → (∀ y ∈ ys, y ∈ statesOf ⟨n, kd.start, isort strLt kd.ends, sortTab kd.tab⟩) → ys.length ≤ 60
theorem tab_moves {H : Hp} {D : Addr} {tab : List Mv} (h : TabAt K H D tab) : MovesAt K H D tab := by
  obtain ⟨kvs, h1, h2, h3, h4⟩ := h
  refine ⟨kvs, h1, Paired.imp h2 fun m kv z => ?_, h3⟩
  obtain ⟨z1, t, z2, cs, z3, z4⟩ := z
  exact ⟨z1, t, cs, z2, .inr z3, Paired.imp z4 fun o b y => .inr y⟩
def sp_renamed (K : PySem.W.Frag) : Sp := fun vs H Q E => ∃ (p : Addr) (kd : KD) (v : V) (n : String), vs = [.ref p, v] ∧ KindAt K H p kd ∧ KdOk kd ∧ Srt K H v n ∧ StrOk v ∧
  ((∃ x, v = .str x ∧ isName v = true ∧ ∀ H' k, Same H H' → H k = none → KindAt K H' k ⟨x, kd.start, isort strLt kd.ends, sortTab kd.tab⟩ → Q (.ref k) H') ∨ (isName v = false ∧ ∀ H', Same H H' → Raised (He.ga K "BadKind") "part" (.str "name") H' E))
theorem ok_renamed (T : Txt K mg) : CalM P w K mg base 9 (kC K) "renamed" ["self", "name"] (sp_renamed K) := by
  have c_Kind := ok_kindA (P := P) (w := w) (base := base) T
  have c_moves := ok_moves (P := P) (w := w) (base := base) T
  obtain ⟨fd, F⟩ := T.d_Kind_renamed
  refine ⟨_, fd, ?_, T.me_Kind_renamed, F.bindsN fun _ _ _ _ _ _ us hl => match us, hl with | [_, _], _ => rfl⟩
  refine F.ok sc_Kind_renamed (fun vs H Q E h => ?_) (fun cdv A outer s H vs Q E hr h => ?_)
  · obtain ⟨p, kd, v, n, rfl, _⟩ := h
    rfl
  · refine ⟨_, (pss_one (ps_ret (pe_cali c_Kind (hr.mono (by decide)) (takes_of rfl rfl rfl rfl) (pa_cons (pv 1) (pa_cons (pe_fld (pv 0) rfl) (pa_cons (pe_fld (pv 0) rfl) (pa_cons (pe_calm0 c_moves T.cl_Kind (hr.mono (by decide)) (takes_of rfl rfl rfl rfl) (pv 0)) pa_nil))))))), ?_⟩
    obtain ⟨p, kd, v, n, rfl, hk, ok, sr, so, q⟩ := h
    obtain ⟨dx, ea, tb, ho, he, ht⟩ := id hk
    refine ⟨_, rfl, _, rfl, p, kC K, dx, _, _, rfl, ho, T.cl_Kind, T.no_Kind_begin, rfl, _, rfl, p, kC K, dx, _, _, rfl, ho, T.cl_Kind, T.no_Kind_last, rfl, _, rfl, p, dx, _, rfl, ho, kflds_no (by decide), p, kd, rfl, hk, fun H1 D s1 hD hT => ?_⟩
    rcases q with ⟨x, rfl, hx, q⟩ | ⟨hx, q⟩
    · refine mk_kind (ends := kd.ends) (mv := kd.tab) ⟨hx, ok.start, .inr (Same.tq s1 he), ok.endsN, ok.endsU, ok.endsL, tab_moves hT, ok.ok, ok.few x⟩ fun H2 k s2 nk hK => ?_
      exact q H2 k (s1.trans s2) (s1.free nk) hK.at
    · intro x dx2 hx2 hdx ne
      have s6 : Same H1 (L2.upd (L2.upd H1 dx2 (.own x)) x (.ins (kC K) dx2 [])) := (Same.new hdx).trans (Same.new (by rw [upd_ne ne.symm]; exact hx2))
      exact .inr ⟨x, v, _, _, _, n, rfl, Srt.same (s1.trans s6) sr, so, hx, fun H' s' => q H' ((s1.trans s6).trans s')⟩
end
end Rs
set_option Elab.async false
set_option linter.all false
set_option maxRecDepth 100000
set_option maxHeartbeats 2000000
/-! x == y by a class's own __eq__, y any thing. -/
namespace Rs
open PySem PySem.Spec PyProof.Rows L2
/-- the type that a thing's machine value shows -/
inductive Ty2 (K : PySem.W.Frag) (H : Hp) : V → Value → Prop where
  | non : Ty2 K H .non (.type "NoneType")
  | bl (b : Bool) : Ty2 K H (.bl b) (.type "bool")
  | int (i : Int) : Ty2 K H (.int i) (.type "int")
  | str (z : PySem.Str) : Ty2 K H (.str z) (.type "str")
  | lst {a : Addr} {xs : List V} : H a = some (.lst xs) → Ty2 K H (.ref a) (.type "list")
  | tup {a : Addr} {xs : List V} : H a = some (.tup xs) → Ty2 K H (.ref a) (.type "tuple")
  | dT {a : Addr} {kvs : List (List Key × V)} : H a = some (.dT kvs) → Ty2 K H (.ref a) (.type "dict")
  | ins {a C dx : Addr} {fs : List (PySem.Str × V)} : H a = some (.ins C dx fs) → Ty2 K H (.ref a) (.ref C)
section
variable {X : Cx} {pins : List (Addr × Obj)} {σ : L2.St} {H : Hp} {s : Shared}
theorem Ty2.looks (I : Inv X pins σ H s) {v : V} {u tb : Value} (h : Ty2 X.K H v tb) (r : RelV v u) : PySem.W.Looks (model X.prog X.w) s.heap (typeOf u) tb := by
  cases h with
  | non => cases r; exact PySem.W.Looks.now
  | bl b => cases r; exact PySem.W.Looks.now
  | int i => obtain ⟨t, rfl⟩ := r; exact PySem.W.Looks.now
  | str z => obtain ⟨t, rfl⟩ := r; exact PySem.W.Looks.now
  | @lst a xs e =>
    cases r
    obtain ⟨_, _, n, _, h1⟩ := (show ObjOk X.prog X.w H s.heap a (.lst xs) from I.hok a _ e)
    exact (PySem.W.Looks.ld h1).andThen .now
  | @tup a xs e =>
    cases r
    obtain ⟨_, _, _, o, h1, h2, _⟩ := (show ObjOk X.prog X.w H s.heap a (.tup xs) from I.hok a _ e)
    rw [← h2]
    exact (PySem.W.Looks.ld h1).andThen .now
  | @dT a kvs e =>
    cases r
    obtain ⟨_, _, _, _, o, _, _, h1, h2, _⟩ := (show ObjOk X.prog X.w H s.heap a (.dT kvs) from I.hok a _ e)
    rw [← h2.1]
    exact (PySem.W.Looks.ld h1).andThen .now
  | @ins a C dx fs e =>
    cases r
    obtain ⟨mA, J, _⟩ := ins_get I.hok e
    obtain ⟨od, J, _⟩ := J.look
    exact J.type
end
/-- x == y, x of the class at C -/
def rEqO (K : PySem.W.Frag) (C : Addr) (sp : Sp) (E : XK) : R2 := fun x y H Q => ∃ a dx fs tb, x = .ref a ∧ H a = some (.ins C dx fs) ∧ Ty2 K H y tb ∧ PySem.W.notFirst K C tb = true ∧ sp [.ref a, y] H (fun r H' => ∃ b, r = .bl b ∧ Q (.bl b) H') E
section
variable {X : Cx} {CX : CXT} {k : Nat} {C f : Addr} {fd : FuncData} {ps : List PySem.Str} {sp : Sp} {E : XK}
theorem op_eqO (d : Dun X.K C "__eq__" f) (F : FnOk X.prog X.w X.K X.mg X.base CX k f fd ps sp) (hr : Room k X.A) (hb : Binds X.K fd ps []) (hx : Passes CX X E) : OpR X (compareOp .Eq) (rEqO X.K C sp E) := by
  intro pins s σ H x y v u Q I rx ry h
  obtain ⟨a, dx, fs, tb, rfl, ha, ty, nf, h⟩ := h
  cases rx
  obtain ⟨mA, J, _⟩ := ins_get I.hok ha
  obtain ⟨od, J, _⟩ := J.look
  obtain ⟨m, hF⟩ := I.fr
  refine PySem.W.cmp_K (op := .Eq) hr.units0 hF I.ok.mod.kin J (ty.looks I ry) nf d.at_ d.fn ?_
  refine wpAny_mono (run_fn (us := [.ref a, u]) (vs := [.ref a, y]) (dvs := []) F hr hb .nil hx I (.cons rfl (.cons ry .nil)) h) (fun r s' q => ?_) fun _ _ z => z
  obtain ⟨z, H', I', rz, b, rfl, q⟩ := q
  cases rz
  exact ⟨.bl b, H', I', rfl, q⟩

/-- the class has no __ne__ of its own -/
structure NeC (K : PySem.W.Frag) (C : Addr) : Prop where
  ne : PySem.W.findIn K (.ref C) "__ne__" = some (some (.builtin "object.__ne__"))
  ob : PySem.W.mroIn K C (.type "object") = some true
theorem neBody {prog : Program} {w : World} {A : Around} {E' : Value → Shared → Prop} {s : Shared} {K : PySem.W.Frag} {x C f : Addr} {ox : Obj} {od : Option Obj} {b : Value} {Q : Fin → Shared → Prop} (hu : A.units < cLine) (X : K.In s.heap) (I : PySem.W.InstAt s.heap x ox C od) (d : Dun K C "__eq__" f)
    (h : wpAny (model prog w) A (call (.ref f) [.ref x, b]) (fun v s' => ∃ k, v = .bool k ∧ Q (.done (.ret (.bool (!k)))) s') E' s) :
    wpAny (model prog w) A (Builtin.«object.__ne__» ⟨[.ref x, b], []⟩) Q E' s := by
  unfold Builtin.«object.__ne__»
  repeat (first
    | with_reducible refine wpAny_cRoomFor hu ?_
    | (refine wpAny_bind (m := callSpecialIfBound? (.ref x) (Str.ofString "__eq__") [b]) (PySem.W.ifBound_K X I d.at_ d.fn (wpAny_mono h (fun r s' hr => by
          obtain ⟨k, rfl, hq⟩ := hr
          repeat (first | exact hq | exact wpAny_pure hq | exact wpAny_truthy_bool hq | (refine wpAny_bind (m := truthy (.bool _)) (wpAny_truthy_bool ?_)) | wp_step)) fun _ _ e => e)))
    | wp_step)
theorem ne_K {prog : Program} {w : World} {A : Around} {E' : Value → Shared → Prop} {s : Shared} {K : PySem.W.Frag} {x C f : Addr} {ox : Obj} {od : Option Obj} {b tb : Value} {Q : Value → Shared → Prop} (hu : A.units + 1 < cLine) (X : K.In s.heap) (I : PySem.W.InstAt s.heap x ox C od) (hb : PySem.W.Looks (model prog w) s.heap (typeOf b) tb) (hn : PySem.W.notFirst K C tb = true) (c : NeC K C) (d : Dun K C "__eq__" f)
    (h : wpAny (model prog w) A.in1 (call (.ref f) [.ref x, b]) (fun v s' => ∃ k, v = .bool k ∧ Q (.bool (!k)) s') E' s) : wpAny (model prog w) A (richCompare .NotEq (.ref x) b) Q E' s := by
  have one : wpAny (model prog w) A (tryCompare (.ref x) (cmpInfo .NotEq).2.1 b) (fun r s' => ∃ v, r = some v ∧ Q v s') E' s := by
    unfold tryCompare
    refine wpAny_bind (NtL.csib (I.type.andThen (PySem.W.looks_findIn X c.ne)) (PySem.F.cmp_object.ne.bind _) (wpAny_call (codeAny_call_builtin PySem.F.cmp_object.ne.plain PySem.F.cmpEntry_ne (PySem.W.check_slot PySem.F.cmpKind_ne PySem.F.cmpSplit_ne (I.type.andThen (PySem.W.looks_mroIn X c.ob)) (PySem.F.cmpArgs_ne _ _) ?_))))
    refine neBody (A := A.in1) hu X I d (wpAny_mono h (fun v s' hv => ?_) fun _ _ e => e)
    obtain ⟨k, rfl, q⟩ := hv
    exact ⟨k, rfl, wpAny_pure ⟨_, rfl, q⟩⟩
  unfold richCompare
  simp only [oneThing_ref]
  refine wpAny_holding (wpAny_bind (wpAny_cRoomFor (Nat.lt_of_succ_lt hu) ?_))
  refine wpAny_bind (I.type.here (wpAny_bind (hb.here ?_)))
  split
  · rename_i q
    have e : PySem.W.subIn K tb (.ref C) = some false := by
      rcases Bool.or_eq_true_iff.mp hn with e | e
      · rw [beq_iff_eq.mp e] at q; simp at q
      · exact beq_iff_eq.mp e
    refine wpAny_bind ((PySem.W.looks_subIn X e).here ?_)
    simp only [Bool.false_eq_true, if_false]
    exact wpAny_bind (wpAny_mono one (fun r s' ⟨v, hv, hq⟩ => by subst hv; exact wpAny_pure hq) fun _ _ e => e)
  · refine wpAny_bind (wpAny_pure ?_)
    simp only [Bool.false_eq_true, if_false]
    exact wpAny_bind (wpAny_mono one (fun r s' ⟨v, hv, hq⟩ => by subst hv; exact wpAny_pure hq) fun _ _ e => e)
/-- x != y, x of the class at C -/
def rNeO (K : PySem.W.Frag) (C : Addr) (sp : Sp) (E : XK) : R2 := fun x y H Q => ∃ a dx fs tb, x = .ref a ∧ H a = some (.ins C dx fs) ∧ Ty2 K H y tb ∧ PySem.W.notFirst K C tb = true ∧ sp [.ref a, y] H (fun r H' => ∃ b, r = .bl b ∧ Q (.bl (!b)) H') E
theorem op_neO (d : Dun X.K C "__eq__" f) (c : NeC X.K C) (F : FnOk X.prog X.w X.K X.mg X.base CX k f fd ps sp) (hr : Room (k + 1) X.A) (hb : Binds X.K fd ps []) (hx : Passes CX X E) : OpR X (compareOp .NotEq) (rNeO X.K C sp E) := by
  intro pins s σ H x y v u Q I rx ry h
  obtain ⟨a, dx, fs, tb, rfl, ha, ty, nf, h⟩ := h
  cases rx
  obtain ⟨mA, J, _⟩ := ins_get I.hok ha
  obtain ⟨od, J, _⟩ := J.look
  have hl : ([Value.ref a, u] ++ []).length = ps.length := by rw [← F.len _ _ _ _ h] <;> rfl
  refine ne_K (hu_of hr) I.kIn J (ty.looks I ry) nf c d ?_
  refine wpAny_call (codeAny_mono (F.run X.A.in1 X.stack s H ⟨[.ref a, u], []⟩ [.ref a, u] [.ref a, y] _ E hr.in1 I.env0.in1 (hb _ [.ref a, u] I.kIn hl) (.cons rfl (.cons ry .nil)) h) fun r s' hq => ?_)
  cases r with
  | error e => exact hx pins σ H s e s' I hq
  | ok fl =>
    cases fl with
    | ret w =>
      obtain ⟨z, H', I', rz, b, rfl, q⟩ := I.after hq
      cases rz
      exact ⟨b, rfl, .bl (!b), H', I', rfl, q⟩
    | next => exact False.elim hq
    | brk => exact False.elim hq
    | cont => exact False.elim hq
theorem notFirst_ty {K : PySem.W.Frag} {C : Addr} {n : String} (hn : n ∈ sorts) : PySem.W.notFirst K C (.type n) = true := by
  have : ∀ n ∈ sorts, ∀ C : Addr, (fastBuiltinMro n).map (·.contains (Value.ref C)) = some false := by
    intro n hn C
    simp only [sorts, List.mem_cons, List.not_mem_nil, or_false] at hn
    rcases hn with rfl | rfl | rfl | rfl | rfl | rfl | rfl
    · rw [show fastBuiltinMro "NoneType" = some [.type "NoneType", .type "object"] from by decide +kernel]; simp
    · rw [show fastBuiltinMro "bool" = some [.type "bool", .type "int", .type "object"] from by decide +kernel]; simp
    · rw [show fastBuiltinMro "int" = some [.type "int", .type "object"] from by decide +kernel]; simp
    · rw [show fastBuiltinMro "str" = some [.type "str", .type "object"] from by decide +kernel]; simp
    · rw [show fastBuiltinMro "list" = some [.type "list", .type "object"] from by decide +kernel]; simp
    · rw [show fastBuiltinMro "tuple" = some [.type "tuple", .type "object"] from by decide +kernel]; simp
    · rw [show fastBuiltinMro "dict" = some [.type "dict", .type "object"] from by decide +kernel]; simp
  have e : PySem.W.subIn K (.type n) (.ref C) = some false := this n hn C
  unfold PySem.W.notFirst
  rw [e, Bool.or_eq_true]
  exact .inr rfl
theorem notFirst_self {K : PySem.W.Frag} {C : Addr} : PySem.W.notFirst K C (.ref C) = true := by simp [PySem.W.notFirst]
end
end Rs
set_option Elab.async false
set_option linter.all false
set_option maxRecDepth 100000
set_option maxHeartbeats 2000000
/-! == and != of two dicts whose keys are tuples. -/
namespace Rs
open PySem PySem.Spec PyProof.Rows L2
section
variable {prog : Program} {w : World} {K : Type} [DecidableEq K] {knd : HeapKind prog w K} {A : Around} {E : Value → Shared → Prop} {s : Shared}
inductive HitsH {K : Type} [DecidableEq K] (A : Around) (s : Shared) (kb : List (K × Addr × Value)) : List (K × Addr × Value) → Bool → Prop
  | nil : HitsH A s kb [] true
  | miss {x : K × Addr × Value} {r : List (K × Addr × Value)} : atKey kb x.1 = none → HitsH A s kb (x :: r) false
  | hit {x : K × Addr × Value} {p : Addr × Value} {r : List (K × Addr × Value)} {e b : Bool} : atKey kb x.1 = some p → SeqAt.EqAt A s x.2.2 p.2 e → HitsH A s kb r b → HitsH A s kb (x :: r) (e && b)
theorem samePairsH {nm : String} {a b : Addr} {ka kb : List (K × Addr × Value)} {r : Bool} {Q : Bool → Shared → Prop} (hu : knd.room A) (ha : (a == sysModules) = false) (hb : (b == sysModules) = false)
    (da : s.heap.DictOfH knd a ka) (db : s.heap.DictOfH knd b kb) (hits : ka.length = kb.length → HitsH A s kb ka r) (h : Q (ka.length == kb.length && r) s) :
    wpAny (model prog w) A (Builtin.Dict.samePairs nm a b) Q E s := by
  obtain ⟨oa, es, ep, hoa, _, hda, hea, hia, _⟩ := da
  obtain ⟨ob, es', ep', hob, _, hdb, heb, hib, hnb⟩ := db
  have hla : ka.length = es.size := (size_of_entries hea).symm
  have hlb : kb.length = es'.size := (size_of_entries heb).symm
  rw [hla, hlb] at h
  unfold Builtin.Dict.samePairs Builtin.Dict.showsAll
  rw [if_neg (show ¬ (a == sysModules) = true by rw [ha]; exact Bool.false_ne_true), if_neg (show ¬ (b == sysModules) = true by rw [hb]; exact Bool.false_ne_true)]
  refine wpAny_bind (wpAny_pure (wpAny_bind (wpAny_pure ?_)))
  refine wpAny_bind (wpAny_dictEntries hoa hda ?_)
  dsimp only
  refine wpAny_bind (wpAny_dictEntries hob hdb ?_)
  by_cases hsz : es.size = es'.size
  case neg =>
    rw [if_pos (by simpa using hsz)]
    have hbf : (es.size == es'.size) = false := by simpa using hsz
    rw [hbf, Bool.false_and] at h
    exact wpAny_bind (wpAny_rule (wpAny_pure h))
  case pos =>
    have h' : Q r s := by simpa [hsz] using h
    have hits' := hits (by rw [hla, hlb]; exact hsz)
    rw [if_neg (by rw [hsz]; simp)]
    refine wpAny_bind (wpAny_dictEpoch hoa hda ?_)
    refine wpAny_bind ?_
    rw [Std.Legacy.Range.forIn_eq_forIn_range']
    simp only [Std.Legacy.Range.size, Nat.sub_zero, Nat.add_sub_cancel, Nat.div_one]
    refine wpAny_forIn_list _
      (fun rest q s' => s' = s ∧ q = (none, ()) ∧ ∃ i, rest = List.range' i (es.size - i) ∧ i ≤ es.size ∧ HitsH A s kb (ka.drop i) r)
      _ ?_ ?_ _ _ ⟨rfl, rfl, 0, by simp, Nat.zero_le _, hits'⟩
    · rintro x rest q s' ⟨rfl, rfl, i, hr, hi, hpre⟩
      have hlt : i < es.size := by
        rcases Nat.lt_or_ge i es.size with z | z
        · exact z
        · rw [Nat.sub_eq_zero_of_le z] at hr; simp at hr
      obtain ⟨rfl, hrest⟩ : x = i ∧ rest = List.range' (i + 1) (es.size - (i + 1)) := by
        have e : es.size - i = (es.size - (i + 1)) + 1 := by omega
        rw [e, List.range'_succ] at hr
        injection hr with z1 z2
        exact ⟨z1, z2⟩
      refine wpAny_bind (wpAny_dictEntries hoa hda ?_)
      have hlt' : x < ka.length := by rw [hla]; exact hlt
      have hkx : ka[x]? = some ka[x] := List.getElem?_eq_getElem hlt'
      have hen := entry_at hea x
      rw [hkx] at hen
      rw [hen]
      have hdrop : ka.drop x = ka[x] :: ka.drop (x + 1) := List.drop_eq_getElem_cons hlt'
      generalize hy : ka[x] = y at hdrop hkx hen ⊢
      have hmem : y ∈ ka := List.mem_of_getElem? hkx
      rw [hdrop] at hpre
      show wpAny _ _ (holding [Value.ref y.2.1, y.2.2] _ >>= _) _ _ _
      refine wpAny_bind (wpAny_holding (wpAny_bind (wpAny_dictFind_heap (k := y.1) hu (hia y hmem) hob hdb heb hib hnb (fun hno => ?_) (fun j p hj => ?_))))
      · have hn : atKey kb y.1 = none := atKey_none_of_get hno
        generalize hL : y :: ka.drop (x + 1) = L at hpre
        cases hpre with
        | nil => cases hL
        | miss _ =>
          refine wpAny_pure ?_
          show wpAny _ _ (if (!false) = true then _ else _) _ _ _
          rw [if_pos (by decide)]
          exact wpAny_pure (wpAny_pure h')
        | hit hy _ _ =>
          cases hL
          rw [hn] at hy; cases hy
      · have hv := atKey_of_get hnb hj
        refine wpAny_bind (wpAny_dictEntries hob hdb ?_)
        rw [entry_at heb j, hj]
        generalize hL : y :: ka.drop (x + 1) = L at hpre
        cases hpre with
        | nil => cases hL
        | miss z => cases hL; rw [hv] at z; cases z
        | @hit _ p2 r2 e b' hy he hrr =>
          cases hL
          rw [hv] at hy
          cases Option.some.inj hy
          refine wpAny_holding (he prog w _ _ ?_)
          cases e with
          | false =>
            rw [Bool.false_and] at h'
            show wpAny _ _ (if (!false) = true then _ else _) _ _ _
            rw [if_pos (by decide)]
            exact wpAny_pure (wpAny_pure h')
          | true =>
            show wpAny _ _ (if (!true) = true then _ else _) _ _ _
            rw [if_neg (by decide)]
            refine wpAny_bind (wpAny_dictEpoch hoa hda ?_)
            rw [if_neg (by simp)]
            exact wpAny_pure ⟨rfl, rfl, x + 1, hrest, hlt, by rw [Bool.true_and]; exact hrr⟩
    · rintro q s' ⟨rfl, rfl, i, hr, hi, hpre⟩
      have hin : i = es.size := by
        rcases Nat.lt_or_ge i es.size with z | z
        · have e : es.size - i = (es.size - (i + 1)) + 1 := by omega
          rw [e, List.range'_succ] at hr; exact nomatch hr
        · exact Nat.le_antisymm hi z
      refine wpAny_pure ?_
      rw [hin, ← hla, List.drop_length] at hpre
      cases hpre
      exact h'
theorem cmpH {a b : Addr} {ka kb : List (K × Addr × Value)} {r : Bool} {Q : Value → Shared → Prop} (hr : knd.room A.in1) (hu : A.units < cLine) (ha : (a == sysModules) = false) (hb : (b == sysModules) = false)
    (da : s.heap.DictOfH knd a ka) (db : s.heap.DictOfH knd b kb) (hits : ka.length = kb.length → HitsH A.in1 s kb ka r) (h : Q (.bool (ka.length == kb.length && r)) s) : wpAny (model prog w) A (compareOp .Eq (.ref a) (.ref b)) Q E s := by
  refine wpAny_richCompare_same_room (op := .Eq) da.typeIs db.typeIs PySem.F.slot_dict_eq (wpAny_call_entry PySem.F.slot_dict_eq da.typeIs PySem.F.entry_dict_eq ?_ (PySem.F.args_dict_eq_2 _ _)) hu
  show wpAny _ _ (Builtin.Dict.dictSlotArgs "__eq__" ⟨[.ref a, .ref b], []⟩ >>= _) _ _ s
  refine wpAny_bind ?_
  unfold Builtin.Dict.dictSlotArgs
  refine wpAny_bind (wpAny_notOrdered_dict da.typeIs ?_)
  show wpAny _ _ (pure (Value.ref a, Value.ref b)) _ _ s
  refine wpAny_pure ?_
  refine wpAny_bind (wpAny_isInstance (T := "dict") db.typeIs PySem.F.sub_dict_dict ?_)
  simp only [Bool.not_true, Bool.false_eq_true, if_false]
  refine wpAny_bind (wpAny_pure (wpAny_bind (wpAny_pure ?_)))
  refine wpAny_bind (samePairsH hr ha hb da db hits ?_)
  exact wpAny_pure ⟨_, rfl, (fun x => nomatch x), by simpa using h⟩
theorem cmpNH {a b : Addr} {ka kb : List (K × Addr × Value)} {r : Bool} {Q : Value → Shared → Prop} (hr : knd.room A.in1) (hu : A.units < cLine) (ha : (a == sysModules) = false) (hb : (b == sysModules) = false)
    (da : s.heap.DictOfH knd a ka) (db : s.heap.DictOfH knd b kb) (hits : ka.length = kb.length → HitsH A.in1 s kb ka r) (h : Q (.bool (!(ka.length == kb.length && r))) s) : wpAny (model prog w) A (compareOp .NotEq (.ref a) (.ref b)) Q E s := by
  refine wpAny_richCompare_same_room (op := .NotEq) da.typeIs db.typeIs PySem.F.slot_dict_ne (wpAny_call_entry PySem.F.slot_dict_ne da.typeIs PySem.F.entry_dict_ne ?_ (PySem.F.args_dict_ne_2 _ _)) hu
  show wpAny _ _ (Builtin.Dict.dictSlotArgs "__ne__" ⟨[.ref a, .ref b], []⟩ >>= _) _ _ s
  refine wpAny_bind ?_
  unfold Builtin.Dict.dictSlotArgs
  refine wpAny_bind (wpAny_notOrdered_dict da.typeIs ?_)
  show wpAny _ _ (pure (Value.ref a, Value.ref b)) _ _ s
  refine wpAny_pure ?_
  refine wpAny_bind (wpAny_isInstance (T := "dict") db.typeIs PySem.F.sub_dict_dict ?_)
  simp only [Bool.not_true, Bool.false_eq_true, if_false]
  refine wpAny_bind (wpAny_pure (wpAny_bind (wpAny_pure ?_)))
  refine wpAny_bind (samePairsH hr ha hb da db hits ?_)
  exact wpAny_pure ⟨_, rfl, (fun x => nomatch x), by simpa using h⟩
end
section
variable {X : Cx}
/-- the two dicts are of unlike length, or have the same keys with equal values -/
def DEq (K : PySem.W.Frag) (H : Hp) (ks ls : TK) (r : Bool) : Prop := (ks.length ≠ ls.length ∧ r = false) ∨ (ks.length = ls.length ∧ r = true ∧ ∀ p ∈ ks, ∃ v d e, valV ls p.1 = some v ∧ Dp K H p.2 d ∧ Dp K H v e ∧ SeqAt.shaped d = true ∧ SeqAt.shaped e = true ∧ PyData.eqv d e = true)
def rEqDT (K : PySem.W.Frag) : R2 := fun x y H Q => ∃ a b ks ls r, x = .ref a ∧ y = .ref b ∧ Rd H a (.dT ks) ∧ Rd H b (.dT ls) ∧ DEq K H ks ls r ∧ Q (.bl r) H
def rNeDT (K : PySem.W.Frag) : R2 := fun x y H Q => ∃ a b ks ls r, x = .ref a ∧ y = .ref b ∧ Rd H a (.dT ks) ∧ Rd H b (.dT ls) ∧ DEq K H ks ls r ∧ Q (.bl (!r)) H
theorem hits_of {pins : List (Addr × Obj)} {σ : L2.St} {H : Hp} {s : Shared} (hu : X.A.units + 65 < cLine) (I : Inv X pins σ H s) {ls : TK} {vb : List (List Key × Addr × Value)} (kb : KT H ls vb) :
    ∀ {ks : TK} {va : List (List Key × Addr × Value)}, KT H ks va → (∀ p ∈ ks, ∃ v d e, valV ls p.1 = some v ∧ Dp X.K H p.2 d ∧ Dp X.K H v e ∧ SeqAt.shaped d = true ∧ SeqAt.shaped e = true ∧ PyData.eqv d e = true) → HitsH X.A.in1 s vb va true
  | _, _, .nil, _ => .nil
  | _, _, .cons (a := p) (b := q) h t, g => by
    obtain ⟨v, d, e, hv, hd, he, sd, se, eq⟩ := g p List.mem_cons_self
    obtain ⟨h1, h2, h3⟩ := h
    have kv := kb.val p.1
    rw [hv] at kv
    obtain ⟨u, hu2, ru⟩ := RelO.some_of (v := v) (o := (atKey vb p.1).map (·.2)) kv
    obtain ⟨pp, hp, hp2⟩ := Option.map_eq_some_iff.mp hu2
    obtain ⟨as, r1⟩ := Dp.reads I d p.2 q.2.2 hd h3
    obtain ⟨bs, r2⟩ := Dp.reads I e v u he ru
    have eqa := PySem.W.keq_at (A := X.A) r1 r2 sd se (show X.A.in1.units + 64 < cLine from by show X.A.units + 1 + 64 < cLine; omega)
    rw [eq, ← hp2] at eqa
    exact HitsH.hit (x := q) (p := pp) (e := true) (b := true) (by rw [← h1]; exact hp) eqa (hits_of hu I kb t fun z hz => g z (List.mem_cons_of_mem _ hz))
theorem op_eqDT (hu : X.A.units + 65 < cLine) : OpR X (compareOp .Eq) (rEqDT X.K) := by
  intro pins s σ H x y v u Q I rx ry h
  obtain ⟨a, b, ks, ls, r, rfl, rfl, ea, eb, dq, q⟩ := h
  obtain rfl : v = Value.ref a := rx
  obtain rfl : u = Value.ref b := ry
  obtain ⟨_, ya, va, ra, da⟩ := dt_rd I.hok ea
  obtain ⟨_, yb, vb, rb, db⟩ := dt_rd I.hok eb
  have la := Paired.length ra
  have lb := Paired.length rb
  refine cmpH (knd := tupleKind (mixKind X.prog X.w)) (r := true) (show X.A.units + 1 < cLine from by omega) (by omega) ya yb da db (fun hl => ?_) (fin_bl I q ?_)
  · rcases dq with ⟨ne, _⟩ | ⟨_, _, g⟩
    · exact absurd (by omega) ne
    · exact hits_of hu I rb ra g
  · rcases dq with ⟨ne, rfl⟩ | ⟨e, rfl, _⟩
    · have : (va.length == vb.length) = false := by simpa using (show va.length ≠ vb.length by omega)
      rw [this] <;> rfl
    · have : (va.length == vb.length) = true := by simpa using (show va.length = vb.length by omega)
      rw [this] <;> rfl
theorem op_neDT (hu : X.A.units + 65 < cLine) : OpR X (compareOp .NotEq) (rNeDT X.K) := by
  intro pins s σ H x y v u Q I rx ry h
  obtain ⟨a, b, ks, ls, r, rfl, rfl, ea, eb, dq, q⟩ := h
  obtain rfl : v = Value.ref a := rx
  obtain rfl : u = Value.ref b := ry
  obtain ⟨_, ya, va, ra, da⟩ := dt_rd I.hok ea
  obtain ⟨_, yb, vb, rb, db⟩ := dt_rd I.hok eb
  have la := Paired.length ra
  have lb := Paired.length rb
  refine cmpNH (knd := tupleKind (mixKind X.prog X.w)) (r := true) (show X.A.units + 1 < cLine from by omega) (by omega) ya yb da db (fun hl => ?_) (fin_bl I q ?_)
  · rcases dq with ⟨ne, _⟩ | ⟨_, _, g⟩
    · exact absurd (by omega) ne
    · exact hits_of hu I rb ra g
  · rcases dq with ⟨ne, rfl⟩ | ⟨e, rfl, _⟩
    · have : (va.length == vb.length) = false := by simpa using (show va.length ≠ vb.length by omega)
      rw [this] <;> rfl
    · have : (va.length == vb.length) = true := by simpa using (show va.length = vb.length by omega)
      rw [this] <;> rfl
end
end Rs
set_option Elab.async false
set_option linter.all false
set_option maxRecDepth 100000
set_option maxHeartbeats 2000000
/-! Dicts with tuple keys, asked for tuples of numbers, flags, texts and None. -/
namespace Rs
open PySem PySem.Spec PyProof.Rows L2
def lfK : Key → PySem.Leaf
  | .inl i => .num i
  | .inr x => .text x
def lfV : V → Option PySem.Leaf
  | .non => some .none
  | .bl b => some (.num (if b = true then 1 else 0))
  | .int i => some (.num i)
  | .str x => some (.text x)
  | _ => none
theorem lfK_inj {a b : Key} (h : lfK a = lfK b) : a = b := by
  cases a <;> cases b <;> simp [lfK] at h <;> rw [h]
theorem lfKs_inj : ∀ {a b : List Key}, a.map lfK = b.map lfK → a = b
  | [], [], _ => rfl
  | [], _ :: _, h => by simp at h
  | _ :: _, [], h => by simp at h
  | x :: a, y :: b, h => by
    obtain ⟨h1, h2⟩ := List.cons.inj h
    rw [lfK_inj h1, lfKs_inj h2]
theorem is_lfK {k : Key} {v : Value} (h : keyIs k v = true) : PySem.Leaf.isOf (lfK k) v = true := by
  rcases keyIs_shape h with ⟨i, t, rfl, rfl⟩ | ⟨x, t, rfl, rfl⟩
  · simp [lfK, PySem.Leaf.isOf]
  · simp [lfK, PySem.Leaf.isOf, Value.isStrOf]
theorem is_lfV {x : V} {l : PySem.Leaf} {v : Value} (r : RelV x v) (h : lfV x = some l) : PySem.Leaf.isOf l v = true := by
  cases x with
  | non => cases h; cases r; rfl
  | bl b => cases h; cases r; simp [PySem.Leaf.isOf]
  | int i => cases h; obtain ⟨t, rfl⟩ := r; simp [PySem.Leaf.isOf]
  | str z => cases h; obtain ⟨t, rfl⟩ := r; simp [PySem.Leaf.isOf, Value.isStrOf]
  | _ => cases h
section
variable {P : Program} {w : World}
theorem items_lf : ∀ {ks : List Key} {vs : List Value}, ItemsAre (mixKind P w) ks vs → ItemsAre (leafKind P w) (ks.map lfK) vs
  | _, _, .nil => .nil
  | _, _, .cons h t => .cons (is_lfK h) (items_lf t)
theorem items_lv : ∀ {xs : List V} {ls : List PySem.Leaf} {vs : List Value}, Vals xs vs → xs.map lfV = ls.map some → ItemsAre (leafKind P w) ls vs
  | _, [], _, .nil, _ => .nil
  | _, _ :: _, _, .nil, h => by simp at h
  | _, [], _, .cons _ _, h => by simp at h
  | _, l :: ls, _, .cons r t, h => by
    obtain ⟨h1, h2⟩ := List.cons.inj h
    exact .cons (is_lfV r h1) (items_lv t h2)
theorem hash_lf (k : Key) : (leafKind P w).hash (lfK k) = (mixKind P w).hash k := by
  cases k <;> rfl
abbrev lfX (x : List Key × Addr × Value) : List PySem.Leaf × Addr × Value := (x.1.map lfK, x.2)
theorem dict_lf {h : Heap} {d : Addr} {xs : List (List Key × Addr × Value)} (D : h.DictOfH (tupleKind (mixKind P w)) d xs) : h.DictOfH (tupleKind (leafKind P w)) d (xs.map lfX) := by
  obtain ⟨o, es, ep, h1, h2, h3, h4, h5, h6⟩ := D
  refine ⟨o, es, ep, h1, h2, h3, ?_, fun x hx => ?_, ?_⟩
  · rw [h4, List.map_map]
    refine List.map_congr_left fun x _ => ?_
    show DictEntry.mk _ _ _ = DictEntry.mk _ _ _
    congr 1
    show reduceHash (Builtin.Tuple.tupleHashOf (x.1.map (mixKind P w).hash)) = reduceHash (Builtin.Tuple.tupleHashOf ((x.1.map lfK).map (leafKind P w).hash))
    rw [List.map_map]
    congr 2
    exact List.map_congr_left fun k _ => (hash_lf k).symm
  · obtain ⟨y, hy, rfl⟩ := List.mem_map.mp hx
    obtain ⟨ob, its, n, g1, g2, g3, g4⟩ := h5 y hy
    exact ⟨ob, its, n, g1, g2, g3, items_lf g4⟩
  · rw [List.map_map]
    have : ((fun x : List PySem.Leaf × Addr × Value => x.1) ∘ lfX) = (fun k : List Key => k.map lfK) ∘ (fun x : List Key × Addr × Value => x.1) := rfl
    rw [this, ← List.map_map]
    exact h6.map _ fun a b ne e => ne (lfKs_inj e)
theorem key_lf {H : Hp} {h : Heap} {a : Addr} {xs : List V} {ls : List PySem.Leaf} (ok : HOk P w H h) (e : H a = some (.tup xs)) (hl : xs.map lfV = ls.map some) : (tupleKind (leafKind P w)).is h ls a := by
  obtain ⟨_, its, r, o, h1, h2, n, h3⟩ := (show ObjOk P w H h a (.tup xs) from ok a _ e)
  exact ⟨o, its.toArray, n, h1, h2, h3, by simpa using items_lv r hl⟩
/-- what the dict holds at a tuple of such things -/
def valL (kvs : TK) (ls : List PySem.Leaf) : Option V := (kvs.find? fun kv => decide (kv.1.map lfK = ls)).map (·.2)
theorem valL_rel {H : Hp} {kvs : TK} {xs : List (List Key × Addr × Value)} (r : KT H kvs xs) (ls : List PySem.Leaf) :
    match valL kvs ls with
    | none => atKey (xs.map lfX) ls = none
    | some v => ∃ p, atKey (xs.map lfX) ls = some p ∧ RelV v p.2 := by
  unfold valL atKey
  induction r with
  | nil => exact rfl
  | @cons p q kvs xs h1 _ ih =>
    by_cases e : p.1.map lfK = ls
    · have e2 : (lfX q).1 = ls := by show q.1.map lfK = ls; rw [← h1.1]; exact e
      rw [List.find?_cons_of_pos (by simpa using e), List.map_cons, List.find?_cons_of_pos (by simpa using e2)]
      exact ⟨_, rfl, h1.2.2⟩
    · have e2 : ¬ (lfX q).1 = ls := fun z => e (by rw [h1.1]; exact z)
      rw [List.find?_cons_of_neg (by simpa using e), List.map_cons, List.find?_cons_of_neg (by simpa using e2)]
      exact ih
end
def FoundL (ys : List (List PySem.Leaf × Addr × Value)) (ls : List PySem.Leaf) : Option V → Prop
  | none => atKey ys ls = none
  | some v => ∃ p, atKey ys ls = some p ∧ RelV v p.2
/-- the tuple at b, asked of the dict at d -/
def AskL (H : Hp) (b d : Addr) (o : Option V) : Prop := ∃ kvs xs ls, H b = some (.tup xs) ∧ xs.map lfV = ls.map some ∧ Rd H d (.dT kvs) ∧ o = valL kvs ls
section
variable {X : Cx} {pins : List (Addr × Obj)} {σ : L2.St} {H : Hp} {s : Shared} {A : Around} {E : Value → Shared → Prop}
theorem ask_at (I : Inv X pins σ H s) {b d : Addr} {o : Option V} (h : AskL H b d o) : ∃ ls ys, (d == sysModules) = false ∧ s.heap.DictOfH (tupleKind (leafKind X.prog X.w)) d ys ∧ (tupleKind (leafKind X.prog X.w)).is s.heap ls b ∧ FoundL ys ls o := by
  obtain ⟨kvs, xs, ls, h1, h2, h3, rfl⟩ := h
  obtain ⟨_, hd, zs, rel, dd⟩ := dt_rd I.hok h3
  refine ⟨ls, _, hd, dict_lf dd, key_lf I.hok h1 h2, ?_⟩
  have r := valL_rel rel ls
  cases e : valL kvs ls with
  | none => rw [e] at r; exact r
  | some v => rw [e] at r; exact r
def rInL : R2 := fun x y H Q => ∃ b d o, x = .ref b ∧ y = .ref d ∧ AskL H b d o ∧ Q (.bl o.isSome) H
theorem op_inL (hu : X.A.units + 1 < cLine) : OpR X (compareOp .In) rInL := by
  intro pins s σ H x y v u Q I rx ry h
  obtain ⟨b, d, o, rfl, rfl, hk, q⟩ := h
  cases rx
  cases ry
  obtain ⟨ls, ys, hd, dd, kk, m⟩ := ask_at I hk
  refine wpAny_in_heap (knd := tupleKind (leafKind X.prog X.w)) (show X.A.units + 1 < cLine from hu) kk hd dd ?_
  refine ⟨.bl o.isSome, H, I.tok _, ?_, q⟩
  cases o with
  | none => rw [show atKey ys ls = none from m] <;> rfl
  | some v =>
    obtain ⟨p, e, _⟩ := m
    rw [e] <;> rfl
def tGetL (td ty : TE) : TE := fun σ H Q => td σ H fun x H1 => ∃ d, x = .ref d ∧ IsD H1 d ∧ ty σ H1 fun y H2 => ∃ b o, y = .ref b ∧ AskL H2 b d o ∧ Q (o.getD .non) H2
theorem pe_getL {o e : Expr} {apos cpos : Pos} {td ty : TE} (hu : X.A.units + 1 < cLine) (ho : PE X o td) (he : PE X e ty) (m : M1 X o "get" apos e cpos) : PE X (.Call (.Attribute o "get" apos) [e] [] cpos) (tGetL td ty) := by
  refine ⟨fun pins s σ H Q I h => ?_⟩
  refine wpAny_Call_method m.base m.few m.line PySem.F.plainAttrs_dict PySem.F.slot_dict_get PySem.F.type_dict_get (thn (ho.run pins s σ H _ I h) fun u s1 ⟨x, H1, I1, rx, d, ex, hd, q1⟩ => ?_)
  subst ex
  obtain rfl : u = Value.ref d := rx
  obtain ⟨t1, t2, _⟩ := isD_at I1 hd
  refine ⟨t1, t2, ?_⟩
  rw [m.trees]
  refine Calls.callWith_builtin rfl (Calls.evalArgs_plain (Calls.spliced_cons (thn (he.run pins s1 σ H1 _ I1 q1) fun iv s2 ⟨y, H2, I2, ry, b, ov, ey, g, q2⟩ => Calls.spliced_nil ?_)))
  subst ey
  obtain rfl : iv = Value.ref b := ry
  obtain ⟨ls, ys, hs, dd, kk, mm⟩ := ask_at I2 g
  refine get_keyed (knd := tupleKind (leafKind X.prog X.w)) (show X.A.units + 1 < cLine from hu) kk hs ⟨ys, dd, rfl⟩ ?_
  refine ⟨ov.getD .non, H2, I2.tok _, ?_, q2⟩
  rw [valueAt_pairsH]
  cases ov with
  | none => rw [show atKey ys ls = none from mm] <;> rfl
  | some v =>
    obtain ⟨p, e, r⟩ := mm
    rw [e]
    exact r
/-! d.clear() -/
def rClearT : V → List V → Hp → VK → Prop := fun x xs H Q => ∃ d kvs, x = .ref d ∧ xs = [] ∧ H d = some (.dT kvs) ∧ Q .non (upd H d (.dT []))
theorem mt_clearT : MtR X "dict.clear" rClearT := by
  intro pins s σ H x xs v us Q I rx rv h
  obtain ⟨d, kvs, rfl, rfl, hd, q⟩ := h
  cases rx
  have hus := rv.zero
  subst hus
  obtain ⟨z, hs, zs, rel, dd⟩ := dt_of I.hok hd
  refine clear_keyed (knd := tupleKind (mixKind X.prog X.w)) (kvs := pairsH zs) ⟨zs, dd, rfl⟩ (fun h' hk hsb => ?_) (by rw [pairsH_length, ← Paired.length rel]; exact z)
  obtain ⟨ys, ⟨o, es, ep, g1, g2, g3, g4, _, g6⟩, e⟩ := hk
  obtain rfl : ys = [] := by
    have := congrArg List.length e
    rw [pairsH_length] at this
    exact List.length_eq_zero_iff.mp this
  exact ⟨.non, _, d_write (t' := s.toks) (ob := .dT []) I (by rw [hd]; exact True.intro) hsb ⟨o, g1⟩ ⟨Nat.zero_le _, hs, [], .nil, o, es, ep, g1, g2, g3, g4, g6⟩, rfl, q⟩
end
end Rs
set_option Elab.async false
set_option linter.all false
set_option maxRecDepth 100000
set_option maxHeartbeats 2000000
/-! == of texts, pairs of texts and rows of them. -/
namespace Rs
open PySem PySem.Spec PyProof.Rows L2
abbrev TxOk (x : PySem.Str) : Prop := (PyData.str x).canLay0 = true
abbrev dPr (o : PySem.Str × PySem.Str) : PyData := .tuple [.str o.1, .str o.2]
theorem eqv_txt (x y : PySem.Str) : PyData.eqv (.str x) (.str y) = decide (x = y) := by
  show (x == y) = _
  by_cases e : x = y
  · subst e; simp
  · rw [decide_eq_false e]; exact beq_eq_false_iff_ne.mpr e
theorem eqvAll_txts : ∀ (xs ys : List PySem.Str), PyData.eqvAll (xs.map PyData.str) (ys.map PyData.str) = decide (xs = ys)
  | [], [] => rfl
  | [], _ :: _ => rfl
  | _ :: _, [] => rfl
  | x :: xs, y :: ys => by
    show (PyData.eqv (.str x) (.str y) && PyData.eqvAll (xs.map PyData.str) (ys.map PyData.str)) = _
    rw [eqv_txt, eqvAll_txts xs ys]
    simp [Bool.decide_and]
theorem eqv_pr (o p : PySem.Str × PySem.Str) : PyData.eqv (dPr o) (dPr p) = decide (o = p) := by
  show (PyData.eqv (.str o.1) (.str p.1) && (PyData.eqv (.str o.2) (.str p.2) && true)) = _
  rw [eqv_txt, eqv_txt, Bool.and_true]
  obtain ⟨a, b⟩ := o
  obtain ⟨c, d⟩ := p
  simp [Bool.decide_and]
theorem eqvAll_prs : ∀ (xs ys : List (PySem.Str × PySem.Str)), PyData.eqvAll (xs.map dPr) (ys.map dPr) = decide (xs = ys)
  | [], [] => rfl
  | [], _ :: _ => rfl
  | _ :: _, [] => rfl
  | x :: xs, y :: ys => by
    show (PyData.eqv (dPr x) (dPr y) && PyData.eqvAll (xs.map dPr) (ys.map dPr)) = _
    rw [eqv_pr, eqvAll_prs xs ys]
    simp [Bool.decide_and]
theorem lay_all : ∀ (ds : List PyData), (∀ d ∈ ds, d.canLay0 = true) → PyData.canLayAll0 ds = true
  | [], _ => rfl
  | d :: ds, h => by
    show (d.canLay0 && PyData.canLayAll0 ds) = true
    rw [h d List.mem_cons_self, lay_all ds fun e he => h e (List.mem_cons_of_mem _ he)] <;> rfl
theorem depth_all {n : Nat} : ∀ (ds : List PyData), (∀ d ∈ ds, d.depth ≤ n) → PyData.depthAll ds ≤ n
  | [], _ => Nat.zero_le _
  | d :: ds, h => by
    show max d.depth (PyData.depthAll ds) ≤ n
    have h1 := h d List.mem_cons_self
    have h2 := depth_all ds fun e he => h e (List.mem_cons_of_mem _ he)
    omega
theorem shaped_of {d : PyData} (h1 : d.canLay0 = true) (h2 : d.depth ≤ 64) : SeqAt.shaped d = true := by
  unfold SeqAt.shaped
  rw [h1, decide_eq_true h2] <;> rfl
theorem pr_lay {o : PySem.Str × PySem.Str} (h1 : TxOk o.1) (h2 : TxOk o.2) : (dPr o).canLay0 = true := by
  show ((PyData.str o.1).canLay0 && ((PyData.str o.2).canLay0 && true)) = true
  rw [h1, h2] <;> rfl
theorem pr_depth (o : PySem.Str × PySem.Str) : (dPr o).depth ≤ 1 := by
  show max 0 (max 0 0) + 1 ≤ 1
  decide
theorem shaped_txt {x : PySem.Str} (h : TxOk x) : SeqAt.shaped (.str x) = true := shaped_of h (by show 0 ≤ 64; decide)
theorem shaped_ltx {ss : List PySem.Str} (h : ∀ x ∈ ss, TxOk x) : SeqAt.shaped (.list (ss.map PyData.str)) = true := by
  refine shaped_of (lay_all _ fun d hd => ?_) ?_
  · obtain ⟨x, hx, rfl⟩ := List.mem_map.mp hd
    exact h x hx
  · show PyData.depthAll _ + 1 ≤ 64
    have := depth_all (n := 0) (ss.map PyData.str) fun d hd => by obtain ⟨x, hx, rfl⟩ := List.mem_map.mp hd; exact Nat.le_refl _
    omega
theorem shaped_pr {o : PySem.Str × PySem.Str} (h1 : TxOk o.1) (h2 : TxOk o.2) : SeqAt.shaped (dPr o) = true := shaped_of (pr_lay h1 h2) (by have := pr_depth o; omega)
theorem lay_prs {os : List (PySem.Str × PySem.Str)} (h : ∀ o ∈ os, TxOk o.1 ∧ TxOk o.2) : PyData.canLayAll0 (os.map dPr) = true := lay_all _ fun d hd => by
  obtain ⟨o, ho, rfl⟩ := List.mem_map.mp hd
  exact pr_lay (h o ho).1 (h o ho).2
theorem depth_prs (os : List (PySem.Str × PySem.Str)) : PyData.depthAll (os.map dPr) ≤ 1 := depth_all _ fun d hd => by
  obtain ⟨o, _, rfl⟩ := List.mem_map.mp hd
  exact pr_depth o
theorem shaped_lpr {os : List (PySem.Str × PySem.Str)} (h : ∀ o ∈ os, TxOk o.1 ∧ TxOk o.2) : SeqAt.shaped (.list (os.map dPr)) = true :=
  shaped_of (lay_prs h) (by show PyData.depthAll _ + 1 ≤ 64; have := depth_prs os; omega)
theorem shaped_tpr {os : List (PySem.Str × PySem.Str)} (h : ∀ o ∈ os, TxOk o.1 ∧ TxOk o.2) : SeqAt.shaped (.tuple (os.map dPr)) = true :=
  shaped_of (lay_prs h) (by show PyData.depthAll _ + 1 ≤ 64; have := depth_prs os; omega)
section
variable {K : PySem.W.Frag} {H : Hp}
theorem dp_txts : ∀ (ss : List PySem.Str), DpAll K H (ss.map V.str) (ss.map PyData.str)
  | [] => .nil
  | x :: ss => .cons (.str x) (dp_txts ss)
theorem dp_pr {b : Addr} {o : PySem.Str × PySem.Str} (h : SqT K H b [.str o.1, .str o.2]) : Dp K H (.ref b) (dPr o) := .tup h (.cons (.str _) (.cons (.str _) .nil))
theorem dp_prs : ∀ {os : List (PySem.Str × PySem.Str)} {cs : List Addr}, Paired (fun o b => SqT K H b [.str o.1, .str o.2]) os cs → DpAll K H (cs.map V.ref) (os.map dPr)
  | _, _, .nil => .nil
  | _, _, .cons h t => .cons (dp_pr h) (dp_prs t)
end
theorem any_prs (os : List (PySem.Str × PySem.Str)) (o : PySem.Str × PySem.Str) : ((os.map dPr).any fun z => PyData.eqv z (dPr o)) = decide (o ∈ os) := by
  rw [List.any_map]
  by_cases h : o ∈ os
  · rw [decide_eq_true h, List.any_eq_true]
    exact ⟨o, h, by show PyData.eqv (dPr o) (dPr o) = true; rw [eqv_pr]; simp⟩
  · rw [decide_eq_false h, List.any_eq_false]
    intro p hp
    show ¬ PyData.eqv (dPr p) (dPr o) = true
    rw [eqv_pr]
    intro z
    exact h (of_decide_eq_true z ▸ hp)
end Rs
set_option Elab.async false
set_option linter.all false
set_option maxRecDepth 100000
set_option maxHeartbeats 2000000
namespace Rs
open PySem PySem.Spec PyProof.Rows L2
local macro_rules | `(tactic| walk_at "rd") => `(tactic| simp only [L2.tRet, L2.tRetN, L2.tSeq, L2.tNext, L2.tIfS, L2.tAsg, L2.gName, L2.gNil, L2.gCons, L2.tVar, L2.tC, L2.tOp, L2.tUn, L2.tCB, L2.tCons, L2.tNil, L2.tAndV, L2.tOrV, L2.tNotV, L2.tAnd, L2.tOr, L2.tNot, L2.tB, L2.tTest, L2.tIf, L2.tChain, L2.tTup, L2.tLst, L2.tDrop, L2.tFld, L2.sFld, L2.tOst, L2.tBM, L2.rNe, L2.tMkO, L2.start, L2.cxOf, L2.Cx.nox, L2.Cx.wish, L2.rI0, L2.rI, L2.tYes, Rs.tCalW, List.getElem?_cons_zero, List.getElem?_cons_succ, Option.some.injEq, exists_eq_left', exists_eq_left, exists_and_left, List.cons.injEq, and_true, true_and, L2.V.bl.injEq, L2.V.int.injEq, L2.V.str.injEq, L2.V.ref.injEq, List.set_cons_zero, List.set_cons_succ, List.map_cons, List.map_nil, List.length_cons, List.length_nil, List.replicate, List.cons_append, List.nil_append, List.append_nil, Nat.reduceSub, Nat.reduceAdd])
local macro_rules | `(tactic| walk_at "dn") => `(tactic| dsimp only [L2.tCons, L2.tC, L2.tNil])
section
variable {P : Program} {w : World} {K : PySem.W.Frag} {mg : PySem.Str → Option Value} {base : Heap}
/-! ### kind[thing], thing in kind -/
/-- a tuple of things, as a key of moves -/
def keyV : List V → Option (PySem.Str × PySem.Str)
  | [.str x, .str y] => if isName (.str x) = true ∧ isName (.str y) = true then some (x, y) else none
  | _ => none
theorem keyV_pair {xs : List V} : pairB isName isName xs = (keyV xs).isSome := by
  have other : ∀ v : V, (∀ x, v ≠ .str x) → isName v = false := fun v h => by
    cases v <;> first | rfl | exact absurd rfl (h _)
  match xs with
  | [] => rfl
  | [_] =>
    rw [pairB_no (by simp)]
    unfold keyV
    split <;> first | rfl | (rename_i h; simp at h)
  | _ :: _ :: _ :: _ =>
    rw [pairB_no (by simp)]
    unfold keyV
    split <;> first | rfl | (rename_i h; simp at h)
  | [a, b] =>
    by_cases ha : ∃ x, a = .str x
    · obtain ⟨x, rfl⟩ := ha
      by_cases hb : ∃ y, b = .str y
      · obtain ⟨y, rfl⟩ := hb
        show (isName (.str x) && isName (.str y)) = (if isName (.str x) = true ∧ isName (.str y) = true then some (x, y) else none).isSome
        by_cases h : isName (.str x) = true ∧ isName (.str y) = true
        · rw [if_pos h, h.1, h.2] <;> rfl
        · rw [if_neg h]
          cases e1 : isName (.str x) with
          | false => rfl
          | true =>
            cases e2 : isName (.str y) with
            | false => rfl
            | true => exact absurd ⟨e1, e2⟩ h
      · have e := other b fun y z => hb ⟨y, z⟩
        have k : keyV [.str x, b] = none := by
          unfold keyV
          split
          · rename_i h; exact absurd ⟨_, (List.cons.inj (List.cons.inj h).2).1⟩ hb
          · rfl
        rw [k]
        show (isName (.str x) && isName b) = false
        rw [e, Bool.and_false]
    · have e := other a fun y z => ha ⟨y, z⟩
      have k : keyV [a, b] = none := by
        unfold keyV
        split
        · rename_i h; exact absurd ⟨_, (List.cons.inj h).1⟩ ha
        · rfl
      rw [k]
      show (isName a && isName b) = false
      rw [e, Bool.false_and]
theorem keyV_some {xs : List V} {k : PySem.Str × PySem.Str} (h : keyV xs = some k) : xs = [.str k.1, .str k.2] := by
  unfold keyV at h
  split at h
  · split at h
    · cases Option.some.inj h; rfl
    · cases h
  · cases h
/-- what is asked of a kind: a tuple that is tracked, or no tuple -/
def Asked (K : PySem.W.Frag) (H : Hp) (v : V) (k : Option (PySem.Str × PySem.Str)) : Prop := (∃ n, Srt K H v n ∧ n ≠ "tuple" ∧ k = none) ∨ ∃ b xs, v = .ref b ∧ H b = some (.tup xs) ∧ (xs.length = 2 → ∀ x ∈ xs, Any K H x) ∧ k = keyV xs
def sp_getA (K : PySem.W.Frag) : Sp := fun vs H Q _ => ∃ p kd v k, vs = [.ref p, v] ∧ KindAt K H p kd ∧ Asked K H v k ∧
  ∀ H', Same H H' → match k.bind (look kd.tab) with
    | none => Q .non H'
    | some os => ∀ t, OutsAt K H' t os → Q (.ref t) H'
theorem ok_getA (T : Txt K mg) : CalD P w K mg base 4 (kC K) "__getitem__" ["self", "at"] (sp_getA K) := by
  have c_is_key := ok_is_key (P := P) (w := w) (base := base) T
  obtain ⟨fd, F⟩ := T.d_Kind_getitem
  refine ⟨_, fd, ?_, T.du_Kind_getitem, F.bindsN fun _ _ _ _ _ _ us hl => match us, hl with | [_, _], _ => rfl⟩
  refine F.ok sc_Kind_getitem (fun vs H Q E h => ?_) (fun cdv A outer s H vs Q E hr h => ?_)
  · obtain ⟨p, kd, v, k, rfl, _⟩ := h
    rfl
  · have hu := hu_of hr
    refine ⟨_, PSs.nox (pss_one (ps_ret (pe_ifExp (pt_val (pe_cal c_is_key (hr.mono (by decide)) takes0 (pa_cons (pv 1) pa_nil))) (pe_dget1 hu (pe_fld (pv 0) rfl) (pv 1) ⟨rfl, rfl, rfl, rfl⟩) pe_non))), ?_⟩
    obtain ⟨p, kd, v, k, rfl, ⟨dx, ea, tb, ho, he, ht⟩, hv, q⟩ := h
    walk_at "rd"
    rcases hv with ⟨n, sr, hn, rfl⟩ | ⟨b, xs, rfl, hb, hx, rfl⟩
    · refine ⟨v, n, rfl, sr, .inl ⟨hn, fun H1 s1 => ⟨_, rfl, ?_⟩⟩⟩
      rw [if_neg (by decide)]
      exact q H1 s1
    · refine ⟨.ref b, _, rfl, srt_tup hb, .inr ⟨b, _, rfl, SqT.of hb, hx, fun H1 s1 => ⟨_, rfl, ?_⟩⟩⟩
      have q1 := q H1 s1
      obtain ⟨kvs, htb, hpt, nd, _⟩ := id ht
      rw [keyV_pair]
      cases ek : keyV xs with
      | none =>
        rw [if_neg (by decide)]
        rw [ek] at q1
        exact q1
      | some k =>
        rw [if_pos (show (some k).isSome = true from rfl)]
        rw [ek] at q1
        obtain rfl := keyV_some ek
        refine ⟨_, rfl, p, kC K, dx, _, _, rfl, s1 _ _ ho, T.cl_Kind, T.no_Kind_table, rfl, tb, rfl, .inr ⟨kvs, .inl (s1 _ _ htb)⟩, _, rfl, _, .inr ⟨kvs, [Sum.inr k.1, Sum.inr k.2], b, .inl (s1 _ _ htb), rfl, s1 _ _ hb, rfl⟩, ?_⟩
        have tl := tab_look hpt k.1 k.2
        have q1 : match look kd.tab (k.1, k.2) with
          | none => Q .non H1
          | some os => ∀ t, OutsAt K H1 t os → Q (.ref t) H1 := q1
        cases e : look kd.tab (k.1, k.2) with
        | none =>
          rw [e] at tl q1
          rw [show valV kvs [Sum.inr k.1, Sum.inr k.2] = none from tl]
          exact q1
        | some os =>
          rw [e] at tl q1
          obtain ⟨t, e1, e2⟩ := tl
          rw [e1]
          exact q1 t (e2.same s1)
def sp_hasA (K : PySem.W.Frag) : Sp := fun vs H Q _ => ∃ p kd v k, vs = [.ref p, v] ∧ KindAt K H p kd ∧ Asked K H v k ∧ ∀ H', Same H H' → Q (.bl (k.bind (look kd.tab)).isSome) H'
theorem ok_hasA (T : Txt K mg) : CalD P w K mg base 4 (kC K) "__contains__" ["self", "at"] (sp_hasA K) := by
  have c_is_key := ok_is_key (P := P) (w := w) (base := base) T
  obtain ⟨fd, F⟩ := T.d_Kind_contains
  refine ⟨_, fd, ?_, T.du_Kind_contains, F.bindsN fun _ _ _ _ _ _ us hl => match us, hl with | [_, _], _ => rfl⟩
  refine F.ok sc_Kind_contains (fun vs H Q E h => ?_) (fun cdv A outer s H vs Q E hr h => ?_)
  · obtain ⟨p, kd, v, k, rfl, _⟩ := h
    rfl
  · have hu := hu_of hr
    refine ⟨_, PSs.nox (pss_one (ps_ret (pe_and (pe_cal c_is_key (hr.mono (by decide)) takes0 (pa_cons (pv 1) pa_nil)) (pe_one (pe_cmp (pc_din hu (pv 1) (pe_fld (pv 0) rfl)) rfl))))), ?_⟩
    obtain ⟨p, kd, v, k, rfl, ⟨dx, ea, tb, ho, he, ht⟩, hv, q⟩ := h
    walk_at "rd"
    rcases hv with ⟨n, sr, hn, rfl⟩ | ⟨b, xs, rfl, hb, hx, rfl⟩
    · refine ⟨v, n, rfl, sr, .inl ⟨hn, fun H1 s1 => ⟨_, rfl, ?_⟩⟩⟩
      rw [if_neg (by decide)]
      exact q H1 s1
    · refine ⟨.ref b, _, rfl, srt_tup hb, .inr ⟨b, _, rfl, SqT.of hb, hx, fun H1 s1 => ⟨_, rfl, ?_⟩⟩⟩
      have q1 := q H1 s1
      obtain ⟨kvs, htb, hpt, nd, _⟩ := id ht
      rw [keyV_pair]
      cases ek : keyV xs with
      | none =>
        rw [if_neg (by decide)]
        rw [ek] at q1
        exact q1
      | some k =>
        rw [if_pos (show (some k).isSome = true from rfl)]
        rw [ek] at q1
        obtain rfl := keyV_some ek
        refine ⟨_, rfl, _, rfl, p, kC K, dx, _, _, rfl, s1 _ _ ho, T.cl_Kind, T.no_Kind_table, rfl, tb, _, rfl, .inr ⟨kvs, [Sum.inr k.1, Sum.inr k.2], b, .inl (s1 _ _ htb), rfl, s1 _ _ hb, rfl⟩, ?_⟩
        have tl := tab_look hpt k.1 k.2
        have q1 : Q (.bl (look kd.tab (k.1, k.2)).isSome) H1 := q1
        cases e : look kd.tab (k.1, k.2) with
        | none =>
          rw [e] at tl q1
          rw [show valV kvs [Sum.inr k.1, Sum.inr k.2] = none from tl]
          exact q1
        | some os =>
          rw [e] at tl q1
          obtain ⟨t, e1, e2⟩ := tl
          rw [e1]
          exact q1
/-! ### kind == thing -/
def kdB (a b : KD) : Bool := decide (a.name = b.name) && (decide (a.start = b.start) && (decide (a.ends = b.ends) && decide (a.tab = b.tab)))
theorem kdB_self (a : KD) : kdB a a = true := by simp [kdB]
structure KdTx (kd : KD) : Prop where
  ends : ∀ x ∈ kd.ends, TxOk x
  tab : ∀ m ∈ kd.tab, ∀ o ∈ m.2, TxOk o.1 ∧ TxOk o.2
/-- a thing that is compared with a kind -/
def Other (K : PySem.W.Frag) (H : Hp) (kd : KD) (y : V) (r : Bool) : Prop := (∃ n, Ty2 K H y (.type n) ∧ n ∈ sorts ∧ r = false) ∨ ∃ q kd', y = .ref q ∧ KindAt K H q kd' ∧ KdTx kd' ∧ (kd.tab.length ≠ kd'.tab.length ∨ kd.tab = kd'.tab) ∧ r = kdB kd kd'
theorem shaped_ttx' {ss : List PySem.Str} (h : ∀ x ∈ ss, TxOk x) : SeqAt.shaped (.tuple (ss.map PyData.str)) = true := by
  refine shaped_of (lay_all _ fun d hd => ?_) ?_
  · obtain ⟨x, hx, rfl⟩ := List.mem_map.mp hd
    exact h x hx
  · show PyData.depthAll _ + 1 ≤ 64
    have := depth_all (n := 0) (ss.map PyData.str) fun d hd => by obtain ⟨x, hx, rfl⟩ := List.mem_map.mp hd; exact Nat.le_refl _
    omega
theorem Ty2.x {H : Hp} {y : V} {n : String} (h : Ty2 K H y (.type n)) : TyX K H y (.type n) := by
  generalize et : Value.type n = t at h
  cases h with
  | non => exact .base .non
  | bl b => exact .base (.bl b)
  | int i => exact .base (.int i)
  | str z => exact .base (.str z)
  | lst e => exact .base (.lst e)
  | tup e => exact .base (.tup e)
  | dT e => exact .base (.dT e)
  | ins e => cases et
theorem kno (T : Txt K mg) {n : String} (h : n ∈ sorts) : PySem.W.kitOne K (.type n) (.ref (kC K)) = some false := by
  simp only [sorts, List.mem_cons, List.not_mem_nil, or_false] at h
  rcases h with rfl | rfl | rfl | rfl | rfl | rfl | rfl
  · exact T.kno_NoneType
  · exact T.kno_bool
  · exact T.kno_int
  · exact T.kno_str
  · exact T.kno_list
  · exact T.kno_tuple
  · exact T.kno_dict
theorem outs_dp {H : Hp} {t : Addr} {os : Outs} (h : OutsAt K H t os) : Dp K H (.ref t) (.tuple (os.map dPr)) := let ⟨_, h1, h2⟩ := h; .tup h1 (dp_prs h2)
theorem tab_deq {H : Hp} {tab tab' : List Mv} {ks ls : TK} (h1 : Paired (TabE K H) tab ks) (h2 : Paired (TabE K H) tab' ls) (nd : (tab'.map (·.1)).Nodup) (tx : ∀ m ∈ tab, ∀ o ∈ m.2, TxOk o.1 ∧ TxOk o.2) (e : tab.length ≠ tab'.length ∨ tab = tab') : DEq K H ks ls (decide (tab = tab')) := by
  have l1 := Paired.length h1
  have l2 := Paired.length h2
  rcases e with e | e
  · refine .inl ⟨by omega, decide_eq_false fun z => e (by rw [z])⟩
  · subst e
    refine .inr ⟨by omega, decide_eq_true rfl, fun p hp => ?_⟩
    obtain ⟨i, hi⟩ := List.getElem?_of_mem hp
    obtain ⟨m, hm, e1, t, e2, ho⟩ := Paired.at h1 hi
    obtain ⟨kv, hkv, f1, t', f2, ho'⟩ := Paired.atL h2 hm
    have tm := tx m (List.mem_of_getElem? hm)
    have sh : SeqAt.shaped (.tuple (m.2.map dPr)) = true := shaped_tpr tm
    refine ⟨kv.2, _, _, ?_, by rw [e2]; exact outs_dp ho, by rw [f2]; exact outs_dp ho', sh, sh, ?_⟩
    · rw [e1, ← f1]
      exact valV_nd (tab_nodup h2 nd) (List.mem_of_getElem? hkv)
    · show PyData.eqvAll _ _ = true
      rw [eqvAll_prs]
      exact decide_eq_true rfl
def sp_eq (K : PySem.W.Frag) : Sp := fun vs H Q _ => ∃ p kd y r, vs = [.ref p, y] ∧ KindAt K H p kd ∧ KdTx kd ∧ Other K H kd y r ∧ Q (.bl r) H
theorem ok_eq (T : Txt K mg) : CalD P w K mg base 1 (kC K) "__eq__" ["self", "other"] (sp_eq K) := by
  obtain ⟨fd, F⟩ := T.d_Kind_eq
  refine ⟨_, fd, ?_, T.du_Kind_eq, F.bindsN fun _ _ _ _ _ _ us hl => match us, hl with | [_, _], _ => rfl⟩
  refine F.ok sc_Kind_eq (fun vs H Q E h => ?_) (fun cdv A outer s H vs Q E hr h => ?_)
  · obtain ⟨p, kd, y, r, rfl, _⟩ := h
    rfl
  · have hu65 : (A.deeper (envOfC "Kind.__eq__" (defScope s_Kind_eq) s.heap.objs.size (He.ma K (He.ga K "Kind") "__eq__") cdv)).units + 65 < cLine := by have := hr.un; omega
    refine ⟨_, PSs.nox (pss_one (ps_ret (pe_and (pe_callB (r := rIsi K) call_isi rfl T.b_isinstance (by decide +kernel) (pa_cons (pv 1) (pa_cons (pe_glob (v := .ref (He.ga K "Kind")) rfl T.g_Kind rfl) pa_nil))) (pe_and (pe_cmpR op_eq (pe_fld (pv 0) rfl) (pe_fld (pv 1) rfl) (nomark _)) (pe_and (pe_cmpR op_eq (pe_fld (pv 0) rfl) (pe_fld (pv 1) rfl) (nomark _)) (pe_and (pe_cmpR (op_eqD hr.units) (pe_fld (pv 0) rfl) (pe_fld (pv 1) rfl) (nomark _)) (pe_one (pe_cmpR (op_eqDT hu65) (pe_fld (pv 0) rfl) (pe_fld (pv 1) rfl) (nomark _))))))))), ?_⟩
    obtain ⟨p, kd, y, r, rfl, ⟨dx, ea, tb, ho, he, kvs, htb, hpt, nd, _⟩, tx, oth, q⟩ := h
    walk_at "rd"
    rcases oth with ⟨n, ty, hn, rfl⟩ | ⟨b, kd', rfl, hk', tx', hl, rfl⟩
    · refine ⟨y, .ref (kC K), _, _, false, rfl, .own _, ty.x, kno T hn, _, rfl, ?_⟩
      rw [if_neg (by decide)]
      exact q
    · obtain ⟨dx', ea', tb', ho', he', kvs', htb', hpt', nd', _⟩ := id hk'
      refine ⟨.ref b, .ref (kC K), .ref (kC K), .ref (kC K), true, rfl, .own _, .base (.ins ho' T.cl_Kind T.cla_Kind T.clg T.clt T.mro_Kind), T.kit_Kind_Kind, _, rfl, ?_⟩
      rw [if_pos rfl]
      unfold kdB at q
      have dv : ∀ x y : PySem.Str, decide (V.str x = V.str y) = decide (x = y) := fun x y => by
        by_cases e : x = y
        · subst e; simp
        · rw [decide_eq_false e, decide_eq_false fun z => e (V.str.inj z)]
      refine ⟨kC K, dx, _, ho, T.cl_Kind, T.no_Kind_called, _, rfl, b, rfl, kC K, dx', _, ho', T.cl_Kind, T.no_Kind_called, _, rfl, rfl, _, rfl, ?_⟩
      rw [dv]
      by_cases e1 : kd.name = kd'.name
      case neg =>
        rw [decide_eq_false e1] at q ⊢
        exact q
      rw [decide_eq_true e1, Bool.true_and] at q
      rw [decide_eq_true e1, if_pos rfl]
      refine ⟨kC K, dx, _, ho, T.cl_Kind, T.no_Kind_begin, _, rfl, b, rfl, kC K, dx', _, ho', T.cl_Kind, T.no_Kind_begin, _, rfl, rfl, _, rfl, ?_⟩
      rw [dv]
      by_cases e2 : kd.start = kd'.start
      case neg =>
        rw [decide_eq_false e2] at q ⊢
        exact q
      rw [decide_eq_true e2, Bool.true_and] at q
      rw [decide_eq_true e2, if_pos rfl]
      refine ⟨kC K, dx, _, ho, T.cl_Kind, T.no_Kind_last, _, rfl, b, rfl, kC K, dx', _, ho', T.cl_Kind, T.no_Kind_last, _, rfl, .tuple (kd.ends.map PyData.str), .tuple (kd'.ends.map PyData.str), .tup he (dp_txts _), .tup he' (dp_txts _), shaped_ttx' tx.ends, shaped_ttx' tx'.ends, _, rfl, ?_⟩
      rw [show PyData.eqv (.tuple (kd.ends.map PyData.str)) (.tuple (kd'.ends.map PyData.str)) = decide (kd.ends = kd'.ends) from eqvAll_txts _ _]
      by_cases e3 : kd.ends = kd'.ends
      case neg =>
        rw [decide_eq_false e3] at q ⊢
        exact q
      rw [decide_eq_true e3, Bool.true_and] at q
      rw [decide_eq_true e3, if_pos rfl]
      exact ⟨kC K, dx, _, ho, T.cl_Kind, T.no_Kind_table, _, rfl, b, rfl, kC K, dx', _, ho', T.cl_Kind, T.no_Kind_table, _, rfl, tb, tb', kvs, kvs', _, rfl, rfl, .inl htb, .inl htb', tab_deq hpt hpt' nd' tx.tab hl, q⟩
end
end Rs
set_option Elab.async false
set_option linter.all false
set_option maxRecDepth 100000
set_option maxHeartbeats 2000000
namespace Rs
open PySem PySem.Spec PyProof.Rows L2
local macro_rules | `(tactic| walk_at "rd") => `(tactic| simp only [L2.tRet, L2.tRetN, L2.tSeq, L2.tNext, L2.tIfS, L2.tAsg, L2.gName, L2.gNil, L2.gCons, L2.tVar, L2.tC, L2.tOp, L2.tUn, L2.tCB, L2.tCons, L2.tNil, L2.tAndV, L2.tOrV, L2.tNotV, L2.tAnd, L2.tOr, L2.tNot, L2.tB, L2.tTest, L2.tIf, L2.tChain, L2.tTup, L2.tLst, L2.tDrop, L2.tFld, L2.sFld, L2.tOst, L2.tBM, L2.rNe, L2.tMkO, L2.start, L2.cxOf, L2.Cx.nox, L2.Cx.wish, L2.rI0, L2.rI, L2.tYes, Rs.tCalW, List.getElem?_cons_zero, List.getElem?_cons_succ, Option.some.injEq, exists_eq_left', exists_eq_left, exists_and_left, List.cons.injEq, and_true, true_and, L2.V.bl.injEq, L2.V.int.injEq, L2.V.str.injEq, L2.V.ref.injEq, List.set_cons_zero, List.set_cons_succ, List.map_cons, List.map_nil, List.length_cons, List.length_nil, List.replicate, List.cons_append, List.nil_append, List.append_nil, Nat.reduceSub, Nat.reduceAdd])
local macro_rules | `(tactic| walk_at "dn") => `(tactic| dsimp only [L2.tCons, L2.tC, L2.tNil])
section
variable {P : Program} {w : World} {K : PySem.W.Frag} {mg : PySem.Str → Option Value} {base : Heap}
/-! ### drawn numbers -/
def rInt1 : List V → Hp → VK → Prop := fun xs H Q => ∃ i, xs = [.int i] ∧ Q (.int i) H
theorem call_intI {X : Cx} : CallR X (.type "int") rInt1 := fun pins s σ H xs us Q I r h => call_int1 pins s σ H xs us Q I r (.inl h)
def rIntB : List V → Hp → VK → Prop := fun xs H Q => ∃ k, xs = [.bl k] ∧ Q (.int (if k then 1 else 0)) H
theorem call_intB {X : Cx} : CallR X (.type "int") rIntB := fun pins s σ H xs us Q I r h => call_int1 pins s σ H xs us Q I r (.inr h)
def Src3 (o : HO) : Prop := ∃ x y z : Int, o = .lst [.int x, .int y, .int z]
def sp_next (K : PySem.W.Frag) : Sp := fun vs H Q _ => ∃ (a : Addr) (x y z many : Int), vs = [.ref a, .int many] ∧ H a = some (.lst [.int x, .int y, .int z]) ∧ 0 < many ∧ many.natAbs.log2 < 9000 ∧ ∀ r o, Src3 o → 0 ≤ r → r < many → Q (.int r) (upd H a o)
theorem ok_draw (T : Txt K mg) : Cal P w K mg base 1 "_law_draw" ["_law_well", "_law_many"] (sp_next K) := by
  obtain ⟨fd, F⟩ := T.d_l_draw
  refine cal_of F T.g_law_draw (F.bindsN fun _ _ _ _ _ _ us hl => match us, hl with | [_, _], _ => rfl) ?_
  refine F.ok sc_l_draw (fun vs H Q E h => ?_) (fun cdv A outer s H vs Q E hr h => ?_)
  · obtain ⟨a, x, y, z, many, rfl, _⟩ := h
    rfl
  · have hu := hu_of hr
    refine ⟨_, PSs.nox (pss_cons (ps_if (pt_cmpR op_gt (pe_ix (r := rIxL K) ix_list (pv 0) pe_int (fun _ _ => rfl)) pe_int (nomark _)) (pss_cons (ps_set (i := 2) sc_l_draw.nd rfl (Or.inl rfl) (pe_op op_mod (pe_callTy (r := rInt1) call_intI rfl T.b_int (by decide +kernel) (pa_cons (pe_ix (r := rIxL K) ix_list (pv 0) pe_int (fun _ _ => rfl)) pa_nil)) (pv 1)))
      (pss_cons (ps_asg (pe_op op_fdivW (pe_ix (r := rIxL K) ix_list (pv 0) pe_int (fun _ _ => rfl)) (pv 1)) (pg_sub (pv 0) pe_int set_list))
      (pss_one (ps_ret (pv 2))))) pss_nil)
      (pss_cons (ps_asg (pe_op op_add (pe_ix (r := rIxL K) ix_list (pv 0) pe_int (fun _ _ => rfl)) pe_int) (pg_sub (pv 0) pe_int set_list))
      (pss_cons (ps_set (i := 3) sc_l_draw.nd rfl (Or.inl rfl) (pe_op op_mod (pe_callTy (r := rInt1) call_intI rfl T.b_int (by decide +kernel) (pa_cons (pe_op op_mul (pe_op op_add (pe_op op_add (pe_ix (r := rIxL K) ix_list (pv 0) pe_int (fun _ _ => rfl)) (pe_op op_mul pe_int (pe_ix (r := rIxL K) ix_list (pv 0) pe_int (fun _ _ => rfl)))) pe_int) pe_int) pa_nil)) pe_int))
      (pss_cons (ps_set (i := 3) sc_l_draw.nd rfl (Or.inl rfl) (pe_op op_mod (pe_callTy (r := rInt1) call_intI rfl T.b_int (by decide +kernel) (pa_cons (pe_op op_mul (pv 3) (pe_op op_add (pe_op op_add (pe_op op_fdivW (pv 3) pe_int) pe_int) (pe_ix (r := rIxL K) ix_list (pv 0) pe_int (fun _ _ => rfl)))) pa_nil)) pe_int))
      (pss_one (ps_ret (pe_op op_mod (pe_callTy (r := rInt1) call_intI rfl T.b_int (by decide +kernel) (pa_cons (pe_op op_fdivW (pe_op op_mod (pe_callTy (r := rInt1) call_intI rfl T.b_int (by decide +kernel) (pa_cons (pe_op op_mul (pv 3) (pe_op op_add (pe_op op_fdivW (pv 3) pe_int) pe_int)) pa_nil)) pe_int) pe_int) pa_nil)) (pv 1)))))))), ?_⟩
    obtain ⟨a, x, y, z, many, rfl, ha, hm, hl, q⟩ := h
    walk_at "rd"
    refine ⟨a, _, 0, _, rfl, rfl, SqL.of ha, rfl, x, rfl, ?_⟩
    by_cases hx : 0 < x
    · rw [if_pos (decide_eq_true hx)]
      refine ⟨a, _, 0, _, rfl, rfl, SqL.of ha, rfl, x, rfl, x, rfl, hm, a, _, 0, _, rfl, rfl, SqL.of ha, rfl, x, rfl, ⟨hm, hl⟩, ?_⟩
      exact ⟨_, rfl, a, _, 0, 0, rfl, rfl, ha, rfl, _, rfl, q _ _ ⟨_, _, _, rfl⟩ (Int.emod_nonneg _ (by omega)) (Int.emod_lt_of_pos _ hm)⟩
    · rw [if_neg (by simpa using hx)]
      refine ⟨a, _, 2, _, rfl, rfl, SqL.of ha, rfl, z, rfl, _, rfl, a, _, 2, 2, rfl, rfl, ha, rfl, ?_⟩
      have ha2 : (upd H a (.lst ([V.int x, V.int y, V.int z].set 2 (.int (z + 1))))) a = some (.lst [.int x, .int y, .int (z + 1)]) := upd_same
      walk_at "rd"
      have small : ∀ (i j : Int), 0 < j → j < 2147483648 → -(2 ^ 64) < i % j ∧ i % j < 2 ^ 64 := fun i j h1 h2 => ⟨by have := Int.emod_nonneg i (b := j) (by omega); omega, by have := Int.emod_lt_of_pos i (b := j) h1; omega⟩
      have dv : ∀ i j : Int, 0 < j → j < 4000 → CDivW i j := fun i j h1 h2 => ⟨h1, by
        have h3 : j.natAbs < 2 ^ 12 := by omega
        have := Nat.log2_lt (n := j.natAbs) (k := 12) (by omega) |>.mpr h3
        omega⟩
      refine ⟨a, _, 1, _, rfl, rfl, SqL.of ha2, rfl, a, _, 2, _, rfl, rfl, SqL.of ha2, rfl, _, rfl, .inl ⟨by decide, by decide⟩, _, rfl, .inr ⟨by decide, by decide⟩, _, rfl, _, rfl, by decide, dv _ _ (by decide) (by decide), ?_⟩
      refine ⟨a, _, 2, _, rfl, rfl, SqL.of ha2, rfl, _, rfl, .inl (small _ _ (by decide) (by decide)), _, rfl, _, rfl, by decide, dv _ _ (by decide) (by decide), .inl (small _ _ (by decide) (by decide)), _, rfl, _, rfl, by decide, dv _ _ (by decide) (by decide), _, rfl, _, rfl, hm, ?_⟩
      exact q _ _ ⟨_, _, _, rfl⟩ (Int.emod_nonneg _ (by omega)) (Int.emod_lt_of_pos _ hm)
theorem log_small {j : Int} (h : j.natAbs < 2 ^ 200) : j.natAbs.log2 < 9000 := by
  by_cases e : j.natAbs = 0
  · rw [e]; decide
  · have := (Nat.log2_lt e).mpr h
    omega
def sp_source_of (K : PySem.W.Frag) : Sp := fun vs H Q _ => ∃ (c : Int), vs = [.int c] ∧ ∀ l o, H l = none → Src3 o → Q (.ref l) (upd H l o)
theorem ok_source (T : Txt K mg) : Cal P w K mg base 1 "_law_source" ["_law_cell"] (sp_source_of K) := by
  obtain ⟨fd, F⟩ := T.d_l_source
  refine cal_of F T.g_law_source (F.bindsN fun _ _ _ _ _ _ us hl => match us, hl with | [_], _ => rfl) ?_
  refine F.ok sc_l_source (fun vs H Q E h => ?_) (fun cdv A outer s H vs Q E hr h => ?_)
  · obtain ⟨c, rfl, _⟩ := h
    rfl
  · have hu := hu_of hr
    refine ⟨_, PSs.nox (pss_cons (ps_set (i := 1) sc_l_source.nd rfl (Or.inl rfl) (pe_ifExp (pt_cmpR op_ge (pv 0) pe_int (nomark _)) (pv 0) (pe_op op_sub (pe_op op_sub pe_int (pe_op op_mul pe_int (pv 0))) pe_int)))
      (pss_one (ps_ret (pe_lst (pa_cons (pe_op op_mul (pv 1) (pe_callTy (r := rIntB) call_intB rfl T.b_int (by decide +kernel) (pa_cons (pe_cmpR op_ge (pv 1) (pe_op op_pow pe_int pe_int) (nomark _)) pa_nil))) (pa_cons (pe_op op_mod (pe_callTy (r := rInt1) call_intI rfl T.b_int (by decide +kernel) (pa_cons (pv 1) pa_nil)) pe_int) (pa_cons pe_int pa_nil))))))), ?_⟩
    obtain ⟨c, rfl, q⟩ := h
    walk_at "rd"
    have hp : CPow 10 18 := ⟨by decide, by decide, by decide⟩
    have one : ∀ (c : Int) (k : Bool), CMul c (if k = true then 1 else 0) := fun c k => .inr (by cases k <;> decide)
    refine ite2 (fun e => ?_) (fun e => ?_)
    · exact ⟨hp, _, rfl, _, rfl, one _ _, _, rfl, _, rfl, by decide, by decide, fun p hn => q p _ hn ⟨_, _, _, rfl⟩⟩
    · exact ⟨.inl ⟨by decide, by decide⟩, hp, _, rfl, _, rfl, one _ _, _, rfl, _, rfl, by decide, by decide, fun p hn => q p _ hn ⟨_, _, _, rfl⟩⟩
/-- one of some -/
def sp_one (K : PySem.W.Frag) : Sp := fun vs H Q _ => ∃ (a b : Addr) (x y z : Int) (xs : List V), vs = [.ref a, .ref b] ∧ H a = some (.lst [.int x, .int y, .int z]) ∧ H b = some (.lst xs) ∧ a ≠ b ∧ xs ≠ [] ∧ xs.length ≤ 4000 ∧ ∀ (i : Nat) v o, xs[i]? = some v → Src3 o → Q v (upd H a o)
theorem ok_pick (T : Txt K mg) : Cal P w K mg base 2 "_law_pick" ["_law_well", "_law_some"] (sp_one K) := by
  have c_law_draw := ok_draw (P := P) (w := w) (base := base) T
  obtain ⟨fd, F⟩ := T.d_l_pick
  refine cal_of F T.g_law_pick (F.bindsN fun _ _ _ _ _ _ us hl => match us, hl with | [_, _], _ => rfl) ?_
  refine F.ok sc_l_pick (fun vs H Q E h => ?_) (fun cdv A outer s H vs Q E hr h => ?_)
  · obtain ⟨a, b, x, y, z, xs, rfl, _⟩ := h
    rfl
  · have hu := hu_of hr
    refine ⟨_, PSs.nox (pss_one (ps_ret (pe_ix (r := rIxL K) ix_list (pv 1) (pe_cal c_law_draw (hr.mono (by decide)) takes0 (pa_cons (pv 0) (pa_cons (pe_callB (r := rLenQ K) call_lenQ rfl T.b_len (by decide +kernel) (pa_cons (pv 1) pa_nil)) pa_nil))) (fun _ _ => rfl)))), ?_⟩
    obtain ⟨a, b, x, y, z, xs, rfl, ha, hb, ne, hx, hl, q⟩ := h
    walk_at "rd"
    have hpos : 0 < xs.length := List.length_pos_iff.mpr hx
    refine ⟨b, xs, rfl, .inl (SqL.of hb), a, x, y, z, _, rfl, ha, by omega, log_small (by omega), fun r o ho h1 h2 => ?_⟩
    have hlt : r.toNat < xs.length := by omega
    obtain ⟨v, hv⟩ : ∃ v, xs[r.toNat]? = some v := ⟨_, List.getElem?_eq_getElem hlt⟩
    exact ⟨b, xs, r, v, rfl, rfl, SqL.of (by rw [upd_ne ne.symm]; exact hb), by rw [show r = ((r.toNat : Nat) : Int) from (Int.toNat_of_nonneg h1).symm]; exact atI_nat hv, q _ v o hv ho⟩
def Src (a : Addr) (H : Hp) : Prop := ∃ x y z : Int, H a = some (.lst [.int x, .int y, .int z])
theorem Src.upd {a : Addr} {H : Hp} {o : HO} (h : Src3 o) : Src a (L2.upd H a o) := by
  obtain ⟨x, y, z, rfl⟩ := h
  exact ⟨x, y, z, upd_same⟩
theorem Src.new {a p : Addr} {H : Hp} {o : HO} (h : Src a H) (hp : H p = none) : Src a (L2.upd H p o) := by
  obtain ⟨x, y, z, h⟩ := h
  exact ⟨x, y, z, Same.new hp _ _ h⟩
theorem Src.same {a : Addr} {H H' : Hp} (h : Src a H) (e : Same H H') : Src a H' := by
  obtain ⟨x, y, z, h⟩ := h
  exact ⟨x, y, z, e _ _ h⟩
theorem SameX.new {a p : Addr} {H H' : Hp} {o : HO} (h : SameX a H H') (hp : H' p = none) : SameX a H (L2.upd H' p o) := h.trans (SameX.of (Same.new hp))
theorem SameX.free {a p : Addr} {H H' : Hp} (h : SameX a H H') (ha : ∃ u, H a = some u) (ha' : ∃ u, H' a = some u) (hp : H' p = none) : H p = none := by
  cases e : H p with
  | none => rfl
  | some u =>
    by_cases n : p = a
    · subst n
      obtain ⟨u', h'⟩ := ha'
      rw [hp] at h'
      cases h'
    · rw [h p u n e] at hp
      cases hp
theorem Src.has {a : Addr} {H : Hp} (h : Src a H) : ∃ u, H a = some u := let ⟨_, _, _, h⟩ := h; ⟨_, h⟩
/-! what stands while the draws go on -/
theorem SameX.tqL {a b : Addr} {H H' : Hp} {xs zs : List V} (h : SameX a H H') (ha : H a = some (.lst xs)) (q : SqT K H b zs) : SqT K H' b zs := by
  rcases q with (q | ⟨ob, q⟩) | q
  · exact .inl (.inl (h _ _ (ne_of q ha (by intro z; cases z)) q))
  · exact .inl (.inr ⟨ob, h _ _ (ne_of q ha (by intro z; cases z)) q⟩)
  · exact .inr q
theorem SameX.kindL {a k : Addr} {H H' : Hp} {xs : List V} {kd : KD} (h : SameX a H H') (ha : H a = some (.lst xs)) (q : KindAt K H k kd) : KindAt K H' k kd := by
  obtain ⟨d, e, tb, h1, h2, kvs, h3, h4, h5⟩ := q
  refine ⟨d, e, tb, h _ _ (ne_of h1 ha (by intro z; cases z)) h1, h.tqL ha h2, kvs, h _ _ (ne_of h3 ha (by intro z; cases z)) h3, Paired.imp h4 fun _ _ z => ?_, h5⟩
  obtain ⟨z1, t, z2, cs, z3, z4⟩ := z
  exact ⟨z1, t, z2, cs, h.tqL ha z3, Paired.imp z4 fun _ _ y => h.tqL ha y⟩
theorem Srt.srcd {a : Addr} {H H' : Hp} {v : V} {n : String} {xs ys : List V} (e : SameX a H H') (ha : H a = some (.lst xs)) (ha' : H' a = some (.lst ys)) (h : Srt K H v n) : Srt K H' v n := by
  refine ⟨?_, h.2⟩
  have far : ∀ {b : Addr} {u : HO}, H b = some u → (∀ zs, u ≠ .lst zs) → H' b = some u := fun {b u} hb hu => e _ _ (fun z => by subst z; rw [ha] at hb; cases Option.some.inj hb; exact hu _ rfl) hb
  cases h.1 with
  | base b =>
    refine .base ?_
    cases b with
    | non => exact .non
    | bl y => exact .bl y
    | int i => exact .int i
    | str y => exact .str y
    | flt y => exact .flt y
    | @lst b xs ea =>
      by_cases z : b = a
      · subst z; exact .lst ha'
      · exact .lst (e _ _ z ea)
    | frz ea => exact .frz (far ea (by intro zs z; cases z))
    | tup ea => exact .tup (far ea (by intro zs z; cases z))
    | dK ea => exact .dK (far ea (by intro zs z; cases z))
    | dT ea => exact .dT (far ea (by intro zs z; cases z))
  | byt b => exact .byt b
  | set ea => exact .set (far ea (by intro zs z; cases z))
  | kList a c => exact .kList a c
  | kTuple a c => exact .kTuple a c
  | kDict a c => exact .kDict a c
  | fTuple ea => exact .fTuple (far ea (by intro zs z; cases z))
  | fDict ea => exact .fDict (far ea (by intro zs z; cases z))
theorem Srt.src {a : Addr} {H H' : Hp} {v : V} {n : String} (e : SameX a H H') (ha : Src a H) (ha' : Src a H') (h : Srt K H v n) : Srt K H' v n := by
  obtain ⟨_, _, _, ha⟩ := ha
  obtain ⟨_, _, _, ha'⟩ := ha'
  exact Srt.srcd e ha ha' h
end
end Rs
set_option Elab.async false
set_option linter.all false
set_option maxRecDepth 100000
set_option maxHeartbeats 2000000
namespace Rs
open PySem PySem.Spec PyProof.Rows L2
local macro_rules | `(tactic| walk_at "rd") => `(tactic| simp only [L2.tRet, L2.tRetN, L2.tSeq, L2.tNext, L2.tIfS, L2.tAsg, L2.gName, L2.gNil, L2.gCons, L2.tVar, L2.tC, L2.tOp, L2.tUn, L2.tCB, L2.tCons, L2.tNil, L2.tAndV, L2.tOrV, L2.tNotV, L2.tAnd, L2.tOr, L2.tNot, L2.tB, L2.tTest, L2.tIf, L2.tChain, L2.tTup, L2.tLst, L2.tDrop, L2.tFld, L2.sFld, L2.tOst, L2.tBM, L2.rNe, L2.tMkO, L2.start, L2.cxOf, L2.Cx.nox, L2.Cx.wish, L2.rI0, L2.rI, L2.tYes, Rs.tCalW, List.getElem?_cons_zero, List.getElem?_cons_succ, Option.some.injEq, exists_eq_left', exists_eq_left, exists_and_left, List.cons.injEq, and_true, true_and, L2.V.bl.injEq, L2.V.int.injEq, L2.V.str.injEq, L2.V.ref.injEq, List.set_cons_zero, List.set_cons_succ, List.map_cons, List.map_nil, List.length_cons, List.length_nil, List.replicate, List.cons_append, List.nil_append, List.append_nil, Nat.reduceSub, Nat.reduceAdd])
local macro_rules | `(tactic| walk_at "dn") => `(tactic| dsimp only [L2.tCons, L2.tC, L2.tNil])
section
variable {P : Program} {w : World} {K : PySem.W.Frag} {mg : PySem.Str → Option Value} {base : Heap}
def sp_words (K : PySem.W.Frag) : Sp := fun vs H Q _ => ∃ (a b : Addr) (n : Nat) (ss : List PySem.Str), vs = [.ref a, .int n, .ref b] ∧ Src a H ∧ H b = some (.lst (ss.map V.str)) ∧ a ≠ b ∧ ss ≠ [] ∧ ss.length ≤ 100 ∧ (∀ x ∈ ss, isName (.str x) = true) ∧ n ≤ 20 ∧
  ∀ (H' : Hp) (l : Addr) (ws : List PySem.Str), ws.length = n → ws.Nodup → (∀ x ∈ ws, isName (.str x) = true) → SameX a H H' → Src a H' → H l = none → H' l = some (.lst (ws.map V.str)) → Q (.ref l) H'
/-! ### words of small letters -/
def smC (x : PySem.Str) : Prop := ∀ c ∈ x.cps.toList, c ∈ smallS.cps.toList
theorem list_snocW {α : Type} (l : List α) : l = [] ∨ ∃ m x, l = m ++ [x] := by
  cases e : l.reverse with
  | nil => exact .inl (by rw [← List.reverse_reverse l, e] <;> rfl)
  | cons x m => exact .inr ⟨m.reverse, x, by rw [← List.reverse_reverse l, e, List.reverse_cons]⟩
theorem str_len (x : PySem.Str) : x.length = x.cps.toList.length := by simp [PySem.Str.length]
theorem name_iff {x : PySem.Str} : isName (.str x) = true ↔ 1 ≤ x.length ∧ x.length ≤ 8 ∧ smC x := by
  simp only [isTx, Bool.and_eq_true, decide_eq_true_eq, List.all_eq_true]
  exact Iff.rfl
theorem smC_app {x y : PySem.Str} (hx : smC x) (hy : smC y) : smC (x ++ y) := by
  intro c hc
  rw [PySem.Str.cps_append, Array.toList_append, List.mem_append] at hc
  exact hc.elim (hx c) (hy c)
theorem smC_nil : smC "" := by
  intro c hc
  have : ("" : PySem.Str).cps.toList = [] := by decide +kernel
  rw [this] at hc
  cases hc
theorem cut_len (z : PySem.Str) (n : Nat) : (cutS z none (some (n : Int))).length = min n z.length := by
  unfold cutS
  rw [HT.sIx_nat, HT.sIx_none, str_len]
  simp [PySem.Str.length]
theorem cut_smC {z : PySem.Str} (h : smC z) (lo hi : Option Int) : smC (cutS z lo hi) := by
  intro c hc
  unfold cutS at hc
  exact h c (List.mem_of_mem_drop (List.mem_of_mem_take hc))
def sgn (i : Nat) : PySem.Str := ⟨#[smallS.cps.toList.getD i 0]⟩
theorem small26 : smallS.cps.toList.length = 26 := by decide +kernel
theorem sgn_at {i : Int} (h0 : 0 ≤ i) (h : i < 26) : atI smallS.cps.toList i = some (smallS.cps.toList.getD i.toNat 0) := by
  have hl := small26
  obtain ⟨j, rfl⟩ : ∃ j : Nat, i = (j : Int) := ⟨i.toNat, (Int.toNat_of_nonneg h0).symm⟩
  rw [Int.toNat_natCast]
  refine atI_nat ?_
  rw [List.getD_eq_getElem?_getD, List.getElem?_eq_getElem (by omega)] <;> rfl
theorem sgn_smC {i : Nat} (h : i < 26) : smC (sgn i) := by
  intro c hc
  have e : c = smallS.cps.toList.getD i 0 := by simpa [sgn] using hc
  rw [e, List.getD_eq_getElem?_getD, List.getElem?_eq_getElem (by rw [small26]; exact h)]
  exact List.getElem_mem _
theorem sgn_len (i : Nat) : (sgn i).length = 1 := rfl
theorem sgn_inj : ∀ i < 26, ∀ j < 26, smallS.cps.toList.getD i 0 = smallS.cps.toList.getD j 0 → i = j := by decide +kernel
theorem cand_inj {s : PySem.Str} {i j : Nat} (hi : i < 26) (hj : j < 26) (h : s ++ sgn i = s ++ sgn j) : i = j := by
  have e : (s ++ sgn i).cps.toList = (s ++ sgn j).cps.toList := by rw [h]
  rw [PySem.Str.cps_append, PySem.Str.cps_append, Array.toList_append, Array.toList_append] at e
  have e2 := List.append_cancel_left e
  exact sgn_inj i hi j hj (by simpa [sgn] using e2)
theorem nodup_le {α : Type} [DecidableEq α] : ∀ {l m : List α}, l.Nodup → (∀ x ∈ l, x ∈ m) → l.length ≤ m.length
  | [], _, _, _ => Nat.zero_le _
  | x :: l, m, nd, h => by
    obtain ⟨n1, n2⟩ := List.nodup_cons.mp nd
    have hx := h x List.mem_cons_self
    have ih := nodup_le (l := l) (m := m.erase x) n2 fun y hy => (List.mem_erase_of_ne (fun e => n1 (by rw [← e]; exact hy))).mpr (h y (List.mem_cons_of_mem _ hy))
    rw [List.length_erase_of_mem hx] at ih
    have := List.length_pos_of_mem hx
    rw [List.length_cons]
    omega
theorem cands_out {s : PySem.Str} {fs : List PySem.Str} (hf : fs.length < 26) (h : ∀ j < 26, s ++ sgn j ∈ fs) : False := by
  have nd : ((List.range 26).map fun j => s ++ sgn j).Nodup := by
    rw [List.Nodup, List.pairwise_map]
    exact (List.nodup_range (n := 26)).imp_of_mem fun ha hb ne e => ne (cand_inj (List.mem_range.mp ha) (List.mem_range.mp hb) e)
  have := nodup_le nd fun x hx => by
    obtain ⟨j, hj, rfl⟩ := List.mem_map.mp hx
    exact h j (List.mem_range.mp hj)
  simp at this
  omega
theorem tx_ok {x : PySem.Str} (h : smC x) : TxOk x := by
  show PyData.strOk x = true
  unfold PyData.strOk
  rw [Array.all_eq_true']
  intro c hc
  have hm := h c (by simpa using hc)
  have : ∀ c ∈ smallS.cps.toList, c < 1114112 := by decide +kernel
  simpa using this c hm
theorem in_txts (x : PySem.Str) (ss : List PySem.Str) : inV (.str x) (ss.map V.str) = decide (x ∈ ss) := by
  unfold inV
  rw [List.any_map]
  by_cases h : x ∈ ss
  · rw [decide_eq_true h, List.any_eq_true]
    exact ⟨x, h, by simp [eqV]⟩
  · rw [decide_eq_false h, List.any_eq_false]
    intro y hy
    simp only [Function.comp, eqV, str_beq, decide_eq_true_eq]
    exact fun e => h (e ▸ hy)
theorem flat_txts (ss : List PySem.Str) : (ss.map V.str).all flatV = true := by
  rw [List.all_map, List.all_eq_true]
  intro x _
  rfl
abbrev rAdd2 : R2 := fun x y H Q => ∃ i j, x = V.str i ∧ y = V.str j ∧ i.length + j.length ≤ sizeLine ∧ Q (V.str (i ++ j)) H
abbrev rLenT : List V → Hp → VK → Prop := fun xs H Q => ∃ z, xs = [V.str z] ∧ z.length ≤ sizeLine ∧ Q (V.int z.length) H
section
variable {a b f : Addr} {n : Nat} {st : Int} {v6 v7 v8 v9 v10 : Option V} {H : Hp} {D : Ends}
abbrev sgW (a b f : Addr) (n : Nat) (st : Int) (v6 v7 v8 v9 v10 : Option V) : L2.St := [some (.ref a), some (.int n), some (.ref b), some (.str smallS), some (.ref f), some (.int st), v6, v7, v8, v9, v10]
def rWb (K : PySem.W.Frag) : TS := tFor (iRng1 (tCons (tOp (rI0 fun i j => V.int (i + j)) (tC (V.int 1)) (tCalW (sp_next K) W0 (tCons (tVar 0) (tCons (tCalW (sp_one K) W0 (tCons (tVar 0) (tCons (tLst (tCons (tC (V.int 1)) (tCons (tC (V.int 2)) (tCons (tOp (rI0 fun i j => V.int (i - j)) (tC (V.int 8)) (tCB rLenT (tCons (tVar 8) tNil))) tNil)))) tNil))) tNil)))) tNil))
  (gName 9) (tAsg (tOp rAdd2 (tVar 8) (tOp rIxS (tVar 3) (tCalW (sp_next K) W0 (tCons (tVar 0) (tCons (tC (V.int 26)) tNil))))) (gName 8))
theorem stWb {w0 : PySem.Str} (ha : Src a H) (hw : smC w0) (hl : w0.length ≤ 6) (q : ∀ H' x v9, smC x → 1 ≤ x.length → x.length ≤ 8 → SameX a H H' → Src a H' → D.nx (sgW a b f n st v6 v7 (some (.str x)) v9 v10) H') :
    rWb K D (sgW a b f n st v6 v7 (some (.str w0)) v9 v10) H := by
  have line : sizeLine = 16777216 := sizeLine_eq
  obtain ⟨x, y, z, ha⟩ := ha
  refine ⟨_, rfl, _, rfl, _, rfl, w0, rfl, by omega, _, _, rfl, rfl, by show 3 ≤ sizeLine; omega, fun p hp => ⟨a, p, x, y, z, _, rfl, Same.new hp _ _ ha, upd_same, ne_of_none ha hp, by simp, by simp, fun i v o hv ho => ?_⟩⟩
  have hv' : ∃ m : Int, v = .int m ∧ 1 ≤ m ∧ m ≤ 8 - w0.length := by
    have hv := List.mem_of_getElem? hv
    simp only [List.mem_cons, List.not_mem_nil, or_false] at hv
    rcases hv with e | e | e
    · exact ⟨1, e, by omega, by omega⟩
    · exact ⟨2, e, by omega, by omega⟩
    · exact ⟨_, e, by omega, by omega⟩
  obtain ⟨m, rfl, m1, m2⟩ := hv'
  have s2 : SameX a H (L2.upd (L2.upd H p (.lst [V.int 1, V.int 2, V.int (8 - w0.length)])) a o) := (SameX.of (Same.new hp)).upd
  obtain ⟨x2, y2, z2, rfl⟩ := ho
  generalize hH2 : L2.upd (L2.upd H p (.lst [V.int 1, V.int 2, V.int (8 - w0.length)])) a (.lst [.int x2, .int y2, .int z2]) = H2 at s2
  have ha2 : H2 a = some (.lst [.int x2, .int y2, .int z2]) := by rw [← hH2]; exact upd_same
  refine ⟨a, x2, y2, z2, m, rfl, ha2, by omega, log_small (by omega), fun r o ho r1 r2 => ⟨_, _, rfl, rfl, _, rfl, by omega, by omega, ?_⟩⟩
  have s3 := s2.upd (o := o)
  have hs3 : Src a (L2.upd H2 a o) := Src.upd ho
  generalize L2.upd H2 a o = H3 at s3 hs3
  refine for_range (lo := 0) (n := (1 + r).toNat) (fun j σ H' => ∃ x v9, σ = sgW a b f n st v6 v7 (some (.str x)) v9 v10 ∧ smC x ∧ x.length = w0.length + j ∧ SameX a H H' ∧ Src a H') ⟨w0, v9, rfl, hw, rfl, s3, hs3⟩ (fun j σ H4 hj pv => ?_) (fun σ H4 pv => ?_)
  · obtain ⟨xx, v9, rfl, hx, hxl, s4, x4, y4, z4, ha4⟩ := pv
    refine ⟨_, rfl, _, rfl, _, rfl, a, x4, y4, z4, 26, rfl, ha4, by decide, by decide, fun c o ho c1 c2 => ?_⟩
    refine ⟨smallS, c, _, rfl, rfl, by show (26 : Nat) ≤ sizeLine; omega, sgn_at c1 c2, xx, sgn c.toNat, rfl, rfl, by rw [sgn_len]; omega, ?_⟩
    refine ⟨_, _, rfl, smC_app hx (sgn_smC (by omega)), ?_, s4.upd, Src.upd ho⟩
    rw [PySem.Str.length_append, hxl, sgn_len]
    omega
  · obtain ⟨xx, v9, rfl, hx, hxl, s4, hs4⟩ := pv
    exact q H4 xx v9 hx (by omega) (by omega) s4 hs4
def rWi (K : PySem.W.Frag) : TS := tIfS (tOr (tTest (tOp (rI0 fun i j => V.bl (decide (i < j))) (tVar 7) (tC (V.int 2)))) (tTest (tOp (rIn K false) (tVar 8) (tVar 4))))
  (tSeq (tAsg (tIf (tAnd (tTest (tOp rEq (tVar 7) (tC (V.int 0)))) (tTest (tOp (rNeD K) (tVar 4) (tLst tNil)))) (tSl rSlS (tOp (rIxL K) (tVar 4) (tUn (rU fun i => V.int (-i)) (tC (V.int 1)))) tNoPart (tPart (tC (V.int 6)))) (tC (V.str ""))) (gName 8)) (rWb K)) tNext
theorem ne_nil_tx (ss : List PySem.Str) : (!PyData.eqv (.list (ss.map PyData.str)) (.list [])) = decide (ss ≠ []) := by
  cases ss with
  | nil => rfl
  | cons x ss => rfl
theorem stWi {w0 : PySem.Str} {way : Int} {fs : List PySem.Str} (ha : Src a H) (hw : isName (.str w0) = true) (hf : H f = some (.lst (fs.map V.str))) (nf : f ≠ a) (hfs : ∀ x ∈ fs, isName (.str x) = true)
    (q : ∀ H' x v9, isName (.str x) = true → SameX a H H' → Src a H' → D.nx (sgW a b f n st v6 (some (.int way)) (some (.str x)) v9 v10) H') :
    rWi K D (sgW a b f n st v6 (some (.int way)) (some (.str w0)) v9 v10) H := by
  have line : sizeLine = 16777216 := sizeLine_eq
  have build : (tSeq (tAsg (tIf (tAnd (tTest (tOp rEq (tVar 7) (tC (V.int 0)))) (tTest (tOp (rNeD K) (tVar 4) (tLst tNil)))) (tSl rSlS (tOp (rIxL K) (tVar 4) (tUn (rU fun i => V.int (-i)) (tC (V.int 1)))) tNoPart (tPart (tC (V.int 6)))) (tC (V.str ""))) (gName 8)) (rWb K)) D (sgW a b f n st v6 (some (.int way)) (some (.str w0)) v9 v10) H := by
    have go : ∀ {H' : Hp} {x : PySem.Str}, smC x → x.length ≤ 6 → SameX a H H' → Src a H' → rWb K D (sgW a b f n st v6 (some (.int way)) (some (.str x)) v9 v10) H' := fun {H' x} h1 h2 s hs =>
      stWb hs h1 h2 fun H2 x2 v9 c1 c2 c3 s2 hs2 => q H2 x2 v9 (name_iff.mpr ⟨c2, c3, c1⟩) (s.trans s2) hs2
    refine ⟨_, rfl, rfl, _, rfl, ite2 (fun e => ?_) (fun e => go smC_nil (by decide) (SameX.of (Same.refl _)) ha)⟩
    refine ⟨_, rfl, Nat.zero_le _, fun p hp => ⟨.list (fs.map PyData.str), .list [], .lst (SqL.of (Same.new hp _ _ hf)) (dp_txts fs), .lst (SqL.of upd_same) .nil, shaped_ltx (fun x hx => tx_ok (name_iff.mp (hfs x hx)).2.2), rfl, _, rfl, ?_⟩⟩
    rw [ne_nil_tx]
    have s1 : SameX a H (L2.upd H p (.lst [])) := SameX.of (Same.new hp)
    refine ite2 (fun e => ?_) (fun e => go smC_nil (by decide) s1 (ha.new hp))
    have hne : fs ≠ [] := of_decide_eq_true e
    rcases list_snocW fs with h0 | ⟨m, x, hx⟩
    · exact absurd h0 hne
    · have hxn := hfs x (by rw [hx]; simp)
      obtain ⟨n1, n2, n3⟩ := name_iff.mp hxn
      refine ⟨_, rfl, 1, rfl, f, _, _, .str x, rfl, rfl, SqL.of (Same.new hp _ _ hf), ?_, 6, rfl, x, rfl, by omega, ?_⟩
      · rw [hx, List.map_append]
        exact atI_last _ _
      · refine go (cut_smC n3 _ _) ?_ s1 (ha.new hp)
        have := cut_len x 6
        show (cutS x none (some ((6 : Nat) : Int))).length ≤ 6
        omega
  refine ⟨_, rfl, way, _, rfl, rfl, _, rfl, ite2 (fun e => build) (fun e => ?_)⟩
  refine ⟨_, rfl, _, rfl, f, _, rfl, .inl (SqL.of hf), rfl, flat_txts fs, _, rfl, ite2 (fun e => build) (fun e => ?_)⟩
  exact q H w0 v9 hw (SameX.of (Same.refl _)) ha
def rWt (K : PySem.W.Frag) : TS := tSeq (tAsg (tSl rSlS (tVar 8) tNoPart (tPart (tC (V.int 7)))) (gName 10)) (tSeq (tFor (iRng1 (tCons (tC (V.int 26)) tNil)) (gName 9) (tIfS (tTest (tOp (rIn K false) (tVar 8) (tVar 4))) (tAsg (tOp rAdd2 (tVar 10) (tOp rIxS (tVar 3) (tVar 9))) (gName 8)) tNext)) (tDrop (tBM K "list" rAppend (tVar 4) (tCons (tVar 8) tNil))))
theorem stWt {w0 : PySem.Str} {fs : List PySem.Str} (hw : isName (.str w0) = true) (hf : H f = some (.lst (fs.map V.str))) (hl : fs.length < 26)
    (q : ∀ x v9 v10, isName (.str x) = true → x ∉ fs → D.nx (sgW a b f n st v6 v7 (some (.str x)) v9 v10) (L2.upd H f (.lst ((fs ++ [x]).map V.str)))) :
    rWt K D (sgW a b f n st v6 v7 (some (.str w0)) v9 v10) H := by
  have line : sizeLine = 16777216 := sizeLine_eq
  obtain ⟨n1, n2, n3⟩ := name_iff.mp hw
  refine ⟨_, rfl, 7, rfl, w0, rfl, by omega, ?_⟩
  have cl : (cutS w0 none (some (7 : Int))).length = min 7 w0.length := cut_len w0 7
  have cs : smC (cutS w0 none (some (7 : Int))) := cut_smC n3 _ _
  generalize hst : cutS w0 none (some (7 : Int)) = stem at cl cs
  refine ⟨26, rfl, by decide, by decide, ?_⟩
  refine for_range (lo := 0) (n := (26 : Int).toNat) (fun j σ H' => H' = H ∧ ∃ x v9, σ = sgW a b f n st v6 v7 (some (.str x)) v9 (some (.str stem)) ∧ isName (.str x) = true ∧ (x ∈ fs → ∀ i < j, stem ++ sgn i ∈ fs)) ⟨rfl, w0, v9, rfl, hw, fun _ i hi => absurd hi (Nat.not_lt_zero _)⟩ (fun j σ H4 hj pv => ?_) (fun σ H4 pv => ?_)
  · obtain ⟨rfl, x, v9, rfl, hx, hc⟩ := pv
    have hj : j < 26 := hj
    refine ⟨_, rfl, _, rfl, f, _, rfl, .inl (SqL.of hf), rfl, flat_txts fs, _, rfl, ?_⟩
    rw [if_neg (by decide), in_txts]
    refine ite2 (fun e => ?_) (fun e => ?_)
    · have hin : x ∈ fs := of_decide_eq_true e
      refine ⟨_, rfl, _, rfl, _, rfl, smallS, _, _, rfl, rfl, by show (26 : Nat) ≤ sizeLine; omega, sgn_at (by omega) (by omega), stem, sgn j, rfl, ?_, by rw [sgn_len]; omega, ?_⟩
      · rw [Int.zero_add, Int.toNat_natCast] <;> rfl
      · refine ⟨rfl, _, _, rfl, name_iff.mpr ⟨?_, ?_, smC_app cs (sgn_smC hj)⟩, fun hm i hi => ?_⟩
        · rw [PySem.Str.length_append, sgn_len]; omega
        · rw [PySem.Str.length_append, sgn_len]; omega
        · by_cases e2 : i = j
          · rw [e2]; exact hm
          · exact hc hin i (by omega)
    · have hin : x ∉ fs := fun z => e (decide_eq_true z)
      exact ⟨rfl, _, _, rfl, hx, fun z => absurd z hin⟩
  · obtain ⟨rfl, x, v9, rfl, hx, hc⟩ := pv
    have hin : x ∉ fs := fun z => cands_out hl (hc z)
    refine ⟨_, rfl, .inl ⟨rfl, _, SqL.of hf⟩, _, rfl, f, _, _, rfl, rfl, hf, by rw [List.length_map]; omega, ?_⟩
    have := q x v9 (some (.str stem)) hx hin
    rw [List.map_append] at this
    exact this
end
theorem ok_words (T : Txt K mg) : Cal P w K mg base 3 "_law_words" ["_law_well", "_law_many", "_law_some"] (sp_words K) := by
  have c_law_draw := ok_draw (P := P) (w := w) (base := base) T
  have c_law_pick := ok_pick (P := P) (w := w) (base := base) T
  obtain ⟨fd, F⟩ := T.d_l_words
  refine cal_of F T.g_law_words (F.bindsN fun _ _ _ _ _ _ us hl => match us, hl with | [_, _, _], _ => rfl) ?_
  refine F.ok sc_l_words (fun vs H Q E h => ?_) (fun cdv A outer s H vs Q E hr h => ?_)
  · obtain ⟨a, b, n, ss, rfl, _⟩ := h
    rfl
  · have hu := hr.units
    refine ⟨_, PSs.nox (pss_cons (ps_par3 rfl sc_l_words.nd (i := 3) (j := 4) (l := 5) rfl rfl rfl (by decide) (by decide) (by decide) rfl rfl rfl (pa_cons pe_str (pa_cons (pe_lst pa_nil) (pa_cons (pe_cal c_law_draw (hr.mono (by decide)) takes0 (pa_cons (pv 0) (pa_cons (pe_callB (r := rLenQ K) call_lenQ rfl T.b_len (by decide +kernel) (pa_cons (pv 2) pa_nil)) pa_nil))) pa_nil))) (by rfl))
      (pss_cons (ps_for PassesOwn.never rfl (pi_range1 rfl T.b_range (pa_cons (pv 1) pa_nil)) (pg_name (i := 6) sc_l_words.nd rfl (Or.inl rfl))
      (pss_cons (ps_par rfl sc_l_words.nd (i := 7) (j := 8) rfl rfl (by decide) rfl rfl (pa_cons (pe_cal c_law_draw (hr.mono (by decide)) takes0 (pa_cons (pv 0) (pa_cons pe_int pa_nil))) (pa_cons (pe_ix (r := rIxL K) ix_list (pv 2) (pe_op op_mod (pe_callTy (r := rInt1) call_intI rfl T.b_int (by decide +kernel) (pa_cons (pe_op op_add (pv 5) (pv 6)) pa_nil)) (pe_callB (r := rLenQ K) call_lenQ rfl T.b_len (by decide +kernel) (pa_cons (pv 2) pa_nil))) (fun _ _ => rfl)) pa_nil)) (by rfl))
      (pss_cons (ps_if (PW.pt (pw_or (pt_cmpR op_lt (pv 7) pe_int (nomark _)) (pw_or1 (pt_cmpR (r := rIn K false) op_in_seq (pv 8) (pv 4) rfl)))) (pss_cons (ps_set (i := 8) sc_l_words.nd rfl (Or.inl rfl) (pe_ifExp (PW.pt (pw_and (pt_cmpR op_eq (pv 7) pe_int (nomark _)) (pw_and1 (pt_cmpR (r := rNeD K) (op_neD hu) (pv 4) (pe_lst pa_nil) (nomark _))))) (pe_slice (r := rSlS) sl_str (pe_ix (r := rIxL K) ix_list (pv 4) (pe_un un_neg pe_int) (fun _ _ => rfl)) po_none (po_some pe_int)) pe_str))
      (pss_one (ps_for PassesOwn.never rfl (pi_range1 rfl T.b_range (pa_cons (pe_op op_add pe_int (pe_cal c_law_draw (hr.mono (by decide)) takes0 (pa_cons (pv 0) (pa_cons (pe_cal c_law_pick (hr.mono (by decide)) takes0 (pa_cons (pv 0) (pa_cons (pe_lst (pa_cons pe_int (pa_cons pe_int (pa_cons (pe_op op_sub pe_int (pe_callB call_len_str rfl T.b_len (by decide +kernel) (pa_cons (pv 8) pa_nil))) pa_nil)))) pa_nil))) pa_nil)))) pa_nil)) (pg_name (i := 9) sc_l_words.nd rfl (Or.inl rfl))
      (pss_one (ps_set (i := 8) sc_l_words.nd rfl (Or.inl rfl) (pe_op op_add_str (pv 8) (pe_ix (r := rIxS) ix_str (pv 3) (pe_cal c_law_draw (hr.mono (by decide)) takes0 (pa_cons (pv 0) (pa_cons pe_int pa_nil))) (fun _ _ => rfl)))))))) pss_nil)
      (pss_cons (ps_set (i := 10) sc_l_words.nd rfl (Or.inl rfl) (pe_slice (r := rSlS) sl_str (pv 8) po_none (po_some pe_int)))
      (pss_cons (ps_for PassesOwn.never rfl (pi_range1 rfl T.b_range (pa_cons pe_int pa_nil)) (pg_name (i := 9) sc_l_words.nd rfl (Or.inl rfl))
      (pss_one (ps_if (pt_cmpR (r := rIn K false) op_in_seq (pv 8) (pv 4) rfl) (pss_one (ps_set (i := 8) sc_l_words.nd rfl (Or.inl rfl) (pe_op op_add_str (pv 10) (pe_ix (r := rIxS) ix_str (pv 3) (pv 9) (fun _ _ => rfl))))) pss_nil)))
      (pss_one (ps_expr (pe_bm PySem.F.plainAttrs_list PySem.F.slot_list_append PySem.F.type_list_append mt_append (pv 4) (pa_cons (pv 8) pa_nil)))))))))
      (pss_one (ps_ret (pv 4))))), ?_⟩
    obtain ⟨a, b, n, ss, rfl, ha, hb, nab, hne, hz, hss, hn, q⟩ := h
    obtain ⟨x, y, z, ha'⟩ := id ha
    refine ⟨Nat.zero_le _, fun f hf => ⟨_, rfl, _, rfl, b, _, rfl, .inl (SqL.of (Same.new hf _ _ hb)), a, x, y, z, _, rfl, Same.new hf _ _ ha', by rw [List.length_map]; have := List.length_pos_iff.mpr hne; omega, log_small (by rw [List.length_map]; omega), fun st o ho r1 r2 => ⟨_, _, _, rfl, ?_⟩⟩⟩
    have nfa : f ≠ a := (ne_of_none ha' hf).symm
    have nba : b ≠ a := nab.symm
    have s1 : SameX a H (L2.upd (L2.upd H f (.lst [])) a o) := (SameX.of (Same.new hf)).upd
    have hs1 : Src a (L2.upd (L2.upd H f (.lst [])) a o) := Src.upd ho
    have hf1 : (L2.upd (L2.upd H f (.lst [])) a o) f = some (.lst []) := by rw [upd_ne nfa]; exact upd_same
    generalize L2.upd (L2.upd H f (.lst [])) a o = H1 at s1 hs1 hf1
    have hpos : 0 < ss.length := List.length_pos_iff.mpr hne
    refine ⟨_, rfl, n, rfl, by omega, by omega, ?_⟩
    refine for_range (lo := 0) (n := (n : Int).toNat) (fun k σ H' => ∃ v6 v7 v8 v9 v10, ∃ fs : List PySem.Str, σ = sgW a b f n st v6 v7 v8 v9 v10 ∧ fs.length = k ∧ fs.Nodup ∧ (∀ x ∈ fs, isName (.str x) = true) ∧ SameX a H H' ∧ Src a H' ∧ H' f = some (.lst (fs.map V.str))) ⟨_, _, _, _, _, [], rfl, rfl, List.nodup_nil, (fun x hx => by cases hx), s1, hs1, hf1⟩ (fun k σ H2 hk pv => ?_) (fun σ H2 pv => ?_)
    · obtain ⟨v6, v7, v8, v9, v10, fs, rfl, hfl, hnd, hfn, s2, ⟨x2, y2, z2, ha2⟩, hf2⟩ := pv
      refine ⟨_, rfl, a, x2, y2, z2, 4, rfl, ha2, by decide, by decide, fun way o2 ho2 w1 w2 => ?_⟩
      have s3 := s2.upd (o := o2)
      have hs3 : Src a (L2.upd H2 a o2) := Src.upd ho2
      have hf3 : (L2.upd H2 a o2) f = some (.lst (fs.map V.str)) := by rw [upd_ne nfa]; exact hf2
      generalize L2.upd H2 a o2 = H3 at s3 hs3 hf3
      have hb3 := s3 _ _ nba hb
      have hm0 := Int.emod_nonneg (st + (0 + (k : Nat))) (b := (ss.length : Int)) (by omega)
      have hm1 := Int.emod_lt_of_pos (st + (0 + (k : Nat))) (b := (ss.length : Int)) (by omega)
      obtain ⟨wd, hwd⟩ : ∃ wd, ss[((st + (0 + (k : Nat))) % (ss.length : Int)).toNat]? = some wd := ⟨_, List.getElem?_eq_getElem (by omega)⟩
      refine ⟨_, rfl, _, rfl, _, rfl, _, _, rfl, rfl, _, rfl, _, rfl, b, _, rfl, .inl (SqL.of hb3), _, _, rfl, rfl, by rw [List.length_map]; omega, b, _, _, .str wd, rfl, rfl, SqL.of hb3, ?_, _, _, rfl, ?_⟩
      · rw [List.length_map, show (st + (0 + (k : Nat))) % (ss.length : Int) = ((((st + (0 + (k : Nat))) % (ss.length : Int)).toNat : Nat) : Int) from (Int.toNat_of_nonneg hm0).symm]
        exact atI_nat (by rw [List.getElem?_map, hwd] <;> rfl)
      · refine stWi (K := K) (fs := fs) hs3 (hss wd (List.mem_of_getElem? hwd)) hf3 nfa hfn fun H4 wd2 v9 hw2 s4 hs4 => ?_
        have hf4 := s4 _ _ nfa hf3
        refine stWt (K := K) (fs := fs) hw2 hf4 (by omega) fun wd3 v9 v10 hw3 hni => ?_
        have nab2 : a ≠ f := nfa.symm
        refine ⟨_, _, _, _, _, fs ++ [wd3], rfl, by simp [hfl], ?_, fun x hx => ?_, fun c u nc hc => ?_, ?_, upd_same⟩
        · exact List.nodup_append.mpr ⟨hnd, by simp, fun y hy z hz e => hni (by rw [← List.mem_singleton.mp hz, ← e]; exact hy)⟩
        · rcases List.mem_append.mp hx with hx | hx
          · exact hfn x hx
          · rw [List.mem_singleton.mp hx]; exact hw3
        · rw [upd_ne (ne_of_none hc hf)]
          exact s4 _ _ nc (s3 _ _ nc hc)
        · obtain ⟨x4, y4, z4, ha4⟩ := hs4
          exact ⟨x4, y4, z4, by rw [upd_ne nab2]; exact ha4⟩
    · obtain ⟨v6, v7, v8, v9, v10, fs, rfl, hfl, hnd, hfn, s2, hs2, hf2⟩ := pv
      exact ⟨_, rfl, q H2 f fs (by rw [hfl, Int.toNat_natCast]) hnd hfn s2 hs2 hf hf2⟩
end
end Rs
set_option Elab.async false
set_option linter.all false
set_option maxRecDepth 100000
set_option maxHeartbeats 2000000
namespace Rs
open PySem PySem.Spec PyProof.Rows L2
local macro_rules | `(tactic| walk_at "rd") => `(tactic| simp only [L2.tRet, L2.tRetN, L2.tSeq, L2.tNext, L2.tIfS, L2.tAsg, L2.gName, L2.gNil, L2.gCons, L2.tVar, L2.tC, L2.tOp, L2.tUn, L2.tCB, L2.tCons, L2.tNil, L2.tAndV, L2.tOrV, L2.tNotV, L2.tAnd, L2.tOr, L2.tNot, L2.tB, L2.tTest, L2.tIf, L2.tChain, L2.tTup, L2.tLst, L2.tDrop, L2.tFld, L2.sFld, L2.tOst, L2.tBM, L2.rNe, L2.tMkO, L2.start, L2.cxOf, L2.Cx.nox, L2.Cx.wish, L2.rI0, L2.rI, L2.tYes, Rs.tCalW, List.getElem?_cons_zero, List.getElem?_cons_succ, Option.some.injEq, exists_eq_left', exists_eq_left, exists_and_left, List.cons.injEq, and_true, true_and, L2.V.bl.injEq, L2.V.int.injEq, L2.V.str.injEq, L2.V.ref.injEq, List.set_cons_zero, List.set_cons_succ, List.map_cons, List.map_nil, List.length_cons, List.length_nil, List.replicate, List.cons_append, List.nil_append, List.append_nil, Nat.reduceSub, Nat.reduceAdd])
local macro_rules | `(tactic| walk_at "dn") => `(tactic| dsimp only [L2.tCons, L2.tC, L2.tNil])
section
variable {P : Program} {w : World} {K : PySem.W.Frag} {mg : PySem.Str → Option Value} {base : Heap}
/-! ### moves as the law makes them -/
abbrev TupAt (H : Hp) (o : PySem.Str × PySem.Str) (b : Addr) : Prop := H b = some (.tup [.str o.1, .str o.2])
def RowsAt (H : Hp) (p : Addr) (os : Outs) : Prop := ∃ bs : List Addr, H p = some (.lst (bs.map V.ref)) ∧ Paired (TupAt H) os bs
def LMv (H : Hp) (m : Mv) (kv : List Key × V) : Prop := kv.1 = [Sum.inr m.1.1, Sum.inr m.1.2] ∧ ∃ p, kv.2 = .ref p ∧ RowsAt H p m.2
def LMoves (H : Hp) (d : Addr) (mv : List Mv) : Prop := ∃ kvs, H d = some (.dT kvs) ∧ Paired (LMv H) mv kvs ∧ (mv.map (·.1)).Nodup
/-- what stands but for the drawn numbers -/
theorem rows_ne {a p : Addr} {H : Hp} {bs : List Addr} (ha : Src a H) (hp : H p = some (.lst (bs.map V.ref))) : p ≠ a := by
  obtain ⟨x, y, z, ha⟩ := ha
  rintro rfl
  rw [hp] at ha
  have := HO.lst.inj (Option.some.inj ha)
  cases bs with
  | nil => cases this
  | cons b bs => cases (List.cons.inj this).1
theorem RowsAt.keep {a p : Addr} {H H' : Hp} {os : Outs} (ha : Src a H) (s : SameX a H H') (h : RowsAt H p os) : RowsAt H' p os := by
  obtain ⟨bs, h1, h2⟩ := h
  refine ⟨bs, s _ _ (rows_ne ha h1) h1, Paired.imp h2 fun o b z => s _ _ ?_ z⟩
  obtain ⟨x, y, z', ha⟩ := ha
  exact ne_of z ha (by intro q; cases q)
theorem LMv.keep {a : Addr} {H H' : Hp} {m : Mv} {kv : List Key × V} (ha : Src a H) (s : SameX a H H') (h : LMv H m kv) : LMv H' m kv := let ⟨h1, p, h2, h3⟩ := h; ⟨h1, p, h2, h3.keep ha s⟩
theorem LMoves.keep {a d : Addr} {H H' : Hp} {mv : List Mv} (ha : Src a H) (s : SameX a H H') (h : LMoves H d mv) : LMoves H' d mv := by
  obtain ⟨kvs, h1, h2, h3⟩ := h
  obtain ⟨x, y, z, ha'⟩ := id ha
  exact ⟨kvs, s _ _ (ne_of h1 ha' (by intro q; cases q)) h1, Paired.imp h2 fun _ _ z => z.keep ha s, h3⟩
theorem LMoves.same {d : Addr} {H H' : Hp} {mv : List Mv} (s : Same H H') (h : LMoves H d mv) : LMoves H' d mv := by
  obtain ⟨kvs, h1, h2, h3⟩ := h
  refine ⟨kvs, s _ _ h1, Paired.imp h2 fun _ _ z => ?_, h3⟩
  obtain ⟨z1, p, z2, bs, z3, z4⟩ := z
  exact ⟨z1, p, z2, bs, s _ _ z3, Paired.imp z4 fun _ _ y => s _ _ y⟩
theorem LMoves.movesAt {d : Addr} {H : Hp} {mv : List Mv} (h : LMoves H d mv) : MovesAt K H d mv := by
  obtain ⟨kvs, h1, h2, h3⟩ := h
  refine ⟨kvs, h1, Paired.imp h2 fun _ _ z => ?_, h3⟩
  obtain ⟨z1, p, z2, bs, z3, z4⟩ := z
  exact ⟨z1, p, bs, z2, .inl (SqL.of z3), Paired.imp z4 fun _ _ y => .inr (SqT.of y)⟩
/-- a move is put -/
def putM (mv : List Mv) (k : PySem.Str × PySem.Str) (os : Outs) : List Mv := if k ∈ mv.map (·.1) then mv.map (fun m => if m.1 = k then (k, os) else m) else mv ++ [(k, os)]
theorem lmv_keys {H : Hp} : ∀ {mv : List Mv} {kvs : List (List Key × V)}, Paired (LMv H) mv kvs → kvs.map (·.1) = mv.map fun m => [Sum.inr m.1.1, Sum.inr m.1.2]
  | _, _, .nil => rfl
  | _, _, .cons h t => by rw [List.map_cons, List.map_cons, lmv_keys t, h.1] <;> rfl
theorem key_inj {x y : PySem.Str × PySem.Str} (h : ([Sum.inr x.1, Sum.inr x.2] : List Key) = [Sum.inr y.1, Sum.inr y.2]) : x = y := by
  obtain ⟨z1, z2⟩ := List.cons.inj h
  exact Prod.ext (Sum.inr.inj z1) (Sum.inr.inj (List.cons.inj z2).1)
theorem putM_map {H : Hp} {k : PySem.Str × PySem.Str} {os : Outs} {v : V} (hv : LMv H (k, os) ([Sum.inr k.1, Sum.inr k.2], v)) : ∀ {mv : List Mv} {kvs : List (List Key × V)}, Paired (LMv H) mv kvs →
    Paired (LMv H) (mv.map fun m => if m.1 = k then (k, os) else m) (kvs.map fun kv => if kv.1 = [Sum.inr k.1, Sum.inr k.2] then (kv.1, v) else kv)
  | _, _, .nil => .nil
  | m :: mv, kv :: kvs, .cons h t => by
    refine .cons ?_ (putM_map hv t)
    dsimp only
    by_cases e : m.1 = k
    · have e2 : kv.1 = [Sum.inr k.1, Sum.inr k.2] := by rw [h.1, e]
      rw [if_pos e, if_pos e2, e2]
      exact hv
    · have e2 : kv.1 ≠ [Sum.inr k.1, Sum.inr k.2] := fun z => e (key_inj (by rw [← h.1]; exact z))
      rw [if_neg e, if_neg e2]
      exact h
theorem putM_pair {H : Hp} {k : PySem.Str × PySem.Str} {os : Outs} {v : V} {mv : List Mv} {kvs : List (List Key × V)} (hv : LMv H (k, os) ([Sum.inr k.1, Sum.inr k.2], v)) (h : Paired (LMv H) mv kvs) : Paired (LMv H) (putM mv k os) (putK kvs [Sum.inr k.1, Sum.inr k.2] v) := by
  have hk : (kvs.any fun kv => decide (kv.1 = [Sum.inr k.1, Sum.inr k.2])) = true ↔ k ∈ mv.map (·.1) := by
    rw [List.any_eq_true]
    constructor
    · rintro ⟨kv, hkv, e⟩
      have e := of_decide_eq_true e
      have hm : kv.1 ∈ kvs.map (·.1) := List.mem_map.mpr ⟨kv, hkv, rfl⟩
      rw [lmv_keys h] at hm
      obtain ⟨m, hm, e2⟩ := List.mem_map.mp hm
      exact List.mem_map.mpr ⟨m, hm, key_inj (e2.trans e)⟩
    · intro hm
      obtain ⟨m, hm, e⟩ := List.mem_map.mp hm
      have : ([Sum.inr k.1, Sum.inr k.2] : List Key) ∈ kvs.map (·.1) := by
        rw [lmv_keys h]
        exact List.mem_map.mpr ⟨m, hm, by rw [e]⟩
      obtain ⟨kv, hkv, e2⟩ := List.mem_map.mp this
      exact ⟨kv, hkv, decide_eq_true e2⟩
  unfold putM putK
  by_cases e : k ∈ mv.map (·.1)
  · rw [if_pos e, if_pos (hk.mpr e)]
    exact putM_map hv h
  · rw [if_neg e, if_neg (fun z => e (hk.mp z))]
    exact Paired.snoc h hv
theorem putM_keys (mv : List Mv) (k : PySem.Str × PySem.Str) (os : Outs) : (putM mv k os).map (·.1) = if k ∈ mv.map (·.1) then mv.map (·.1) else mv.map (·.1) ++ [k] := by
  unfold putM
  split
  · rw [List.map_map]
    refine List.map_congr_left fun m _ => ?_
    show (if m.1 = k then (k, os) else m).1 = m.1
    split
    · rename_i e; exact e.symm
    · rfl
  · rw [List.map_append] <;> rfl
theorem putM_mem {mv : List Mv} {k : PySem.Str × PySem.Str} {os : Outs} {m : Mv} (h : m ∈ putM mv k os) : m = (k, os) ∨ m ∈ mv := by
  unfold putM at h
  split at h
  · obtain ⟨n, hn, e⟩ := List.mem_map.mp h
    split at e
    · exact .inl e.symm
    · exact .inr (e ▸ hn)
  · rcases List.mem_append.mp h with h | h
    · exact .inr h
    · exact .inl (List.mem_singleton.mp h)
def ans2 : List PySem.Str := ["no", "yes"]
structure PlanOk (sts meths words : List PySem.Str) (mv : List Mv) : Prop where
  key : ∀ m ∈ mv, m.1.1 ∈ sts ∧ m.1.2 ∈ meths
  few : ∀ m ∈ mv, m.2.length ≤ 3
  outs : ∀ m ∈ mv, m.2.Nodup ∧ ∀ o ∈ m.2, o.1 ∈ words ∧ o.2 ∈ sts
  nd : (mv.map (·.1)).Nodup
theorem PlanOk.put {sts meths words : List PySem.Str} {mv : List Mv} {s m : PySem.Str} {os : Outs} (h : PlanOk sts meths words mv) (hs : s ∈ sts) (hm : m ∈ meths) (hl : os.length ≤ 3) (hn : os.Nodup) (ho : ∀ o ∈ os, o.1 ∈ words ∧ o.2 ∈ sts) : PlanOk sts meths words (putM mv (s, m) os) := by
  refine ⟨fun n hn' => ?_, fun n hn' => ?_, fun n hn' => ?_, ?_⟩
  · rcases putM_mem hn' with rfl | z
    · exact ⟨hs, hm⟩
    · exact h.key n z
  · rcases putM_mem hn' with rfl | z
    · exact hl
    · exact h.few n z
  · rcases putM_mem hn' with rfl | z
    · exact ⟨hn, ho⟩
    · exact h.outs n z
  · rw [putM_keys]
    split
    · exact h.nd
    · rename_i e
      exact List.nodup_append.mpr ⟨h.nd, by simp, fun y hy z hz q => e (by rw [← List.mem_singleton.mp hz, ← q]; exact hy)⟩
/-! what hangs on new things alone -/
def New (H0 H : Hp) (φ : Hp → Prop) : Prop := ∀ H'', (∀ c u, H0 c = none → H c = some u → H'' c = some u) → φ H''
def Dm (H0 H : Hp) : Prop := ∀ c, H c = none → H0 c = none
theorem New.here {H0 H : Hp} {φ : Hp → Prop} (h : New H0 H φ) : φ H := h H fun _ _ _ e => e
theorem New.mono {H0 H1 H : Hp} {φ : Hp → Prop} (d : Dm H0 H1) (h : New H1 H φ) : New H0 H φ := fun H'' k => h H'' fun c u n e => k c u (d c n) e
theorem New.to {H0 H H' : Hp} {φ : Hp → Prop} (h : New H0 H φ) (k : ∀ c u, H0 c = none → H c = some u → H' c = some u) : New H0 H' φ := fun H'' k'' => h H'' fun c u n e => k'' c u n (k c u n e)
theorem New.toX {a : Addr} {u0 : HO} {H0 H H' : Hp} {φ : Hp → Prop} (h : New H0 H φ) (ha : H0 a = some u0) (s : SameX a H H') : New H0 H' φ := h.to fun c u n e => s c u (ne_of_none ha n).symm e
theorem Dm.refl (H : Hp) : Dm H H := fun _ e => e
theorem Dm.trans {H0 H1 H2 : Hp} (h : Dm H0 H1) (k : Dm H1 H2) : Dm H0 H2 := fun c e => h c (k c e)
theorem Dm.same {H H' : Hp} (s : Same H H') : Dm H H' := fun c e => s.free e
theorem Dm.upd {H : Hp} {a : Addr} {o : HO} : Dm H (L2.upd H a o) := fun c e => by
  by_cases z : c = a
  · subst z; rw [upd_same] at e; cases e
  · rw [upd_ne z] at e; exact e
theorem Dm.srcX {a : Addr} {H H' : Hp} (s : SameX a H H') (ha' : Src a H') : Dm H H' := fun c e => by
  by_cases z : c = a
  · subst z; obtain ⟨_, _, _, h⟩ := ha'; rw [h] at e; cases e
  · cases q : H c with
    | none => rfl
    | some u => rw [s c u z q] at e; cases e
theorem rows_new {H0 H : Hp} {O t : Addr} {bs : List Addr} {os : Outs} {o : PySem.Str × PySem.Str} (h : New H0 H fun X => RowsAt X O os) (hO : H O = some (.lst (bs.map V.ref))) (nO : H0 O = none) (ht : H t = some (.tup [.str o.1, .str o.2])) (nt : H0 t = none) :
    New H0 (L2.upd H O (.lst ((bs ++ [t]).map V.ref))) fun X => RowsAt X O (os ++ [o]) := by
  intro H'' k
  have hO'' := k O _ nO upd_same
  have ht'' := k t _ nt (by rw [upd_ne (ne_of ht hO (by intro q; cases q))]; exact ht)
  obtain ⟨bs', h1, h2⟩ := h (L2.upd H'' O (.lst (bs.map V.ref))) fun c u n e => by
    by_cases z : c = O
    · subst z; rw [hO] at e; cases e; exact upd_same
    · rw [upd_ne z]; exact k c u n (by rw [upd_ne z]; exact e)
  rw [upd_same] at h1
  have eb : bs' = bs := map_inj (fun x y e => V.ref.inj e) (HO.lst.inj (Option.some.inj h1)).symm
  subst eb
  refine ⟨bs' ++ [t], hO'', Paired.snoc (Paired.imp h2 fun o b z => ?_) ht''⟩
  have nb : b ≠ O := fun e => by subst e; rw [TupAt, upd_same] at z; cases z
  rw [TupAt, upd_ne nb] at z
  exact z
section
variable {a M E S d O : Addr} {name : PySem.Str} {size : Int} {v7 v8 v10 v11 v12 : Option V} {H : Hp} {D : Ends} {sts words errs meths : List PySem.Str}
abbrev sgS (a M E : Addr) (name : PySem.Str) (size : Int) (v5 v6 v7 v8 v9 v10 v11 v12 : Option V) : L2.St := [some (.ref a), some (.str name), some (.ref M), some (.ref E), some (.int size), v5, v6, v7, v8, v9, v10, v11, v12]
theorem txt_of {ss : List PySem.Str} {i : Nat} {v : V} (h : (ss.map V.str)[i]? = some v) : ∃ st, v = .str st ∧ st ∈ ss := by
  rw [List.getElem?_map] at h
  cases e : ss[i]? with
  | none => rw [e] at h; cases h
  | some st =>
    rw [e] at h
    cases Option.some.inj h
    exact ⟨st, rfl, List.mem_of_getElem? e⟩
/-- the outcomes of one move -/
def rSo (K : PySem.W.Frag) : TS := tFor (iRng1 (tCons (tCalW (sp_one K) W0 (tCons (tVar 0) (tCons (tLst (tCons (tC (V.int 1)) (tCons (tC (V.int 1)) (tCons (tC (V.int 2)) (tCons (tC (V.int 1)) (tCons (tC (V.int 2)) (tCons (tC (V.int 3)) (tCons (tC (V.int 0)) (tCons (tC (V.int 1)) tNil))))))))) tNil))) tNil)) (gName 10)
  (tSeq (tAsg (tTup (tCons (tCalW (sp_one K) W0 (tCons (tVar 0) (tCons (tOp rCat (tLst (tCons (tC (V.str "no")) (tCons (tC (V.str "yes")) tNil))) (tVar 3)) tNil))) (tCons (tCalW (sp_one K) W0 (tCons (tVar 0) (tCons (tVar 5) tNil))) tNil))) (gName 11))
    (tIfS (tTest (tOp (rNotInD K) (tVar 11) (tVar 9))) (tDrop (tBM K "list" rAppend (tVar 9) (tCons (tVar 11) tNil))) tNext))
theorem stSo (ha : Src a H) (hS : H S = some (.lst (sts.map V.str))) (hE : H E = some (.lst (errs.map V.str))) (nS : S ≠ a) (nE : E ≠ a) (hO : H O = some (.lst [])) (nO : O ≠ a) (nOS : O ≠ S) (nOE : O ≠ E) (hs0 : sts ≠ []) (hsl : sts.length ≤ 100) (hel : errs.length ≤ 100)
    (hst : ∀ x ∈ sts, TxOk x) (her : ∀ x ∈ errs, TxOk x) {H0 : Hp} (d0 : Dm H0 H) (a0 : ∃ u, H0 a = some u) (nO0 : H0 O = none)
    (q : ∀ H' v10 v11 os, New H0 H' (fun X => RowsAt X O os) → Dm H0 H' → os.length ≤ 3 → os.Nodup → (∀ o ∈ os, o.1 ∈ ans2 ++ errs ∧ o.2 ∈ sts) → (∀ c u, c ≠ a → c ≠ O → H c = some u → H' c = some u) → Src a H' → D.nx (sgS a M E name size (some (.ref S)) (some (.ref d)) v7 v8 (some (.ref O)) v10 v11 v12) H') :
    rSo K D (sgS a M E name size (some (.ref S)) (some (.ref d)) v7 v8 (some (.ref O)) v10 v11 v12) H := by
  have line : sizeLine = 16777216 := sizeLine_eq
  obtain ⟨x, y, z, ha'⟩ := id ha
  obtain ⟨u0, ha0⟩ := a0
  refine ⟨_, rfl, by show 8 ≤ sizeLine; omega, fun p hp => ⟨a, p, x, y, z, _, rfl, Same.new hp _ _ ha', upd_same, ne_of_none ha' hp, by simp, by simp, fun i v o hv ho => ?_⟩⟩
  have hv' : ∃ m : Nat, v = .int m ∧ m ≤ 3 := by
    have hv := List.mem_of_getElem? hv
    simp only [List.mem_cons, List.not_mem_nil, or_false] at hv
    rcases hv with e | e | e | e | e | e | e | e
    · exact ⟨1, e, by decide⟩
    · exact ⟨1, e, by decide⟩
    · exact ⟨2, e, by decide⟩
    · exact ⟨1, e, by decide⟩
    · exact ⟨2, e, by decide⟩
    · exact ⟨3, e, by decide⟩
    · exact ⟨0, e, by decide⟩
    · exact ⟨1, e, by decide⟩
  obtain ⟨m, rfl, hm⟩ := hv'
  refine ⟨m, rfl, by omega, by omega, ?_⟩
  have npO : O ≠ p := ne_of_none hO hp
  have k1 : ∀ c u, c ≠ a → c ≠ O → H c = some u → (L2.upd (L2.upd H p (.lst [V.int 1, V.int 1, V.int 2, V.int 1, V.int 2, V.int 3, V.int 0, V.int 1])) a o) c = some u := fun c u n1 _ e => by rw [upd_ne n1]; exact Same.new hp _ _ e
  have hs1 : Src a (L2.upd (L2.upd H p (.lst [V.int 1, V.int 1, V.int 2, V.int 1, V.int 2, V.int 3, V.int 0, V.int 1])) a o) := Src.upd ho
  have hO1 : (L2.upd (L2.upd H p (.lst [V.int 1, V.int 1, V.int 2, V.int 1, V.int 2, V.int 3, V.int 0, V.int 1])) a o) O = some (.lst []) := by rw [upd_ne nO]; exact Same.new hp _ _ hO
  have d1 : Dm H0 (L2.upd (L2.upd H p (.lst [V.int 1, V.int 1, V.int 2, V.int 1, V.int 2, V.int 3, V.int 0, V.int 1])) a o) := (d0.trans Dm.upd).trans Dm.upd
  generalize L2.upd (L2.upd H p (.lst [V.int 1, V.int 1, V.int 2, V.int 1, V.int 2, V.int 3, V.int 0, V.int 1])) a o = H1 at k1 hs1 hO1 d1
  have new1 : New H0 H1 fun X => RowsAt X O [] := fun H'' k => ⟨[], k O _ nO0 hO1, .nil⟩
  refine for_range (lo := 0) (n := (m : Int).toNat) (fun j σ H' => ∃ v10 v11 os, σ = sgS a M E name size (some (.ref S)) (some (.ref d)) v7 v8 (some (.ref O)) v10 v11 v12 ∧ os.length ≤ j ∧ os.Nodup ∧ (∀ o ∈ os, o.1 ∈ ans2 ++ errs ∧ o.2 ∈ sts) ∧ (∀ c u, c ≠ a → c ≠ O → H c = some u → H' c = some u) ∧ Src a H' ∧ New H0 H' (fun X => RowsAt X O os) ∧ Dm H0 H')
    ⟨_, _, [], rfl, Nat.le_refl _, List.nodup_nil, (fun o ho => by cases ho), k1, hs1, new1, d1⟩ (fun j σ H2 hj pv => ?_) (fun σ H2 pv => ?_)
  · obtain ⟨v10, v11, os, rfl, hol, hnd, hmem, k2, ⟨x2, y2, z2, ha2⟩, new2, d2⟩ := pv
    obtain ⟨bs, hO2, hbs⟩ := new2.here
    rw [Int.toNat_natCast] at hj
    have hE2 := k2 _ _ nE nOE.symm hE
    -- the word
    refine ⟨_, rfl, by show 2 ≤ sizeLine; omega, fun t1 h1 => ⟨.ref E, rfl, t1, E, _, _, rfl, rfl, upd_same, Same.new h1 _ _ hE2, by rw [List.length_map]; show 2 + _ ≤ _; omega, fun t2 h2 => ?_⟩⟩
    have sA := (Same.new (o := .lst [V.str "no", V.str "yes"]) h1).trans (Same.new (o := .lst ([V.str "no", V.str "yes"] ++ errs.map V.str)) h2)
    have e2 : (L2.upd (L2.upd H2 t1 (.lst [V.str "no", V.str "yes"])) t2 (.lst ([V.str "no", V.str "yes"] ++ errs.map V.str))) t2 = some (.lst ((ans2 ++ errs).map V.str)) := by rw [upd_same, List.map_append] <;> rfl
    have ht2 : H2 t2 = none := by
      cases e : H2 t2 with
      | none => rfl
      | some u => rw [Same.new h1 _ _ e] at h2; cases h2
    generalize L2.upd (L2.upd H2 t1 (.lst [V.str "no", V.str "yes"])) t2 (.lst ([V.str "no", V.str "yes"] ++ errs.map V.str)) = H3 at sA e2
    have nt2 : a ≠ t2 := ne_of_none ha2 ht2
    refine ⟨a, t2, x2, y2, z2, _, rfl, sA _ _ ha2, e2, nt2, by simp [ans2], by rw [List.length_map]; simp [ans2]; omega, fun i1 w1 o1 hw1 ho1 => ?_⟩
    obtain ⟨wd, rfl, hwd⟩ := txt_of hw1
    have kB : SameX a H2 (L2.upd H3 a o1) := (SameX.of sA).upd
    have hsB : Src a (L2.upd H3 a o1) := Src.upd ho1
    generalize L2.upd H3 a o1 = H4 at kB hsB
    have hS4 := kB _ _ nS (k2 _ _ nS nOS.symm hS)
    obtain ⟨x4, y4, z4, ha4⟩ := id hsB
    refine ⟨_, rfl, _, rfl, a, S, x4, y4, z4, _, rfl, ha4, hS4, nS.symm, by simpa using hs0, by rw [List.length_map]; omega, fun i2 w2 o2 hw2 ho2 => ?_⟩
    obtain ⟨stt, rfl, hstt⟩ := txt_of hw2
    have kC : SameX a H2 (L2.upd H4 a o2) := kB.upd
    have hsC : Src a (L2.upd H4 a o2) := Src.upd ho2
    generalize L2.upd H4 a o2 = H5 at kC hsC
    refine ⟨by show 2 ≤ sizeLine; omega, fun t3 h3 => ?_⟩
    have kD : SameX a H2 (L2.upd H5 t3 (.tup [.str wd, .str stt])) := kC.trans (SameX.of (Same.new h3))
    have hsD : Src a (L2.upd H5 t3 (.tup [.str wd, .str stt])) := hsC.new h3
    have e3 : (L2.upd H5 t3 (.tup [.str wd, .str stt])) t3 = some (.tup [.str wd, .str stt]) := upd_same
    generalize L2.upd H5 t3 (.tup [.str wd, .str stt]) = H6 at kD hsD e3
    have new6 := new2.toX ha0 kD
    obtain ⟨bs6, hO6, hbs6⟩ := new6.here
    have d6 : Dm H0 H6 := d2.trans (Dm.srcX kD hsD)
    have t30 : H0 t3 = none := (d2.trans (Dm.srcX kC hsC)) t3 h3
    have oks : ∀ o ∈ os, TxOk o.1 ∧ TxOk o.2 := fun o ho => by
      obtain ⟨m1, m2⟩ := hmem o ho
      refine ⟨?_, hst _ m2⟩
      rcases List.mem_append.mp m1 with m1 | m1
      · have : ∀ x ∈ ans2, TxOk x := by decide +kernel
        exact this _ m1
      · exact her _ m1
    have okw : TxOk wd := by
      rcases List.mem_append.mp hwd with m1 | m1
      · have : ∀ x ∈ ans2, TxOk x := by decide +kernel
        exact this _ m1
      · exact her _ m1
    refine ⟨_, rfl, _, rfl, dPr (wd, stt), os.map dPr, dp_pr (o := (wd, stt)) (SqT.of e3), .lst (SqL.of hO6) (dp_prs (Paired.imp hbs6 fun _ _ z => SqT.of z)), shaped_pr okw (hst _ hstt), shaped_lpr oks, _, rfl, ?_⟩
    rw [any_prs]
    have k6 : ∀ c u, c ≠ a → c ≠ O → H c = some u → H6 c = some u := fun c u n1 n2 e => kD _ _ n1 (k2 c u n1 n2 e)
    refine ite2 (fun e => ?_) (fun e => ?_)
    · have hni : (wd, stt) ∉ os := by simpa using e
      refine ⟨_, rfl, .inl ⟨rfl, _, SqL.of hO6⟩, _, rfl, O, _, _, rfl, rfl, hO6, by rw [List.length_map]; have := Paired.length hbs6; omega, ?_⟩
      have nt3 : t3 ≠ O := ne_of e3 hO6 (by intro q; cases q)
      refine ⟨_, _, os ++ [(wd, stt)], rfl, by simp; omega, ?_, fun o ho => ?_, fun c u n1 n2 e => by rw [upd_ne n2]; exact k6 c u n1 n2 e, ?_, ?_, d6.trans Dm.upd⟩
      · exact List.nodup_append.mpr ⟨hnd, by simp, fun y hy z hz q => hni (by rw [← List.mem_singleton.mp hz, ← q]; exact hy)⟩
      · rcases List.mem_append.mp ho with ho | ho
        · exact hmem o ho
        · rw [List.mem_singleton.mp ho]; exact ⟨hwd, hstt⟩
      · obtain ⟨xx, yy, zz, hh⟩ := hsD
        exact ⟨xx, yy, zz, by rw [upd_ne nO.symm]; exact hh⟩
      · have := rows_new (o := (wd, stt)) new6 hO6 nO0 e3 t30
        rw [List.map_append] at this
        exact this
    · exact ⟨_, _, os, rfl, by omega, hnd, hmem, k6, hsD, new6, d6⟩
  · obtain ⟨v10, v11, os, rfl, hol, hnd, hmem, k2, hs2, hR, d2⟩ := pv
    rw [Int.toNat_natCast] at hol
    exact q H2 v10 v11 os hR d2 (by omega) hnd hmem k2 hs2
end
end
end Rs
set_option Elab.async false
set_option linter.all false
set_option maxRecDepth 100000
set_option maxHeartbeats 2000000
namespace Rs
open PySem PySem.Spec PyProof.Rows L2
local macro_rules | `(tactic| walk_at "rd") => `(tactic| simp only [L2.tRet, L2.tRetN, L2.tSeq, L2.tNext, L2.tIfS, L2.tAsg, L2.gName, L2.gNil, L2.gCons, L2.tVar, L2.tC, L2.tOp, L2.tUn, L2.tCB, L2.tCons, L2.tNil, L2.tAndV, L2.tOrV, L2.tNotV, L2.tAnd, L2.tOr, L2.tNot, L2.tB, L2.tTest, L2.tIf, L2.tChain, L2.tTup, L2.tLst, L2.tDrop, L2.tFld, L2.sFld, L2.tOst, L2.tBM, L2.rNe, L2.tMkO, L2.start, L2.cxOf, L2.Cx.nox, L2.Cx.wish, L2.rI0, L2.rI, L2.tYes, Rs.tCalW, List.getElem?_cons_zero, List.getElem?_cons_succ, Option.some.injEq, exists_eq_left', exists_eq_left, exists_and_left, List.cons.injEq, and_true, true_and, L2.V.bl.injEq, L2.V.int.injEq, L2.V.str.injEq, L2.V.ref.injEq, List.set_cons_zero, List.set_cons_succ, List.map_cons, List.map_nil, List.length_cons, List.length_nil, List.replicate, List.cons_append, List.nil_append, List.append_nil, Nat.reduceSub, Nat.reduceAdd])
local macro_rules | `(tactic| walk_at "dn") => `(tactic| dsimp only [L2.tCons, L2.tC, L2.tNil])
section
variable {P : Program} {w : World} {K : PySem.W.Frag} {mg : PySem.Str → Option Value} {base : Heap}
def startNames : List PySem.Str := ["new", "open", "shut", "yes", "main"]
theorem startNames_ok : ∀ x ∈ startNames, isName (.str x) = true := by decide +kernel
structure PlanAt (H : Hp) (t : Addr) (name st : PySem.Str) (ends : List PySem.Str) (mv : List Mv) (eA dA : Addr) : Prop where
  tup : H t = some (.tup [.str name, .str st, .ref eA, .ref dA])
  ends : H eA = some (.lst (ends.map V.str))
  mvs : LMoves H dA mv
def sp_sort (K : PySem.W.Frag) : Sp := fun vs H Q _ => ∃ (a M E : Addr) (name : PySem.Str) (size : Int) (meths errs : List PySem.Str), vs = [.ref a, .str name, .ref M, .ref E, .int size] ∧ Src a H ∧ H M = some (.lst (meths.map V.str)) ∧ H E = some (.lst (errs.map V.str)) ∧ M ≠ a ∧ E ≠ a ∧ meths.length ≤ 100 ∧ errs.length ≤ 100 ∧ (∀ x ∈ errs, TxOk x) ∧ 0 < size ∧ size ≤ 19 ∧
  ∀ (H' : Hp) (t eA dA : Addr) (st : PySem.Str) (sts ends : List PySem.Str) (mv : List Mv), sts[0]? = some st → (sts.length : Int) ≤ size → sts.Nodup → (∀ x ∈ sts, isName (.str x) = true) → ends.Nodup → (∀ x ∈ ends, x ∈ sts) → PlanOk sts meths (ans2 ++ errs) mv → SameX a H H' → Src a H' →
    New H H' (fun X => PlanAt X t name st ends mv eA dA) → Q (.ref t) H'
section
variable {a M E S d : Addr} {name : PySem.Str} {size : Int} {v7 v8 v9 v10 v11 v12 : Option V} {H : Hp} {D : Ends} {sts words errs meths : List PySem.Str}
/-- one state and one method -/
def rSn (K : PySem.W.Frag) : TS := tSeq (tAsg (tLst tNil) (gName 9)) (tSeq (rSo K) (tIfS (tTest (tOp (rI0 fun i j => V.bl (decide (i > j))) (tCalW (sp_next K) W0 (tCons (tVar 0) (tCons (tC (V.int 6)) tNil))) (tC (V.int 0)))) (sDPut (tVar 6) (tTup (tCons (tVar 7) (tCons (tVar 8) tNil))) (tVar 9)) tNext))
theorem LMoves.put {H0 H : Hp} {d p : Addr} {mv : List Mv} {k : PySem.Str × PySem.Str} {os : Outs} (h : New H0 H fun X => LMoves X d mv) (hp : New H0 H fun X => RowsAt X p os) (nd0 : H0 d = none) (nd : ((putM mv k os).map (·.1)).Nodup) :
    ∃ kvs, H d = some (.dT kvs) ∧ kvs.length = mv.length ∧ New H0 (upd H d (.dT (putK kvs [Sum.inr k.1, Sum.inr k.2] (.ref p)))) fun X => LMoves X d (putM mv k os) := by
  obtain ⟨kvs, h1, h2, h3⟩ := h.here
  refine ⟨kvs, h1, (Paired.length h2).symm, fun H'' kk => ?_⟩
  have hd := kk d _ nd0 upd_same
  have pres : ∀ c u, H0 c = none → H c = some u → (upd H'' d (.dT kvs)) c = some u := fun c u n e => by
    by_cases z : c = d
    · subst z; rw [h1] at e; cases e; exact upd_same
    · rw [upd_ne z]; exact kk c u n (by rw [upd_ne z]; exact e)
  obtain ⟨kvs', g1, g2, g3⟩ := h _ pres
  rw [upd_same] at g1
  cases Option.some.inj g1
  have back : ∀ {p : Addr} {os : Outs}, RowsAt (upd H'' d (.dT kvs)) p os → RowsAt H'' p os := fun {p os} ⟨bs, z1, z2⟩ => by
    have np : p ≠ d := fun e => by subst e; rw [upd_same] at z1; cases z1
    refine ⟨bs, by rw [upd_ne np] at z1; exact z1, Paired.imp z2 fun o b z => ?_⟩
    have nb : b ≠ d := fun e => by subst e; rw [TupAt, upd_same] at z; cases z
    rw [TupAt, upd_ne nb] at z
    exact z
  exact ⟨_, hd, putM_pair ⟨rfl, p, rfl, back (hp _ pres)⟩ (Paired.imp g2 fun _ _ ⟨z1, p, z2, z3⟩ => ⟨z1, p, z2, back z3⟩), nd⟩
theorem stSn {s m : PySem.Str} {mv : List Mv} (ha : Src a H) (hS : H S = some (.lst (sts.map V.str))) (hE : H E = some (.lst (errs.map V.str))) (nS : S ≠ a) (nE : E ≠ a) (hs0 : sts ≠ []) (hsl : sts.length ≤ 100) (hel : errs.length ≤ 100) (hst : ∀ x ∈ sts, TxOk x) (her : ∀ x ∈ errs, TxOk x)
    {H0 : Hp} (d0 : Dm H0 H) (a0 : ∃ u, H0 a = some u) (nd0 : H0 d = none) (hd : New H0 H fun X => LMoves X d mv) (ok : PlanOk sts meths (ans2 ++ errs) mv) (hs : s ∈ sts) (hm : m ∈ meths) (hz : mv.length ≤ 20000)
    (q : ∀ H' v9 v10 v11 mv', mv'.length ≤ mv.length + 1 → (∀ c u, c ≠ a → c ≠ d → H c = some u → H' c = some u) → Src a H' → Dm H0 H' → New H0 H' (fun X => LMoves X d mv') → PlanOk sts meths (ans2 ++ errs) mv' → D.nx (sgS a M E name size (some (.ref S)) (some (.ref d)) (some (.str s)) (some (.str m)) v9 v10 v11 v12) H') :
    rSn K D (sgS a M E name size (some (.ref S)) (some (.ref d)) (some (.str s)) (some (.str m)) v9 v10 v11 v12) H := by
  have line : sizeLine = 16777216 := sizeLine_eq
  obtain ⟨x, y, z, ha'⟩ := id ha
  refine ⟨Nat.zero_le _, fun O hO => ?_⟩
  have s1 := Same.new (o := .lst []) hO
  obtain ⟨u0, ha0⟩ := a0
  refine stSo (K := K) (sts := sts) (errs := errs) (O := O) (H0 := H0) (ha.new hO) (s1 _ _ hS) (s1 _ _ hE) nS nE upd_same (ne_of_none ha' hO).symm (ne_of_none hS hO).symm (ne_of_none hE hO).symm hs0 hsl hel hst her (d0.trans Dm.upd) ⟨u0, ha0⟩ (d0 O hO) fun H2 v10 v11 os hR d2 hol hnd hmem k2 hs2 => ?_
  have sx : SameX a H H2 := fun c u n e => k2 c u n (ne_of_none e hO) (s1 _ _ e)
  have hd2 := hd.toX ha0 sx
  obtain ⟨x2, y2, z2, ha2⟩ := id hs2
  refine ⟨_, rfl, a, x2, y2, z2, 6, rfl, ha2, by decide, by decide, fun r o ho r1 r2 => ⟨_, _, rfl, rfl, _, rfl, ?_⟩⟩
  have sx3 := sx.upd (o := o)
  have sx23 : SameX a H2 (L2.upd H2 a o) := SameX.self
  have hs3 : Src a (L2.upd H2 a o) := Src.upd ho
  generalize L2.upd H2 a o = H3 at sx3 hs3 sx23
  have hd3 := hd2.toX ha0 sx23
  have hR3 := hR.toX ha0 sx23
  have d3 := d2.trans (Dm.srcX sx23 hs3)
  refine ite2 (fun e => ?_) (fun e => ?_)
  · refine ⟨_, rfl, _, rfl, _, rfl, _, rfl, by show 2 ≤ sizeLine; omega, fun t ht => ?_⟩
    have s4 := Same.new (o := .tup [.str s, .str m]) ht
    have hs4 := hs3.new (o := .tup [.str s, .str m]) ht
    have hd4 := hd3.to (H' := L2.upd H3 t (.tup [.str s, .str m])) fun c u _ e => s4 c u e
    have hR4 := hR3.to (H' := L2.upd H3 t (.tup [.str s, .str m])) fun c u _ e => s4 c u e
    have d4 := d3.trans (Dm.same s4)
    have e4 : (L2.upd H3 t (.tup [.str s, .str m])) t = some (.tup [.str s, .str m]) := upd_same
    have sx4 := sx3.trans (SameX.of s4)
    generalize L2.upd H3 t (.tup [.str s, .str m]) = H4 at s4 hs4 hd4 hR4 e4 sx4 d4
    have ok' := ok.put hs hm hol hnd hmem
    obtain ⟨kvs, g1, g3, g2⟩ := LMoves.put (k := (s, m)) hd4 hR4 nd0 ok'.nd
    refine ⟨d, _, rfl, DPut.t (k := [Sum.inr s, Sum.inr m]) g1 e4 (by omega), ?_⟩
    obtain ⟨xx, yy, zz, hh⟩ := id hs4
    refine q _ _ _ _ (putM mv (s, m) os) ?_ (fun c u n1 n2 e => by rw [upd_ne n2]; exact sx4 c u n1 e) ⟨xx, yy, zz, by rw [upd_ne (ne_of hh g1 (by intro q; cases q))]; exact hh⟩ (d4.trans Dm.upd) g2 ok'
    unfold putM
    split <;> simp
  · exact q _ _ _ _ mv (Nat.le_succ _) (fun c u n1 n2 e => sx3 c u n1 e) hs3 d3 hd3 ok
end
theorem ok_sort (T : Txt K mg) : Cal P w K mg base 4 "_law_sort" ["_law_well", "_law_name", "_law_methods", "_law_errors", "_law_size"] (sp_sort K) := by
  have c_law_draw := ok_draw (P := P) (w := w) (base := base) T
  have c_law_pick := ok_pick (P := P) (w := w) (base := base) T
  have c_law_words := ok_words (P := P) (w := w) (base := base) T
  obtain ⟨fd, F⟩ := T.d_l_sort
  refine cal_of F T.g_law_sort (F.bindsN fun _ _ _ _ _ _ us hl => match us, hl with | [_, _, _, _, _], _ => rfl) ?_
  refine F.ok sc_l_sort (fun vs H Q E h => ?_) (fun cdv A outer s H vs Q E hr h => ?_)
  · obtain ⟨a, M, Er, name, size, meths, errs, rfl, _⟩ := h
    rfl
  · have hu := hu_of hr
    have hu65 : (A.deeper (envOfC "_law_sort" (defScope s_l_sort) s.heap.objs.size (He.ga K "_law_sort") cdv)).units + 65 < cLine := by have := hr.un; omega
    refine ⟨_, PSs.nox (pss_cons (ps_set (i := 5) sc_l_sort.nd rfl (Or.inl rfl) (pe_cal c_law_words (hr.mono (by decide)) takes0 (pa_cons (pv 0) (pa_cons (pe_op op_add pe_int (pe_cal c_law_draw (hr.mono (by decide)) takes0 (pa_cons (pv 0) (pa_cons (pv 4) pa_nil)))) (pa_cons (pe_lst (pa_cons pe_str (pa_cons pe_str (pa_cons pe_str (pa_cons pe_str (pa_cons pe_str pa_nil)))))) pa_nil)))))
      (pss_cons (ps_set (i := 6) sc_l_sort.nd rfl (Or.inl rfl) pe_dnewT)
      (pss_cons (ps_for PassesOwn.never rfl (pi_list (pv 5)) (pg_name (i := 7) sc_l_sort.nd rfl (Or.inl rfl))
      (pss_one (ps_for PassesOwn.never rfl (pi_list (pv 2)) (pg_name (i := 8) sc_l_sort.nd rfl (Or.inl rfl))
      (pss_cons (ps_set (i := 9) sc_l_sort.nd rfl (Or.inl rfl) (pe_lst pa_nil))
      (pss_cons (ps_for PassesOwn.never rfl (pi_range1 rfl T.b_range (pa_cons (pe_cal c_law_pick (hr.mono (by decide)) takes0 (pa_cons (pv 0) (pa_cons (pe_lst (pa_cons pe_int (pa_cons pe_int (pa_cons pe_int (pa_cons pe_int (pa_cons pe_int (pa_cons pe_int (pa_cons pe_int (pa_cons pe_int pa_nil))))))))) pa_nil))) pa_nil)) (pg_name (i := 10) sc_l_sort.nd rfl (Or.inl rfl))
      (pss_cons (ps_set (i := 11) sc_l_sort.nd rfl (Or.inl rfl) (pe_tup (pa_cons (pe_cal c_law_pick (hr.mono (by decide)) takes0 (pa_cons (pv 0) (pa_cons (pe_op op_cat (pe_lst (pa_cons pe_str (pa_cons pe_str pa_nil))) (pv 3)) pa_nil))) (pa_cons (pe_cal c_law_pick (hr.mono (by decide)) takes0 (pa_cons (pv 0) (pa_cons (pv 5) pa_nil))) pa_nil))))
      (pss_one (ps_if (pt_cmpR (r := rNotInD K) (op_notInD hu65) (pv 11) (pv 9) rfl) (pss_one (ps_expr (pe_bm PySem.F.plainAttrs_list PySem.F.slot_list_append PySem.F.type_list_append mt_append (pv 9) (pa_cons (pv 11) pa_nil)))) pss_nil))))
      (pss_one (ps_if (pt_cmpR op_gt (pe_cal c_law_draw (hr.mono (by decide)) takes0 (pa_cons (pv 0) (pa_cons pe_int pa_nil))) pe_int (nomark _)) (pss_one (ps_dput hu (pv 6) (pe_tup (pa_cons (pv 7) (pa_cons (pv 8) pa_nil))) (pv 9) rfl)) pss_nil)))))))
      (pss_cons (ps_setLc (i := 12) (own := [("_law_state", 7)]) (g := gName 7) rfl sc_l_sort.nd rfl rfl (sw_true rfl rfl rfl (by decide +kernel)) (pi_list (pv 5)) (blkOk_by (own := [("_law_state", 7)]) (N := ["_law_well", "_law_name", "_law_methods", "_law_errors", "_law_size", "_law_states", "_law_moves", "_law_state", "_law_method", "_law_outcomes", "_law_k", "_law_one", "_law_ends"]) (sc := defScope s_l_sort) (by decide +kernel)) (fun _ _ _ _ _ => (pg_name (i := 7) sc_l_sort.nd rfl (by first | exact Or.inl rfl | exact Or.inr rfl))) (fun _ _ _ _ _ => (pts_one (pt_cmpR op_gt (pe_cal c_law_draw (hr.mono (by decide)) takes0 (pa_cons (pv 0) (pa_cons pe_int pa_nil))) pe_int (nomark _)))) (fun _ _ _ _ _ => (pv 7)))
      (pss_one (ps_ret (pe_tup (pa_cons (pv 1) (pa_cons (pe_ix (r := rIxL K) ix_list (pv 5) pe_int (fun _ _ => rfl)) (pa_cons (pv 12) (pa_cons (pv 6) pa_nil))))))))))), ?_⟩
    obtain ⟨a, M, Er, name, size, meths, errs, rfl, ha, hM, hE, nM, nE, hml, hel, her, hz0, hz1, q⟩ := h
    have line : sizeLine = 16777216 := sizeLine_eq
    obtain ⟨x, y, z, ha'⟩ := id ha
    refine ⟨_, rfl, _, rfl, _, rfl, a, x, y, z, size, rfl, ha', hz0, log_small (by omega), fun r o ho r1 r2 => ⟨_, _, rfl, rfl, by show 5 ≤ sizeLine; omega, fun p hp => ?_⟩⟩
    have sx1 : SameX a H (L2.upd H a o) := SameX.self
    have hs1 : Src a (L2.upd H a o) := Src.upd ho
    generalize L2.upd H a o = H1 at sx1 hs1 hp
    have s2 := Same.new (o := .lst [V.str "new", V.str "open", V.str "shut", V.str "yes", V.str "main"]) hp
    obtain ⟨x1, y1, z1, ha1⟩ := id hs1
    have e1 : (1 + r) = (((1 + r).toNat : Nat) : Int) := by omega
    walk_at "dn"
    refine ⟨a, p, (1 + r).toNat, startNames, by rw [← e1], ⟨x1, y1, z1, s2 _ _ ha1⟩, upd_same, ne_of_none ha1 hp, by decide, by decide, startNames_ok, by omega, fun H3 S sts hsl hsn hst sx3 hs3 hS0 hS => ?_⟩
    have sx13 : SameX a H H3 := sx1.trans ((SameX.of s2).trans sx3)
    have nS : S ≠ a := fun z => by subst z; rw [s2 _ _ ha1] at hS0; cases hS0
    have hSH : H S = none := by
      cases e : H S with
      | none => rfl
      | some u => rw [s2 _ _ (sx1 _ _ nS e)] at hS0; cases hS0
    have hM3 := sx13 _ _ nM hM
    have hE3 := sx13 _ _ nE hE
    have htx : ∀ x ∈ sts, TxOk x := fun x hx => tx_ok (name_iff.mp (hst x hx)).2.2
    have hs0 : sts ≠ [] := by intro z; rw [z] at hsl; simp at hsl; omega
    intro d hd
    have s4 := Same.new (o := .dT []) hd
    have hs4 := hs3.new (o := .dT []) hd
    obtain ⟨x3, y3, z3, ha3⟩ := id hs3
    have nda : d ≠ a := (ne_of_none ha3 hd).symm
    have hdH : H d = none := by
      cases e : H d with
      | none => rfl
      | some u => rw [sx13 _ _ nda e] at hd; cases hd
    have hd4 : New H (L2.upd H3 d (.dT [])) fun X => LMoves X d [] := fun H'' k => ⟨[], k d _ hdH upd_same, .nil, List.nodup_nil⟩
    have d4 : Dm H (L2.upd H3 d (.dT [])) := (Dm.srcX sx13 hs3).trans Dm.upd
    have sx4 := sx13.trans (SameX.of s4)
    have hM4 := s4 _ _ hM3
    have hE4 := s4 _ _ hE3
    have hS4 := s4 _ _ hS
    generalize L2.upd H3 d (.dT []) = H4 at s4 hs4 hd4 sx4 hM4 hE4 hS4 d4
    have okn : PlanOk sts meths (ans2 ++ errs) [] := ⟨(fun m hm => by cases hm), (fun m hm => by cases hm), (fun m hm => by cases hm), List.nodup_nil⟩
    have ndM : M ≠ d := ne_of_none hM3 hd
    have ndE : Er ≠ d := ne_of_none hE3 hd
    have ndS : S ≠ d := ne_of_none hS hd
    refine ⟨_, rfl, S, rfl, ⟨_, SqL.of hS4⟩, for_it walk_lm (fun i σ H' => ∃ v7 v8 v9 v10 v11 v12 mv, σ = sgS a M Er name size (some (.ref S)) (some (.ref d)) v7 v8 v9 v10 v11 v12 ∧ mv.length ≤ i * 100 ∧ (∀ c u, c ≠ a → c ≠ d → H4 c = some u → H' c = some u) ∧ Src a H' ∧ Dm H H' ∧ New H H' (fun X => LMoves X d mv) ∧ PlanOk sts meths (ans2 ++ errs) mv) ⟨_, _, _, _, _, _, [], rfl, Nat.zero_le _, fun c u _ _ e => e, hs4, d4, hd4, okn⟩
      (fun i σ H' _ pv => by obtain ⟨_, _, _, _, _, _, _, _, _, k, _⟩ := pv; exact SqL.of (k _ _ nS ndS hS4)) (fun i yv σ H5 H6 hi pv yy => ?_) (fun σ H5 pv => ?_)⟩
    · obtain ⟨v7, v8, v9, v10, v11, v12, mv, rfl, hml5, k5, hs5, d5, hd5, ok5⟩ := pv
      obtain ⟨rfl, hy⟩ := yy
      obtain ⟨st, rfl, hstm⟩ := txt_of hy
      refine ⟨_, rfl, M, rfl, ⟨_, SqL.of (k5 _ _ nM ndM hM4)⟩, for_it walk_lm (fun j σ H' => ∃ v8 v9 v10 v11 v12 mv', σ = sgS a M Er name size (some (.ref S)) (some (.ref d)) (some (.str st)) v8 v9 v10 v11 v12 ∧ mv'.length ≤ mv.length + j ∧ (∀ c u, c ≠ a → c ≠ d → H4 c = some u → H' c = some u) ∧ Src a H' ∧ Dm H H' ∧ New H H' (fun X => LMoves X d mv') ∧ PlanOk sts meths (ans2 ++ errs) mv') ⟨_, _, _, _, _, mv, rfl, Nat.le_refl _, k5, hs5, d5, hd5, ok5⟩
        (fun i σ H' _ pv => by obtain ⟨_, _, _, _, _, _, _, _, k, _⟩ := pv; exact SqL.of (k _ _ nM ndM hM4)) (fun j yv σ H7 H8 hj pv yy => ?_) (fun σ H7 pv => ?_)⟩
      · obtain ⟨v8, v9, v10, v11, v12, mv', rfl, hml7, k7, hs7, d7, hd7, ok7⟩ := pv
        obtain ⟨rfl, hy⟩ := yy
        obtain ⟨m, rfl, hmm⟩ := txt_of hy
        refine stSn (K := K) (sts := sts) (errs := errs) (meths := meths) hs7 (k7 _ _ nS ndS hS4) (k7 _ _ nE ndE hE4) nS nE hs0 (by omega) hel htx her d7 ⟨_, ha'⟩ hdH hd7 ok7 hstm hmm ?_ fun H9 v9 v10 v11 mv9 l9 k9 hs9 d9 hd9 ok9 => ?_
        · have : i ≤ 20 := by omega
          omega
        · exact ⟨_, _, _, _, _, mv9, rfl, by omega, fun c u n1 n2 e => k9 c u n1 n2 (k7 c u n1 n2 e), hs9, d9, hd9, ok9⟩
      · obtain ⟨v8, v9, v10, v11, v12, mv', rfl, hml7, k7, hs7, d7, hd7, ok7⟩ := pv
        exact ⟨_, _, _, _, _, _, mv', rfl, by omega, k7, hs7, d7, hd7, ok7⟩
    · obtain ⟨v7, v8, v9, v10, v11, v12, mv, rfl, hml5, k5, hs5, d5, hd5, ok5⟩ := pv
      have hS5 := k5 _ _ nS ndS hS4
      refine ⟨_, rfl, S, rfl, ⟨_, SqL.of hS5⟩, fun L hL => ?_⟩
      obtain ⟨x5, y5, z5, ha5⟩ := id hs5
      have nLa : a ≠ L := ne_of_none ha5 hL
      refine lc_it walk_lm (fun i H' => SameX a H5 H' ∧ Src a H' ∧ ∃ es : List PySem.Str, H' L = some (.lst (es.map V.str)) ∧ es.Sublist (sts.take i)) ⟨SameX.of (Same.new hL), hs5.new hL, [], upd_same, List.nil_sublist _⟩ (fun i H' _ pv => SqL.of (pv.1 _ _ nS hS5)) (fun i yv H6 H7 hi pv yy => ?_) (fun H6 pv => ?_)
      · obtain ⟨sx6, ⟨x6, y6, z6, ha6⟩, es, hL6, hsub⟩ := pv
        obtain ⟨rfl, hy⟩ := yy
        obtain ⟨st, hst1⟩ : ∃ st, sts[i]? = some st := ⟨_, List.getElem?_eq_getElem hi⟩
        rw [List.getElem?_map, hst1] at hy
        cases Option.some.inj hy
        refine ⟨rfl, _, rfl, a, x6, y6, z6, 4, rfl, ha6, by decide, by decide, fun r o ho r1 r2 => ⟨_, _, rfl, rfl, _, rfl, ?_⟩⟩
        have sx7 := sx6.upd (o := o)
        have hs7 : Src a (L2.upd H7 a o) := Src.upd ho
        have hL7 : (L2.upd H7 a o) L = some (.lst (es.map V.str)) := by rw [upd_ne nLa.symm]; exact hL6
        generalize L2.upd H7 a o = H8 at sx7 hs7 hL7
        have hel2 := hsub.length_le
        rw [List.length_take] at hel2
        refine ite2 (fun e => ?_) (fun e => ?_)
        · refine ⟨.str st, rfl, _, hL7, by rw [List.length_map]; omega, fun c u n e => ?_, ?_, es ++ [st], by rw [upd_same, List.map_append] <;> rfl, ?_⟩
          · rw [upd_ne (ne_of_none e hL)]
            exact sx7 c u n e
          · obtain ⟨xx, yy, zz, hh⟩ := hs7
            exact ⟨xx, yy, zz, by rw [upd_ne nLa]; exact hh⟩
          · rw [take_next hst1]
            exact hsub.append (List.Sublist.refl _)
        · refine ⟨sx7, hs7, es, hL7, ?_⟩
          rw [take_next hst1]
          exact hsub.trans (List.sublist_append_left _ _)
      · obtain ⟨sx6, hs6, es, hL6, hsub⟩ := pv
        rw [List.take_length] at hsub
        obtain ⟨st, hst1⟩ : ∃ st, sts[0]? = some st := ⟨_, List.getElem?_eq_getElem (List.length_pos_iff.mpr hs0)⟩
        refine ⟨_, rfl, _, rfl, S, _, 0, .str st, rfl, rfl, SqL.of (sx6 _ _ nS hS5), atI_nat (j := 0) (by rw [List.getElem?_map, hst1] <;> rfl), _, rfl, _, rfl, by show 4 ≤ sizeLine; omega, fun t ht => ?_⟩
        have s7 := Same.new (o := .tup [.str name, .str st, .ref L, .ref d]) ht
        have nta : t ≠ a := fun z => by
          obtain ⟨_, _, _, hh⟩ := hs6
          subst z; rw [hh] at ht; cases ht
        have sxE : SameX a H H5 := fun c u n e => k5 c u n (ne_of_none e hdH) (sx4 c u n e)
        have fr : ∀ {c : Addr}, c ≠ a → H5 c = none → H c = none := fun {c} n e => by
          cases z : H c with
          | none => rfl
          | some u => rw [sxE c u n z] at e; cases e
        have ht5 : H5 t = none := by
          cases z : H5 t with
          | none => rfl
          | some u => rw [sx6 t u nta z] at ht; cases ht
        have hL0 : H L = none := fr nLa.symm hL
        have ht0 : H t = none := fr nta ht5
        refine q _ t L d st sts es mv hst1 (by omega) hsn hst (hsn.sublist hsub) (fun x hx => hsub.subset hx) ok5 ((sxE.trans sx6).trans (SameX.of s7)) (hs6.same s7) fun H'' k => ⟨k t _ ht0 upd_same, k L _ hL0 (s7 _ _ hL6), ?_⟩
        exact ((hd5.toX ha' sx6).to fun c u _ e => s7 c u e) H'' k
end
end Rs
set_option Elab.async false
set_option linter.all false
set_option maxRecDepth 100000
set_option maxHeartbeats 2000000
namespace Rs
open PySem PySem.Spec PyProof.Rows L2
local macro_rules | `(tactic| walk_at "rd") => `(tactic| simp only [L2.tRet, L2.tRetN, L2.tSeq, L2.tNext, L2.tIfS, L2.tAsg, L2.gName, L2.gNil, L2.gCons, L2.tVar, L2.tC, L2.tOp, L2.tUn, L2.tCB, L2.tCons, L2.tNil, L2.tAndV, L2.tOrV, L2.tNotV, L2.tAnd, L2.tOr, L2.tNot, L2.tB, L2.tTest, L2.tIf, L2.tChain, L2.tTup, L2.tLst, L2.tDrop, L2.tFld, L2.sFld, L2.tOst, L2.tBM, L2.rNe, L2.tMkO, L2.start, L2.cxOf, L2.Cx.nox, L2.Cx.wish, L2.rI0, L2.rI, L2.tYes, Rs.tCalW, List.getElem?_cons_zero, List.getElem?_cons_succ, Option.some.injEq, exists_eq_left', exists_eq_left, exists_and_left, List.cons.injEq, and_true, true_and, L2.V.bl.injEq, L2.V.int.injEq, L2.V.str.injEq, L2.V.ref.injEq, List.set_cons_zero, List.set_cons_succ, List.map_cons, List.map_nil, List.length_cons, List.length_nil, List.replicate, List.cons_append, List.nil_append, List.append_nil, Nat.reduceSub, Nat.reduceAdd])
local macro_rules | `(tactic| walk_at "dn") => `(tactic| dsimp only [L2.tCons, L2.tC, L2.tNil])
section
variable {P : Program} {w : World} {K : PySem.W.Frag} {mg : PySem.Str → Option Value} {base : Heap}
theorem cutV_take (xs : List V) (n : Nat) : cutV xs none (some (n : Int)) = xs.take n := by
  unfold cutV
  rw [HT.sIx_nat, HT.sIx_none, List.drop_zero, Nat.sub_zero]
  by_cases h : n ≤ xs.length
  · rw [Nat.min_eq_left h]
  · rw [Nat.min_eq_right (by omega), List.take_length, List.take_of_length_le (by omega)]
theorem cutV_drop (xs : List V) (n : Nat) : cutV xs (some (n : Int)) none = xs.drop n := by
  unfold cutV
  rw [HT.sIx_nat, HT.sIx_none]
  by_cases h : n ≤ xs.length
  · rw [Nat.min_eq_left h, List.take_of_length_le (by rw [List.length_drop]; exact Nat.le_refl _)]
  · rw [Nat.min_eq_right (by omega), List.drop_length, List.drop_of_length_le (by omega), List.take_nil]
/-! ### the drawn kinds -/
structure Pl where
  name : PySem.Str
  st : PySem.Str
  sts : List PySem.Str
  ends : List PySem.Str
  mv : List Mv
structure PlOk (size : Int) (meths errs : List PySem.Str) (p : Pl) : Prop where
  name : isName (.str p.name) = true
  st : p.sts[0]? = some p.st
  few : (p.sts.length : Int) ≤ size
  nd : p.sts.Nodup
  names : ∀ x ∈ p.sts, isName (.str x) = true
  endsN : p.ends.Nodup
  endsS : ∀ x ∈ p.ends, x ∈ p.sts
  mvs : PlanOk p.sts meths (ans2 ++ errs) p.mv
def PlT (H : Hp) (p : Pl) (t : Addr) : Prop := ∃ eA dA, PlanAt H t p.name p.st p.ends p.mv eA dA
theorem txts_ne {a p : Addr} {H : Hp} {ss : List PySem.Str} (ha : Src a H) (hp : H p = some (.lst (ss.map V.str))) : p ≠ a := by
  obtain ⟨x, y, z, ha⟩ := ha
  rintro rfl
  rw [hp] at ha
  have := HO.lst.inj (Option.some.inj ha)
  cases ss with
  | nil => cases this
  | cons b bs => cases (List.cons.inj this).1
theorem tup_ne {a p : Addr} {H : Hp} {xs : List V} (ha : Src a H) (hp : H p = some (.tup xs)) : p ≠ a := by
  obtain ⟨x, y, z, ha⟩ := ha
  exact ne_of hp ha (by intro q; cases q)
theorem PlanAt.keep {a t eA dA : Addr} {H H' : Hp} {name st : PySem.Str} {ends : List PySem.Str} {mv : List Mv} (ha : Src a H) (s : SameX a H H') (h : PlanAt H t name st ends mv eA dA) : PlanAt H' t name st ends mv eA dA :=
  ⟨s _ _ (tup_ne ha h.tup) h.tup, s _ _ (txts_ne ha h.ends) h.ends, h.mvs.keep ha s⟩
theorem PlT.keep {a t : Addr} {H H' : Hp} {p : Pl} (ha : Src a H) (s : SameX a H H') (h : PlT H p t) : PlT H' p t := let ⟨eA, dA, h⟩ := h; ⟨eA, dA, h.keep ha s⟩
def kindNames : List PySem.Str := ["file", "lock", "main", "a", "exit"]
def methNames : List PySem.Str := ["read", "call", "no", "ab"]
def twoMeths : List PySem.Str := ["enter", "exit"]
def fiveErrs : List PySem.Str := ["E", "GUARD", "LOST", "EE", "ZZZZZZZZ"]
theorem kindNames_ok : ∀ x ∈ kindNames, isName (.str x) = true := by decide +kernel
theorem methNames_ok : ∀ x ∈ methNames, isName (.str x) = true := by decide +kernel
theorem twoMeths_ok : ∀ x ∈ twoMeths, isName (.str x) = true := by decide +kernel
theorem fiveErrs_ok : ∀ x ∈ fiveErrs, isWord (.str x) = true ∧ TxOk x ∧ x.length ≤ 8 := by decide +kernel
structure SortsAt (H : Hp) (t : Addr) (ps : List Pl) (meths errs : List PySem.Str) (kL mL eL : Addr) (ts : List Addr) : Prop where
  tup : H t = some (.tup [.ref kL, .ref mL, .ref eL])
  kinds : H kL = some (.lst (ts.map V.ref))
  pls : Paired (PlT H) ps ts
  meths : H mL = some (.lst (meths.map V.str))
  errs : H eL = some (.lst (errs.map V.str))
structure DrawnOk (meths errs : List PySem.Str) : Prop where
  mn : ∀ x ∈ meths, isName (.str x) = true
  ml : meths.length ≤ 4
  m1 : meths ≠ []
  en : ∀ x ∈ errs, x ∈ fiveErrs
  el : errs.length ≤ 2
def sp_sorts (K : PySem.W.Frag) : Sp := fun vs H Q _ => ∃ (a : Addr) (many : Nat) (size : Int), vs = [.ref a, .int many, .int size] ∧ Src a H ∧ many ≤ 20 ∧ 0 < size ∧ size ≤ 19 ∧
  ∀ (H' : Hp) (t kL mL eL : Addr) (ts : List Addr) (ps : List Pl) (meths errs : List PySem.Str), ps.length = many → (ps.map (·.name)).Nodup → (∀ p ∈ ps, PlOk size meths errs p) → DrawnOk meths errs → SameX a H H' → Src a H' → SortsAt H' t ps meths errs kL mL eL ts → Q (.ref t) H'
theorem ok_sorts (T : Txt K mg) : Cal P w K mg base 5 "_law_sorts" ["_law_well", "_law_many", "_law_size"] (sp_sorts K) := by
  have c_law_draw := ok_draw (P := P) (w := w) (base := base) T
  have c_law_words := ok_words (P := P) (w := w) (base := base) T
  have c_law_sort := ok_sort (P := P) (w := w) (base := base) T
  obtain ⟨fd, F⟩ := T.d_l_sorts
  refine cal_of F T.g_law_sorts (F.bindsN fun _ _ _ _ _ _ us hl => match us, hl with | [_, _, _], _ => rfl) ?_
  refine F.ok sc_l_sorts (fun vs H Q E h => ?_) (fun cdv A outer s H vs Q E hr h => ?_)
  · obtain ⟨a, many, size, rfl, _⟩ := h
    rfl
  · refine ⟨_, PSs.nox (pss_cons (ps_set (i := 3) sc_l_sorts.nd rfl (Or.inl rfl) (pe_cal c_law_words (hr.mono (by decide)) takes0 (pa_cons (pv 0) (pa_cons (pv 1) (pa_cons (pe_lst (pa_cons pe_str (pa_cons pe_str (pa_cons pe_str (pa_cons pe_str (pa_cons pe_str pa_nil)))))) pa_nil)))))
      (pss_cons (ps_set (i := 4) sc_l_sorts.nd rfl (Or.inr rfl) (pe_cal c_law_words (hr.mono (by decide)) takes0 (pa_cons (pv 0) (pa_cons (pe_op op_add pe_int (pe_cal c_law_draw (hr.mono (by decide)) takes0 (pa_cons (pv 0) (pa_cons pe_int pa_nil)))) (pa_cons (pe_lst (pa_cons pe_str (pa_cons pe_str (pa_cons pe_str (pa_cons pe_str pa_nil))))) pa_nil)))))
      (pss_cons (ps_set (i := 4) sc_l_sorts.nd rfl (Or.inr rfl) (pe_op op_cat (pv 4) (pe_lst (pa_cons pe_str (pa_cons pe_str pa_nil)))))
      (pss_cons (ps_set (i := 5) sc_l_sorts.nd rfl (Or.inr rfl) (pe_slice (r := rSlL K) sl_list (pe_slice (r := rSlL K) sl_list (pe_lst (pa_cons pe_str (pa_cons pe_str (pa_cons pe_str (pa_cons pe_str (pa_cons pe_str pa_nil)))))) (po_some (pe_cal c_law_draw (hr.mono (by decide)) takes0 (pa_cons (pv 0) (pa_cons pe_int pa_nil)))) po_none) po_none (po_some pe_int)))
      (pss_cons (ps_setLc (i := 7) (own := [("_law_name", 6)]) (g := gName 6) (tt := tYes) rfl sc_l_sorts.nd rfl rfl (sw_true rfl rfl rfl (by decide +kernel)) (pi_list (pv 3)) (blkOk_by (own := [("_law_name", 6)]) (N := ["_law_well", "_law_many", "_law_size", "_law_names", "_law_methods", "_law_errors", "_law_name", "_law_kinds"]) (sc := defScope s_l_sorts) (by decide +kernel)) (fun _ _ _ _ _ => (pg_name (i := 6) sc_l_sorts.nd rfl (by first | exact Or.inl rfl | exact Or.inr rfl))) (fun _ _ _ _ _ => pts_nil) (fun _ _ _ _ _ => (pe_cal c_law_sort (hr.mono (by decide)) takes0 (pa_cons (pv 0) (pa_cons (pv 6) (pa_cons (pv 4) (pa_cons (pv 5) (pa_cons (pv 2) pa_nil))))))))
      (pss_one (ps_ret (pe_tup (pa_cons (pv 7) (pa_cons (pv 4) (pa_cons (pv 5) pa_nil))))))))))), ?_⟩
    obtain ⟨a, many, size, rfl, ha, hmany, hz0, hz1, q⟩ := h
    have line : sizeLine = 16777216 := sizeLine_eq
    obtain ⟨x, y, z, ha'⟩ := id ha
    -- the names
    refine ⟨_, rfl, _, rfl, by show 5 ≤ sizeLine; omega, fun p1 hp1 => ?_⟩
    walk_at "dn"
    have s1 := Same.new (o := .lst (kindNames.map V.str)) hp1
    refine ⟨a, p1, many, kindNames, rfl, ha.same s1, upd_same, ne_of_none ha' hp1, by decide, by decide, kindNames_ok, hmany, fun H2 nL names hnl hnd hnn sx2 hs2 _ hnL => ?_⟩
    have sx02 : SameX a H H2 := (SameX.of s1).trans sx2
    -- the methods
    obtain ⟨x2, y2, z2, ha2⟩ := id hs2
    refine ⟨_, rfl, _, rfl, a, x2, y2, z2, 2, rfl, ha2, by decide, by decide, fun r o ho r1 r2 => ⟨_, _, rfl, rfl, by show 4 ≤ sizeLine; omega, fun p3 hp3 => ?_⟩⟩
    have sx3 : SameX a H2 (L2.upd H2 a o) := SameX.self
    have hs3 : Src a (L2.upd H2 a o) := Src.upd ho
    generalize L2.upd H2 a o = H3 at sx3 hs3 hp3
    have s4 := Same.new (o := .lst (methNames.map V.str)) hp3
    obtain ⟨x3, y3, z3, ha3⟩ := id hs3
    have e1 : (1 + r) = (((1 + r).toNat : Nat) : Int) := by omega
    walk_at "dn"
    refine ⟨a, p3, (1 + r).toNat, methNames, by rw [← e1] <;> rfl, hs3.same s4, upd_same, ne_of_none ha3 hp3, by decide, by decide, methNames_ok, by omega, fun H5 mL0 ms hml hmnd hmn sx5 hs5 _ hmL0 => ?_⟩
    have sx25 : SameX a H2 H5 := sx3.trans ((SameX.of s4).trans sx5)
    refine ⟨.ref mL0, rfl, by show 2 ≤ sizeLine; omega, fun p6 hp6 => ⟨mL0, p6, _, _, rfl, rfl, Same.new hp6 _ _ hmL0, upd_same, by rw [List.length_map]; show _ + 2 ≤ _; omega, fun mL hmL => ?_⟩⟩
    have s6 := (Same.new (o := .lst [V.str "enter", V.str "exit"]) hp6).trans (Same.new (o := .lst (ms.map V.str ++ [V.str "enter", V.str "exit"])) hmL)
    have e6 : (L2.upd (L2.upd H5 p6 (.lst [V.str "enter", V.str "exit"])) mL (.lst (ms.map V.str ++ [V.str "enter", V.str "exit"]))) mL = some (.lst ((ms ++ twoMeths).map V.str)) := by rw [upd_same, List.map_append] <;> rfl
    have hs6 := hs5.same s6
    have sx26 := sx25.trans (SameX.of s6)
    generalize L2.upd (L2.upd H5 p6 (.lst [V.str "enter", V.str "exit"])) mL (.lst (ms.map V.str ++ [V.str "enter", V.str "exit"])) = H6 at s6 e6 hs6 sx26
    -- the errors
    refine ⟨by show 5 ≤ sizeLine; omega, fun p7 hp7 => ?_⟩
    have s7 := Same.new (o := .lst (fiveErrs.map V.str)) hp7
    have e7 : (L2.upd H6 p7 (.lst (fiveErrs.map V.str))) p7 = some (.lst (fiveErrs.map V.str)) := upd_same
    have hs7 := hs6.same s7
    obtain ⟨x7, y7, z7, ha7⟩ := id hs7
    have n7 : p7 ≠ a := txts_ne hs7 e7
    have sx27 := sx26.trans (SameX.of s7)
    have eM7 := s7 _ _ e6
    generalize hH7 : L2.upd H6 p7 (.lst (fiveErrs.map V.str)) = H7 at s7 e7 hs7 ha7 sx27 eM7
    have hH7' : L2.upd H6 p7 (.lst [V.str "E", V.str "GUARD", V.str "LOST", V.str "EE", V.str "ZZZZZZZZ"]) = H7 := hH7
    rw [hH7']
    refine ⟨_, rfl, a, x7, y7, z7, 4, rfl, ha7, by decide, by decide, fun k o8 ho8 k1 k2 => ⟨k, rfl, p7, _, rfl, SqL.of (by rw [upd_ne n7]; exact e7), fun p9 hp9 => ?_⟩⟩
    have sx8 : SameX a H7 (L2.upd H7 a o8) := SameX.self
    have hs8 : Src a (L2.upd H7 a o8) := Src.upd ho8
    generalize L2.upd H7 a o8 = H8 at sx8 hs8 hp9
    have ek : k = ((k.toNat : Nat) : Int) := by omega
    rw [ek, cutV_drop, ← List.map_drop]
    have s9 := Same.new (o := .lst ((fiveErrs.drop k.toNat).map V.str)) hp9
    refine ⟨2, rfl, p9, _, rfl, SqL.of upd_same, fun eL heL => ?_⟩
    rw [show (2 : Int) = ((2 : Nat) : Int) from rfl, cutV_take, ← List.map_take]
    have s10 := s9.trans (Same.new (o := .lst (((fiveErrs.drop k.toNat).take 2).map V.str)) heL)
    have e10 : (L2.upd (L2.upd H8 p9 (.lst ((fiveErrs.drop k.toNat).map V.str))) eL (.lst (((fiveErrs.drop k.toNat).take 2).map V.str))) eL = some (.lst (((fiveErrs.drop k.toNat).take 2).map V.str)) := upd_same
    have hs10 := hs8.same s10
    have sx210 := sx27.trans (sx8.trans (SameX.of s10))
    have eM10 := (sx8.trans (SameX.of s10)) _ _ (txts_ne hs7 eM7) eM7
    generalize L2.upd (L2.upd H8 p9 (.lst ((fiveErrs.drop k.toNat).map V.str))) eL (.lst (((fiveErrs.drop k.toNat).take 2).map V.str)) = H10 at s10 e10 hs10 sx210 eM10
    generalize herr : (fiveErrs.drop k.toNat).take 2 = errs at e10
    have dok : DrawnOk (ms ++ twoMeths) errs := by
      refine ⟨fun x hx => ?_, ?_, ?_, fun x hx => ?_, ?_⟩
      · rcases List.mem_append.mp hx with hx | hx
        · exact hmn x hx
        · exact twoMeths_ok x hx
      · rw [List.length_append, hml]; show _ + 2 ≤ 4; omega
      · intro z
        have := congrArg List.length z
        rw [List.length_append] at this
        simp [twoMeths] at this
      · rw [← herr] at hx
        exact List.mem_of_mem_drop (List.mem_of_mem_take hx)
      · rw [← herr, List.length_take]; omega
    -- the kinds
    have hn10 := sx210 _ _ (txts_ne hs2 hnL) hnL
    refine ⟨_, rfl, nL, rfl, ⟨_, SqL.of hn10⟩, fun kL hkL => ?_⟩
    obtain ⟨x10, y10, z10, ha10⟩ := id hs10
    have nka : a ≠ kL := ne_of_none ha10 hkL
    generalize hHB : L2.upd H10 kL (.lst []) = HB
    rw [← hHB]
    refine lc_it walk_lm (fun i H' => SameX a H10 H' ∧ Src a H' ∧ Dm HB H' ∧ ∃ (ts : List Addr) (ps : List Pl), H' kL = some (.lst (ts.map V.ref)) ∧ ts.length = i ∧ Paired (fun p t => New HB H' fun X => PlT X p t) ps ts ∧ ps.map (·.name) = names.take i ∧ ∀ p ∈ ps, PlOk size (ms ++ twoMeths) errs p)
      ⟨SameX.of (Same.new hkL), hs10.new hkL, by rw [hHB]; exact Dm.refl _, [], [], upd_same, rfl, .nil, by rw [List.take_zero] <;> rfl, (fun p hp => by cases hp)⟩ (fun i H' _ pv => SqL.of (pv.1 _ _ (txts_ne hs10 hn10) hn10)) (fun i yv H11 H12 hi pv yy => ?_) (fun H11 pv => ?_)
    · obtain ⟨sx11, hs11, dB11, ts, ps, hk11, hts, hpl, hpn, hpo⟩ := pv
      obtain ⟨rfl, hy⟩ := yy
      obtain ⟨nm, hnm⟩ : ∃ nm, names[i]? = some nm := ⟨_, List.getElem?_eq_getElem hi⟩
      rw [List.getElem?_map, hnm] at hy
      cases Option.some.inj hy
      refine ⟨rfl, _, rfl, _, rfl, _, rfl, _, rfl, _, rfl, ?_⟩
      walk_at "dn"
      have eM11 := sx11 _ _ (txts_ne hs10 eM10) eM10
      have eE11 := sx11 _ _ (txts_ne hs10 e10) e10
      refine ⟨a, mL, eL, nm, size, ms ++ twoMeths, errs, rfl, hs11, eM11, eE11, txts_ne hs11 eM11, txts_ne hs11 eE11, by have := dok.ml; omega, by have := dok.el; omega, fun x hx => (fiveErrs_ok x (dok.en x hx)).2.1, hz0, hz1, fun H13 t eA dA st sts ends mv c1 c2 c3 c4 c5 c6 c7 sx13 hs13 pa => ?_⟩
      have nka' : kL ≠ a := nka.symm
      refine ⟨_, sx13 _ _ nka' hk11, by rw [List.length_map, hts]; omega, fun c u n e => ?_, ?_, (dB11.trans (Dm.srcX sx13 hs13)).trans Dm.upd, ts ++ [t], ps ++ [⟨nm, st, sts, ends, mv⟩], by rw [upd_same, List.map_append] <;> rfl, by simp [hts], ?_, ?_, fun p hp => ?_⟩
      · rw [upd_ne (ne_of_none e hkL)]
        exact sx13 _ _ n (sx11 _ _ n e)
      · obtain ⟨xx, yy, zz, hh⟩ := hs13
        exact ⟨xx, yy, zz, by rw [upd_ne nka]; exact hh⟩
      · have nk : ∀ {o : HO} {c : Addr} {u : HO}, HB c = none → H13 c = some u → (L2.upd H13 kL o) c = some u := fun {o c u} n e => by
          have : c ≠ kL := fun z => by subst z; rw [← hHB, upd_same] at n; cases n
          rw [upd_ne this]; exact e
        have aB : HB a = some (.lst [.int x10, .int y10, .int z10]) := by rw [← hHB, upd_ne nka]; exact ha10
        refine Paired.snoc (Paired.imp hpl fun p b z => ?_) ?_
        · exact (z.toX aB sx13).to fun c u n e => nk n e
        · have pa' := pa.mono dB11
          intro H'' k
          exact ⟨eA, dA, pa' H'' fun c u n e => k c u n (nk n e)⟩
      · rw [List.map_append, hpn, take_next hnm] <;> rfl
      · rcases List.mem_append.mp hp with hp | hp
        · exact hpo p hp
        · rw [List.mem_singleton.mp hp]
          exact ⟨hnn nm (List.mem_of_getElem? hnm), c1, c2, c3, c4, c5, c6, c7⟩
    · obtain ⟨sx11, hs11, _, ts, ps, hk11, hts, hpl, hpn, hpo⟩ := pv
      rw [List.take_length] at hpn
      refine ⟨_, rfl, _, rfl, _, rfl, by show 3 ≤ sizeLine; omega, fun t ht => ?_⟩
      have s12 := Same.new (o := .tup [.ref kL, .ref mL, .ref eL]) ht
      refine q _ t kL mL eL ts ps (ms ++ twoMeths) errs ?_ (by rw [hpn]; exact hnd) hpo dok ?_ (hs11.same s12) ⟨upd_same, s12 _ _ hk11, Paired.imp hpl fun _ _ z => (z.here).keep hs11 (SameX.of s12), s12 _ _ (sx11 _ _ (txts_ne hs10 eM10) eM10), s12 _ _ (sx11 _ _ (txts_ne hs10 e10) e10)⟩
      · rw [Paired.length hpl, hts, hnl]
      · exact (sx02.trans sx210).trans (sx11.trans (SameX.of s12))
end
end Rs
set_option Elab.async false
set_option linter.all false
set_option maxRecDepth 100000
set_option maxHeartbeats 2000000
/-! A local that holds a def of the module, which may raise; isinstance of the error in hand. -/
namespace Rs
open PySem PySem.Spec PyProof.Rows L2
def tCalLW (i : Nat) (f : Addr) (sp : Sp) (W : WX) (t : TA) : TE := fun σ H Q => σ[i]? = some (some (.ref f)) ∧ t σ H fun vs H1 => sp vs H1 Q (at_ W σ)
theorem pe_calLW {X : Cx} {k i : Nat} {y x : PySem.Str} {f : Addr} {ps : List PySem.Str} {sp : Sp} {W : WX} {p pos : Pos} {e : Expr} {es : List Expr} {t : TA} (c : Cal X.prog X.w X.K X.mg X.base k y ps sp) (g : X.mg y = some (.ref f)) (hr : Room k X.A) (tk : Takes X W) (hN : X.N[i]? = some x) (hv : Vis X.env.scope x) (ha : PA X (e :: es) t)
    (hdb : (x == ("__debug__" : PySem.Str)) = false := by decide) (hcd : (x == ("__classdict__" : PySem.Str)) = false := by decide)
    (he : starEach (e :: es) X.env = (false, eval e X.env) :: starEach es X.env := by rfl) (hpl : (backTo pos (starEach es X.env)).any (·.1) = false := by rfl) : PE X (.Call (.Name x p) (e :: es) [] pos) (tCalLW i f sp W t) := by
  obtain ⟨f', fd, F, hm, hk, hb⟩ := c.ex
  cases Option.some.inj (hm.symm.trans g)
  refine ⟨fun pins s σ H Q I h => ?_⟩
  obtain ⟨hs, ht⟩ := h
  refine wpAny_Call_Name_kw (thn ((pe_var (pos := p) hN hv hdb hcd).run pins s σ H (fun v H1 => v = .ref f ∧ H1 = H) I ⟨.ref f, hs, rfl, rfl⟩) fun u s1 ⟨v, H1, I1, r1, q1⟩ => ?_)
  obtain ⟨rfl, rfl⟩ := q1
  cases r1
  exact PySem.W.callWith_K (h₀ := X.base) I.ok.mod.kin hk (thn (ha.run pos pins s1 σ _ _ I1 ht) fun us s2 ⟨vs, H2, I2, r, q⟩ => ⟨I2.kIn, run_fnS (E := at_ W) F hr hb (pass_at tk σ) I2 r q⟩) he hpl
/-- isinstance of the error in hand, of the class D -/
def rIsXd (K : PySem.W.Frag) (D a : Addr) (cls : Value) (d : Option Addr) : List V → Hp → VK → Prop := fun xs H Q => cls = .ref D ∧ rIsX K D a d xs H Q
theorem call_isXd {X : Cx} {a D : Addr} {d : Option Addr} {oe : Obj} {cls : Value} {pn : List (Addr × Obj)} (C : ExcC X.K D) (hz : Zc cls d oe) (hf : ∃ vs, oe.data = .fields vs) : CallR (X.suite a ((a, oe) :: pn)) (.builtin "isinstance") (rIsXd X.K D a cls d) := by
  intro pins s σ H xs us Q I r h
  obtain ⟨rfl, h⟩ := h
  exact call_isX C hz hf pins s σ H xs us Q I r h
def rListOf (K : PySem.W.Frag) : List V → Hp → VK → Prop := fun xs H Q => ∃ p ys, xs = [.ref p] ∧ (SqL K H p ys ∨ SqT K H p ys) ∧ ∀ l, H l = none → Q (.ref l) (upd H l (.lst ys))
theorem call_listOf {X : Cx} : CallR X (.type "list") (rListOf X.K) := call_list_of
end Rs
set_option Elab.async false
set_option linter.all false
set_option maxRecDepth 100000
set_option maxHeartbeats 2000000
namespace Rs
open PySem PySem.Spec PyProof.Rows L2
local macro_rules | `(tactic| walk_at "rd") => `(tactic| simp only [L2.tRet, L2.tRetN, L2.tSeq, L2.tNext, L2.tIfS, L2.tAsg, L2.gName, L2.gNil, L2.gCons, L2.tVar, L2.tC, L2.tOp, L2.tUn, L2.tCB, L2.tCons, L2.tNil, L2.tAndV, L2.tOrV, L2.tNotV, L2.tAnd, L2.tOr, L2.tNot, L2.tB, L2.tTest, L2.tIf, L2.tChain, L2.tTup, L2.tLst, L2.tDrop, L2.tFld, L2.sFld, L2.tOst, L2.tBM, L2.rNe, L2.tMkO, L2.start, L2.cxOf, L2.Cx.nox, L2.Cx.wish, L2.rI0, L2.rI, L2.tYes, Rs.tCalW, List.getElem?_cons_zero, List.getElem?_cons_succ, Option.some.injEq, exists_eq_left', exists_eq_left, exists_and_left, List.cons.injEq, and_true, true_and, L2.V.bl.injEq, L2.V.int.injEq, L2.V.str.injEq, L2.V.ref.injEq, List.set_cons_zero, List.set_cons_succ, List.map_cons, List.map_nil, List.length_cons, List.length_nil, List.replicate, List.cons_append, List.nil_append, List.append_nil, Nat.reduceSub, Nat.reduceAdd])
local macro_rules | `(tactic| walk_at "dn") => `(tactic| dsimp only [L2.tCons, L2.tC, L2.tNil])
section
variable {X : Cx} {k : Nat} {C : Addr} {ps : List PySem.Str} {sp : Sp}
theorem op_caleq (c : CalD X.prog X.w X.K X.mg X.base k C "__eq__" ps sp) (hr : Room k X.A) : OpR X (compareOp .Eq) (rEqO X.K C sp E0) := by
  obtain ⟨f, fd, F, d, hb⟩ := c.ex
  exact op_eqO d F hr hb passL
theorem op_calne (c : CalD X.prog X.w X.K X.mg X.base k C "__eq__" ps sp) (n : NeC X.K C) (hr : Room (k + 1) X.A) : OpR X (compareOp .NotEq) (rNeO X.K C sp E0) := by
  obtain ⟨f, fd, F, d, hb⟩ := c.ex
  exact op_neO d n F hr hb passL
end
section
variable {P : Program} {w : World} {K : PySem.W.Frag} {mg : PySem.Str → Option Value} {base : Heap}
theorem pe_bmC {X : Cx} {K : PySem.W.Frag} {o e : Expr} {es : List Expr} {to : TE} {t : TA} {name : PySem.Str} {apos cpos : Pos} {T id : String} {r : V → List V → Hp → VK → Prop} (pa : PlainAttrs T) (slot : Slot T name id) (hty : typeOf (.builtin id) = pure (.type "method_descriptor")) (hm : MtR X id r) (ho : PE X o to) (ha : PA X (e :: es) t) (hK : X.K = K := by rfl) (hbase : attributeBase o name X.env (eval o X.env) = eval o X.env := by rfl) (hfew : ((backTo cpos (starEach (e :: es) X.env)).all (fun x => !x.1) && (backToKw cpos (keywordEach [] X.env)).all (fun x => x.1.isSome) && decide ((e :: es).length + ([] : List Keyword).length + (if ([] : List Keyword).isEmpty then 0 else 1) < 30)) = true := by rfl) (hline : (apos.endLine == cpos.line) = true := by rfl) (hs : starEach (e :: es) X.env = (false, eval e X.env) :: starEach es X.env := by rfl) (hplain : (backTo cpos (starEach es X.env)).any (·.1) = false := by rfl) : PE X (.Call (.Attribute o name apos) (e :: es) [] cpos) (tBM K T r to t) := hK ▸ pe_bm pa slot hty hm ho ha hbase hfew hline hs hplain
/-! ### some things in a drawn order -/
theorem eraseP {α : Type} : ∀ {l : List α} {i : Nat} {v : α}, l[i]? = some v → (v :: l.eraseIdx i).Perm l
  | [], _, _, h => by simp at h
  | x :: l, 0, v, h => by
    simp at h
    subst h
    exact List.Perm.refl _
  | x :: l, i + 1, v, h => (List.Perm.swap x v _).trans ((eraseP (l := l) (i := i) (v := v) (by simpa using h)).cons x)
def sp_turned (K : PySem.W.Frag) : Sp := fun vs H Q _ => ∃ (a b : Addr) (xs : List V), vs = [.ref a, .ref b] ∧ Src a H ∧ H b = some (.lst xs) ∧ b ≠ a ∧ xs.length ≤ 4000 ∧
  ∀ (H' : Hp) (l : Addr) (ys : List V), ys.Perm xs → SameX a H H' → Src a H' → H l = none → H' l = some (.lst ys) → Q (.ref l) H'
theorem ok_turned (T : Txt K mg) : Cal P w K mg base 2 "_law_turned" ["_law_well", "_law_some"] (sp_turned K) := by
  have c_law_draw := ok_draw (P := P) (w := w) (base := base) T
  obtain ⟨fd, F⟩ := T.d_l_turned
  refine cal_of F T.g_law_turned (F.bindsN fun _ _ _ _ _ _ us hl => match us, hl with | [_, _], _ => rfl) ?_
  refine F.ok sc_l_turned (fun vs H Q E h => ?_) (fun cdv A outer s H vs Q E hr h => ?_)
  · obtain ⟨a, b, xs, rfl, _⟩ := h
    rfl
  · refine ⟨_, PSs.nox (pss_cons (ps_set (i := 2) sc_l_turned.nd rfl (Or.inr rfl) (pe_callTy (r := rListOf K) call_listOf rfl T.b_list (by decide +kernel) (pa_cons (pv 1) pa_nil)))
      (pss_one (ps_ret (pe_lc (own := [("_law_k", 3)]) (g := gName 3) (tt := tYes) rfl sc_l_turned.nd (pi_range1 rfl T.b_range (pa_cons (pe_callB (r := rLenQ K) call_lenQ rfl T.b_len (by decide +kernel) (pa_cons (pv 2) pa_nil)) pa_nil)) (blkOk_by (own := [("_law_k", 3)]) (N := ["_law_well", "_law_some", "_law_left", "_law_k"]) (sc := defScope s_l_turned) (by decide +kernel)) (fun _ _ _ _ _ => (pg_name (i := 3) sc_l_turned.nd rfl (by first | exact Or.inl rfl | exact Or.inr rfl))) (fun _ _ _ _ _ => pts_nil) (fun _ _ _ _ _ => (pe_bmC (K := K) (r := rPopAt) PySem.F.plainAttrs_list PySem.F.slot_list_pop PySem.F.type_list_pop mt_popAt (pv 2) (pa_cons (pe_cal c_law_draw (hr.mono (by decide)) takes0 (pa_cons (pv 0) (pa_cons (pe_callB (r := rLenQ K) call_lenQ rfl T.b_len (by decide +kernel) (pa_cons (pv 2) pa_nil)) pa_nil))) pa_nil))))))), ?_⟩
    obtain ⟨a, b, xs, rfl, ha, hb, ne, hl, q⟩ := h
    have line : sizeLine = 16777216 := sizeLine_eq
    refine ⟨_, rfl, b, _, rfl, .inl (SqL.of hb), fun L hL => ?_⟩
    obtain ⟨x, y, z, ha'⟩ := id ha
    have nLa : L ≠ a := (ne_of_none ha' hL).symm
    have s1 := Same.new (o := .lst xs) hL
    have e1 : (L2.upd H L (.lst xs)) L = some (.lst xs) := upd_same
    have ha1 := ha.same s1
    generalize L2.upd H L (.lst xs) = H1 at s1 e1 ha1
    refine ⟨_, rfl, L, xs, rfl, .inl (SqL.of e1), _, rfl, by omega, by omega, fun D hD => ?_⟩
    have nDL : L ≠ D := ne_of_none e1 hD
    have nDa : D ≠ a := by obtain ⟨_, _, _, h⟩ := ha1; exact (ne_of_none h hD).symm
    refine lc_it walk_range (fun i H' => SameX a H H' ∧ Src a H' ∧ ∃ ls fs : List V, H' L = some (.lst ls) ∧ H' D = some (.lst fs) ∧ fs.length = i ∧ (fs ++ ls).Perm xs) ⟨?_, ha1.new hD, xs, [], by rw [upd_ne nDL]; exact e1, upd_same, rfl, List.Perm.refl _⟩ (fun i H' _ _ => trivial) (fun i yv H2 H3 hi pv yy => ?_) (fun H2 pv => ?_)
    · exact (SameX.of s1).trans (SameX.of (Same.new hD))
    · obtain ⟨sx, hs, ls, fs, h1, h2, h3, hp⟩ := pv
      obtain ⟨rfl, rfl⟩ := yy
      have hlen := hp.length_eq
      rw [List.length_append] at hlen
      obtain ⟨x2, y2, z2, ha2⟩ := id hs
      have hls : 0 < ls.length := by omega
      refine ⟨rfl, _, rfl, .inl ⟨rfl, _, SqL.of h1⟩, _, rfl, _, rfl, L, ls, rfl, .inl (SqL.of h1), a, x2, y2, z2, _, rfl, ha2, by omega, log_small (by omega), fun r o ho r1 r2 => ?_⟩
      have hlt : r.toNat < ls.length := by omega
      obtain ⟨v, hv⟩ : ∃ v, ls[r.toNat]? = some v := ⟨_, List.getElem?_eq_getElem hlt⟩
      have hix : seqIndex? r ls.length = some r.toNat := by
        unfold seqIndex?
        simp only [if_neg (show ¬ r < 0 by omega)]
        rw [if_pos (by simp; omega)]
      refine ⟨L, ls, r, r.toNat, v, rfl, rfl, by rw [upd_ne nLa]; exact h1, by omega, by omega, hix, hv, fs, by rw [upd_ne nDL.symm, upd_ne nDa]; exact h2, by omega, fun c u n e => ?_, ?_, ls.eraseIdx r.toNat, fs ++ [v], ?_, upd_same, by simp [h3], ?_⟩
      · rw [upd_ne (ne_of_none (s1 _ _ e) hD), upd_ne (ne_of_none e hL), upd_ne n]
        exact sx c u n e
      · obtain ⟨x', y', z', rfl⟩ := ho
        exact ⟨x', y', z', by rw [upd_ne nDa.symm, upd_ne nLa.symm, upd_same]⟩
      · rw [upd_ne nDL, upd_same]
      · rw [List.append_assoc]
        exact (List.Perm.append_left fs (eraseP hv)).trans hp
    · obtain ⟨sx, hs, ls, fs, h1, h2, h3, hp⟩ := pv
      have hlen := hp.length_eq
      rw [List.length_append] at hlen
      have : ls = [] := List.length_eq_zero_iff.mp (by omega)
      subst this
      rw [List.append_nil] at hp
      exact q H2 D fs hp sx hs (s1.free hD) h2
end
end Rs
set_option Elab.async false
set_option linter.all false
set_option maxRecDepth 100000
set_option maxHeartbeats 2000000
namespace Rs
open PySem PySem.Spec PyProof.Rows L2
section
variable {K : PySem.W.Frag}
/-! ### facts of kinds -/
theorem look_none {mv : List Mv} {k : PySem.Str × PySem.Str} (h : k ∉ mv.map (·.1)) : look mv k = none := by
  cases e : look mv k with
  | none => rfl
  | some os => exact absurd (List.mem_map.mpr ⟨_, look_in e, rfl⟩) h
theorem look_sortTab {mv : List Mv} (nd : (mv.map (·.1)).Nodup) (k : PySem.Str × PySem.Str) : look (sortTab mv) k = (look mv k).map sortOuts := by
  by_cases h : k ∈ mv.map (·.1)
  · obtain ⟨m, hm, e⟩ := List.mem_map.mp h
    subst e
    have h1 := look_mem nd hm
    have hin : (m.1, sortOuts m.2) ∈ sortTab mv := by
      unfold sortTab
      refine List.mem_map.mpr ⟨row2 m.1, mem_isort.mpr (List.mem_map.mpr ⟨m, hm, rfl⟩), ?_⟩
      rw [un2_row2, h1] <;> rfl
    rw [h1]
    exact look_mem (m := (m.1, sortOuts m.2)) (sortTab_nodup nd) hin
  · rw [look_none h, look_none (fun z => h ((sortTab_keys mv).mem_iff.mp z))] <;> rfl
theorem mem_sortOuts {os : Outs} {o : PySem.Str × PySem.Str} : o ∈ sortOuts os ↔ o ∈ os := by
  unfold sortOuts
  rw [List.mem_map]
  constructor
  · rintro ⟨k, hk, rfl⟩
    exact (row_sorted hk).2
  · intro h
    exact ⟨row2 o, mem_isort.mpr (List.mem_map.mpr ⟨o, h, rfl⟩), un2_row2 o⟩
theorem isort_uniq {xs ys : List PySem.Str} (h : ∀ y, y ∈ xs ↔ y ∈ ys) : isort strLt (uniq xs) = isort strLt (uniq ys) := by
  refine isort_congr strLt_tot ((List.perm_ext_iff_of_nodup (nodup_uniq _) (nodup_uniq _)).mpr fun y => ?_)
  rw [mem_uniq, mem_uniq]
  exact h y
theorem cnt_uniq (l : List PySem.Str) : cnt l = (uniq l).length := by
  generalize hn : l.length = n
  induction n generalizing l with
  | zero =>
    have : l = [] := List.length_eq_zero_iff.mp hn
    subst this
    rfl
  | succ n ih =>
    rcases list_snocW l with rfl | ⟨m, x, rfl⟩
    · simp at hn
    · rw [List.length_append] at hn
      have hm : m.length = n := by simpa using hn
      rw [cnt_snoc, uniq_snoc, ih m hm]
      unfold addS
      by_cases h : x ∈ m
      · rw [if_pos h, if_pos (mem_uniq.mpr h)] <;> rfl
      · rw [if_neg h, if_neg (fun z => h (mem_uniq.mp z)), List.length_append] <;> rfl
theorem sortTab_in {mv : List Mv} {t : Mv} (h : t ∈ sortTab mv) : ∃ m ∈ mv, m.1 = t.1 ∧ ∀ o, o ∈ t.2 → ∃ n ∈ mv, o ∈ n.2 := by
  unfold sortTab at h
  obtain ⟨k, hk, rfl⟩ := List.mem_map.mp h
  obtain ⟨m, hm, e⟩ := List.mem_map.mp (mem_isort.mp hk)
  refine ⟨m, hm, by rw [← e, un2_row2], fun o ho => ?_⟩
  have ho : o ∈ sortOuts ((look mv (un2 k)).getD []) := ho
  rw [mem_sortOuts] at ho
  cases e2 : look mv (un2 k) with
  | none => rw [e2] at ho; cases ho
  | some os => rw [e2] at ho; exact ⟨_, look_in e2, ho⟩
theorem sortTab_mem {mv : List Mv} (nd : (mv.map (·.1)).Nodup) {m : Mv} (h : m ∈ mv) : (m.1, sortOuts m.2) ∈ sortTab mv := by
  unfold sortTab
  refine List.mem_map.mpr ⟨row2 m.1, mem_isort.mpr (List.mem_map.mpr ⟨m, h, rfl⟩), ?_⟩
  rw [un2_row2, look_mem nd h] <;> rfl
/-- the states of a kind made of parts -/
theorem mem_states {name start : PySem.Str} {ends : List PySem.Str} {mv : List Mv} (nd : (mv.map (·.1)).Nodup) (y : PySem.Str) : y ∈ statesOf ⟨name, start, isort strLt ends, sortTab mv⟩ ↔ y = start ∨ y ∈ ends ∨ ∃ m ∈ mv, y = m.1.1 ∨ ∃ o ∈ m.2, y = o.2 := by
  unfold statesOf
  rw [List.mem_cons, List.mem_append, List.mem_append, mem_isort]
  refine or_congr Iff.rfl (or_congr Iff.rfl ?_)
  constructor
  · rintro (h | h)
    · obtain ⟨t, ht, rfl⟩ := List.mem_map.mp h
      obtain ⟨m, hm, e, _⟩ := sortTab_in ht
      exact ⟨m, hm, .inl (by rw [e])⟩
    · obtain ⟨t, ht, h⟩ := List.mem_flatMap.mp h
      obtain ⟨o, ho, rfl⟩ := List.mem_map.mp h
      obtain ⟨_, _, _, hh⟩ := sortTab_in ht
      obtain ⟨n, hn, ho⟩ := hh o ho
      exact ⟨n, hn, .inr ⟨o, ho, rfl⟩⟩
  · rintro ⟨m, hm, rfl | ⟨o, ho, rfl⟩⟩
    · exact .inl (List.mem_map.mpr ⟨_, sortTab_mem nd hm, rfl⟩)
    · exact .inr (List.mem_flatMap.mpr ⟨_, sortTab_mem nd hm, List.mem_map.mpr ⟨o, mem_sortOuts.mpr ho, rfl⟩⟩)
theorem isort_eq {xs ys : List PySem.Str} (nx : xs.Nodup) (ny : ys.Nodup) (h : ∀ y, y ∈ xs ↔ y ∈ ys) : isort strLt xs = isort strLt ys := isort_congr strLt_tot ((List.perm_ext_iff_of_nodup nx ny).mpr h)
theorem up_eq {xs ys : List PySem.Str} (up : Up strLt xs) (nx : xs.Nodup) (ny : ys.Nodup) (h : ∀ y, y ∈ xs ↔ y ∈ ys) : xs = isort strLt ys := isort_of strLt_tot up ((List.perm_ext_iff_of_nodup nx ny).mpr h)
def kdOf (p : Pl) : KD := ⟨p.name, p.st, isort strLt p.ends, sortTab p.mv⟩
theorem prod_len (sts meths : List PySem.Str) : (sts.flatMap fun s => meths.map fun m => (s, m)).length = sts.length * meths.length := by
  induction sts with
  | nil => simp
  | cons s sts ih =>
    rw [List.flatMap_cons, List.length_append, ih, List.length_map, List.length_cons, Nat.succ_mul]
    omega
section
variable {size : Int} {meths errs : List PySem.Str} {p : Pl}
theorem ans_word {errs : List PySem.Str} (he : ∀ x ∈ errs, x ∈ fiveErrs) : ∀ x ∈ ans2 ++ errs, isWord (.str x) = true ∧ TxOk x ∧ x.length ≤ 8 := by
  intro x hx
  rcases List.mem_append.mp hx with hx | hx
  · have : ∀ x ∈ ans2, isWord (.str x) = true ∧ TxOk x ∧ x.length ≤ 8 := by decide +kernel
    exact this x hx
  · exact fiveErrs_ok x (he x hx)
theorem pl_moves (ok : PlOk size meths errs p) (dr : DrawnOk meths errs) (hz : size ≤ 19) : MovesOk p.mv := by
  have h1 : (uniq (p.mv.map (·.1.2))).length ≤ meths.length := nodup_le (nodup_uniq _) fun y hy => by
    obtain ⟨m, hm, e⟩ := List.mem_map.mp (mem_uniq.mp hy)
    rw [← e]; exact (ok.mvs.key m hm).2
  have h2 : (p.mv.map (·.1)).length ≤ (p.sts.flatMap fun s => meths.map fun m => (s, m)).length := nodup_le ok.mvs.nd fun k hk => by
    obtain ⟨m, hm, e⟩ := List.mem_map.mp hk
    obtain ⟨k1, k2⟩ := ok.mvs.key m hm
    rw [← e]
    exact List.mem_flatMap.mpr ⟨m.1.1, k1, List.mem_map.mpr ⟨m.1.2, k2, rfl⟩⟩
  rw [prod_len, List.length_map] at h2
  have hf := ok.few
  have hml := dr.ml
  refine ⟨fun m hm => ?_, fun m hm => ?_, ?_, ?_⟩
  · obtain ⟨k1, k2⟩ := ok.mvs.key m hm
    exact ⟨ok.names _ k1, dr.mn _ k2⟩
  · obtain ⟨n1, n2⟩ := ok.mvs.outs m hm
    have := ok.mvs.few m hm
    unfold outsB
    rw [Bool.and_eq_true, Bool.and_eq_true]
    refine ⟨decide_eq_true (by omega), ?_, decide_eq_true n1⟩
    rw [List.all_eq_true]
    intro o ho
    obtain ⟨a1, a2⟩ := n2 o ho
    show (isWord (.str o.1) && isName (.str o.2)) = true
    rw [(ans_word dr.en _ a1).1, ok.names _ a2] <;> rfl
  · rw [cnt_uniq]; omega
  · have : p.sts.length ≤ 19 := by omega
    have := Nat.mul_le_mul this hml
    omega
theorem pl_st (ok : PlOk size meths errs p) : p.st ∈ p.sts := List.mem_of_getElem? ok.st
theorem pl_states (ok : PlOk size meths errs p) : ∀ y ∈ statesOf (kdOf p), y ∈ p.sts := by
  intro y hy
  unfold statesOf at hy
  rcases List.mem_cons.mp hy with rfl | hy
  · exact pl_st ok
  · rcases List.mem_append.mp hy with hy | hy
    · exact ok.endsS y (mem_isort.mp hy)
    · rcases List.mem_append.mp hy with hy | hy
      · obtain ⟨t, ht, rfl⟩ := List.mem_map.mp hy
        obtain ⟨m, hm, e, _⟩ := sortTab_in ht
        rw [← e]; exact (ok.mvs.key m hm).1
      · obtain ⟨t, ht, hy⟩ := List.mem_flatMap.mp hy
        obtain ⟨o, ho, rfl⟩ := List.mem_map.mp hy
        obtain ⟨_, _, _, hh⟩ := sortTab_in ht
        obtain ⟨n, hn, ho⟩ := hh o ho
        exact ((ok.mvs.outs n hn).2 o ho).2
theorem pl_60 (ok : PlOk size meths errs p) (hz : size ≤ 19) {ys : List PySem.Str} (nd : ys.Nodup) (h : ∀ y ∈ ys, y ∈ statesOf (kdOf p)) : ys.length ≤ 60 := by
  have := nodup_le nd fun y hy => pl_states ok y (h y hy)
  have := ok.few
  omega
theorem pl_in (ok : PlOk size meths errs p) : ∀ t ∈ p.mv, ∀ o ∈ t.2, o.2 ∈ p.sts := fun t ht o ho => ((ok.mvs.outs t ht).2 o ho).2
theorem pl_meths (ok : PlOk size meths errs p) (dr : DrawnOk meths errs) : ∀ m ∈ methodsOf (kdOf p), isName (.str m) = true := by
  intro m hm
  obtain ⟨t, ht, rfl⟩ := List.mem_map.mp (mem_methodsOf.mp hm)
  obtain ⟨n, hn, e, _⟩ := sortTab_in ht
  rw [← e]
  exact dr.mn _ (ok.mvs.key n hn).2
end
/-! ### moves in another order -/
structure PermMv (mv mv' : List Mv) : Prop where
  keys : (mv'.map (·.1)).Perm (mv.map (·.1))
  outs : ∀ m ∈ mv', ∃ os, look mv m.1 = some os ∧ m.2.Perm os
theorem sortOuts_perm {os os' : Outs} (h : os.Perm os') : sortOuts os = sortOuts os' := by
  unfold sortOuts
  rw [isort_congr rowLt_tot (h.map row2)]
theorem sortOuts_is (os : Outs) : (sortOuts os).Perm os := by
  have h := (isort_perm (lt := rowLt) (os.map row2)).map un2
  rw [List.map_map] at h
  have e : os.map (un2 ∘ row2) = os := by
    rw [show (un2 ∘ row2) = id from funext un2_row2, List.map_id]
  rw [e] at h
  exact h
theorem sortTab_perm {mv mv' : List Mv} (nd : (mv.map (·.1)).Nodup) (h : PermMv mv mv') : sortTab mv' = sortTab mv := by
  have nd' : (mv'.map (·.1)).Nodup := h.keys.nodup_iff.mpr nd
  have hp : (mv'.map fun m => row2 m.1).Perm (mv.map fun m => row2 m.1) := by
    have := h.keys.map row2
    rw [List.map_map, List.map_map] at this
    exact this
  unfold sortTab
  rw [isort_congr rowLt_tot hp]
  refine List.map_congr_left fun k hk => ?_
  obtain ⟨m, hm, rfl⟩ := List.mem_map.mp (hp.mem_iff.mpr (mem_isort.mp hk))
  obtain ⟨os, e1, e2⟩ := h.outs m hm
  rw [un2_row2, look_mem nd' hm, e1]
  show (m.1, sortOuts m.2) = (m.1, sortOuts os)
  rw [sortOuts_perm e2]
theorem cnt_perm {l m : List PySem.Str} (h : l.Perm m) : cnt l = cnt m := by
  rw [cnt_uniq, cnt_uniq]
  exact ((List.perm_ext_iff_of_nodup (nodup_uniq _) (nodup_uniq _)).mpr fun y => by rw [mem_uniq, mem_uniq, h.mem_iff]).length_eq
theorem moves_perm {mv mv' : List Mv} (nd : (mv.map (·.1)).Nodup) (h : PermMv mv mv') (ok : MovesOk mv) : MovesOk mv' := by
  refine ⟨fun m hm => ?_, fun m hm => ?_, ?_, ?_⟩
  · obtain ⟨n, hn, e⟩ := List.mem_map.mp (h.keys.mem_iff.mp (List.mem_map.mpr ⟨m, hm, rfl⟩))
    rw [← e]
    exact ok.keys n hn
  · obtain ⟨os, e1, e2⟩ := h.outs m hm
    have := ok.outs _ (look_in e1)
    unfold outsB at this ⊢
    rw [Bool.and_eq_true, Bool.and_eq_true] at this ⊢
    obtain ⟨a1, a2, a3⟩ := this
    refine ⟨decide_eq_true (by rw [e2.length_eq]; exact of_decide_eq_true a1), ?_, decide_eq_true (e2.nodup_iff.mpr (of_decide_eq_true a3))⟩
    rw [List.all_eq_true] at a2 ⊢
    exact fun o ho => a2 o (e2.mem_iff.mp ho)
  · have := h.keys.map Prod.snd
    rw [List.map_map, List.map_map] at this
    rw [show (mv'.map (·.1.2)) = mv'.map (Prod.snd ∘ fun m => m.1) from rfl, cnt_perm this]
    exact ok.few
  · have := h.keys.length_eq
    rw [List.length_map, List.length_map] at this
    have := ok.size
    omega
theorem perm_self (mv : List Mv) (nd : (mv.map (·.1)).Nodup) : PermMv mv (sortTab mv) := by
  refine ⟨sortTab_keys mv, fun m hm => ?_⟩
  unfold sortTab at hm
  obtain ⟨k, hk, rfl⟩ := List.mem_map.mp hm
  obtain ⟨n, hn, rfl⟩ := List.mem_map.mp (mem_isort.mp hk)
  refine ⟨n.2, by show look mv (un2 (row2 n.1)) = _; rw [un2_row2, look_mem nd hn], ?_⟩
  show (sortOuts ((look mv (un2 (row2 n.1))).getD [])).Perm n.2
  rw [un2_row2, look_mem nd hn]
  exact sortOuts_is n.2
theorem sortTab_twice (mv : List Mv) (nd : (mv.map (·.1)).Nodup) : sortTab (sortTab mv) = sortTab mv := sortTab_perm nd (perm_self mv nd)
theorem isort_twice (ss : List PySem.Str) : isort strLt (isort strLt ss) = isort strLt ss := isort_congr strLt_tot (isort_perm ss)
section
variable {size : Int} {meths errs : List PySem.Str} {p : Pl}
/-- the kind of a plan, by another name -/
def kdN (n : PySem.Str) (p : Pl) : KD := ⟨n, p.st, isort strLt p.ends, sortTab p.mv⟩
theorem kdN_self (p : Pl) : kdN p.name p = kdOf p := rfl
theorem kd_ok (ok : PlOk size meths errs p) (dr : DrawnOk meths errs) (hz : size ≤ 19) (n : PySem.Str) : KdOk (kdN n p) := by
  have nd := ok.mvs.nd
  refine ⟨ok.names _ (pl_st ok), fun y hy => ok.names _ (ok.endsS _ (mem_isort.mp hy)), nodup_isort.mpr ok.endsN, ?_, moves_perm nd (perm_self _ nd) (pl_moves ok dr hz), fun m ys h1 h2 => ?_⟩
  · show (isort strLt p.ends).length ≤ 4000
    rw [length_isort]
    have := nodup_le ok.endsN ok.endsS
    have := ok.few
    omega
  · refine pl_60 ok hz h1 fun y hy => ?_
    have := h2 y hy
    rw [show (kdN n p).ends = isort strLt p.ends from rfl, show (kdN n p).tab = sortTab p.mv from rfl, isort_twice, sortTab_twice _ nd] at this
    exact this
theorem kd_again (ok : PlOk size meths errs p) (n m : PySem.Str) : (⟨m, (kdN n p).start, isort strLt (kdN n p).ends, sortTab (kdN n p).tab⟩ : KD) = kdN m p := by
  show (⟨m, p.st, isort strLt (isort strLt p.ends), sortTab (sortTab p.mv)⟩ : KD) = ⟨m, p.st, isort strLt p.ends, sortTab p.mv⟩
  rw [isort_twice, sortTab_twice _ ok.mvs.nd]
theorem nm_tx {x : PySem.Str} (h : isName (.str x) = true) : TxOk x := tx_ok (name_iff.mp h).2.2
theorem pl_outs_tx (ok : PlOk size meths errs p) (dr : DrawnOk meths errs) : ∀ m ∈ p.mv, ∀ o ∈ m.2, TxOk o.1 ∧ TxOk o.2 := fun m hm o ho => by
  obtain ⟨a1, a2⟩ := (ok.mvs.outs m hm).2 o ho
  exact ⟨(ans_word dr.en _ a1).2.1, nm_tx (ok.names _ a2)⟩
theorem kd_tx (ok : PlOk size meths errs p) (dr : DrawnOk meths errs) (n : PySem.Str) : KdTx (kdN n p) := by
  refine ⟨fun x hx => nm_tx (ok.names _ (ok.endsS _ (mem_isort.mp hx))), fun t ht o ho => ?_⟩
  obtain ⟨_, _, _, hh⟩ := sortTab_in ht
  obtain ⟨m, hm, ho⟩ := hh o ho
  exact pl_outs_tx ok dr m hm o ho
end
end
end Rs
set_option Elab.async false
set_option linter.all false
set_option maxRecDepth 100000
set_option maxHeartbeats 4000000
namespace Rs
open PySem PySem.Spec PyProof.Rows L2
local macro_rules | `(tactic| walk_at "rd") => `(tactic| simp only [L2.tRet, L2.tRetN, L2.tSeq, L2.tNext, L2.tIfS, L2.tAsg, L2.gName, L2.gNil, L2.gCons, L2.tVar, L2.tC, L2.tOp, L2.tUn, L2.tCB, L2.tCons, L2.tNil, L2.tAndV, L2.tOrV, L2.tNotV, L2.tAnd, L2.tOr, L2.tNot, L2.tB, L2.tTest, L2.tIf, L2.tChain, L2.tTup, L2.tLst, L2.tDrop, L2.tFld, L2.sFld, L2.tOst, L2.tBM, L2.rNe, L2.tMkO, L2.start, L2.cxOf, L2.Cx.nox, L2.Cx.wish, L2.rI0, L2.rI, L2.tYes, Rs.tCalW, List.getElem?_cons_zero, List.getElem?_cons_succ, Option.some.injEq, exists_eq_left', exists_eq_left, exists_and_left, List.cons.injEq, and_true, true_and, L2.V.bl.injEq, L2.V.int.injEq, L2.V.str.injEq, L2.V.ref.injEq, List.set_cons_zero, List.set_cons_succ, List.map_cons, List.map_nil, List.length_cons, List.length_nil, List.replicate, List.cons_append, List.nil_append, List.append_nil, Nat.reduceSub, Nat.reduceAdd])
local macro_rules | `(tactic| walk_at "dn") => `(tactic| dsimp only [L2.tCons, L2.tC, L2.tNil])
section
variable {P : Program} {w : World} {K : PySem.W.Frag} {mg : PySem.Str → Option Value} {base : Heap}
/-! ### lists of what is made of each key of the moves -/
theorem rows_lock {H : Hp} {d p : Addr} {u o : HO} {os : Outs} (hd : H d = some u) (hu : ∀ xs, u ≠ .lst xs ∧ u ≠ .tup xs) (h : RowsAt H p os) : RowsAt (L2.upd H d o) p os := by
  obtain ⟨bs, h1, h2⟩ := h
  have np : p ≠ d := fun z => by subst z; rw [hd] at h1; exact (hu _).1 (Option.some.inj h1)
  refine ⟨bs, by rw [upd_ne np]; exact h1, Paired.imp h2 fun o b z => ?_⟩
  have nb : b ≠ d := fun e => by subst e; rw [TupAt, hd] at z; exact (hu _).2 (Option.some.inj z)
  show (L2.upd H d _) b = _
  rw [upd_ne nb]
  exact z
theorem RowsAt.same {H H' : Hp} {p : Addr} {os : Outs} (s : Same H H') (h : RowsAt H p os) : RowsAt H' p os := let ⟨bs, h1, h2⟩ := h; ⟨bs, s _ _ h1, Paired.imp h2 fun _ _ z => s _ _ z⟩
theorem tq_unlock {H : Hp} {d b : Addr} {od : Obj} {kvs : TK} {xs : List V} (hd : H d = some (.frz od (.dT kvs))) (h : SqT K H b xs) : SqT K (L2.upd H d (.dT kvs)) b xs := by
  rcases h with (h | ⟨o, h⟩) | h
  · exact .inl (.inl (by rw [upd_ne (ne_of h hd (by intro z; cases z))]; exact h))
  · refine .inl (.inr ⟨o, ?_⟩)
    rw [upd_ne (fun e => by subst e; rw [hd] at h; cases h)]
    exact h
  · exact .inr h
theorem lm_nodup {H : Hp} {mv : List Mv} {kvs : TK} (h : Paired (LMv H) mv kvs) (nd : (mv.map (·.1)).Nodup) : (kvs.map (·.1)).Nodup := by
  rw [lmv_keys h]
  have : (mv.map fun m => ([Sum.inr m.1.1, Sum.inr m.1.2] : List Key)) = (mv.map (·.1)).map fun k => [Sum.inr k.1, Sum.inr k.2] := by rw [List.map_map] <;> rfl
  rw [this]
  exact nd.map _ fun a b ne e => ne (key_inj e)
/-- what a turn of such a walk knows -/
structure AtKey (H0 H : Hp) (d : Addr) (od : Obj) (kvs : TK) (m : Mv) (b : Addr) : Prop where
  same : Same (L2.upd H0 d (.frz od (.dT kvs))) H
  key : H b = some (.tup [.str m.1.1, .str m.1.2])
  val : ∃ p, valV kvs [Sum.inr m.1.1, Sum.inr m.1.2] = some (.ref p) ∧ RowsAt H p m.2
theorem lc_keys {σ : L2.St} {H : Hp} {d : Addr} {mv : List Mv} {td : TE} {g : TG} {te : TE} {vs : List Nat} {Q : VK} (R : Addr → Mv → V → Hp → Prop) (htd : ∀ (H : Hp) (Q : VK), Q (.ref d) H → td σ H Q) (hm : LMoves H d mv) (hz : mv.length ≤ 4000)
    (same : ∀ D m v H1 H2, Same H1 H2 → R D m v H1 → R D m v H2) (atD : ∀ D m v H1 xs ys, H1 D = some (.lst xs) → R D m v H1 → R D m v (L2.upd H1 D (.lst ys))) (unl : ∀ D m v H1 od kvs, H1 d = some (.frz od (.dT kvs)) → R D m v H1 → R D m v (L2.upd H1 d (.dT kvs)))
    (turn : ∀ D od kvs m b H1 ys, m ∈ mv → AtKey H H1 d od kvs m b → H1 D = some (.lst ys) → H D = none → ∀ Kt : VK, (∀ H4 v, Same H1 H4 → R D m v H4 → Kt v H4) → g (.ref b) (wipe σ vs) H1 fun σ2 H2 => wipe σ2 vs = wipe σ vs ∧ te σ2 H2 Kt)
    (q : ∀ H' D vl, Same H H' → H D = none → H' D = some (.lst vl) → Paired (fun m v => R D m v H') mv vl → Q (.ref D) H') : tLockE (tLc (iKeys td) g tYes te vs) σ H Q := by
  have line : sizeLine = 16777216 := sizeLine_eq
  obtain ⟨kvs, hd, hp, nd⟩ := hm
  have hkl := Paired.length hp
  refine ⟨d, _, hd, trivial, fun od => ?_⟩
  refine htd _ _ ⟨d, od, rfl, .inr ⟨kvs, upd_same, fun D hD => ?_⟩⟩
  have nDd : D ≠ d := fun z => by subst z; rw [upd_same] at hD; cases hD
  have hD0 : H D = none := by rw [upd_ne nDd] at hD; exact hD
  refine lc_it walk_keysT (fun i H1 => Same (L2.upd H d (.frz od (.dT kvs))) H1 ∧ ∃ vl, H1 D = some (.lst vl) ∧ vl.length = i ∧ Paired (fun m v => R D m v H1) (mv.take i) vl) ⟨Same.new hD, [], upd_same, rfl, by rw [List.take_zero]; exact .nil⟩ (fun i H1 _ z => same_loc z.1) (fun i x H1 H2 hi pv y => ?_) (fun H1 pv => ?_)
  · obtain ⟨s1, vl, h1, h2, h3⟩ := pv
    obtain ⟨rfl, k, v, b, hk, rfl, hb⟩ := y
    obtain ⟨m, em, e1, p, e2, hr⟩ := Paired.at hp hk
    have e1 : k = [Sum.inr m.1.1, Sum.inr m.1.2] := e1
    have e2 : v = .ref p := e2
    subst e1 e2
    have hr1 : RowsAt H2 p m.2 := (rows_lock hd (fun xs => ⟨(fun z => by cases z), (fun z => by cases z)⟩) hr).same s1
    refine turn D od kvs m b H2 vl (List.mem_of_getElem? em) ⟨s1, hb, p, valV_nd (lm_nodup hp nd) (List.mem_of_getElem? hk), hr1⟩ h1 hD0 _ fun H4 y s4 r4 => ?_
    refine ⟨vl, s4 _ _ h1, by omega, same_upd (s1.trans s4) hD, vl ++ [y], upd_same, by simp [h2], ?_⟩
    rw [take_next em]
    exact Paired.snoc (Paired.imp h3 fun m v z => atD _ _ _ _ _ _ (s4 _ _ h1) (same _ _ _ _ _ s4 z)) (atD _ _ _ _ _ _ (s4 _ _ h1) r4)
  · obtain ⟨s1, vl, h1, h2, h3⟩ := pv
    refine ⟨same_loc s1, ?_⟩
    have s2 := lock_same hd s1
    rw [← hkl, List.take_length] at h3
    exact q _ D vl s2 hD0 (by rw [upd_ne nDd]; exact h1) (Paired.imp h3 fun m v z => unl _ _ _ _ _ _ (same_loc s1) z)
/-! ### what stands while a kind is looked at -/
structure RCtx (K : PySem.W.Frag) (H : Hp) (k e d : Addr) (n : PySem.Str) (p : Pl) : Prop where
  kind : KindAt K H k (kdN n p)
  ends : H e = some (.lst (p.ends.map V.str))
  mvs : LMoves H d p.mv
theorem RCtx.same {H H' : Hp} {k e d : Addr} {n : PySem.Str} {p : Pl} (s : Same H H') (c : RCtx K H k e d n p) : RCtx K H' k e d n p := ⟨c.kind.same s, s _ _ c.ends, c.mvs.same s⟩
abbrev sgR (k : Addr) (n st : PySem.Str) (e d : Addr) (v5 v6 v7 v8 v9 v10 v11 v12 v13 : Option V) : L2.St := [some (.ref k), some (.str n), some (.str st), some (.ref e), some (.ref d), v5, v6, v7, v8, v9, v10, v11, v12, v13]
section
variable {k e d : Addr} {n : PySem.Str} {p : Pl} {size : Int} {meths errs : List PySem.Str} {H : Hp} {D : Ends} {v5 v6 v7 v8 v9 v10 v11 v12 v13 : Option V}
def q1 (K : PySem.W.Frag) : TS := tAsg (tOp rCat (tOp rCat (tLst (tCons (tVar 2) tNil)) (tVar 3)) (tLockE (tLc (iKeys (tVar 4)) (gTup K 2 (gCons (gName 5) (gCons (gName 6) gNil))) tYes (tVar 5) [5, 6]))) (gName 7)
def sts1 (p : Pl) : List PySem.Str := p.st :: p.ends ++ p.mv.map (·.1.1)
theorem paired_txts {f : Mv → PySem.Str} : ∀ {mv : List Mv} {vl : List V}, Paired (fun m v => v = V.str (f m)) mv vl → vl = (mv.map f).map V.str
  | _, _, .nil => rfl
  | _, _, .cons h t => by rw [List.map_cons, List.map_cons, ← paired_txts t, h]
theorem sq1 (c : RCtx K H k e d n p) (hl : p.ends.length ≤ 100) (hm : p.mv.length ≤ 4000) (q : ∀ H' S, Same H H' → H' S = some (.lst ((sts1 p).map V.str)) → D.nx (sgR k n p.st e d v5 v6 (some (.ref S)) v8 v9 v10 v11 v12 v13) H') :
    q1 K D (sgR k n p.st e d v5 v6 v7 v8 v9 v10 v11 v12 v13) H := by
  have line : sizeLine = 16777216 := sizeLine_eq
  refine ⟨_, rfl, by show 1 ≤ sizeLine; omega, fun t1 h1 => ⟨_, rfl, t1, e, _, _, rfl, rfl, upd_same, Same.new h1 _ _ c.ends, by rw [List.length_map]; show 1 + _ ≤ _; omega, fun t2 h2 => ?_⟩⟩
  have s2 := (Same.new (o := .lst [V.str p.st]) h1).trans (Same.new (o := .lst ([V.str p.st] ++ p.ends.map V.str)) h2)
  have e2 : (L2.upd (L2.upd H t1 (.lst [V.str p.st])) t2 (.lst ([V.str p.st] ++ p.ends.map V.str))) t2 = some (.lst ((p.st :: p.ends).map V.str)) := by rw [upd_same] <;> rfl
  generalize L2.upd (L2.upd H t1 (.lst [V.str p.st])) t2 (.lst ([V.str p.st] ++ p.ends.map V.str)) = H2 at s2 e2
  have c2 := c.same s2
  refine lc_keys (fun D m v H => v = .str m.1.1) (fun H Q h => ⟨_, rfl, h⟩) c2.mvs hm (fun _ _ _ _ _ _ z => z) (fun _ _ _ _ _ _ _ z => z) (fun _ _ _ _ _ _ _ z => z) (fun D od kvs m b H1 ys _ hk _ _ Kt kt => ?_) (fun H3 D vl s3 hD e3 hp => ?_)
  · exact ⟨b, _, rfl, SqT.of hk.key, rfl, _, _, rfl, _, _, rfl, rfl, rfl, _, rfl, kt H1 _ (Same.refl _) rfl⟩
  · have e4 := paired_txts hp
    subst e4
    refine ⟨t2, D, _, _, rfl, rfl, s3 _ _ e2, e3, by simp; omega, fun S hS => ?_⟩
    exact q _ S ((s2.trans s3).trans (Same.new hS)) (by rw [upd_same, ← List.map_append] <;> rfl)
end
end
end Rs
set_option Elab.async false
set_option linter.all false
set_option maxRecDepth 100000
set_option maxHeartbeats 4000000
namespace Rs
open PySem PySem.Spec PyProof.Rows L2
local macro_rules | `(tactic| walk_at "rd") => `(tactic| simp only [L2.tRet, L2.tRetN, L2.tSeq, L2.tNext, L2.tIfS, L2.tAsg, L2.gName, L2.gNil, L2.gCons, L2.tVar, L2.tC, L2.tOp, L2.tUn, L2.tCB, L2.tCons, L2.tNil, L2.tAndV, L2.tOrV, L2.tNotV, L2.tAnd, L2.tOr, L2.tNot, L2.tB, L2.tTest, L2.tIf, L2.tChain, L2.tTup, L2.tLst, L2.tDrop, L2.tFld, L2.sFld, L2.tOst, L2.tBM, L2.rNe, L2.tMkO, L2.start, L2.cxOf, L2.Cx.nox, L2.Cx.wish, L2.rI0, L2.rI, L2.tYes, Rs.tCalW, List.getElem?_cons_zero, List.getElem?_cons_succ, Option.some.injEq, exists_eq_left', exists_eq_left, exists_and_left, List.cons.injEq, and_true, true_and, L2.V.bl.injEq, L2.V.int.injEq, L2.V.str.injEq, L2.V.ref.injEq, List.set_cons_zero, List.set_cons_succ, List.map_cons, List.map_nil, List.length_cons, List.length_nil, List.replicate, List.cons_append, List.nil_append, List.append_nil, Nat.reduceSub, Nat.reduceAdd])
local macro_rules | `(tactic| walk_at "dn") => `(tactic| dsimp only [L2.tCons, L2.tC, L2.tNil])
section
variable {P : Program} {w : World} {K : PySem.W.Frag} {mg : PySem.Str → Option Value} {base : Heap}
section
variable {k e d S M : Addr} {n : PySem.Str} {p : Pl} {size : Int} {meths errs : List PySem.Str} {H : Hp} {D : Ends} {v5 v6 v7 v8 v9 v10 v11 v12 v13 : Option V}
def q2 (K : PySem.W.Frag) : TS := tLock (tFor (iValsT (tVar 4)) (gName 8) (tAsg (tOp rCat (tVar 7) (tLc (iList K (tVar 8)) (gTup K 2 (gCons (gName 9) (gCons (gName 5) gNil))) tYes (tVar 5) [9, 5])) (gName 7)))
def outStates (mv : List Mv) : List PySem.Str := mv.flatMap fun m => m.2.map (·.2)
def sts2 (p : Pl) : List PySem.Str := sts1 p ++ outStates p.mv
theorem out_len {mv : List Mv} (h : ∀ m ∈ mv, m.2.length ≤ 3) : (outStates mv).length ≤ 3 * mv.length := by
  unfold outStates
  induction mv with
  | nil => exact Nat.le_refl _
  | cons m mv ih =>
    have h1 := h m List.mem_cons_self
    have h2 := ih fun x hx => h x (List.mem_cons_of_mem _ hx)
    rw [List.flatMap_cons, List.length_append, List.length_map, List.length_cons]
    omega
theorem out_take {mv : List Mv} {i : Nat} {m : Mv} (h : mv[i]? = some m) : outStates (mv.take (i + 1)) = outStates (mv.take i) ++ m.2.map (·.2) := by
  unfold outStates
  rw [take_next h, List.flatMap_append]
  simp
theorem sq2 (c : RCtx K H k e d n p) (hl : p.ends.length ≤ 100) (hm : p.mv.length ≤ 100) (h3 : ∀ m ∈ p.mv, m.2.length ≤ 3) (hS : H S = some (.lst ((sts1 p).map V.str))) (q : ∀ H' S' v8, Same H H' → H' S' = some (.lst ((sts2 p).map V.str)) → D.nx (sgR k n p.st e d v5 v6 (some (.ref S')) v8 v9 v10 v11 v12 v13) H') :
    q2 K D (sgR k n p.st e d v5 v6 (some (.ref S)) v8 v9 v10 v11 v12 v13) H := by
  have line : sizeLine = 16777216 := sizeLine_eq
  obtain ⟨kvs, hd, hp, nd⟩ := c.mvs
  have hkl := Paired.length hp
  have nSd : S ≠ d := ne_of hS hd (by intro z; cases z)
  have l1 : (sts1 p).length ≤ 5000 := by simp [sts1]; omega
  refine ⟨d, _, hd, trivial, fun od => ⟨_, rfl, d, od, kvs, rfl, upd_same, ?_⟩⟩
  refine for_it walk_valuesT (fun i σ H1 => Same (L2.upd H d (.frz od (.dT kvs))) H1 ∧ ∃ S' v8, σ = sgR k n p.st e d v5 v6 (some (.ref S')) v8 v9 v10 v11 v12 v13 ∧ H1 S' = some (.lst ((sts1 p ++ outStates (p.mv.take i)).map V.str)))
    ⟨Same.refl _, S, _, rfl, by rw [upd_ne nSd, List.take_zero]; simpa [outStates] using hS⟩ (fun i σ H1 _ z => same_loc z.1) (fun i x σ H1 H2 hi pv y => ?_) (fun σ H1 pv => ?_)
  · obtain ⟨s1, S', v8, rfl, h1⟩ := pv
    obtain ⟨rfl, ky, hk⟩ := y
    obtain ⟨m, em, e1, pp, e2, hr⟩ := Paired.at hp hk
    have e2 : x = .ref pp := e2
    subst e2
    obtain ⟨bs, g1, g2⟩ := (rows_lock (o := .frz od (.dT kvs)) hd (fun xs => ⟨(fun z => by cases z), (fun z => by cases z)⟩) hr).same s1
    have gl := Paired.length g2
    have m3 := h3 m (List.mem_of_getElem? em)
    have ol := out_len (mv := p.mv.take i) fun x hx => h3 x (List.mem_of_mem_take hx : x ∈ p.mv)
    have tl := List.length_take_le i p.mv
    refine ⟨_, rfl, _, rfl, pp, rfl, ⟨_, SqL.of g1⟩, fun D2 hD2 => lc_it walk_lm (fun j H3 => Same H2 H3 ∧ H3 D2 = some (.lst ((m.2.take j).map fun o => V.str o.2))) ⟨Same.new hD2, by rw [upd_same, List.take_zero] <;> rfl⟩ (fun j H3 _ z => SqL.of (z.1 _ _ g1)) (fun j y H3 H4 hj pv yy => ?_) (fun H3 pv => ?_)⟩
    · obtain ⟨s3, h5⟩ := pv
      obtain ⟨rfl, hy⟩ := yy
      obtain ⟨b, hb⟩ : ∃ b, bs[j]? = some b := ⟨_, List.getElem?_eq_getElem hj⟩
      rw [List.getElem?_map, hb] at hy
      cases Option.some.inj hy
      obtain ⟨o, ho, ht⟩ := Paired.at g2 hb
      refine ⟨b, _, rfl, SqT.of (s3 _ _ ht), rfl, _, _, rfl, _, _, rfl, rfl, rfl, _, rfl, _, h5, by simp; omega, same_upd s3 hD2, ?_⟩
      rw [upd_same, take_next ho, List.map_append] <;> rfl
    · obtain ⟨s3, h5⟩ := pv
      rw [← gl, List.take_length] at h5
      refine ⟨S', D2, _, _, rfl, rfl, s3 _ _ h1, h5, by simp; omega, fun S2 hS2 => ⟨s1.trans (s3.trans (Same.new hS2)), S2, _, rfl, ?_⟩⟩
      rw [upd_same, out_take em, ← List.append_assoc]
      simp only [List.map_append, List.map_map]
      rfl
  · obtain ⟨s1, S', v8, rfl, h1⟩ := pv
    refine ⟨same_loc s1, ?_⟩
    have s2 := lock_same hd s1
    rw [← hkl, List.take_length] at h1
    have n2 : S' ≠ d := fun z => by subst z; rw [same_loc s1] at h1; cases h1
    exact q _ S' v8 s2 (by rw [upd_ne n2]; exact h1)
def q3 (P : Program) (w : World) (K : PySem.W.Frag) : TS := tPar 7 10 (tCons (tCB (rSortSet P w) (tCons (tCB (rSetOfS K P w) (tCons (tVar 7) tNil)) tNil)) (tCons (tCB (rSortSet P w) (tCons (tCB (rSetOfS K P w) (tCons (tLockE (tLc (iKeys (tVar 4)) (gTup K 2 (gCons (gName 5) (gCons (gName 6) gNil))) tYes (tVar 6) [5, 6])) tNil)) tNil)) tNil))
def stsE (p : Pl) : List PySem.Str := isort strLt (uniq (sts2 p))
def methE (p : Pl) : List PySem.Str := isort strLt (uniq (p.mv.map (·.1.2)))
theorem scan_big : 600 < scanBound := by decide
theorem sq3 (c : RCtx K H k e d n p) (hl : p.ends.length ≤ 100) (hm : p.mv.length ≤ 100) (h3 : ∀ m ∈ p.mv, m.2.length ≤ 3) (hS : H S = some (.lst ((sts2 p).map V.str))) (q : ∀ H' S M, Same H H' → H' S = some (.lst ((stsE p).map V.str)) → H' M = some (.lst ((methE p).map V.str)) → D.nx (sgR k n p.st e d v5 v6 (some (.ref S)) v8 v9 (some (.ref M)) v11 v12 v13) H') :
    q3 P w K D (sgR k n p.st e d v5 v6 (some (.ref S)) v8 v9 v10 v11 v12 v13) H := by
  have line : sizeLine = 16777216 := sizeLine_eq
  have hsb := scan_big
  have ol := out_len h3
  have l2 : (sts2 p).length ≤ 501 := by simp [sts2, sts1]; omega
  refine ⟨_, rfl, S, sts2 p, rfl, SqL.of hS, by omega, fun t1 h1 => ⟨t1, _, rfl, upd_same, fun S2 hS2 => ?_⟩⟩
  have s2 := (Same.new (o := SetSO P w t1 (uniq (sts2 p))) h1).trans (Same.new (o := .lst ((isort strLt (uniq (sts2 p))).map V.str)) hS2)
  have e2 : (L2.upd (L2.upd H t1 (SetSO P w t1 (uniq (sts2 p)))) S2 (.lst ((isort strLt (uniq (sts2 p))).map V.str))) S2 = some (.lst ((stsE p).map V.str)) := upd_same
  generalize L2.upd (L2.upd H t1 (SetSO P w t1 (uniq (sts2 p)))) S2 (.lst ((isort strLt (uniq (sts2 p))).map V.str)) = H2 at s2 e2
  have c2 := c.same s2
  refine lc_keys (fun D m v H => v = .str m.1.2) (fun H Q h => ⟨_, rfl, h⟩) c2.mvs (by omega) (fun _ _ _ _ _ _ z => z) (fun _ _ _ _ _ _ _ z => z) (fun _ _ _ _ _ _ _ z => z) (fun D od kvs m b H1 ys _ hk _ _ Kt kt => ?_) (fun H3 D vl s3 hD e3 hp => ?_)
  · exact ⟨b, _, rfl, SqT.of hk.key, rfl, _, _, rfl, _, _, rfl, rfl, rfl, _, rfl, kt H1 _ (Same.refl _) rfl⟩
  · have e4 := paired_txts hp
    subst e4
    refine ⟨D, p.mv.map (·.1.2), rfl, SqL.of e3, by rw [List.length_map]; omega, fun t4 h4 => ⟨t4, _, rfl, upd_same, fun M hM => ⟨_, _, rfl, ?_⟩⟩⟩
    have s4 := s3.trans ((Same.new (o := SetSO P w t4 (uniq (p.mv.map (·.1.2)))) h4).trans (Same.new (o := .lst ((isort strLt (uniq (p.mv.map (·.1.2)))).map V.str)) hM))
    exact q _ S2 M (s2.trans s4) (s4 _ _ e2) upd_same
def q4 (K : PySem.W.Frag) : TS := tIfS (tTest (tOp (rNeD K) (tTup (tCons (tProp (kC K) (sp_kname K) [] E0 (tVar 0)) (tCons (tProp (kC K) (sp_start K) [] E0 (tVar 0)) (tCons (tProp (kC K) (sp_ends K) [] E0 (tVar 0)) tNil)))) (tTup (tCons (tVar 1) (tCons (tVar 2) (tCons (tCB (rTupOf K) (tCons (tCB (rSortS K) (tCons (tVar 3) tNil)) tNil)) tNil)))))) (tRet (tC (V.bl false))) tNext
theorem sq4 (c : RCtx K H k e d n p) (ok : PlOk size meths errs p) (hn : TxOk n) (hl : p.ends.length ≤ 100) (q : ∀ H', Same H H' → D.nx (sgR k n p.st e d v5 v6 v7 v8 v9 v10 v11 v12 v13) H') :
    q4 K D (sgR k n p.st e d v5 v6 v7 v8 v9 v10 v11 v12 v13) H := by
  have line : sizeLine = 16777216 := sizeLine_eq
  obtain ⟨dk, ea, tb, hki, he, ht⟩ := id c.kind
  refine ⟨_, rfl, k, dk, _, rfl, hki, k, kdN n p, rfl, c.kind, _, rfl, k, dk, _, rfl, hki, k, kdN n p, rfl, c.kind, _, rfl, k, dk, _, rfl, hki, k, kdN n p, rfl, c.kind, fun ea he => ?_⟩
  refine ⟨by show 3 ≤ sizeLine; omega, fun t1 h1 => ⟨_, rfl, _, rfl, _, rfl, e, p.ends, rfl, .inl (.inl (SqL.of (Same.new h1 _ _ c.ends))), by omega, fun l2 h2 => ⟨l2, _, rfl, .inl ⟨SqL.of upd_same, fun t3 h3 => ⟨by show 3 ≤ sizeLine; omega, fun t4 h4 => ?_⟩⟩⟩⟩⟩
  have s1 := Same.new (o := .tup [V.str (kdN n p).name, V.str (kdN n p).start, V.ref ea]) h1
  have e1 : (L2.upd H t1 (.tup [V.str (kdN n p).name, V.str (kdN n p).start, V.ref ea])) t1 = some (.tup [V.str n, V.str p.st, V.ref ea]) := upd_same
  generalize L2.upd H t1 (.tup [V.str (kdN n p).name, V.str (kdN n p).start, V.ref ea]) = H1 at s1 e1 h2 h3 h4 ⊢
  have s2 := (Same.new (o := .lst ((isort strLt p.ends).map V.str)) h2).trans (Same.new (o := .tup ((isort strLt p.ends).map V.str)) h3)
  have e2 : (L2.upd (L2.upd H1 l2 (.lst ((isort strLt p.ends).map V.str))) t3 (.tup ((isort strLt p.ends).map V.str))) t3 = some (.tup ((isort strLt p.ends).map V.str)) := upd_same
  generalize L2.upd (L2.upd H1 l2 (.lst ((isort strLt p.ends).map V.str))) t3 (.tup ((isort strLt p.ends).map V.str)) = H2 at s2 e2 h4 ⊢
  have s3 := Same.new (o := .tup [V.str n, V.str p.st, V.ref t3]) h4
  have e3 : (L2.upd H2 t4 (.tup [V.str n, V.str p.st, V.ref t3])) t4 = some (.tup [V.str n, V.str p.st, V.ref t3]) := upd_same
  generalize L2.upd H2 t4 (.tup [V.str n, V.str p.st, V.ref t3]) = H3 at s3 e3 ⊢
  have hex : ∀ x ∈ isort strLt p.ends, TxOk x := fun x hx => nm_tx (ok.names _ (ok.endsS _ (mem_isort.mp hx)))
  have sh : SeqAt.shaped (.tuple [.str n, .str p.st, .tuple ((isort strLt p.ends).map PyData.str)]) = true := by
    refine shaped_of (lay_all _ fun x hx => ?_) ?_
    · simp only [List.mem_cons, List.not_mem_nil, or_false] at hx
      rcases hx with rfl | rfl | rfl
      · exact hn
      · exact nm_tx (ok.names _ (pl_st ok))
      · exact lay_all _ fun y hy => by obtain ⟨z, hz, rfl⟩ := List.mem_map.mp hy; exact hex z hz
    · show PyData.depthAll _ + 1 ≤ 64
      have := depth_all (n := 1) [PyData.str n, .str p.st, .tuple ((isort strLt p.ends).map PyData.str)] fun x hx => by
        simp only [List.mem_cons, List.not_mem_nil, or_false] at hx
        rcases hx with rfl | rfl | rfl
        · exact Nat.zero_le _
        · exact Nat.zero_le _
        · show PyData.depthAll _ + 1 ≤ 1
          have := depth_all (n := 0) ((isort strLt p.ends).map PyData.str) fun d hd => by obtain ⟨x, hx, rfl⟩ := List.mem_map.mp hd; exact Nat.le_refl _
          omega
      omega
  refine ⟨.tuple [.str n, .str p.st, .tuple ((isort strLt p.ends).map PyData.str)], .tuple [.str n, .str p.st, .tuple ((isort strLt p.ends).map PyData.str)], .tup (SqT.of (s3 _ _ (s2 _ _ e1))) (.cons (.str _) (.cons (.str _) (.cons (.tup (Same.tq ((s1.trans s2).trans s3) he) (dp_txts _)) .nil))), .tup (SqT.of e3) (.cons (.str _) (.cons (.str _) (.cons (.tup (SqT.of (s3 _ _ e2)) (dp_txts _)) .nil))), sh, sh, _, rfl, ?_⟩
  rw [SeqAt.eqv_refl _ (by unfold SeqAt.shaped at sh; rw [Bool.and_eq_true] at sh; exact sh.1)]
  exact q _ ((s1.trans s2).trans s3)
end
end
end Rs
set_option Elab.async false
set_option linter.all false
set_option maxRecDepth 100000
set_option maxHeartbeats 4000000
namespace Rs
open PySem PySem.Spec PyProof.Rows L2
local macro_rules | `(tactic| walk_at "rd") => `(tactic| simp only [L2.tRet, L2.tRetN, L2.tSeq, L2.tNext, L2.tIfS, L2.tAsg, L2.gName, L2.gNil, L2.gCons, L2.tVar, L2.tC, L2.tOp, L2.tUn, L2.tCB, L2.tCons, L2.tNil, L2.tAndV, L2.tOrV, L2.tNotV, L2.tAnd, L2.tOr, L2.tNot, L2.tB, L2.tTest, L2.tIf, L2.tChain, L2.tTup, L2.tLst, L2.tDrop, L2.tFld, L2.sFld, L2.tOst, L2.tBM, L2.rNe, L2.tMkO, L2.start, L2.cxOf, L2.Cx.nox, L2.Cx.wish, L2.rI0, L2.rI, L2.tYes, Rs.tCalW, List.getElem?_cons_zero, List.getElem?_cons_succ, Option.some.injEq, exists_eq_left', exists_eq_left, exists_and_left, List.cons.injEq, and_true, true_and, L2.V.bl.injEq, L2.V.int.injEq, L2.V.str.injEq, L2.V.ref.injEq, List.set_cons_zero, List.set_cons_succ, List.map_cons, List.map_nil, List.length_cons, List.length_nil, List.replicate, List.cons_append, List.nil_append, List.append_nil, Nat.reduceSub, Nat.reduceAdd])
local macro_rules | `(tactic| walk_at "dn") => `(tactic| dsimp only [L2.tCons, L2.tC, L2.tNil])
section
variable {P : Program} {w : World} {K : PySem.W.Frag} {mg : PySem.Str → Option Value} {base : Heap}
theorem mergeT_nd : ∀ (more kvs : TK), ((kvs ++ more).map (·.1)).Nodup → mergeT kvs more = kvs ++ more
  | [], kvs, _ => by rw [List.append_nil] <;> rfl
  | kv :: more, kvs, nd => by
    have nk : kv.1 ∉ kvs.map (·.1) := fun h => by
      rw [List.map_append, List.map_cons] at nd
      exact (List.nodup_append.mp nd).2.2 kv.1 h kv.1 List.mem_cons_self rfl
    show mergeT (putK kvs kv.1 kv.2) more = _
    rw [putK_new nk, mergeT_nd more]
    · rw [List.append_assoc] <;> rfl
    · rw [List.append_assoc]; exact nd
/-- pairs of keys and things, as dict() takes them -/
theorem prs_split {S : Mv → V → Prop} {H : Hp} : ∀ {mv : List Mv} {vl : List V}, Paired (fun m v => ∃ pr b z, v = V.ref pr ∧ H pr = some (.tup [.ref b, z]) ∧ H b = some (.tup [.str m.1.1, .str m.1.2]) ∧ S m z) mv vl →
    ∃ (ps : List Addr) (kvs : TK), vl = ps.map V.ref ∧ Paired (PrT H) ps kvs ∧ Paired (fun m (kv : List Key × V) => kv.1 = [Sum.inr m.1.1, Sum.inr m.1.2] ∧ S m kv.2) mv kvs
  | _, _, .nil => ⟨[], [], rfl, .nil, .nil⟩
  | m :: _, _, .cons h t => by
    obtain ⟨ps, kvs, h1, h2, h3⟩ := prs_split t
    obtain ⟨pr, b, z, e, g1, g2, g3⟩ := h
    exact ⟨pr :: ps, ([Sum.inr m.1.1, Sum.inr m.1.2], z) :: kvs, by rw [List.map_cons, ← h1, e], .cons ⟨b, g1, g2⟩ h2, .cons ⟨rfl, g3⟩ h3⟩
theorem keys_nd {S : Mv → V → Prop} : ∀ {mv : List Mv} {kvs : TK}, Paired (fun m (kv : List Key × V) => kv.1 = [Sum.inr m.1.1, Sum.inr m.1.2] ∧ S m kv.2) mv kvs → kvs.map (·.1) = (mv.map (·.1)).map fun k => [Sum.inr k.1, Sum.inr k.2]
  | _, _, .nil => rfl
  | _, _, .cons h t => by rw [List.map_cons, List.map_cons, List.map_cons, ← keys_nd t, h.1]
theorem nodup_keys {mv : List Mv} (nd : (mv.map (·.1)).Nodup) : ((mv.map (·.1)).map fun k => ([Sum.inr k.1, Sum.inr k.2] : List Key)).Nodup := nd.map _ fun a b ne e => ne (key_inj e)
theorem Paired.toMap {α β γ : Type} {R : γ → β → Prop} {f : α → γ} : ∀ {l : List α} {m : List β}, Paired (fun a b => R (f a) b) l m → Paired R (l.map f) m
  | _, _, .nil => .nil
  | _, _, .cons h t => .cons h (Paired.toMap t)
section
variable {k e d S M U : Addr} {n : PySem.Str} {p : Pl} {size : Int} {meths errs : List PySem.Str} {H : Hp} {D : Ends} {v5 v6 v7 v8 v9 v10 v11 v12 v13 : Option V}
def q5 (K : PySem.W.Frag) : TS := tAsg (tCB (rDictT K) (tCons (tLockE (tLc (iKeys (tVar 4)) (gName 11) tYes (tTup (tCons (tVar 11) (tCons (tCB (rTupOf K) (tCons (tCB (rSortQ K) (tCons (tDGet (tVar 4) (tVar 11)) tNil)) tNil)) tNil))) [11])) tNil)) (gName 12)
def dueT (p : Pl) : List Mv := p.mv.map fun m => (m.1, sortOuts m.2)
theorem due_nd (ok : PlOk size meths errs p) : ((dueT p).map (·.1)).Nodup := by
  rw [dueT, List.map_map]
  exact ok.mvs.nd
theorem outs_at {H : Hp} {t l : Addr} {cs : List Addr} {os : Outs} (h : SqT K H t (cs.map V.ref)) (hp : Paired (fun k b => RowAt K H b k) (isort rowLt (os.map row2)) cs) : OutsAt K H t (sortOuts os) := by
  refine ⟨cs, h, Paired.mapL hp fun r hr b hb => ?_⟩
  show RowAt K _ b (row2 (un2 r))
  rw [(row_sorted hr).1]
  exact hb
theorem rows_pair {H : Hp} {bs : List Addr} {os : Outs} (h : Paired (TupAt H) os bs) : Paired (fun k b => RowAt K H b k) (os.map row2) bs := Paired.mapL h fun o _ b hb => SqT.of hb
theorem sq5 (c : RCtx K H k e d n p) (ok : PlOk size meths errs p) (hm : p.mv.length ≤ 100) (h3 : ∀ m ∈ p.mv, m.2.length ≤ 3) (q : ∀ H' U, Same H H' → TabAt K H' U (dueT p) → D.nx (sgR k n p.st e d v5 v6 v7 v8 v9 v10 v11 (some (.ref U)) v13) H') :
    q5 K D (sgR k n p.st e d v5 v6 v7 v8 v9 v10 v11 v12 v13) H := by
  have line : sizeLine = 16777216 := sizeLine_eq
  refine lc_keys (fun D m v H => ∃ pr b z, v = V.ref pr ∧ H pr = some (.tup [.ref b, z]) ∧ H b = some (.tup [.str m.1.1, .str m.1.2]) ∧ ∃ t, z = .ref t ∧ OutsAt K H t (sortOuts m.2)) (fun H Q h => ⟨_, rfl, h⟩) c.mvs (by omega) (fun D m v H1 H2 s z => ?_) (fun D m v H1 xs ys hD z => ?_) (fun D m v H1 od kvs hd z => ?_) (fun D od kvs m b H1 ys hmm hk _ _ Kt kt => ?_) (fun H3 D vl s3 hD e3 hp => ?_)
  · obtain ⟨pr, b, z, e1, g1, g2, t, e2, g3⟩ := z
    exact ⟨pr, b, z, e1, s _ _ g1, s _ _ g2, t, e2, g3.same s⟩
  · obtain ⟨pr, b, z, e1, g1, g2, t, e2, cs, g3, g4⟩ := z
    have sx : SameX D H1 (L2.upd H1 D (.lst ys)) := SameX.self
    exact ⟨pr, b, z, e1, sx _ _ (ne_of g1 hD (by intro z; cases z)) g1, sx _ _ (ne_of g2 hD (by intro z; cases z)) g2, t, e2, cs, sx.tqL hD g3, Paired.imp g4 fun _ _ y => sx.tqL hD y⟩
  · obtain ⟨pr, b, z, e1, g1, g2, t, e2, cs, g3, g4⟩ := z
    have sx : SameX d H1 (L2.upd H1 d (.dT kvs)) := SameX.self
    exact ⟨pr, b, z, e1, sx _ _ (ne_of g1 hd (by intro z; cases z)) g1, sx _ _ (ne_of g2 hd (by intro z; cases z)) g2, t, e2, cs, tq_unlock hd g3, Paired.imp g4 fun _ _ y => tq_unlock hd y⟩
  · obtain ⟨pp, hv, bs, r1, r2⟩ := hk.val
    have hbl := Paired.length r2
    have m3 := h3 m hmm
    refine ⟨rfl, _, rfl, _, rfl, _, rfl, d, .ref pp, rfl, .inr ⟨kvs, [Sum.inr m.1.1, Sum.inr m.1.2], b, .inr ⟨od, same_loc hk.same⟩, rfl, hk.key, hv.symm⟩, pp, bs, m.2.map row2, rfl, .inl (SqL.of r1), by omega, rows_pair r2, (fun k hk => by obtain ⟨o, _, rfl⟩ := List.mem_map.mp hk; intro z; cases z), fun l cs hl hcs => ⟨l, _, rfl, .inl ⟨SqL.of upd_same, fun t ht => ⟨by show 2 ≤ sizeLine; omega, fun pr hpr => ?_⟩⟩⟩⟩
    have s2 := (Same.new (o := .lst (cs.map V.ref)) hl).trans (Same.new (o := .tup (cs.map V.ref)) ht)
    have e2 : (L2.upd (L2.upd H1 l (.lst (cs.map V.ref))) t (.tup (cs.map V.ref))) t = some (.tup (cs.map V.ref)) := upd_same
    generalize L2.upd (L2.upd H1 l (.lst (cs.map V.ref))) t (.tup (cs.map V.ref)) = H2 at s2 e2 hpr
    have s3 := Same.new (o := .tup [.ref b, .ref t]) hpr
    refine kt _ _ (s2.trans s3) ⟨pr, b, .ref t, rfl, upd_same, (s2.trans s3) _ _ hk.key, t, rfl, ?_⟩
    exact outs_at (l := l) (SqT.of (s3 _ _ e2)) (Paired.imp hcs fun _ _ z => Same.tq (s2.trans s3) z)
  · obtain ⟨ps, kvs, e1, g1, g2⟩ := prs_split (S := fun m z => ∃ t, z = .ref t ∧ OutsAt K H3 t (sortOuts m.2)) hp
    subst e1
    have nk := keys_nd (S := fun m z => ∃ t, z = .ref t ∧ OutsAt K H3 t (sortOuts m.2)) g2
    have ndk : (kvs.map (·.1)).Nodup := by rw [nk]; exact nodup_keys ok.mvs.nd
    refine ⟨D, ps, kvs, rfl, SqL.of e3, g1, fun U hU => ?_⟩
    have s4 := Same.new (o := .dT (mergeT [] kvs)) hU
    have em : mergeT [] kvs = kvs := mergeT_nd kvs [] ndk
    refine q _ U (s3.trans s4) ⟨kvs, by rw [upd_same, em], ?_, due_nd ok, by rw [dueT, List.length_map]; omega⟩
    refine Paired.toMap (f := fun m : Mv => (m.1, sortOuts m.2)) (Paired.imp g2 fun m kv z => ?_)
    obtain ⟨z1, t, z2, z3⟩ := z
    exact ⟨z1, t, z2, z3.same s4⟩
/-! ### what is told is what is due -/
theorem mem_sts2 (ok : PlOk size meths errs p) (y : PySem.Str) : y ∈ sts2 p ↔ y ∈ statesOf (kdN n p) := by
  rw [show statesOf (kdN n p) = statesOf ⟨n, p.st, isort strLt p.ends, sortTab p.mv⟩ from rfl, mem_states ok.mvs.nd]
  unfold sts2 sts1 outStates
  simp only [List.mem_append, List.mem_cons, List.mem_map, List.mem_flatMap]
  constructor
  · rintro (((h | h) | ⟨m, hm, rfl⟩) | ⟨m, hm, o, ho, rfl⟩)
    · exact .inl h
    · exact .inr (.inl h)
    · exact .inr (.inr ⟨m, hm, .inl rfl⟩)
    · exact .inr (.inr ⟨m, hm, .inr ⟨o, ho, rfl⟩⟩)
  · rintro (h | h | ⟨m, hm, h | ⟨o, ho, h⟩⟩)
    · exact .inl (.inl (.inl h))
    · exact .inl (.inl (.inr h))
    · exact .inl (.inr ⟨m, hm, h.symm⟩)
    · exact .inr ⟨m, hm, o, ho, h.symm⟩
theorem meths_eq (ok : PlOk size meths errs p) : methodsOf (kdN n p) = methE p := by
  unfold methodsOf methE
  refine isort_uniq fun y => ?_
  rw [show (kdN n p).tab = sortTab p.mv from rfl]
  have h := (sortTab_keys p.mv).map Prod.snd
  rw [List.map_map, List.map_map] at h
  exact h.mem_iff
theorem due_look (k : PySem.Str × PySem.Str) : look (dueT p) k = (look p.mv k).map sortOuts := by
  unfold look dueT
  rw [List.find?_map, Option.map_map, Option.map_map]
  rfl
theorem sts_tx' (ok : PlOk size meths errs p) : ∀ x ∈ stsE p, isName (.str x) = true := fun x hx => by
  have := (mem_sts2 (n := p.name) ok x).mp (mem_uniq.mp (mem_isort.mp hx))
  exact ok.names _ (pl_states ok x this)
theorem meth_nm (ok : PlOk size meths errs p) (dr : DrawnOk meths errs) : ∀ x ∈ methE p, isName (.str x) = true := fun x hx => by
  obtain ⟨m, hm, rfl⟩ := List.mem_map.mp (mem_uniq.mp (mem_isort.mp hx))
  exact dr.mn _ (ok.mvs.key m hm).2
theorem ne_txts {l S : Addr} {xs : List PySem.Str} {Q : VK} (h1 : H l = some (.lst (xs.map V.str))) (h2 : H S = some (.lst (xs.map V.str))) (ht : ∀ x ∈ xs, isName (.str x) = true) (q : Q (.bl false) H) : rNeD K (.ref l) (.ref S) H Q := by
  refine ⟨.list (xs.map PyData.str), .list (xs.map PyData.str), .lst (SqL.of h1) (dp_txts _), .lst (SqL.of h2) (dp_txts _), shaped_ltx (fun x hx => nm_tx (ht x hx)), shaped_ltx (fun x hx => nm_tx (ht x hx)), ?_⟩
  rw [show PyData.eqv (.list (xs.map PyData.str)) (.list (xs.map PyData.str)) = true from by show PyData.eqvAll _ _ = true; rw [eqvAll_txts]; simp]
  exact q
theorem due_deq (ok : PlOk size meths errs p) (dr : DrawnOk meths errs) {ks ls : TK} (h1 : Paired (TabE K H) (kdN n p).tab ks) (h2 : Paired (TabE K H) (dueT p) ls) : DEq K H ks ls true := by
  have l1 := Paired.length h1
  have l2 := Paired.length h2
  have l3 : (kdN n p).tab.length = (dueT p).length := by
    show (sortTab p.mv).length = _
    rw [sortTab, List.length_map, length_isort, List.length_map, dueT, List.length_map]
  refine .inr ⟨by omega, rfl, fun kv hkv => ?_⟩
  obtain ⟨i, hi⟩ := List.getElem?_of_mem hkv
  obtain ⟨m, hm, e1, t, e2, ho⟩ := Paired.at h1 hi
  have hm' : m ∈ sortTab p.mv := List.mem_of_getElem? hm
  have e3 : look (dueT p) m.1 = some m.2 := by
    rw [due_look, ← look_sortTab ok.mvs.nd]
    exact look_mem (sortTab_nodup ok.mvs.nd) hm'
  have tl := tab_look h2 m.1.1 m.1.2
  rw [show ((m.1.1, m.1.2) : PySem.Str × PySem.Str) = m.1 from rfl, e3] at tl
  obtain ⟨t', f1, f2⟩ := tl
  have tx : ∀ o ∈ m.2, TxOk o.1 ∧ TxOk o.2 := (kd_tx ok dr n).tab m hm'
  have sh : SeqAt.shaped (.tuple (m.2.map dPr)) = true := shaped_tpr tx
  refine ⟨.ref t', _, _, by rw [e1]; exact f1, by rw [e2]; exact outs_dp ho, outs_dp f2, sh, sh, ?_⟩
  show PyData.eqvAll _ _ = true
  rw [eqvAll_prs]
  exact decide_eq_true rfl
def q6 (K : PySem.W.Frag) : TS := tIfS (tOr (tTest (tOp (rNeD K) (tMethW (kC K) "states" (sp_states K) W0 (tVar 0) tNil) (tVar 7))) (tOr (tTest (tOp (rNeD K) (tMethW (kC K) "methods" (sp_methods K) W0 (tVar 0) tNil) (tVar 10))) (tTest (tOp (rNeDT K) (tMethW (kC K) "moves" (sp_moves K) W0 (tVar 0) tNil) (tVar 12))))) (tRet (tC (V.bl false))) tNext
theorem sq6 (c : RCtx K H k e d n p) (ok : PlOk size meths errs p) (dr : DrawnOk meths errs) (hl : p.ends.length ≤ 100) (hm : p.mv.length ≤ 100) (h3 : ∀ m ∈ p.mv, m.2.length ≤ 3) (hS : H S = some (.lst ((stsE p).map V.str))) (hM : H M = some (.lst ((methE p).map V.str))) (hU : TabAt K H U (dueT p)) (q : ∀ H', Same H H' → D.nx (sgR k n p.st e d v5 v6 (some (.ref S)) v8 v9 (some (.ref M)) v11 (some (.ref U)) v13) H') :
    q6 K D (sgR k n p.st e d v5 v6 (some (.ref S)) v8 v9 (some (.ref M)) v11 (some (.ref U)) v13) H := by
  have line : sizeLine = 16777216 := sizeLine_eq
  obtain ⟨dk, ea, tb, hki, he, ht⟩ := id c.kind
  have lT : (kdN n p).tab.length ≤ 100 := by show (sortTab p.mv).length ≤ 100; rw [sortTab, List.length_map, length_isort, List.length_map]; exact hm
  have lS : (statesOf (kdN n p)).length ≤ 100000 := by
    have h2 := outs_sum (kdN n p).tab fun m hm' => by
      have := sortTab_in hm'
      obtain ⟨m', hm2, e, _⟩ := this
      have e2 := look_mem (sortTab_nodup ok.mvs.nd) (show m ∈ sortTab p.mv from hm')
      rw [look_sortTab ok.mvs.nd] at e2
      obtain ⟨os, h5, h6⟩ := Option.map_eq_some_iff.mp e2
      have : os.length ≤ 3 := h3 _ (look_in h5)
      rw [← h6, (sortOuts_is os).length_eq]
      omega
    have h1 : (statesOf (kdN n p)).length = 1 + (p.ends.length + ((kdN n p).tab.length + ((kdN n p).tab.flatMap fun m => m.2.map (·.2)).length)) := by
      rw [statesOf, List.length_cons, List.length_append, List.length_append, List.length_map, show (kdN n p).ends = isort strLt p.ends from rfl, length_isort]
      omega
    omega
  refine ⟨_, rfl, k, dk, _, rfl, hki, kflds_no (by decide), k, kdN n p, rfl, c.kind, lS, fun H1 l ys s1 hl1 e1 up ndy mem => ?_⟩
  have ey : ys = stsE p := up_eq up ndy (nodup_uniq _) fun y => by rw [mem, ← mem_sts2 ok, mem_uniq]
  subst ey
  refine ⟨_, rfl, ne_txts e1 (s1 _ _ hS) (sts_tx' ok) ⟨_, rfl, ?_⟩⟩
  have c1 := c.same s1
  refine ⟨_, rfl, k, dk, _, rfl, s1 _ _ hki, kflds_no (by decide), k, kdN n p, rfl, c1.kind, by omega, fun H2 l2 s2 hl2 e2 => ?_⟩
  rw [meths_eq ok] at e2
  refine ⟨_, rfl, ne_txts e2 ((s1.trans s2) _ _ hM) (meth_nm ok dr) ⟨_, rfl, ?_⟩⟩
  have c2 := c1.same s2
  refine ⟨_, rfl, k, dk, _, rfl, (s1.trans s2) _ _ hki, kflds_no (by decide), k, kdN n p, rfl, c2.kind, fun H3 D3 s3 hD3 e3 => ?_⟩
  have s13 := (s1.trans s2).trans s3
  obtain ⟨ks, g1, g2, _⟩ := e3
  obtain ⟨ls, g3, g4, _⟩ := hU.same s13
  exact ⟨_, rfl, D3, U, ks, ls, true, rfl, rfl, .inl g1, .inl g3, due_deq ok dr g2 g4, _, rfl, q H3 s13⟩
end
end
end Rs
set_option Elab.async false
set_option linter.all false
set_option maxRecDepth 100000
set_option maxHeartbeats 4000000
namespace Rs
open PySem PySem.Spec PyProof.Rows L2
local macro_rules | `(tactic| walk_at "rd") => `(tactic| simp only [L2.tRet, L2.tRetN, L2.tSeq, L2.tNext, L2.tIfS, L2.tAsg, L2.gName, L2.gNil, L2.gCons, L2.tVar, L2.tC, L2.tOp, L2.tUn, L2.tCB, L2.tCons, L2.tNil, L2.tAndV, L2.tOrV, L2.tNotV, L2.tAnd, L2.tOr, L2.tNot, L2.tB, L2.tTest, L2.tIf, L2.tChain, L2.tTup, L2.tLst, L2.tDrop, L2.tFld, L2.sFld, L2.tOst, L2.tBM, L2.rNe, L2.tMkO, L2.start, L2.cxOf, L2.Cx.nox, L2.Cx.wish, L2.rI0, L2.rI, L2.tYes, Rs.tCalW, List.getElem?_cons_zero, List.getElem?_cons_succ, Option.some.injEq, exists_eq_left', exists_eq_left, exists_and_left, List.cons.injEq, and_true, true_and, L2.V.bl.injEq, L2.V.int.injEq, L2.V.str.injEq, L2.V.ref.injEq, List.set_cons_zero, List.set_cons_succ, List.map_cons, List.map_nil, List.length_cons, List.length_nil, List.replicate, List.cons_append, List.nil_append, List.append_nil, Nat.reduceSub, Nat.reduceAdd])
local macro_rules | `(tactic| walk_at "dn") => `(tactic| dsimp only [L2.tCons, L2.tC, L2.tNil])
section
variable {P : Program} {w : World} {K : PySem.W.Frag} {mg : PySem.Str → Option Value} {base : Heap}
section
variable {k e d S M U : Addr} {n : PySem.Str} {p : Pl} {size : Int} {meths errs : List PySem.Str} {H : Hp} {D : Ends} {v5 v6 v7 v8 v9 v10 v11 v12 v13 : Option V}
/-- a thing without parts -/
def Flat (v : V) : Prop := (∃ l, lfV v = some l) ∧ StrOk v
theorem Flat.any {v : V} (h : Flat v) : Any K H v := by
  obtain ⟨⟨l, e⟩, s⟩ := h
  refine ⟨?_, s⟩
  cases v with
  | non => exact ⟨_, srt_non⟩
  | bl b => exact ⟨_, srt_bl b⟩
  | int i => exact ⟨_, srt_int i⟩
  | str z => exact ⟨_, srt_str z⟩
  | _ => cases e
theorem flat_nm {x : PySem.Str} (h : isName (.str x) = true) : Flat (.str x) := ⟨⟨_, rfl⟩, fun z e => by cases e; exact name_len h⟩
theorem valL_txt {kvs : TK} (x y : PySem.Str) : valL kvs [.text x, .text y] = valV kvs [Sum.inr x, Sum.inr y] := by
  unfold valL valV
  congr 1
  refine congrArg (fun f => kvs.find? f) (funext fun kv => ?_)
  by_cases e : kv.1 = [Sum.inr x, Sum.inr y]
  · rw [e] <;> simp [lfK]
  · rw [decide_eq_false e, decide_eq_false]
    exact fun z => e (lfKs_inj (by rw [z] <;> rfl))
theorem valL_odd {tab : List Mv} {kvs : TK} (h : Paired (TabE K H) tab kvs) {ls : List PySem.Leaf} (hl : ∀ x y, ls ≠ [.text x, .text y]) : valL kvs ls = none := by
  unfold valL
  have : (kvs.find? fun kv => decide (kv.1.map lfK = ls)) = none := by
    rw [List.find?_eq_none]
    intro kv hkv z
    obtain ⟨i, hi⟩ := List.getElem?_of_mem hkv
    obtain ⟨m, _, e1, _⟩ := Paired.at h hi
    have z := of_decide_eq_true z
    rw [e1] at z
    exact hl m.1.1 m.1.2 z.symm
  rw [this] <;> rfl
/-- what the kind and what is due tell of two things -/
theorem both (ok : PlOk size meths errs p) (dr : DrawnOk meths errs) {kvs : TK} (h : Paired (TabE K H) (dueT p) kvs) {u v : V} {lu lv : PySem.Leaf} (hu : lfV u = some lu) (hv : lfV v = some lv) :
    (((keyV [u, v]).bind (look (kdN n p).tab)) = none ∧ valL kvs [lu, lv] = none) ∨ ∃ os t, ((keyV [u, v]).bind (look (kdN n p).tab)) = some os ∧ valL kvs [lu, lv] = some (.ref t) ∧ OutsAt K H t os ∧ ∀ o ∈ os, TxOk o.1 ∧ TxOk o.2 := by
  by_cases tx : ∃ x y, u = .str x ∧ v = .str y
  · obtain ⟨x, y, rfl, rfl⟩ := tx
    cases hu
    cases hv
    rw [valL_txt]
    have tl := tab_look h x y
    rw [due_look] at tl
    cases ek : keyV [V.str x, V.str y] with
    | some kk =>
      have e2 : kk = (x, y) := by
        have := keyV_some ek
        injection this with a1 a2
        injection a2 with a2 _
        exact Prod.ext (V.str.inj a1).symm (V.str.inj a2).symm
      subst e2
      show (look (kdN n p).tab (x, y) = none ∧ _) ∨ ∃ os t, look (kdN n p).tab (x, y) = some os ∧ _
      have e3 : look (kdN n p).tab (x, y) = (look p.mv (x, y)).map sortOuts := look_sortTab ok.mvs.nd _
      rw [e3]
      cases e4 : look p.mv (x, y) with
      | none => rw [e4] at tl; exact .inl ⟨rfl, tl⟩
      | some os =>
        rw [e4] at tl
        obtain ⟨t, f1, f2⟩ := tl
        exact .inr ⟨_, t, rfl, f1, f2, fun o ho => pl_outs_tx ok dr _ (look_in e4) o (mem_sortOuts.mp ho)⟩
    | none =>
      refine .inl ⟨rfl, ?_⟩
      have e4 : look p.mv (x, y) = none := look_none fun hx => by
        obtain ⟨m, hm, e⟩ := List.mem_map.mp hx
        obtain ⟨k1, k2⟩ := ok.mvs.key m hm
        have n1 : isName (.str x) = true := by have := ok.names _ k1; rw [e] at this; exact this
        have n2 : isName (.str y) = true := by have := dr.mn _ k2; rw [e] at this; exact this
        have ek' : keyV [V.str x, V.str y] = some (x, y) := by
          unfold keyV
          exact if_pos ⟨n1, n2⟩
        rw [ek'] at ek
        cases ek
      rw [e4] at tl
      exact tl
  · have ek : keyV [u, v] = none := by
      cases ek : keyV [u, v] with
      | none => rfl
      | some kk =>
        have := keyV_some ek
        injection this with a1 a2
        injection a2 with a2 _
        exact absurd ⟨_, _, a1, a2⟩ tx
    rw [ek]
    refine .inl ⟨rfl, valL_odd h fun x y z => ?_⟩
    injection z with z1 z2
    injection z2 with z2 _
    have tx1 : ∀ {v : V} {x : PySem.Str}, lfV v = some (.text x) → v = .str x := fun {v x} h => by
      cases v <;> simp [lfV] at h <;> rw [h]
    exact tx ⟨x, y, tx1 (by rw [hu, z1]), tx1 (by rw [hv, z2])⟩
def q7 (K : PySem.W.Frag) : TS := tFor (iList K (tOp rCat (tVar 7) (tLst (tCons (tC (V.str "nowhere")) (tCons (tC (V.str "")) (tCons (tC V.non) (tCons (tC (V.int 5)) tNil))))))) (gName 5)
  (tFor (iList K (tOp rCat (tVar 10) (tLst (tCons (tC (V.str "nothing")) (tCons (tC (V.str "A")) (tCons (tC V.non) (tCons (tC (V.bl true)) tNil))))))) (gName 6)
    (tIfS (tOr (tTest (tOp (rNeD K) (tOp (rSubO (kC K) (sp_getA K) E0) (tVar 0) (tTup (tCons (tVar 5) (tCons (tVar 6) tNil)))) (tGetL (tVar 12) (tTup (tCons (tVar 5) (tCons (tVar 6) tNil))))))
      (tTest (tOp rNe (tOp (rInO (kC K) (sp_hasA K) E0 false) (tTup (tCons (tVar 5) (tCons (tVar 6) tNil))) (tVar 0)) (tOp rInL (tTup (tCons (tVar 5) (tCons (tVar 6) tNil))) (tVar 12))))) (tRet (tC (V.bl false))) tNext))
structure RC2 (K : PySem.W.Frag) (H : Hp) (k e d S M U : Addr) (n : PySem.Str) (p : Pl) : Prop where
  c : RCtx K H k e d n p
  s : H S = some (.lst ((stsE p).map V.str))
  m : H M = some (.lst ((methE p).map V.str))
  u : TabAt K H U (dueT p)
theorem RC2.same {H' : Hp} (s : Same H H') (c : RC2 K H k e d S M U n p) : RC2 K H' k e d S M U n p := ⟨c.c.same s, s _ _ c.s, s _ _ c.m, c.u.same s⟩
def oddS : List V := [.str "nowhere", .str "", .non, .int 5]
def oddM : List V := [.str "nothing", .str "A", .non, .bl true]
theorem flat_odd : ∀ v ∈ oddS ++ oddM, Flat v := by
  intro v hv
  simp only [oddS, oddM, List.mem_append, List.mem_cons, List.not_mem_nil, or_false] at hv
  have sm : ∀ {z : PySem.Str}, z.length ≤ 100 → Flat (.str z) := fun {z} h => ⟨⟨_, rfl⟩, fun x e => by cases e; rw [sizeLine_eq]; omega⟩
  rcases hv with (rfl | rfl | rfl | rfl) | (rfl | rfl | rfl | rfl)
  · exact sm (by decide)
  · exact sm (by decide)
  · exact ⟨⟨_, rfl⟩, fun z e => by cases e⟩
  · exact ⟨⟨_, rfl⟩, fun z e => by cases e⟩
  · exact sm (by decide)
  · exact sm (by decide)
  · exact ⟨⟨_, rfl⟩, fun z e => by cases e⟩
  · exact ⟨⟨_, rfl⟩, fun z e => by cases e⟩
theorem asked2 {b : Addr} {u v : V} (hb : H b = some (.tup [u, v])) (hu : Flat u) (hv : Flat v) : Asked K H (.ref b) (keyV [u, v]) := by
  refine .inr ⟨b, _, rfl, hb, fun _ x hx => ?_, rfl⟩
  rcases List.mem_cons.mp hx with rfl | hx
  · exact hu.any
  · rcases List.mem_cons.mp hx with rfl | hx
    · exact hv.any
    · cases hx
theorem ne_none {Q : VK} (q : Q (.bl false) H) : rNeD K .non .non H Q := ⟨.none, .none, .non, .non, rfl, rfl, q⟩
theorem ne_outs {t t' : Addr} {os : Outs} {Q : VK} (h1 : OutsAt K H t os) (h2 : OutsAt K H t' os) (tx : ∀ o ∈ os, TxOk o.1 ∧ TxOk o.2) (q : Q (.bl false) H) : rNeD K (.ref t) (.ref t') H Q := by
  have sh : SeqAt.shaped (.tuple (os.map dPr)) = true := shaped_tpr tx
  refine ⟨_, _, outs_dp h1, outs_dp h2, sh, sh, ?_⟩
  rw [show PyData.eqv (.tuple (os.map dPr)) (.tuple (os.map dPr)) = true from by show PyData.eqvAll _ _ = true; rw [eqvAll_prs]; exact decide_eq_true rfl]
  exact q
theorem sq7 (c : RC2 K H k e d S M U n p) (ok : PlOk size meths errs p) (dr : DrawnOk meths errs) (hs : (stsE p).length ≤ 1000) (hm : (methE p).length ≤ 1000) (q : ∀ H' v5 v6, Same H H' → D.nx (sgR k n p.st e d v5 v6 (some (.ref S)) v8 v9 (some (.ref M)) v11 (some (.ref U)) v13) H') :
    q7 K D (sgR k n p.st e d v5 v6 (some (.ref S)) v8 v9 (some (.ref M)) v11 (some (.ref U)) v13) H := by
  have line : sizeLine = 16777216 := sizeLine_eq
  refine ⟨_, rfl, by show 4 ≤ sizeLine; omega, fun t1 h1 => ⟨S, t1, _, _, rfl, rfl, Same.new h1 _ _ c.s, upd_same, by rw [List.length_map]; show _ + 4 ≤ _; omega, fun L1 hL1 => ?_⟩⟩
  have s1 := (Same.new (o := .lst oddS) h1).trans (Same.new (o := .lst ((stsE p).map V.str ++ oddS)) hL1)
  have e1 : (L2.upd (L2.upd H t1 (.lst oddS)) L1 (.lst ((stsE p).map V.str ++ oddS))) L1 = some (.lst ((stsE p).map V.str ++ oddS)) := upd_same
  refine ⟨L1, rfl, ⟨_, SqL.of e1⟩, ?_⟩
  generalize hH1 : L2.upd (L2.upd H t1 (.lst oddS)) L1 (.lst ((stsE p).map V.str ++ oddS)) = H1 at s1 e1
  have hH1' : L2.upd (L2.upd H t1 (.lst [V.str "nowhere", V.str "", V.non, V.int 5])) L1 (.lst ((stsE p).map V.str ++ [V.str "nowhere", V.str "", V.non, V.int 5])) = H1 := hH1
  rw [hH1']
  clear hH1 hH1'
  have fl1 : ∀ u ∈ (stsE p).map V.str ++ oddS, Flat u := fun u hu => by
    rcases List.mem_append.mp hu with hu | hu
    · obtain ⟨x, hx, rfl⟩ := List.mem_map.mp hu
      exact flat_nm (sts_tx' ok x hx)
    · exact flat_odd u (List.mem_append_left _ hu)
  have fl2 : ∀ u ∈ (methE p).map V.str ++ oddM, Flat u := fun u hu => by
    rcases List.mem_append.mp hu with hu | hu
    · obtain ⟨x, hx, rfl⟩ := List.mem_map.mp hu
      exact flat_nm (meth_nm ok dr x hx)
    · exact flat_odd u (List.mem_append_right _ hu)
  refine for_it walk_list (fun i σ H2 => Same H1 H2 ∧ ∃ v5 v6, σ = sgR k n p.st e d v5 v6 (some (.ref S)) v8 v9 (some (.ref M)) v11 (some (.ref U)) v13) ⟨Same.refl _, _, _, rfl⟩ (fun i σ H2 _ z => SqL.of (z.1 _ _ e1)) (fun i u σ H2 H3 hi pv yy => ?_) (fun σ H2 pv => ?_)
  case refine_2 =>
    obtain ⟨s2, v5, v6, rfl⟩ := pv
    exact q H2 v5 v6 (s1.trans s2)
  obtain ⟨s2, v5, v6, rfl⟩ := pv
  obtain ⟨rfl, hu⟩ := yy
  have fu := fl1 u (List.mem_of_getElem? hu)
  have c3 := c.same (s1.trans s2)
  refine ⟨_, rfl, by show 4 ≤ sizeLine; omega, fun t3 h3 => ⟨M, t3, _, _, rfl, rfl, Same.new h3 _ _ c3.m, upd_same, by rw [List.length_map]; show _ + 4 ≤ _; omega, fun L3 hL3 => ?_⟩⟩
  have s3 := (Same.new (o := .lst oddM) h3).trans (Same.new (o := .lst ((methE p).map V.str ++ oddM)) hL3)
  have e3 : (L2.upd (L2.upd H3 t3 (.lst oddM)) L3 (.lst ((methE p).map V.str ++ oddM))) L3 = some (.lst ((methE p).map V.str ++ oddM)) := upd_same
  refine ⟨L3, rfl, ⟨_, SqL.of e3⟩, ?_⟩
  generalize hH4 : L2.upd (L2.upd H3 t3 (.lst oddM)) L3 (.lst ((methE p).map V.str ++ oddM)) = H4 at s3 e3
  have hH4' : L2.upd (L2.upd H3 t3 (.lst [V.str "nothing", V.str "A", V.non, V.bl true])) L3 (.lst ((methE p).map V.str ++ [V.str "nothing", V.str "A", V.non, V.bl true])) = H4 := hH4
  rw [hH4']
  clear hH4 hH4'
  refine for_it walk_list (fun j σ H5 => Same H4 H5 ∧ ∃ v6, σ = sgR k n p.st e d (some u) v6 (some (.ref S)) v8 v9 (some (.ref M)) v11 (some (.ref U)) v13) ⟨Same.refl _, _, rfl⟩ (fun i σ H2 _ z => SqL.of (z.1 _ _ e3)) (fun j v σ H5 H6 hj pv yy => ?_) (fun σ H5 pv => ?_)
  case refine_2 =>
    obtain ⟨s5, v6, rfl⟩ := pv
    exact ⟨s2.trans (s3.trans s5), _, _, rfl⟩
  obtain ⟨s5, v6, rfl⟩ := pv
  obtain ⟨rfl, hv⟩ := yy
  have fv := fl2 v (List.mem_of_getElem? hv)
  have c6 := c3.same (s3.trans s5)
  obtain ⟨lu, elu⟩ := fu.1
  obtain ⟨lv, elv⟩ := fv.1
  obtain ⟨dk, ea, tb, hki, _, _⟩ := id c6.c.kind
  obtain ⟨kvs, hU, hpU, _⟩ := id c6.u
  have two : 2 ≤ sizeLine := by omega
  have isd : ∀ {H7 : Hp}, Same H6 H7 → IsD H7 U := fun s7 => .inr ⟨kvs, .inl (s7 _ _ hU)⟩
  have lf : [u, v].map lfV = [lu, lv].map some := by simp only [List.map_cons, List.map_nil, elu, elv]
  have ask : ∀ {H7 : Hp} {b : Addr}, Same H6 H7 → H7 b = some (.tup [u, v]) → AskL H7 b U (valL kvs [lu, lv]) := fun s7 hb => ⟨kvs, _, _, hb, lf, .inl (s7 _ _ hU), rfl⟩
  rcases both (n := n) ok dr hpU elu elv with ⟨en, ev⟩ | ⟨os, t, en, ev, ho, tx⟩
  · refine ⟨_, rfl, _, rfl, _, rfl, two, fun b1 hb1 => ⟨k, dk, _, rfl, Same.new hb1 _ _ hki, k, kdN n p, .ref b1, _, rfl, c6.c.kind.same (Same.new hb1), asked2 upd_same fu fv, fun H7 s7 => ?_⟩⟩
    rw [en]
    have s67 := (Same.new (o := .tup [u, v]) hb1).trans s7
    refine ⟨_, rfl, U, rfl, isd s67, _, rfl, _, rfl, two, fun b2 hb2 => ⟨b2, _, rfl, ask (s67.trans (Same.new hb2)) upd_same, ?_⟩⟩
    rw [ev]
    have s68 := s67.trans (Same.new (o := .tup [u, v]) hb2)
    refine ne_none ⟨_, rfl, ?_⟩
    generalize L2.upd H7 b2 (.tup [u, v]) = H8 at s68
    refine ⟨_, rfl, _, rfl, two, fun b3 hb3 => ⟨_, rfl, k, dk, _, rfl, (s68.trans (Same.new hb3)) _ _ hki, k, kdN n p, .ref b3, _, rfl, c6.c.kind.same (s68.trans (Same.new hb3)), asked2 upd_same fu fv, fun H9 s9 => ⟨_, rfl, ?_⟩⟩⟩
    rw [en]
    have s69 := (s68.trans (Same.new (o := .tup [u, v]) hb3)).trans s9
    refine ⟨_, rfl, _, rfl, two, fun b4 hb4 => ⟨_, rfl, b4, U, _, rfl, rfl, ask (s69.trans (Same.new hb4)) upd_same, ?_⟩⟩
    rw [ev]
    exact ⟨rfl, _, rfl, s5.trans (s69.trans (Same.new hb4)), _, rfl⟩
  · refine ⟨_, rfl, _, rfl, _, rfl, two, fun b1 hb1 => ⟨k, dk, _, rfl, Same.new hb1 _ _ hki, k, kdN n p, .ref b1, _, rfl, c6.c.kind.same (Same.new hb1), asked2 upd_same fu fv, fun H7 s7 => ?_⟩⟩
    rw [en]
    intro t' ho'
    have s67 := (Same.new (o := .tup [u, v]) hb1).trans s7
    refine ⟨_, rfl, U, rfl, isd s67, _, rfl, _, rfl, two, fun b2 hb2 => ⟨b2, _, rfl, ask (s67.trans (Same.new hb2)) upd_same, ?_⟩⟩
    rw [ev]
    have s68 := s67.trans (Same.new (o := .tup [u, v]) hb2)
    refine ne_outs (ho'.same (Same.new hb2)) (ho.same s68) tx ⟨_, rfl, ?_⟩
    generalize L2.upd H7 b2 (.tup [u, v]) = H8 at s68
    refine ⟨_, rfl, _, rfl, two, fun b3 hb3 => ⟨_, rfl, k, dk, _, rfl, (s68.trans (Same.new hb3)) _ _ hki, k, kdN n p, .ref b3, _, rfl, c6.c.kind.same (s68.trans (Same.new hb3)), asked2 upd_same fu fv, fun H9 s9 => ⟨_, rfl, ?_⟩⟩⟩
    rw [en]
    have s69 := (s68.trans (Same.new (o := .tup [u, v]) hb3)).trans s9
    refine ⟨_, rfl, _, rfl, two, fun b4 hb4 => ⟨_, rfl, b4, U, _, rfl, rfl, ask (s69.trans (Same.new hb4)) upd_same, ?_⟩⟩
    rw [ev]
    exact ⟨rfl, _, rfl, s5.trans (s69.trans (Same.new hb4)), _, rfl⟩
end
end
end Rs
set_option Elab.async false
set_option linter.all false
set_option maxRecDepth 100000
set_option maxHeartbeats 4000000
namespace Rs
open PySem PySem.Spec PyProof.Rows L2
local macro_rules | `(tactic| walk_at "rd") => `(tactic| simp only [L2.tRet, L2.tRetN, L2.tSeq, L2.tNext, L2.tIfS, L2.tAsg, L2.gName, L2.gNil, L2.gCons, L2.tVar, L2.tC, L2.tOp, L2.tUn, L2.tCB, L2.tCons, L2.tNil, L2.tAndV, L2.tOrV, L2.tNotV, L2.tAnd, L2.tOr, L2.tNot, L2.tB, L2.tTest, L2.tIf, L2.tChain, L2.tTup, L2.tLst, L2.tDrop, L2.tFld, L2.sFld, L2.tOst, L2.tBM, L2.rNe, L2.tMkO, L2.start, L2.cxOf, L2.Cx.nox, L2.Cx.wish, L2.rI0, L2.rI, L2.tYes, Rs.tCalW, List.getElem?_cons_zero, List.getElem?_cons_succ, Option.some.injEq, exists_eq_left', exists_eq_left, exists_and_left, List.cons.injEq, and_true, true_and, L2.V.bl.injEq, L2.V.int.injEq, L2.V.str.injEq, L2.V.ref.injEq, List.set_cons_zero, List.set_cons_succ, List.map_cons, List.map_nil, List.length_cons, List.length_nil, List.replicate, List.cons_append, List.nil_append, List.append_nil, Nat.reduceSub, Nat.reduceAdd])
local macro_rules | `(tactic| walk_at "dn") => `(tactic| dsimp only [L2.tCons, L2.tC, L2.tNil])
section
variable {P : Program} {w : World} {K : PySem.W.Frag} {mg : PySem.Str → Option Value} {base : Heap}
theorem Asked.same {H H' : Hp} {v : V} (s : Same H H') (h : Asked K H v none) : Asked K H' v none := by
  rcases h with ⟨n, sr, hn, _⟩ | ⟨b, xs, e, hb, hx, hk⟩
  · exact .inl ⟨n, Srt.same s sr, hn, rfl⟩
  · exact .inr ⟨b, xs, e, s _ _ hb, fun h x hx' => (hx h x hx').same s, hk⟩
theorem asked_tup {H : Hp} {b : Addr} {xs : List V} (hb : H b = some (.tup xs)) (hl : xs.length ≠ 2) : Asked K H (.ref b) none := by
  refine .inr ⟨b, xs, rfl, hb, fun h => absurd h hl, ?_⟩
  cases e : keyV xs with
  | none => rfl
  | some k => rw [keyV_some e] at hl; exact absurd rfl hl
section
variable {k e d S M U L : Addr} {n : PySem.Str} {p : Pl} {size : Int} {meths errs : List PySem.Str} {H : Hp} {D : Ends} {v5 v6 v7 v8 v9 v10 v11 v12 v13 : Option V}
def OddL (K : PySem.W.Frag) (H : Hp) (L : Addr) : Prop := ∃ xs, H L = some (.lst xs) ∧ xs.length ≤ 10 ∧ ∀ v ∈ xs, Asked K H v none
def q8 (K : PySem.W.Frag) : TS := tAsg (tLst (tCons (tC V.non) (tCons (tC (V.int 5)) (tCons (tC (V.str "ab")) (tCons (tTup (tCons (tC (V.str "open")) tNil)) (tCons (tTup (tCons (tC (V.int 1)) (tCons (tC (V.int 2)) (tCons (tC (V.int 3)) tNil)))) (tCons (tLst (tCons (tOp (rIxL K) (tVar 7) (tC (V.int 0))) (tCons (tC (V.str "call")) tNil))) (tCons tDNewK (tCons (tTup (tCons (tC (V.str "open")) (tCons (tC (V.str "read")) (tCons (tC (V.str "a")) tNil)))) (tCons (tC (V.bl true)) (tCons (tTup tNil) tNil))))))))))) (gName 8)
theorem sq8 {ss : List PySem.Str} (hS : H S = some (.lst (ss.map V.str))) (h0 : ss ≠ []) (q : ∀ H' L, Same H H' → OddL K H' L → D.nx (sgR k n p.st e d v5 v6 (some (.ref S)) (some (.ref L)) v9 v10 v11 v12 v13) H') :
    q8 K D (sgR k n p.st e d v5 v6 (some (.ref S)) v8 v9 v10 v11 v12 v13) H := by
  have line : sizeLine = 16777216 := sizeLine_eq
  obtain ⟨s0, hs0⟩ : ∃ s0, ss[0]? = some s0 := ⟨_, List.getElem?_eq_getElem (List.length_pos_iff.mpr h0)⟩
  refine ⟨by show 1 ≤ sizeLine; omega, fun t1 h1 => ?_⟩
  have s1 := Same.new (o := .tup [V.str "open"]) h1
  have e1 : (L2.upd H t1 (.tup [V.str "open"])) t1 = some (.tup [V.str "open"]) := upd_same
  generalize L2.upd H t1 (.tup [V.str "open"]) = H1 at s1 e1
  refine ⟨by show 3 ≤ sizeLine; omega, fun t2 h2 => ?_⟩
  have s2 := Same.new (o := .tup [V.int 1, V.int 2, V.int 3]) h2
  have e2 : (L2.upd H1 t2 (.tup [V.int 1, V.int 2, V.int 3])) t2 = some (.tup [V.int 1, V.int 2, V.int 3]) := upd_same
  generalize L2.upd H1 t2 (.tup [V.int 1, V.int 2, V.int 3]) = H2 at s2 e2
  refine ⟨_, rfl, S, _, 0, .str s0, rfl, rfl, SqL.of ((s1.trans s2) _ _ hS), atI_nat (j := 0) (by rw [List.getElem?_map, hs0] <;> rfl), by show 2 ≤ sizeLine; omega, fun t3 h3 => ?_⟩
  have s3 := Same.new (o := .lst [V.str s0, V.str "call"]) h3
  have e3 : (L2.upd H2 t3 (.lst [V.str s0, V.str "call"])) t3 = some (.lst [V.str s0, V.str "call"]) := upd_same
  generalize L2.upd H2 t3 (.lst [V.str s0, V.str "call"]) = H3 at s3 e3
  refine fun t4 h4 => ?_
  have s4 := Same.new (o := .dK []) h4
  have e4 : (L2.upd H3 t4 (.dK [])) t4 = some (.dK []) := upd_same
  generalize L2.upd H3 t4 (.dK []) = H4 at s4 e4
  refine ⟨by show 3 ≤ sizeLine; omega, fun t5 h5 => ?_⟩
  have s5 := Same.new (o := .tup [V.str "open", V.str "read", V.str "a"]) h5
  have e5 : (L2.upd H4 t5 (.tup [V.str "open", V.str "read", V.str "a"])) t5 = some (.tup [V.str "open", V.str "read", V.str "a"]) := upd_same
  generalize L2.upd H4 t5 (.tup [V.str "open", V.str "read", V.str "a"]) = H5 at s5 e5
  refine ⟨Nat.zero_le _, fun t6 h6 => ?_⟩
  have s6 := Same.new (o := .tup []) h6
  have e6 : (L2.upd H5 t6 (.tup [])) t6 = some (.tup []) := upd_same
  generalize L2.upd H5 t6 (.tup []) = H6 at s6 e6
  refine ⟨by show 10 ≤ sizeLine; omega, fun L hL => ?_⟩
  refine q _ L ((((((s1.trans s2).trans s3).trans s4).trans s5).trans s6).trans (Same.new hL)) ⟨_, upd_same, Nat.le_refl _, fun v hv => ?_⟩
  have s7 := Same.new (o := .lst [V.non, V.int 5, V.str "ab", V.ref t1, V.ref t2, V.ref t3, V.ref t4, V.ref t5, V.bl true, V.ref t6]) hL
  refine Asked.same s7 ?_
  simp only [List.mem_cons, List.not_mem_nil, or_false] at hv
  rcases hv with rfl | rfl | rfl | rfl | rfl | rfl | rfl | rfl | rfl | rfl
  · exact .inl ⟨_, srt_non, by decide, rfl⟩
  · exact .inl ⟨_, srt_int _, by decide, rfl⟩
  · exact .inl ⟨_, srt_str _, by decide, rfl⟩
  · exact asked_tup (s6 _ _ (s5 _ _ (s4 _ _ (s3 _ _ (s2 _ _ e1))))) (by decide)
  · exact asked_tup (s6 _ _ (s5 _ _ (s4 _ _ (s3 _ _ e2)))) (by decide)
  · exact .inl ⟨_, srt_lst (s6 _ _ (s5 _ _ (s4 _ _ e3))), by decide, rfl⟩
  · exact .inl ⟨_, srt_dK (s6 _ _ (s5 _ _ e4)), by decide, rfl⟩
  · exact asked_tup (s6 _ _ e5) (by decide)
  · exact .inl ⟨_, srt_bl _, by decide, rfl⟩
  · exact asked_tup e6 (by decide)
def q9 (K : PySem.W.Frag) : TS := tFor (iList K (tOp rCat (tVar 8) (tLockE (tLc (iKeys (tVar 4)) (gName 11) tYes (tCB (rListOf K) (tCons (tVar 11) tNil)) [11])))) (gName 13)
  (tIfS (tOr (tTest (tOp (fun x y H Q => y = V.non ∧ Q (V.bl (!decide (x = V.non))) H) (tOp (rSubO (kC K) (sp_getA K) E0) (tVar 0) (tVar 13)) (tC V.non))) (tTest (tOp (rInO (kC K) (sp_hasA K) E0 false) (tVar 13) (tVar 0)))) (tRet (tC (V.bl false))) tNext)
theorem sq9 (c : RCtx K H k e d n p) (hm : p.mv.length ≤ 100) (hL : OddL K H L) (q : ∀ H' v13, Same H H' → D.nx (sgR k n p.st e d v5 v6 v7 (some (.ref L)) v9 v10 v11 v12 v13) H') :
    q9 K D (sgR k n p.st e d v5 v6 v7 (some (.ref L)) v9 v10 v11 v12 v13) H := by
  have line : sizeLine = 16777216 := sizeLine_eq
  obtain ⟨xs, hx, hxl, hxa⟩ := hL
  refine ⟨_, rfl, lc_keys (fun D m v H => ∃ l, v = V.ref l ∧ l ≠ D ∧ H l = some (.lst [.str m.1.1, .str m.1.2])) (fun H Q h => ⟨_, rfl, h⟩) c.mvs (by omega) (fun D m v H1 H2 s z => ?_) (fun D m v H1 xs ys hD z => ?_) (fun D m v H1 od kvs hd z => ?_) (fun D od kvs m b H1 ys hmm hk hD _ Kt kt => ?_) (fun H3 D vl s3 hD e3 hp => ?_)⟩
  · obtain ⟨l, e1, e2, e3⟩ := z
    exact ⟨l, e1, e2, s _ _ e3⟩
  · obtain ⟨l, e1, e2, e3⟩ := z
    exact ⟨l, e1, e2, by rw [upd_ne e2]; exact e3⟩
  · obtain ⟨l, e1, e2, e3⟩ := z
    exact ⟨l, e1, e2, by rw [upd_ne (ne_of e3 hd (by intro z; cases z))]; exact e3⟩
  · refine ⟨rfl, _, rfl, b, _, rfl, .inr (SqT.of hk.key), fun l hl => kt _ _ (Same.new hl) ⟨l, rfl, (ne_of_none hD hl).symm, upd_same⟩⟩
  · have hvl := Paired.length hp
    refine ⟨L, D, xs, vl, rfl, rfl, s3 _ _ hx, e3, by omega, fun L2' hL2 => ⟨L2', rfl, ⟨_, SqL.of upd_same⟩, ?_⟩⟩
    have s4 := Same.new (o := .lst (xs ++ vl)) hL2
    have e4 : (L2.upd H3 L2' (.lst (xs ++ vl))) L2' = some (.lst (xs ++ vl)) := upd_same
    have ask : ∀ v ∈ xs ++ vl, Asked K (L2.upd H3 L2' (.lst (xs ++ vl))) v none := fun v hv => by
      rcases List.mem_append.mp hv with hv | hv
      · exact (hxa v hv).same (s3.trans s4)
      · obtain ⟨i, hi⟩ := List.getElem?_of_mem hv
        obtain ⟨m, _, l, rfl, _, e⟩ := Paired.at hp hi
        exact .inl ⟨_, srt_lst (s4 _ _ e), by decide, rfl⟩
    have c4 := c.same (s3.trans s4)
    have s34 := s3.trans s4
    generalize L2.upd H3 L2' (.lst (xs ++ vl)) = H4 at s34 e4 ask c4
    refine for_it walk_list (fun i σ H5 => Same H4 H5 ∧ ∃ v13, σ = sgR k n p.st e d v5 v6 v7 (some (.ref L)) v9 v10 v11 v12 v13) ⟨Same.refl _, _, rfl⟩ (fun i σ H5 _ z => SqL.of (z.1 _ _ e4)) (fun i v σ H5 H6 hi pv yy => ?_) (fun σ H5 pv => ?_)
    · obtain ⟨s5, v13, rfl⟩ := pv
      obtain ⟨rfl, hv⟩ := yy
      have hk := (ask v (List.mem_of_getElem? hv)).same s5
      have c6 := c4.same s5
      obtain ⟨dk, ea, tb, hki, _, _⟩ := id c6.kind
      refine ⟨_, rfl, _, rfl, k, dk, _, rfl, hki, k, kdN n p, v, none, rfl, c6.kind, hk, fun H7 s7 => ⟨rfl, _, rfl, ?_⟩⟩
      refine ⟨_, rfl, _, rfl, k, dk, _, rfl, s7 _ _ hki, k, kdN n p, v, none, rfl, c6.kind.same s7, hk.same s7, fun H8 s8 => ⟨_, rfl, _, rfl, s5.trans (s7.trans s8), _, rfl⟩⟩
    · obtain ⟨s5, v13, rfl⟩ := pv
      exact q H5 v13 (s34.trans s5)
end
/-! ### _law_right -/
def sp_right (K : PySem.W.Frag) : Sp := fun vs H Q _ => ∃ (k e d : Addr) (n : PySem.Str) (p : Pl) (size : Int) (meths errs : List PySem.Str), vs = [.ref k, .str n, .str p.st, .ref e, .ref d] ∧ RCtx K H k e d n p ∧ PlOk size meths errs p ∧ DrawnOk meths errs ∧ size ≤ 4 ∧ TxOk n ∧ ∀ H', Same H H' → Q (.bl true) H'
theorem pl_small {size : Int} {meths errs : List PySem.Str} {p : Pl} (ok : PlOk size meths errs p) (dr : DrawnOk meths errs) (hz : size ≤ 4) : p.ends.length ≤ 4 ∧ p.mv.length ≤ 16 := by
  have h0 := nodup_le ok.endsN ok.endsS
  have h2 : (p.mv.map (·.1)).length ≤ (p.sts.flatMap fun s => meths.map fun m => (s, m)).length := nodup_le ok.mvs.nd fun k hk => by
    obtain ⟨m, hm, e⟩ := List.mem_map.mp hk
    obtain ⟨k1, k2⟩ := ok.mvs.key m hm
    rw [← e]
    exact List.mem_flatMap.mpr ⟨m.1.1, k1, List.mem_map.mpr ⟨m.1.2, k2, rfl⟩⟩
  rw [prod_len, List.length_map] at h2
  have hf := ok.few
  have h3 : p.sts.length ≤ 4 := by omega
  have := Nat.mul_le_mul h3 dr.ml
  omega
theorem ok_right (T : Txt K mg) : Cal P w K mg base 8 "_law_right" ["_law_kind", "_law_name", "_law_start", "_law_ends", "_law_moves"] (sp_right K) := by
  have c_states := ok_states (P := P) (w := w) (base := base) T
  have c_methods := ok_methods (P := P) (w := w) (base := base) T
  have c_moves := ok_moves (P := P) (w := w) (base := base) T
  have c_kname := ok_kname (P := P) (w := w) (base := base) T
  have c_start := ok_start (P := P) (w := w) (base := base) T
  have c_ends := ok_ends (P := P) (w := w) (base := base) T
  have c_getA := ok_getA (P := P) (w := w) (base := base) T
  have c_hasA := ok_hasA (P := P) (w := w) (base := base) T
  obtain ⟨fd, F⟩ := T.d_l_right
  refine cal_of F T.g_law_right (F.bindsN fun _ _ _ _ _ _ us hl => match us, hl with | [_, _, _, _, _], _ => rfl) ?_
  refine F.ok sc_l_right (fun vs H Q E h => ?_) (fun cdv A outer s H vs Q E hr h => ?_)
  · obtain ⟨k, e, d, n, p, size, meths, errs, rfl, _⟩ := h
    rfl
  · have hu := hu_of hr
    have hu2 : (A.deeper (envOfC "_law_right" (defScope s_l_right) s.heap.objs.size (He.ga K "_law_right") cdv)).units + 2 < cLine := by have := hr.un; omega
    have hu65 : (A.deeper (envOfC "_law_right" (defScope s_l_right) s.heap.objs.size (He.ga K "_law_right") cdv)).units + 65 < cLine := by have := hr.un; omega
    refine ⟨_, PSs.nox (pss_cons (ps_set (i := 7) sc_l_right.nd rfl (Or.inl rfl) (pe_op op_cat (pe_op op_cat (pe_lst (pa_cons (pv 2) pa_nil)) (pv 3)) (pe_lock (pe_lc (own := [("_law_state", 5), ("_law_method", 6)]) (g := gTup K 2 (gCons (gName 5) (gCons (gName 6) (gNil)))) (tt := tYes) rfl sc_l_right.nd (pi_keys (pv 4)) (blkOk_by (own := [("_law_state", 5), ("_law_method", 6)]) (N := ["_law_kind", "_law_name", "_law_start", "_law_ends", "_law_moves", "_law_state", "_law_method", "_law_states", "_law_some", "_law_word", "_law_methods", "_law_at", "_law_due", "_law_odd"]) (sc := defScope s_l_right) (by decide +kernel)) (fun _ _ _ _ _ => (pg_tup rfl (pgs_cons (pg_name (i := 5) sc_l_right.nd rfl (by first | exact Or.inl rfl | exact Or.inr rfl)) (pgs_cons (pg_name (i := 6) sc_l_right.nd rfl (by first | exact Or.inl rfl | exact Or.inr rfl)) pgs_nil)))) (fun _ _ _ _ _ => pts_nil) (fun _ _ _ _ _ => (pv 5))))))
      (pss_cons (ps_lock (ps_for PassesOwn.never rfl (pi_valuesT (pv 4)) (pg_name (i := 8) sc_l_right.nd rfl (Or.inl rfl))
      (pss_one (ps_set (i := 7) sc_l_right.nd rfl (Or.inl rfl) (pe_op op_cat (pv 7) (pe_lc (own := [("_law_word", 9), ("_law_state", 5)]) (g := gTup K 2 (gCons (gName 9) (gCons (gName 5) (gNil)))) (tt := tYes) rfl sc_l_right.nd (pi_list (pv 8)) (blkOk_by (own := [("_law_word", 9), ("_law_state", 5)]) (N := ["_law_kind", "_law_name", "_law_start", "_law_ends", "_law_moves", "_law_state", "_law_method", "_law_states", "_law_some", "_law_word", "_law_methods", "_law_at", "_law_due", "_law_odd"]) (sc := defScope s_l_right) (by decide +kernel)) (fun _ _ _ _ _ => (pg_tup rfl (pgs_cons (pg_name (i := 9) sc_l_right.nd rfl (by first | exact Or.inl rfl | exact Or.inr rfl)) (pgs_cons (pg_name (i := 5) sc_l_right.nd rfl (by first | exact Or.inl rfl | exact Or.inr rfl)) pgs_nil)))) (fun _ _ _ _ _ => pts_nil) (fun _ _ _ _ _ => (pv 5))))))))
      (pss_cons (ps_par rfl sc_l_right.nd (i := 7) (j := 10) rfl rfl (by decide) rfl rfl (pa_cons (pe_callB (r := rSortSet P w) (cr_sortSet rfl) rfl T.b_sorted (by decide +kernel) (pa_cons (pe_callTy (r := rSetOfS K P w) (cr_setOfS rfl) rfl T.b_set (by decide +kernel) (pa_cons (pv 7) pa_nil)) pa_nil)) (pa_cons (pe_callB (r := rSortSet P w) (cr_sortSet rfl) rfl T.b_sorted (by decide +kernel) (pa_cons (pe_callTy (r := rSetOfS K P w) (cr_setOfS rfl) rfl T.b_set (by decide +kernel) (pa_cons (pe_lock (pe_lc (own := [("_law_state", 5), ("_law_method", 6)]) (g := gTup K 2 (gCons (gName 5) (gCons (gName 6) (gNil)))) (tt := tYes) rfl sc_l_right.nd (pi_keys (pv 4)) (blkOk_by (own := [("_law_state", 5), ("_law_method", 6)]) (N := ["_law_kind", "_law_name", "_law_start", "_law_ends", "_law_moves", "_law_state", "_law_method", "_law_states", "_law_some", "_law_word", "_law_methods", "_law_at", "_law_due", "_law_odd"]) (sc := defScope s_l_right) (by decide +kernel)) (fun _ _ _ _ _ => (pg_tup rfl (pgs_cons (pg_name (i := 5) sc_l_right.nd rfl (by first | exact Or.inl rfl | exact Or.inr rfl)) (pgs_cons (pg_name (i := 6) sc_l_right.nd rfl (by first | exact Or.inl rfl | exact Or.inr rfl)) pgs_nil)))) (fun _ _ _ _ _ => pts_nil) (fun _ _ _ _ _ => (pv 6)))) pa_nil)) pa_nil)) pa_nil)) (by rfl))
      (pss_cons (ps_if (pt_cmpR (op_neD hr.units) (pe_tup (pa_cons (pe_calp c_kname T.cl_Kind (hr.mono (by decide)) (pv 0)) (pa_cons (pe_calp c_start T.cl_Kind (hr.mono (by decide)) (pv 0)) (pa_cons (pe_calp c_ends T.cl_Kind (hr.mono (by decide)) (pv 0)) pa_nil)))) (pe_tup (pa_cons (pv 1) (pa_cons (pv 2) (pa_cons (pe_callTy (r := rTupOf K) call_tupOf rfl T.b_tuple (by decide +kernel) (pa_cons (pe_callB (cr_sortS rfl) rfl T.b_sorted (by decide +kernel) (pa_cons (pv 3) pa_nil)) pa_nil)) pa_nil)))) (nomark _)) (pss_one (ps_ret pe_bl)) pss_nil)
      (pss_cons (ps_set (i := 12) sc_l_right.nd rfl (Or.inl rfl) (pe_callTy (r := rDictT K) (call_dictT rfl hu2) rfl T.b_dict (by decide +kernel) (pa_cons (pe_lock (pe_lc (own := [("_law_at", 11)]) (g := gName 11) (tt := tYes) rfl sc_l_right.nd (pi_keys (pv 4)) (blkOk_by (own := [("_law_at", 11)]) (N := ["_law_kind", "_law_name", "_law_start", "_law_ends", "_law_moves", "_law_state", "_law_method", "_law_states", "_law_some", "_law_word", "_law_methods", "_law_at", "_law_due", "_law_odd"]) (sc := defScope s_l_right) (by decide +kernel)) (fun _ _ _ _ _ => (pg_name (i := 11) sc_l_right.nd rfl (by first | exact Or.inl rfl | exact Or.inr rfl))) (fun _ _ _ _ _ => pts_nil) (fun _ _ _ _ _ => (pe_tup (pa_cons (pv 11) (pa_cons (pe_callTy (r := rTupOf K) call_tupOf rfl T.b_tuple (by decide +kernel) (pa_cons (pe_callB (r := rSortQ K) cr_sortQ rfl T.b_sorted (by decide +kernel) (pa_cons (pe_dgetC (pv 4) (pv 11) (fun _ _ => rfl) hu) pa_nil)) pa_nil)) pa_nil)))))) pa_nil)))
      (pss_cons (ps_if (PW.pt (pw_or (pt_cmpR (op_neD hr.units) (pe_calm0 c_states T.cl_Kind (hr.mono (by decide)) takes0 (pv 0)) (pv 7) (nomark _)) (pw_or (pt_cmpR (op_neD hr.units) (pe_calm0 c_methods T.cl_Kind (hr.mono (by decide)) takes0 (pv 0)) (pv 10) (nomark _)) (pw_or1 (pt_cmpR (op_neDT hu65) (pe_calm0 c_moves T.cl_Kind (hr.mono (by decide)) takes0 (pv 0)) (pv 12) (nomark _)))))) (pss_one (ps_ret pe_bl)) pss_nil)
      (pss_cons (ps_for PassesOwn.never rfl (pi_list (pe_op op_cat (pv 7) (pe_lst (pa_cons pe_str (pa_cons pe_str (pa_cons pe_non (pa_cons pe_int pa_nil))))))) (pg_name (i := 5) sc_l_right.nd rfl (Or.inl rfl))
      (pss_one (ps_for PassesOwn.never rfl (pi_list (pe_op op_cat (pv 10) (pe_lst (pa_cons pe_str (pa_cons pe_str (pa_cons pe_non (pa_cons pe_bl pa_nil))))))) (pg_name (i := 6) sc_l_right.nd rfl (Or.inl rfl))
      (pss_one (ps_if (PW.pt (pw_or (pt_cmpR (op_neD hr.units) (pe_calsub c_getA (hr.mono (by decide)) (pv 0) (pe_tup (pa_cons (pv 5) (pa_cons (pv 6) pa_nil)))) (pe_getL hu (pv 12) (pe_tup (pa_cons (pv 5) (pa_cons (pv 6) pa_nil))) ⟨rfl, rfl, rfl, rfl⟩) (nomark _)) (pw_or1 (pt_cmpR op_ne (pe_cmpR (op_calin c_hasA (hr.mono (by decide))) (pe_tup (pa_cons (pv 5) (pa_cons (pv 6) pa_nil))) (pv 0) rfl) (pe_cmpR (op_inL hu) (pe_tup (pa_cons (pv 5) (pa_cons (pv 6) pa_nil))) (pv 12) rfl) (nomark _))))) (pss_one (ps_ret pe_bl)) pss_nil)))))
      (pss_cons (ps_set (i := 8) sc_l_right.nd rfl (Or.inl rfl) (pe_lst (pa_cons pe_non (pa_cons pe_int (pa_cons pe_str (pa_cons (pe_tup (pa_cons pe_str pa_nil)) (pa_cons (pe_tup (pa_cons pe_int (pa_cons pe_int (pa_cons pe_int pa_nil)))) (pa_cons (pe_lst (pa_cons (pe_ix (r := rIxL K) ix_list (pv 7) pe_int (fun _ _ => rfl)) (pa_cons pe_str pa_nil))) (pa_cons pe_dnewK (pa_cons (pe_tup (pa_cons pe_str (pa_cons pe_str (pa_cons pe_str pa_nil)))) (pa_cons pe_bl (pa_cons (pe_tup pa_nil) pa_nil))))))))))))
      (pss_cons (ps_for PassesOwn.never rfl (pi_list (pe_op op_cat (pv 8) (pe_lock (pe_lc (own := [("_law_at", 11)]) (g := gName 11) (tt := tYes) rfl sc_l_right.nd (pi_keys (pv 4)) (blkOk_by (own := [("_law_at", 11)]) (N := ["_law_kind", "_law_name", "_law_start", "_law_ends", "_law_moves", "_law_state", "_law_method", "_law_states", "_law_some", "_law_word", "_law_methods", "_law_at", "_law_due", "_law_odd"]) (sc := defScope s_l_right) (by decide +kernel)) (fun _ _ _ _ _ => (pg_name (i := 11) sc_l_right.nd rfl (by first | exact Or.inl rfl | exact Or.inr rfl))) (fun _ _ _ _ _ => pts_nil) (fun _ _ _ _ _ => (pe_callTy (r := rListOf K) call_listOf rfl T.b_list (by decide +kernel) (pa_cons (pv 11) pa_nil))))))) (pg_name (i := 13) sc_l_right.nd rfl (Or.inl rfl))
      (pss_one (ps_if (PW.pt (pw_or (pt_cmpR op_notN (pe_calsub c_getA (hr.mono (by decide)) (pv 0) (pv 13)) pe_non (nomark _)) (pw_or1 (pt_cmpR (op_calin c_hasA (hr.mono (by decide))) (pv 13) (pv 0) rfl)))) (pss_one (ps_ret pe_bl)) pss_nil)))
      (pss_one (ps_ret pe_bl))))))))))), ?_⟩
    obtain ⟨k, e, d, n, p, size, meths, errs, rfl, c, ok, dr, hz, hn, q⟩ := h
    obtain ⟨le, lm⟩ := pl_small ok dr hz
    have f3 := ok.mvs.few
    refine sq1 c (by omega) (by omega) fun H1 S1 s1 e1 => ?_
    have c1 := c.same s1
    refine sq2 c1 (by omega) (by omega) f3 e1 fun H2 S2 v8 s2 e2 => ?_
    have c2 := c1.same s2
    refine sq3 c2 (by omega) (by omega) f3 e2 fun H3 S M s3 eS eM => ?_
    have c3 := c2.same s3
    refine sq4 c3 ok hn (by omega) fun H4 s4 => ?_
    have c4 := c3.same s4
    refine sq5 c4 ok (by omega) f3 fun H5 U s5 eU => ?_
    have c5 := c4.same s5
    have eS5 := (s4.trans s5) _ _ eS
    have eM5 := (s4.trans s5) _ _ eM
    refine sq6 c5 ok dr (by omega) (by omega) f3 eS5 eM5 eU fun H6 s6 => ?_
    have l1 : (stsE p).length ≤ 1000 := by
      rw [stsE, length_isort]
      have h1 := uniq_len (sts2 p)
      have h2 := out_len f3
      have h3 : (sts2 p).length = 1 + p.ends.length + p.mv.length + (outStates p.mv).length := by simp [sts2, sts1]; omega
      omega
    have l2 : (methE p).length ≤ 1000 := by
      rw [methE, length_isort]
      have h1 := uniq_len (p.mv.map (·.1.2))
      rw [List.length_map] at h1
      omega
    refine sq7 ⟨c5.same s6, s6 _ _ eS5, s6 _ _ eM5, eU.same s6⟩ ok dr l1 l2 fun H7 v5 v6 s7 => ?_
    have s67 := s6.trans s7
    have ne : stsE p ≠ [] := fun z => by
      have : p.st ∈ stsE p := mem_isort.mpr (mem_uniq.mpr (by simp [sts2, sts1]))
      rw [z] at this
      cases this
    refine sq8 (s67 _ _ eS5) ne fun H8 L s8 oL => ?_
    refine sq9 (c5.same (s67.trans s8)) (by omega) oL fun H9 v13 s9 => ?_
    exact q _ ((((((s1.trans s2).trans s3).trans s4).trans s5).trans s67).trans (s8.trans s9))
end
end Rs
set_option Elab.async false
set_option linter.all false
set_option maxRecDepth 100000
set_option maxHeartbeats 4000000
namespace Rs
open PySem PySem.Spec PyProof.Rows L2
local macro_rules | `(tactic| walk_at "rd") => `(tactic| simp only [L2.tRet, L2.tRetN, L2.tSeq, L2.tNext, L2.tIfS, L2.tAsg, L2.gName, L2.gNil, L2.gCons, L2.tVar, L2.tC, L2.tOp, L2.tUn, L2.tCB, L2.tCons, L2.tNil, L2.tAndV, L2.tOrV, L2.tNotV, L2.tAnd, L2.tOr, L2.tNot, L2.tB, L2.tTest, L2.tIf, L2.tChain, L2.tTup, L2.tLst, L2.tDrop, L2.tFld, L2.sFld, L2.tOst, L2.tBM, L2.rNe, L2.tMkO, L2.start, L2.cxOf, L2.Cx.nox, L2.Cx.wish, L2.rI0, L2.rI, L2.tYes, Rs.tCalW, List.getElem?_cons_zero, List.getElem?_cons_succ, Option.some.injEq, exists_eq_left', exists_eq_left, exists_and_left, List.cons.injEq, and_true, true_and, L2.V.bl.injEq, L2.V.int.injEq, L2.V.str.injEq, L2.V.ref.injEq, List.set_cons_zero, List.set_cons_succ, List.map_cons, List.map_nil, List.length_cons, List.length_nil, List.replicate, List.cons_append, List.nil_append, List.append_nil, Nat.reduceSub, Nat.reduceAdd])
local macro_rules | `(tactic| walk_at "dn") => `(tactic| dsimp only [L2.tCons, L2.tC, L2.tNil])
section
variable {P : Program} {w : World} {K : PySem.W.Frag} {mg : PySem.Str → Option Value} {base : Heap}
section
variable {size : Int} {meths errs : List PySem.Str} {p : Pl}
/-! ### kinds that are near a plan's -/
def cand : List PySem.Str := ["zz", "nowhere", "q", "qz", "qzz", "qqqqqqqq", "zqzq"]
theorem cand_nm : ∀ x ∈ cand, isName (.str x) = true := by decide +kernel
theorem cand_nd : cand.Nodup := by decide +kernel
/-- one of seven is not among five -/
theorem cand_left {ss : List PySem.Str} (h : ss.length ≤ 6) : ∃ x xs, cand.filter (fun y => decide (y ∉ ss)) = x :: xs ∧ x ∈ cand ∧ x ∉ ss := by
  cases e : cand.filter (fun y => decide (y ∉ ss)) with
  | nil =>
    have all : ∀ x ∈ cand, x ∈ ss := fun x hx => by
      by_cases hs : x ∈ ss
      · exact hs
      · have : x ∈ cand.filter (fun y => decide (y ∉ ss)) := List.mem_filter.mpr ⟨hx, decide_eq_true hs⟩
        rw [e] at this
        cases this
    have := nodup_le cand_nd all
    have l7 : cand.length = 7 := rfl
    omega
  | cons x xs =>
    have : x ∈ cand.filter (fun y => decide (y ∉ ss)) := by rw [e]; exact List.mem_cons_self
    obtain ⟨h1, h2⟩ := List.mem_filter.mp this
    exact ⟨x, xs, rfl, h1, of_decide_eq_true h2⟩
def other1 (x : PySem.Str) : PySem.Str := if x.length < 8 then x ++ "q" else "q"
theorem other1_nm {x : PySem.Str} (h : isName (.str x) = true) : isName (.str (other1 x)) = true := by
  have hq : isName (.str "q") = true := by decide +kernel
  unfold other1
  split
  · rename_i hl
    obtain ⟨h1, h2, h3⟩ := name_iff.mp h
    refine name_iff.mpr ⟨?_, ?_, smC_app h3 (name_iff.mp hq).2.2⟩
    · rw [PySem.Str.length_append]; omega
    · rw [PySem.Str.length_append]; show x.length + 1 ≤ 8; omega
  · exact hq
theorem other1_ne {x : PySem.Str} (h : isName (.str x) = true) : x ≠ other1 x := by
  intro e
  have e2 := congrArg PySem.Str.length e
  unfold other1 at e2
  split at e2
  · rw [PySem.Str.length_append] at e2
    have : ("q" : PySem.Str).length = 1 := rfl
    omega
  · have : ("q" : PySem.Str).length = 1 := rfl
    omega
def mvMore (p : Pl) (y : PySem.Str) : List Mv := p.mv ++ [((p.st, y), [])]
theorem few_of {ends : List PySem.Str} {mv : List Mv} {n st : PySem.Str} (nd : (mv.map (·.1)).Nodup) {l : List PySem.Str} (hl : l.length ≤ 60) (h1 : st ∈ l) (h2 : ∀ x ∈ ends, x ∈ l) (h3 : ∀ m ∈ mv, m.1.1 ∈ l ∧ ∀ o ∈ m.2, o.2 ∈ l) :
    ∀ ys : List PySem.Str, ys.Nodup → (∀ y ∈ ys, y ∈ statesOf ⟨n, st, isort strLt ends, sortTab mv⟩) → ys.length ≤ 60 := by
  intro ys hn hy
  have := nodup_le hn (m := l) fun y hy' => by
    rcases (mem_states nd y).mp (hy y hy') with rfl | h | ⟨m, hm, rfl | ⟨o, ho, rfl⟩⟩
    · exact h1
    · exact h2 y h
    · exact (h3 m hm).1
    · exact (h3 m hm).2 o ho
  omega
theorem mv_in (ok : PlOk size meths errs p) : ∀ m ∈ p.mv, m.1.1 ∈ p.sts ∧ ∀ o ∈ m.2, o.2 ∈ p.sts := fun m hm => ⟨(ok.mvs.key m hm).1, fun o ho => ((ok.mvs.outs m hm).2 o ho).2⟩
/-- the four others -/
inductive Near (p : Pl) : KD → Prop
  | name {n : PySem.Str} : isName (.str n) = true → p.name ≠ n → Near p ⟨n, p.st, isort strLt p.ends, sortTab p.mv⟩
  | start {x : PySem.Str} : isName (.str x) = true → p.st ≠ x → Near p ⟨p.name, x, isort strLt p.ends, sortTab p.mv⟩
  | ends {x : PySem.Str} : isName (.str x) = true → x ∉ p.ends → Near p ⟨p.name, p.st, isort strLt (p.ends ++ [x]), sortTab p.mv⟩
  | more {y : PySem.Str} : Near p ⟨p.name, p.st, isort strLt p.ends, sortTab (mvMore p y)⟩
theorem sortTab_len (mv : List Mv) : (sortTab mv).length = mv.length := by rw [sortTab, List.length_map, length_isort, List.length_map]
theorem near_tab {kd : KD} (h : Near p kd) : (kdOf p).tab.length ≠ kd.tab.length ∨ (kdOf p).tab = kd.tab := by
  cases h with
  | name _ _ => exact .inr rfl
  | start _ _ => exact .inr rfl
  | ends _ _ => exact .inr rfl
  | more =>
    refine .inl ?_
    show (sortTab p.mv).length ≠ (sortTab (mvMore p _)).length
    rw [sortTab_len, sortTab_len, mvMore, List.length_append]
    simp
theorem kdB_symm (a b : KD) : kdB a b = kdB b a := by
  unfold kdB
  simp only [eq_comm]
theorem near_ne {kd : KD} (h : Near p kd) : kdB (kdOf p) kd = false := by
  cases h with
  | name _ hn => unfold kdB; rw [decide_eq_false (show (kdOf p).name ≠ _ from hn)] <;> rfl
  | start _ hn => unfold kdB; rw [decide_eq_false (show (kdOf p).start ≠ _ from hn), Bool.false_and, Bool.and_false]
  | @ends x _ hn =>
    have : (kdOf p).ends ≠ isort strLt (p.ends ++ [x]) := fun z => by
      have := congrArg List.length z
      rw [show (kdOf p).ends = isort strLt p.ends from rfl, length_isort, length_isort, List.length_append] at this
      simp at this
    unfold kdB
    rw [decide_eq_false this, Bool.false_and, Bool.and_false, Bool.and_false]
  | @more y =>
    have : (kdOf p).tab ≠ sortTab (mvMore p y) := fun z => by
      have := congrArg List.length z
      rw [show (kdOf p).tab = sortTab p.mv from rfl, sortTab_len, sortTab_len, mvMore, List.length_append] at this
      simp at this
    unfold kdB
    rw [decide_eq_false this, Bool.and_false, Bool.and_false, Bool.and_false]
theorem near_tx (ok : PlOk size meths errs p) (dr : DrawnOk meths errs) {kd : KD} (h : Near p kd) : KdTx kd := by
  have t := kd_tx ok dr p.name
  cases h with
  | name _ _ => exact ⟨t.ends, t.tab⟩
  | start _ _ => exact ⟨t.ends, t.tab⟩
  | @ends x hx _ =>
    refine ⟨fun y hy => ?_, t.tab⟩
    rcases List.mem_append.mp (mem_isort.mp hy) with hy | hy
    · exact nm_tx (ok.names _ (ok.endsS _ hy))
    · rw [List.mem_singleton.mp hy]; exact nm_tx hx
  | @more y =>
    refine ⟨t.ends, fun s hs o ho => ?_⟩
    obtain ⟨_, _, _, hh⟩ := sortTab_in hs
    obtain ⟨m, hm, ho⟩ := hh o ho
    rcases List.mem_append.mp hm with hm | hm
    · exact pl_outs_tx ok dr m hm o ho
    · rw [List.mem_singleton.mp hm] at ho; cases ho
theorem more_nd (ok : PlOk size meths errs p) {y : PySem.Str} (hy : y ∉ p.mv.map (·.1.2)) : ((mvMore p y).map (·.1)).Nodup := by
  rw [mvMore, List.map_append]
  refine List.nodup_append.mpr ⟨ok.mvs.nd, by simp, fun a ha b hb e => ?_⟩
  have hb : b = (p.st, y) := List.mem_singleton.mp hb
  subst e
  obtain ⟨m, hm, e2⟩ := List.mem_map.mp ha
  exact hy (List.mem_map.mpr ⟨m, hm, by rw [e2, hb]⟩)
theorem more_ok (ok : PlOk size meths errs p) (dr : DrawnOk meths errs) (hz : size ≤ 4) {y : PySem.Str} (hy : isName (.str y) = true) : MovesOk (mvMore p y) := by
  have m0 := pl_moves ok dr (by omega)
  obtain ⟨_, lm⟩ := pl_small ok dr hz
  refine ⟨fun m hm => ?_, fun m hm => ?_, ?_, ?_⟩
  · rcases List.mem_append.mp hm with hm | hm
    · exact m0.keys m hm
    · rw [List.mem_singleton.mp hm]; exact ⟨ok.names _ (pl_st ok), hy⟩
  · rcases List.mem_append.mp hm with hm | hm
    · exact m0.outs m hm
    · rw [List.mem_singleton.mp hm]; exact rfl
  · rw [cnt_uniq]
    have := nodup_le (nodup_uniq ((mvMore p y).map (·.1.2))) (m := y :: meths) fun z hz => by
      obtain ⟨m, hm, rfl⟩ := List.mem_map.mp (mem_uniq.mp hz)
      rcases List.mem_append.mp hm with hm | hm
      · exact List.mem_cons_of_mem _ (ok.mvs.key m hm).2
      · rw [List.mem_singleton.mp hm]; exact List.mem_cons_self
    have := dr.ml
    rw [List.length_cons] at *
    omega
  · rw [mvMore, List.length_append]; show _ + 1 ≤ 4000; omega
end
section
variable {k e d L S : Addr} {p : Pl} {size : Int} {meths errs : List PySem.Str} {H : Hp} {D : Ends} {v0 v6 v7 v8 v9 v10 v11 v12 v13 : Option V}
abbrev sgU (v0 : Option V) (k : Addr) (n st : PySem.Str) (e d : Addr) (v6 v7 v8 v9 v10 v11 v12 v13 : Option V) : L2.St := [v0, some (.ref k), some (.str n), some (.str st), some (.ref e), some (.ref d), v6, v7, v8, v9, v10, v11, v12, v13]
theorem parts_of (c : RCtx K H k e d p.name p) (ok : PlOk size meths errs p) (dr : DrawnOk meths errs) (hz : size ≤ 4) {n : PySem.Str} (hn : isName (.str n) = true) : KParts K H n p.st e d p.ends p.mv := by
  obtain ⟨le, lm⟩ := pl_small ok dr hz
  have hf := ok.few
  exact ⟨hn, ok.names _ (pl_st ok), .inl (SqL.of c.ends), fun y hy => ok.names _ (ok.endsS _ hy), ok.endsN, by omega, c.mvs.movesAt, pl_moves ok dr (by omega), few_of ok.mvs.nd (l := p.sts) (by omega) (pl_st ok) ok.endsS (mv_in ok)⟩
/-- a row of kinds near the plan's -/
def NearL (K : PySem.W.Frag) (H : Hp) (L : Addr) (p : Pl) : Prop := ∃ (ks : List Addr) (kds : List KD), H L = some (.lst (ks.map V.ref)) ∧ ks.length ≤ 4 ∧ Paired (fun kd k => KindAt K H k kd ∧ Near p kd) kds ks
theorem NearL.same {H' : Hp} (s : Same H H') (h : NearL K H L p) : NearL K H' L p := let ⟨ks, kds, h1, h2, h3⟩ := h; ⟨ks, kds, s _ _ h1, h2, Paired.imp h3 fun _ _ z => ⟨z.1.same s, z.2⟩⟩
def u1 (K : PySem.W.Frag) : TS := tAsg (tLst (tCons (tMakeW (kC K) (sp_kindA K) W0 (tCons (tIf (tTest (tOp (rI0 fun i j => V.bl (decide (i < j))) (tCB (fun xs H Q => ∃ z, xs = [V.str z] ∧ z.length ≤ sizeLine ∧ Q (V.int (z.length : Nat)) H) (tCons (tVar 2) tNil)) (tC (V.int 8)))) (tOp (fun x y H Q => ∃ i j, x = V.str i ∧ y = V.str j ∧ i.length + j.length ≤ sizeLine ∧ Q (V.str (i ++ j)) H) (tVar 2) (tC (V.str "q"))) (tC (V.str "q"))) (tCons (tVar 3) (tCons (tVar 4) (tCons (tVar 5) tNil))))) tNil)) (gName 6)
theorem su1 (c : RCtx K H k e d p.name p) (ok : PlOk size meths errs p) (dr : DrawnOk meths errs) (hz : size ≤ 4) (q : ∀ H' L ks kds, Same H H' → H' L = some (.lst (ks.map V.ref)) → ks.length = 1 → Paired (fun kd k => KindAt K H' k kd ∧ Near p kd) kds ks → D.nx (sgU v0 k p.name p.st e d (some (.ref L)) v7 v8 v9 v10 v11 v12 v13) H') :
    u1 K D (sgU v0 k p.name p.st e d v6 v7 v8 v9 v10 v11 v12 v13) H := by
  have line : sizeLine = 16777216 := sizeLine_eq
  have hn := (name_iff.mp ok.name).2.1
  have fin : ∀ x, x = other1 p.name → ∀ y dx, H y = none → H dx = none → dx ≠ y → sp_kindA K [.ref y, .str x, .str p.st, .ref e, .ref d] (L2.upd (L2.upd H dx (.own y)) y (.ins (kC K) dx [])) (fun v H2 => v = .non ∧ ([V.ref y].length ≤ sizeLine ∧ ∀ L, H2 L = none → gName 6 (V.ref L) (sgU v0 k p.name p.st e d v6 v7 v8 v9 v10 v11 v12 v13) (L2.upd H2 L (.lst [V.ref y])) D.nx)) (at_ W0 (sgU v0 k p.name p.st e d v6 v7 v8 v9 v10 v11 v12 v13)) := by
    rintro x rfl
    refine mk_kind (Q := fun v H2 => ([v].length ≤ sizeLine ∧ ∀ L, H2 L = none → gName 6 (V.ref L) (sgU v0 k p.name p.st e d v6 v7 v8 v9 v10 v11 v12 v13) (L2.upd H2 L (.lst [v])) D.nx)) (parts_of c ok dr hz (other1_nm ok.name)) fun H2 k1 s2 _ hk => ⟨by show 1 ≤ sizeLine; omega, fun L hL => ?_⟩
    exact q _ L [k1] [_] (s2.trans (Same.new hL)) upd_same rfl (.cons ⟨hk.at.same (Same.new hL), .name (other1_nm ok.name) (other1_ne ok.name)⟩ .nil)
  refine ⟨_, rfl, p.name, rfl, by omega, _, _, rfl, rfl, _, rfl, ?_⟩
  refine ite2 (fun cc => ?_) (fun cc => ?_)
  · refine ⟨_, rfl, _, _, rfl, rfl, by show _ + 1 ≤ _; omega, _, rfl, _, rfl, _, rfl, fin _ ?_⟩
    have : p.name.length < 8 := by have := of_decide_eq_true cc; omega
    unfold other1
    rw [if_pos this]
  · refine ⟨_, rfl, _, rfl, _, rfl, fin _ ?_⟩
    have : ¬ p.name.length < 8 := fun z => cc (decide_eq_true (by omega))
    unfold other1
    rw [if_neg this]
end
end
end Rs
set_option Elab.async false
set_option linter.all false
set_option maxRecDepth 100000
set_option maxHeartbeats 4000000
namespace Rs
open PySem PySem.Spec PyProof.Rows L2
local macro_rules | `(tactic| walk_at "rd") => `(tactic| simp only [L2.tRet, L2.tRetN, L2.tSeq, L2.tNext, L2.tIfS, L2.tAsg, L2.gName, L2.gNil, L2.gCons, L2.tVar, L2.tC, L2.tOp, L2.tUn, L2.tCB, L2.tCons, L2.tNil, L2.tAndV, L2.tOrV, L2.tNotV, L2.tAnd, L2.tOr, L2.tNot, L2.tB, L2.tTest, L2.tIf, L2.tChain, L2.tTup, L2.tLst, L2.tDrop, L2.tFld, L2.sFld, L2.tOst, L2.tBM, L2.rNe, L2.tMkO, L2.start, L2.cxOf, L2.Cx.nox, L2.Cx.wish, L2.rI0, L2.rI, L2.tYes, Rs.tCalW, List.getElem?_cons_zero, List.getElem?_cons_succ, Option.some.injEq, exists_eq_left', exists_eq_left, exists_and_left, List.cons.injEq, and_true, true_and, L2.V.bl.injEq, L2.V.int.injEq, L2.V.str.injEq, L2.V.ref.injEq, List.set_cons_zero, List.set_cons_succ, List.map_cons, List.map_nil, List.length_cons, List.length_nil, List.replicate, List.cons_append, List.nil_append, List.append_nil, Nat.reduceSub, Nat.reduceAdd])
local macro_rules | `(tactic| walk_at "dn") => `(tactic| dsimp only [L2.tCons, L2.tC, L2.tNil])
section
variable {P : Program} {w : World} {K : PySem.W.Frag} {mg : PySem.Str → Option Value} {base : Heap}
theorem mk_kindA {H : Hp} {name start : PySem.Str} {e d : Addr} {ends : List PySem.Str} {mv : List Mv} {Q : Addr → Hp → Prop} {E : XK} (p : KParts K H name start e d ends mv)
    (q : ∀ H' k, Same H H' → H k = none → KindNew K H H' k ⟨name, start, isort strLt ends, sortTab mv⟩ → Q k H') :
    ∀ x dx, H x = none → H dx = none → dx ≠ x → sp_kindA K [.ref x, .str name, .str start, .ref e, .ref d] (L2.upd (L2.upd H dx (.own x)) x (.ins (kC K) dx [])) (fun v H2 => v = .non ∧ Q x H2) E :=
  mk_kind (Q := fun v H => match v with | .ref k => Q k H | _ => True) p q
section
variable {k e d L S U : Addr} {p : Pl} {size : Int} {meths errs : List PySem.Str} {x y : PySem.Str} {H : Hp} {D : Ends} {v0 v6 v7 v8 v9 v10 v11 v12 v13 : Option V}
def u2 : TS := tAsg (tLst (tCons (tC (V.str "zz")) (tCons (tC (V.str "nowhere")) (tCons (tC (V.str "q")) (tCons (tC (V.str "qz")) (tCons (tC (V.str "qzz")) (tCons (tC (V.str "qqqqqqqq")) (tCons (tC (V.str "zqzq")) tNil)))))))) (gName 7)
theorem su2 {n st : PySem.Str} (q : ∀ H' S, Same H H' → H' S = some (.lst (cand.map V.str)) → D.nx (sgU v0 k n st e d v6 (some (.ref S)) v8 v9 v10 v11 v12 v13) H') : u2 D (sgU v0 k n st e d v6 v7 v8 v9 v10 v11 v12 v13) H := by
  have line : sizeLine = 16777216 := sizeLine_eq
  exact ⟨by show 7 ≤ sizeLine; omega, fun S hS => q _ S (Same.new hS) upd_same⟩
def u3 (K : PySem.W.Frag) : TS := tAsg (tOp (rIxL K) (tLc (iList K (tVar 7)) (gName 8) (tTest (tOp (rIn K true) (tVar 8) (tMethW (kC K) "states" (sp_states K) W0 (tVar 1) tNil))) (tVar 8) [8]) (tC (V.int 0))) (gName 9)
theorem st_len {n : PySem.Str} (ok : PlOk size meths errs p) (dr : DrawnOk meths errs) (hz : size ≤ 4) : (statesOf (kdN n p)).length ≤ 100000 := by
  obtain ⟨le, lm⟩ := pl_small ok dr hz
  have h2 := outs_sum (kdN n p).tab fun m hm' => by
    have e2 := look_mem (sortTab_nodup ok.mvs.nd) (show m ∈ sortTab p.mv from hm')
    rw [look_sortTab ok.mvs.nd] at e2
    obtain ⟨os, h5, h6⟩ := Option.map_eq_some_iff.mp e2
    have : os.length ≤ 3 := ok.mvs.few _ (look_in h5)
    rw [← h6, (sortOuts_is os).length_eq]
    omega
  have h3 : (kdN n p).tab.length = p.mv.length := sortTab_len p.mv
  have h1 : (statesOf (kdN n p)).length = 1 + (p.ends.length + ((kdN n p).tab.length + ((kdN n p).tab.flatMap fun m => m.2.map (·.2)).length)) := by
    rw [statesOf, List.length_cons, List.length_append, List.length_append, List.length_map, show (kdN n p).ends = isort strLt p.ends from rfl, length_isort]
    omega
  omega
theorem filter_take {α : Type} {l : List α} {i : Nat} {a : α} (f : α → Bool) (h : l[i]? = some a) : (l.take (i + 1)).filter f = if f a = true then (l.take i).filter f ++ [a] else (l.take i).filter f := by
  rw [take_next h, List.filter_append]
  split
  · rename_i hf
    rw [List.filter_cons_of_pos hf] <;> rfl
  · rename_i hf
    rw [List.filter_cons_of_neg hf, List.filter_nil, List.append_nil]
theorem su3 (c : RCtx K H k e d p.name p) (ok : PlOk size meths errs p) (dr : DrawnOk meths errs) (hz : size ≤ 4) (hS : H S = some (.lst (cand.map V.str))) (q : ∀ H' x, Same H H' → isName (.str x) = true → x ∉ statesOf (kdN p.name p) → D.nx (sgU v0 k p.name p.st e d v6 (some (.ref S)) v8 (some (.str x)) v10 v11 v12 v13) H') :
    u3 K D (sgU v0 k p.name p.st e d v6 (some (.ref S)) v8 v9 v10 v11 v12 v13) H := by
  have line : sizeLine = 16777216 := sizeLine_eq
  have l7 : cand.length = 7 := rfl
  obtain ⟨dk, ea, tb, hki, _, _⟩ := id c.kind
  refine ⟨_, rfl, S, rfl, ⟨_, SqL.of hS⟩, fun D2 hD2 => lc_it walk_lm (fun i H2 => Same H H2 ∧ H2 D2 = some (.lst (((cand.take i).filter fun z => decide (z ∉ statesOf (kdN p.name p))).map V.str))) ⟨Same.new hD2, by rw [upd_same, List.take_zero] <;> rfl⟩ (fun i H2 _ z => SqL.of (z.1 _ _ hS)) (fun i v H2 H3 hi pv yy => ?_) (fun H2 pv => ?_)⟩
  · obtain ⟨s2, e2⟩ := pv
    obtain ⟨rfl, hy⟩ := yy
    obtain ⟨z, hz1⟩ : ∃ z, cand[i]? = some z := ⟨_, List.getElem?_eq_getElem hi⟩
    rw [List.getElem?_map, hz1] at hy
    cases Option.some.inj hy
    have c3 := c.same s2
    refine ⟨rfl, _, rfl, _, rfl, k, dk, _, rfl, s2 _ _ hki, kflds_no (by decide), k, kdN p.name p, rfl, c3.kind, st_len ok dr hz, fun H4 l ys s4 hl e4 up ndy mem => ⟨l, _, rfl, .inl (SqL.of e4), rfl, flat_txts ys, _, rfl, ?_⟩⟩
    have e5 := s4 _ _ e2
    have fl := List.length_filter_le (fun z => decide (z ∉ statesOf (kdN p.name p))) (cand.take i)
    have tl := List.length_take_le i cand
    have ft := filter_take (fun z => decide (z ∉ statesOf (kdN p.name p))) hz1
    rw [show (if true = true then !inV (V.str z) (ys.map V.str) else inV (V.str z) (ys.map V.str)) = !decide (z ∈ statesOf (kdN p.name p)) from by rw [if_pos rfl, in_txts]; exact congrArg _ (decide_eq_decide.mpr (mem z))]
    by_cases hm : z ∈ statesOf (kdN p.name p)
    · rw [decide_eq_true hm]
      rw [if_neg (by simpa using hm)] at ft
      exact ⟨s2.trans s4, by rw [ft]; exact e5⟩
    · rw [decide_eq_false hm]
      rw [if_pos (decide_eq_true hm)] at ft
      exact ⟨_, rfl, _, e5, by rw [List.length_map]; omega, same_upd (s2.trans s4) hD2, by rw [upd_same, ft, List.map_append] <;> rfl⟩
  · obtain ⟨s2, e2⟩ := pv
    rw [List.take_length] at e2
    obtain ⟨dd, mm⟩ : (uniq (statesOf (kdN p.name p))).length ≤ 4 ∧ ∀ z, z ∈ uniq (statesOf (kdN p.name p)) ↔ z ∈ statesOf (kdN p.name p) := by
      refine ⟨?_, fun z => mem_uniq⟩
      have := nodup_le (nodup_uniq (statesOf (kdN p.name p))) (m := p.sts) fun z hz => pl_states ok z (mem_uniq.mp hz)
      have := ok.few
      omega
    obtain ⟨x, xs, ef, h1, h2⟩ := cand_left (ss := uniq (statesOf (kdN p.name p))) (by omega)
    have ef2 : cand.filter (fun z => decide (z ∉ statesOf (kdN p.name p))) = x :: xs := by
      rw [← ef]
      exact List.filter_congr fun z _ => decide_eq_decide.mpr (not_congr (mm z).symm)
    rw [ef2] at e2
    exact ⟨D2, _, 0, .str x, rfl, rfl, SqL.of e2, atI_nat (j := 0) rfl, q H2 x s2 (cand_nm x h1) fun z => h2 ((mm x).mpr z)⟩
def u4 (K : PySem.W.Frag) : TS := tAsg (tOp (rIxL K) (tLc (iList K (tVar 7)) (gName 8) (tTest (tOp (rIn K true) (tVar 8) (tMethW (kC K) "methods" (sp_methods K) W0 (tVar 1) tNil))) (tVar 8) [8]) (tC (V.int 0))) (gName 10)
theorem su4 (c : RCtx K H k e d p.name p) (ok : PlOk size meths errs p) (dr : DrawnOk meths errs) (hz : size ≤ 4) (hS : H S = some (.lst (cand.map V.str))) (q : ∀ H' y, Same H H' → isName (.str y) = true → y ∉ p.mv.map (·.1.2) → D.nx (sgU v0 k p.name p.st e d v6 (some (.ref S)) v8 v9 (some (.str y)) v11 v12 v13) H') :
    u4 K D (sgU v0 k p.name p.st e d v6 (some (.ref S)) v8 v9 v10 v11 v12 v13) H := by
  have line : sizeLine = 16777216 := sizeLine_eq
  have l7 : cand.length = 7 := rfl
  obtain ⟨_, lm⟩ := pl_small ok dr hz
  obtain ⟨dk, ea, tb, hki, _, _⟩ := id c.kind
  have h3 : (kdN p.name p).tab.length = p.mv.length := sortTab_len p.mv
  refine ⟨_, rfl, S, rfl, ⟨_, SqL.of hS⟩, fun D2 hD2 => lc_it walk_lm (fun i H2 => Same H H2 ∧ H2 D2 = some (.lst (((cand.take i).filter fun z => decide (z ∉ methE p)).map V.str))) ⟨Same.new hD2, by rw [upd_same, List.take_zero] <;> rfl⟩ (fun i H2 _ z => SqL.of (z.1 _ _ hS)) (fun i v H2 H3 hi pv yy => ?_) (fun H2 pv => ?_)⟩
  · obtain ⟨s2, e2⟩ := pv
    obtain ⟨rfl, hy⟩ := yy
    obtain ⟨z, hz1⟩ : ∃ z, cand[i]? = some z := ⟨_, List.getElem?_eq_getElem hi⟩
    rw [List.getElem?_map, hz1] at hy
    cases Option.some.inj hy
    have c3 := c.same s2
    refine ⟨rfl, _, rfl, _, rfl, k, dk, _, rfl, s2 _ _ hki, kflds_no (by decide), k, kdN p.name p, rfl, c3.kind, by omega, fun H4 l s4 hl e4 => ⟨l, _, rfl, .inl (SqL.of e4), rfl, flat_txts _, _, rfl, ?_⟩⟩
    have e5 := s4 _ _ e2
    have fl := List.length_filter_le (fun z => decide (z ∉ methE p)) (cand.take i)
    have tl := List.length_take_le i cand
    have ft := filter_take (fun z => decide (z ∉ methE p)) hz1
    rw [show (if true = true then !inV (V.str z) ((methodsOf (kdN p.name p)).map V.str) else inV (V.str z) ((methodsOf (kdN p.name p)).map V.str)) = !decide (z ∈ methE p) from by rw [if_pos rfl, in_txts, meths_eq ok]]
    by_cases hm : z ∈ methE p
    · rw [decide_eq_true hm]
      rw [if_neg (by simpa using hm)] at ft
      exact ⟨s2.trans s4, by rw [ft]; exact e5⟩
    · rw [decide_eq_false hm]
      rw [if_pos (decide_eq_true hm)] at ft
      exact ⟨_, rfl, _, e5, by rw [List.length_map]; omega, same_upd (s2.trans s4) hD2, by rw [upd_same, ft, List.map_append] <;> rfl⟩
  · obtain ⟨s2, e2⟩ := pv
    rw [List.take_length] at e2
    have dd : (methE p).length ≤ 4 := by
      have := nodup_le (l := methE p) (nodup_isort.mpr (nodup_uniq (p.mv.map (·.1.2)))) (m := meths) fun z hz => by
        obtain ⟨m, hm, rfl⟩ := List.mem_map.mp (mem_uniq.mp (mem_isort.mp hz))
        exact (ok.mvs.key m hm).2
      have := dr.ml
      exact Nat.le_trans ‹_› this
    obtain ⟨x, xs, ef, h1, h2⟩ := cand_left (ss := methE p) (by omega)
    rw [ef] at e2
    exact ⟨D2, _, 0, .str x, rfl, rfl, SqL.of e2, atI_nat (j := 0) rfl, q H2 x s2 (cand_nm x h1) fun z => h2 (mem_isort.mpr (mem_uniq.mpr z))⟩
def u5 (K : PySem.W.Frag) : TS := tAsg (tOp rCat (tVar 6) (tLst (tCons (tMakeW (kC K) (sp_kindA K) W0 (tCons (tVar 2) (tCons (tVar 9) (tCons (tVar 4) (tCons (tVar 5) tNil))))) (tCons (tMakeW (kC K) (sp_kindA K) W0 (tCons (tVar 2) (tCons (tVar 3) (tCons (tOp rCat (tVar 4) (tLst (tCons (tVar 9) tNil))) (tCons (tVar 5) tNil))))) tNil)))) (gName 6)
theorem su5 (c : RCtx K H k e d p.name p) (ok : PlOk size meths errs p) (dr : DrawnOk meths errs) (hz : size ≤ 4) (hx : isName (.str x) = true) (hxs : x ∉ statesOf (kdN p.name p)) {ks : List Addr} {kds : List KD} (hL : H L = some (.lst (ks.map V.ref))) (hl : ks.length = 1) (hp : Paired (fun kd k => KindAt K H k kd ∧ Near p kd) kds ks)
    (q : ∀ H' L ks kds, Same H H' → H' L = some (.lst (ks.map V.ref)) → ks.length = 3 → H L = none → Paired (fun kd k => KindAt K H' k kd ∧ Near p kd) kds ks → D.nx (sgU v0 k p.name p.st e d (some (.ref L)) v7 v8 (some (.str x)) v10 v11 v12 v13) H') :
    u5 K D (sgU v0 k p.name p.st e d (some (.ref L)) v7 v8 (some (.str x)) v10 v11 v12 v13) H := by
  have line : sizeLine = 16777216 := sizeLine_eq
  obtain ⟨le, lm⟩ := pl_small ok dr hz
  have hf := ok.few
  have xst : p.st ≠ x := fun z => hxs ((mem_states ok.mvs.nd x).mpr (.inl z.symm))
  have xen : x ∉ p.ends := fun z => hxs ((mem_states ok.mvs.nd x).mpr (.inr (.inl z)))
  refine ⟨_, rfl, _, rfl, _, rfl, _, rfl, _, rfl, ?_⟩
  walk_at "dn"
  refine mk_kindA (ends := p.ends) (mv := p.mv) ⟨ok.name, hx, .inl (SqL.of c.ends), fun y hy => ok.names _ (ok.endsS _ hy), ok.endsN, by omega, c.mvs.movesAt, pl_moves ok dr (by omega), few_of ok.mvs.nd (l := x :: p.sts) (by rw [List.length_cons]; omega) List.mem_cons_self (fun y hy => List.mem_cons_of_mem _ (ok.endsS y hy)) (fun m hm => ⟨List.mem_cons_of_mem _ (mv_in ok m hm).1, fun o ho => List.mem_cons_of_mem _ ((mv_in ok m hm).2 o ho)⟩)⟩ fun H2 k2 s2 _ hk2 => ?_
  have c2 := c.same s2
  refine ⟨_, rfl, _, rfl, _, rfl, _, rfl, by show 1 ≤ sizeLine; omega, fun t3 h3 => ⟨e, t3, _, _, rfl, rfl, Same.new h3 _ _ c2.ends, upd_same, by rw [List.length_map]; show _ + 1 ≤ _; omega, fun e4 h4 => ?_⟩⟩
  have s4 := (Same.new (o := .lst [V.str x]) h3).trans (Same.new (o := .lst (p.ends.map V.str ++ [V.str x])) h4)
  have ee : (L2.upd (L2.upd H2 t3 (.lst [V.str x])) e4 (.lst (p.ends.map V.str ++ [V.str x]))) e4 = some (.lst ((p.ends ++ [x]).map V.str)) := by rw [upd_same, List.map_append] <;> rfl
  generalize L2.upd (L2.upd H2 t3 (.lst [V.str x])) e4 (.lst (p.ends.map V.str ++ [V.str x])) = H4 at s4 ee
  have c4 := c2.same s4
  refine ⟨_, rfl, ?_⟩
  walk_at "dn"
  refine mk_kindA (ends := p.ends ++ [x]) (mv := p.mv) ⟨ok.name, ok.names _ (pl_st ok), .inl (SqL.of ee), fun y hy => ?_, ?_, by rw [List.length_append]; show _ + 1 ≤ _; omega, c4.mvs.movesAt, pl_moves ok dr (by omega), few_of ok.mvs.nd (l := x :: p.sts) (by rw [List.length_cons]; omega) (List.mem_cons_of_mem _ (pl_st ok)) (fun y hy => ?_) (fun m hm => ⟨List.mem_cons_of_mem _ (mv_in ok m hm).1, fun o ho => List.mem_cons_of_mem _ ((mv_in ok m hm).2 o ho)⟩)⟩ fun H5 k5 s5 _ hk5 => ?_
  · rcases List.mem_append.mp hy with hy | hy
    · exact ok.names _ (ok.endsS _ hy)
    · rw [List.mem_singleton.mp hy]; exact hx
  · exact List.nodup_append.mpr ⟨ok.endsN, by simp, fun a ha b hb e => by rw [List.mem_singleton.mp hb] at e; rw [e] at ha; exact xen ha⟩
  · rcases List.mem_append.mp hy with hy | hy
    · exact List.mem_cons_of_mem _ (ok.endsS _ hy)
    · rw [List.mem_singleton.mp hy]; exact List.mem_cons_self
  · have s25 := s4.trans s5
    have s05 := s2.trans s25
    refine ⟨by show 2 ≤ sizeLine; omega, fun t6 h6 => ⟨L, t6, _, _, rfl, rfl, Same.new h6 _ _ (s05 _ _ hL), upd_same, by rw [List.length_map]; show _ + 2 ≤ _; omega, fun L7 h7 => ?_⟩⟩
    have s7 := (Same.new (o := .lst [V.ref k2, V.ref k5]) h6).trans (Same.new (o := .lst (ks.map V.ref ++ [V.ref k2, V.ref k5])) h7)
    have s07 := s05.trans s7
    refine q _ L7 (ks ++ [k2, k5]) (kds ++ [⟨p.name, x, isort strLt p.ends, sortTab p.mv⟩, ⟨p.name, p.st, isort strLt (p.ends ++ [x]), sortTab p.mv⟩]) s07 (by rw [upd_same, List.map_append] <;> rfl) (by rw [List.length_append, hl] <;> rfl) ?_ ?_
    · exact s05.free ((Same.new (o := .lst [V.ref k2, V.ref k5]) h6).free h7)
    · have h1 : Paired (fun kd k => KindAt K (L2.upd (L2.upd H5 t6 (.lst [V.ref k2, V.ref k5])) L7 (.lst (ks.map V.ref ++ [V.ref k2, V.ref k5]))) k kd ∧ Near p kd) (kds ++ [_]) (ks ++ [k2]) := Paired.snoc (Paired.imp hp fun kd k z => ⟨z.1.same s07, z.2⟩) ⟨hk2.at.same (s25.trans s7), .start hx xst⟩
      have h2 := Paired.snoc h1 ⟨hk5.at.same s7, .ends hx xen⟩
      rw [List.append_assoc, List.append_assoc] at h2
      exact h2
def u6 (K : PySem.W.Frag) : TS := tAsg (tCB (rDictT K) (tCons (tOp rCat (tListItemsT (tVar 5)) (tLst (tCons (tTup (tCons (tTup (tCons (tVar 3) (tCons (tVar 10) tNil))) (tCons (tLst tNil) tNil))) tNil))) tNil)) (gName 11)
theorem lm_mv {kvs : TK} (h : Paired (LMv H) p.mv kvs) : Paired (MvAt K H) p.mv kvs := Paired.imp h fun m kv z => by
  obtain ⟨z1, q, z2, bs, z3, z4⟩ := z
  exact ⟨z1, q, bs, z2, .inl (SqL.of z3), Paired.imp z4 fun o b y => .inr (SqT.of y)⟩
theorem su6 (c : RCtx K H k e d p.name p) (ok : PlOk size meths errs p) (dr : DrawnOk meths errs) (hz : size ≤ 4) (hy : y ∉ p.mv.map (·.1.2)) (q : ∀ H' U, Same H H' → MovesAt K H' U (mvMore p y) → D.nx (sgU v0 k p.name p.st e d v6 v7 v8 v9 (some (.str y)) (some (.ref U)) v12 v13) H') :
    u6 K D (sgU v0 k p.name p.st e d v6 v7 v8 v9 (some (.str y)) v11 v12 v13) H := by
  have line : sizeLine = 16777216 := sizeLine_eq
  obtain ⟨_, lm⟩ := pl_small ok dr hz
  obtain ⟨kvs, hd, hpv, nd⟩ := c.mvs
  have hkl := Paired.length hpv
  refine ⟨_, rfl, d, kvs, rfl, hd, fun H1 l ts s1 hl hts _ e1 hpr => ?_⟩
  have s1 : Same H H1 := s1
  have htl := Paired.length hpr
  refine ⟨_, rfl, _, rfl, by show 2 ≤ sizeLine; omega, fun b2 h2 => ⟨Nat.zero_le _, fun g3 h3 => ⟨by show 2 ≤ sizeLine; omega, fun t4 h4 => ⟨by show 1 ≤ sizeLine; omega, fun l5 h5 => ?_⟩⟩⟩⟩
  have s2 := Same.new (o := .tup [V.str p.st, V.str y]) h2
  have e2 : (L2.upd H1 b2 (.tup [V.str p.st, V.str y])) b2 = some (.tup [V.str p.st, V.str y]) := upd_same
  generalize L2.upd H1 b2 (.tup [V.str p.st, V.str y]) = H2 at s2 e2 h3 h4 h5 ⊢
  have s3 := Same.new (o := .lst []) h3
  have e3 : (L2.upd H2 g3 (.lst [])) g3 = some (.lst []) := upd_same
  generalize L2.upd H2 g3 (.lst []) = H3 at s3 e3 h4 h5 ⊢
  have s4 := Same.new (o := .tup [V.ref b2, V.ref g3]) h4
  have e4 : (L2.upd H3 t4 (.tup [V.ref b2, V.ref g3])) t4 = some (.tup [V.ref b2, V.ref g3]) := upd_same
  generalize L2.upd H3 t4 (.tup [V.ref b2, V.ref g3]) = H4 at s4 e4 h5 ⊢
  have s5 := Same.new (o := .lst [V.ref t4]) h5
  have e5 : (L2.upd H4 l5 (.lst [V.ref t4])) l5 = some (.lst [V.ref t4]) := upd_same
  generalize L2.upd H4 l5 (.lst [V.ref t4]) = H5 at s5 e5 ⊢
  have s15 := ((s2.trans s3).trans s4).trans s5
  refine ⟨l, l5, _, _, rfl, rfl, s15 _ _ e1, e5, by rw [List.length_map]; show _ + 1 ≤ _; omega, fun l6 h6 => ?_⟩
  have s6 := Same.new (o := .lst (ts.map V.ref ++ [V.ref t4])) h6
  have e6 : (L2.upd H5 l6 (.lst (ts.map V.ref ++ [V.ref t4]))) l6 = some (.lst ((ts ++ [t4]).map V.ref)) := by rw [upd_same, List.map_append] <;> rfl
  generalize L2.upd H5 l6 (.lst (ts.map V.ref ++ [V.ref t4])) = H6 at s6 e6 ⊢
  have s16 := s15.trans s6
  have hpr6 : Paired (PrT H6) (ts ++ [t4]) (kvs ++ [([Sum.inr p.st, Sum.inr y], .ref g3)]) :=
    Paired.snoc (Paired.imp hpr fun _ _ z => z.keeps fun b xs hb => s16 _ _ hb) ⟨b2, s6 _ _ (s5 _ _ e4), s6 _ _ (s5 _ _ (s4 _ _ (s3 _ _ e2)))⟩
  refine ⟨l6, ts ++ [t4], _, rfl, SqL.of e6, hpr6, fun U hU => ?_⟩
  have s7 := Same.new (o := .dT (mergeT [] (kvs ++ [([Sum.inr p.st, Sum.inr y], .ref g3)]))) hU
  have s07 := (s1.trans s16).trans s7
  have hmv : Paired (MvAt K (L2.upd H6 U (.dT (mergeT [] (kvs ++ [([Sum.inr p.st, Sum.inr y], .ref g3)]))))) (mvMore p y) (kvs ++ [([Sum.inr p.st, Sum.inr y], .ref g3)]) := by
    refine Paired.snoc (Paired.imp (lm_mv hpv) fun _ _ z => z.same s07) ⟨rfl, g3, [], rfl, .inl (SqL.of (s7 _ _ (s6 _ _ (s5 _ _ (s4 _ _ e3))))), .nil⟩
  have nd2 := more_nd ok hy
  have ndk : ((kvs ++ [(([Sum.inr p.st, Sum.inr y] : List Key), V.ref g3)]).map (fun z : List Key × V => z.1)).Nodup := by
    rw [paired_keys hmv]
    have : ((mvMore p y).map fun m => row2 m.1).map (·.map (Sum.inr : PySem.Str → Key)) = ((mvMore p y).map (·.1)).map fun k => [Sum.inr k.1, Sum.inr k.2] := by rw [List.map_map, List.map_map] <;> rfl
    rw [this]
    exact nodup_keys nd2
  have em : mergeT [] (kvs ++ [(([Sum.inr p.st, Sum.inr y] : List Key), V.ref g3)]) = kvs ++ [(([Sum.inr p.st, Sum.inr y] : List Key), V.ref g3)] := mergeT_nd _ [] ndk
  exact q _ U s07 ⟨_, by rw [upd_same, em], hmv, nd2⟩
def u7 (K : PySem.W.Frag) : TS := tDrop (tBM K "list" rAppend (tVar 6) (tCons (tMakeW (kC K) (sp_kindA K) W0 (tCons (tVar 2) (tCons (tVar 3) (tCons (tVar 4) (tCons (tVar 11) tNil))))) tNil))
theorem su7 (c : RCtx K H k e d p.name p) (ok : PlOk size meths errs p) (dr : DrawnOk meths errs) (hz : size ≤ 4) (hy1 : isName (.str y) = true) (hU : MovesAt K H U (mvMore p y)) {H0 : Hp} {ks : List Addr} {kds : List KD} (s0 : Same H0 H) (n0 : H0 L = none) (hL : H L = some (.lst (ks.map V.ref))) (hl : ks.length = 3) (hp : Paired (fun kd k => KindAt K H k kd ∧ Near p kd) kds ks)
    (q : ∀ H', Same H0 H' → NearL K H' L p → D.nx (sgU v0 k p.name p.st e d (some (.ref L)) v7 v8 v9 v10 (some (.ref U)) v12 v13) H') :
    u7 K D (sgU v0 k p.name p.st e d (some (.ref L)) v7 v8 v9 v10 (some (.ref U)) v12 v13) H := by
  have line : sizeLine = 16777216 := sizeLine_eq
  obtain ⟨le, lm⟩ := pl_small ok dr hz
  have hf := ok.few
  have nd2 : ((mvMore p y).map (·.1)).Nodup := let ⟨_, _, _, z⟩ := hU; z
  refine ⟨_, rfl, .inl ⟨rfl, _, SqL.of hL⟩, _, rfl, _, rfl, _, rfl, _, rfl, ?_⟩
  walk_at "dn"
  refine mk_kindA (ends := p.ends) (mv := mvMore p y) ⟨ok.name, ok.names _ (pl_st ok), .inl (SqL.of c.ends), fun z hz => ok.names _ (ok.endsS _ hz), ok.endsN, by omega, hU, more_ok ok dr hz hy1, few_of nd2 (l := p.sts) (by omega) (pl_st ok) ok.endsS (fun m hm => ?_)⟩ fun H2 k2 s2 _ hk2 => ?_
  · rcases List.mem_append.mp hm with hm | hm
    · exact mv_in ok m hm
    · rw [List.mem_singleton.mp hm]
      exact ⟨pl_st ok, fun o ho => by cases ho⟩
  · have e2 := s2 _ _ hL
    refine ⟨L, _, _, rfl, rfl, e2, by rw [List.length_map]; omega, ?_⟩
    have sx : SameX L H2 (L2.upd H2 L (.lst (ks.map V.ref ++ [V.ref k2]))) := SameX.self
    refine q _ (sx.same (s0.trans s2) n0) ⟨ks ++ [k2], kds ++ [_], by rw [upd_same, List.map_append] <;> rfl, by rw [List.length_append, hl]; exact Nat.le_refl _, Paired.snoc (Paired.imp hp fun kd k z => ⟨sx.kindL e2 (z.1.same s2), z.2⟩) ⟨sx.kindL e2 hk2.at, .more⟩⟩
def u8 (K : PySem.W.Frag) : TS := tIfS (tTest (tOp (rNeD K) (tLc (iList K (tVar 6)) (gName 12) (tOr (tTest (tOp (rEqO K (kC K) (sp_eq K) E0) (tVar 1) (tVar 12))) (tTest (tOp (rEqO K (kC K) (sp_eq K) E0) (tVar 12) (tVar 1)))) (tC (V.int 1)) [12]) (tLst tNil))) (tRet (tC (V.bl false))) tNext
theorem near_eq {k k2 : Addr} {kd kd2 : KD} {Q : VK} (h1 : KindAt K H k kd) (h2 : KindAt K H k2 kd2) (t1 : KdTx kd) (t2 : KdTx kd2) (ht : kd.tab.length ≠ kd2.tab.length ∨ kd.tab = kd2.tab) (q : Q (.bl (kdB kd kd2)) H) : rEqO K (kC K) (sp_eq K) E0 (.ref k) (.ref k2) H Q := by
  obtain ⟨dx, ea, tb, ho, _⟩ := id h1
  obtain ⟨dx2, ea2, tb2, ho2, _⟩ := id h2
  exact ⟨k, dx, _, _, rfl, ho, .ins ho2, notFirst_self, k, kd, .ref k2, _, rfl, h1, t1, .inr ⟨k2, kd2, rfl, h2, t2, ht, rfl⟩, _, rfl, q⟩
theorem su8 (c : RCtx K H k e d p.name p) (ok : PlOk size meths errs p) (dr : DrawnOk meths errs) (hL : NearL K H L p) (q : ∀ H', Same H H' → D.nx (sgU v0 k p.name p.st e d (some (.ref L)) v7 v8 v9 v10 v11 v12 v13) H') :
    u8 K D (sgU v0 k p.name p.st e d (some (.ref L)) v7 v8 v9 v10 v11 v12 v13) H := by
  have line : sizeLine = 16777216 := sizeLine_eq
  obtain ⟨ks, kds, hL, hl, hp⟩ := hL
  refine ⟨_, rfl, L, rfl, ⟨_, SqL.of hL⟩, fun D2 hD2 => lc_it walk_lm (fun i H2 => Same H H2 ∧ H2 D2 = some (.lst [])) ⟨Same.new hD2, upd_same⟩ (fun i H2 _ z => SqL.of (z.1 _ _ hL)) (fun i v H2 H3 hi pv yy => ?_) (fun H2 pv => ?_)⟩
  · obtain ⟨s2, e2⟩ := pv
    obtain ⟨rfl, hy⟩ := yy
    obtain ⟨k2, hk2⟩ : ∃ k2, ks[i]? = some k2 := ⟨_, List.getElem?_eq_getElem hi⟩
    rw [List.getElem?_map, hk2] at hy
    cases Option.some.inj hy
    obtain ⟨kd2, _, hkd, nr⟩ := Paired.at hp hk2
    have t2 := near_tx ok dr nr
    have t1 := kd_tx ok dr p.name
    have hkd := hkd.same s2
    have hkk := (c.same s2).kind
    refine ⟨rfl, _, rfl, _, rfl, near_eq hkk hkd t1 t2 (near_tab nr) ⟨_, rfl, ?_⟩⟩
    rw [show kdB (kdN p.name p) kd2 = false from near_ne nr]
    refine ⟨_, rfl, _, rfl, near_eq hkd hkk t2 t1 ((near_tab nr).imp (fun z y => z y.symm) Eq.symm) ⟨_, rfl, ?_⟩⟩
    rw [kdB_symm, show kdB (kdN p.name p) kd2 = false from near_ne nr]
    exact ⟨s2, e2⟩
  · obtain ⟨s2, e2⟩ := pv
    refine ⟨Nat.zero_le _, fun l3 h3 => ⟨.list [], .list [], .lst (SqL.of (Same.new h3 _ _ e2)) .nil, .lst (SqL.of upd_same) .nil, rfl, rfl, _, rfl, q _ (s2.trans (Same.new h3))⟩⟩
def u9 (K : PySem.W.Frag) : TS := tRet (tOp (rEqD K) (tLc (iTup K (tTup (tCons (tC V.non) (tCons (tVar 2) (tCons (tC (V.int 5)) (tCons (tTup tNil) (tCons (tVar 5) tNil))))))) (gName 13) (tTest (tOp (rEqO K (kC K) (sp_eq K) E0) (tVar 1) (tVar 13))) (tC (V.int 1)) [13]) (tLst tNil))
theorem su9 (c : RCtx K H k e d p.name p) (ok : PlOk size meths errs p) (dr : DrawnOk meths errs) (q : ∀ H', Same H H' → D.rt (.bl true) H') :
    u9 K D (sgU v0 k p.name p.st e d v6 v7 v8 v9 v10 v11 v12 v13) H := by
  have line : sizeLine = 16777216 := sizeLine_eq
  obtain ⟨kvs, hd, _⟩ := id c.mvs
  refine ⟨_, rfl, Nat.zero_le _, fun t1 h1 => ⟨_, rfl, by show 5 ≤ sizeLine; omega, fun t2 h2 => ?_⟩⟩
  have s1 := Same.new (o := .tup []) h1
  have e1 : (L2.upd H t1 (.tup [])) t1 = some (.tup []) := upd_same
  generalize L2.upd H t1 (.tup []) = H1 at s1 e1 h2 ⊢
  have s2 := Same.new (o := .tup [V.non, V.str p.name, V.int 5, V.ref t1, V.ref d]) h2
  have e2 : (L2.upd H1 t2 (.tup [V.non, V.str p.name, V.int 5, V.ref t1, V.ref d])) t2 = some (.tup [V.non, V.str p.name, V.int 5, V.ref t1, V.ref d]) := upd_same
  generalize L2.upd H1 t2 (.tup [V.non, V.str p.name, V.int 5, V.ref t1, V.ref d]) = H2 at s2 e2 ⊢
  have s02 := s1.trans s2
  have odd : ∀ v ∈ [V.non, V.str p.name, V.int 5, V.ref t1, V.ref d], ∀ H3, Same H2 H3 → ∃ n, Ty2 K H3 v (.type n) ∧ n ∈ sorts := fun v hv H3 s3 => by
    simp only [List.mem_cons, List.not_mem_nil, or_false] at hv
    rcases hv with rfl | rfl | rfl | rfl | rfl
    · exact ⟨_, .non, by decide⟩
    · exact ⟨_, .str _, by decide⟩
    · exact ⟨_, .int _, by decide⟩
    · exact ⟨_, .tup (s3 _ _ (s2 _ _ e1)), by decide⟩
    · exact ⟨_, .dT (s3 _ _ (s02 _ _ hd)), by decide⟩
  refine ⟨t2, rfl, ⟨_, SqT.of e2⟩, fun D2 hD2 => lc_it walk_tup (fun i H3 => Same H2 H3 ∧ H3 D2 = some (.lst [])) ⟨Same.new hD2, upd_same⟩ (fun i H3 _ z => SqT.of (z.1 _ _ e2)) (fun i v H3 H4 hi pv yy => ?_) (fun H3 pv => ?_)⟩
  · obtain ⟨s3, e3⟩ := pv
    obtain ⟨rfl, hv⟩ := yy
    obtain ⟨n, ty, hn⟩ := odd v (List.mem_of_getElem? hv) H4 s3
    have hk := (c.same (s02.trans s3)).kind
    obtain ⟨dx, ea, tb, ho, _⟩ := id hk
    exact ⟨rfl, _, rfl, _, rfl, k, dx, _, _, rfl, ho, ty, notFirst_ty hn, ⟨k, kdN p.name p, v, false, rfl, hk, kd_tx ok dr p.name, .inl ⟨n, ty, hn, rfl⟩, _, rfl, _, rfl, s3, e3⟩⟩
  · obtain ⟨s3, e3⟩ := pv
    exact ⟨Nat.zero_le _, fun l4 h4 => ⟨.list [], .list [], .lst (SqL.of (Same.new h4 _ _ e3)) .nil, .lst (SqL.of upd_same) .nil, rfl, rfl, q _ (s02.trans (s3.trans (Same.new h4)))⟩⟩
end
end
end Rs
set_option Elab.async false
set_option linter.all false
set_option maxRecDepth 100000
set_option maxHeartbeats 4000000
namespace Rs
open PySem PySem.Spec PyProof.Rows L2
local macro_rules | `(tactic| walk_at "rd") => `(tactic| simp only [L2.tRet, L2.tRetN, L2.tSeq, L2.tNext, L2.tIfS, L2.tAsg, L2.gName, L2.gNil, L2.gCons, L2.tVar, L2.tC, L2.tOp, L2.tUn, L2.tCB, L2.tCons, L2.tNil, L2.tAndV, L2.tOrV, L2.tNotV, L2.tAnd, L2.tOr, L2.tNot, L2.tB, L2.tTest, L2.tIf, L2.tChain, L2.tTup, L2.tLst, L2.tDrop, L2.tFld, L2.sFld, L2.tOst, L2.tBM, L2.rNe, L2.tMkO, L2.start, L2.cxOf, L2.Cx.nox, L2.Cx.wish, L2.rI0, L2.rI, L2.tYes, Rs.tCalW, List.getElem?_cons_zero, List.getElem?_cons_succ, Option.some.injEq, exists_eq_left', exists_eq_left, exists_and_left, List.cons.injEq, and_true, true_and, L2.V.bl.injEq, L2.V.int.injEq, L2.V.str.injEq, L2.V.ref.injEq, List.set_cons_zero, List.set_cons_succ, List.map_cons, List.map_nil, List.length_cons, List.length_nil, List.replicate, List.cons_append, List.nil_append, List.append_nil, Nat.reduceSub, Nat.reduceAdd])
local macro_rules | `(tactic| walk_at "dn") => `(tactic| dsimp only [L2.tCons, L2.tC, L2.tNil])
section
variable {P : Program} {w : World} {K : PySem.W.Frag} {mg : PySem.Str → Option Value} {base : Heap}
def sp_unlike (K : PySem.W.Frag) : Sp := fun vs H Q _ => ∃ (well : V) (k e d : Addr) (p : Pl) (size : Int) (meths errs : List PySem.Str), vs = [well, .ref k, .str p.name, .str p.st, .ref e, .ref d] ∧ RCtx K H k e d p.name p ∧ PlOk size meths errs p ∧ DrawnOk meths errs ∧ size ≤ 4 ∧ ∀ H', Same H H' → Q (.bl true) H'
theorem ok_unlike (T : Txt K mg) : Cal P w K mg base 10 "_law_unlike" ["_law_well", "_law_kind", "_law_name", "_law_start", "_law_ends", "_law_moves"] (sp_unlike K) := by
  have c_states := ok_states (P := P) (w := w) (base := base) T
  have c_methods := ok_methods (P := P) (w := w) (base := base) T
  have c_Kind := ok_kindA (P := P) (w := w) (base := base) T
  have c_eq := ok_eq (P := P) (w := w) (base := base) T
  obtain ⟨fd, F⟩ := T.d_l_unlike
  refine cal_of F T.g_law_unlike (F.bindsN fun _ _ _ _ _ _ us hl => match us, hl with | [_, _, _, _, _, _], _ => rfl) ?_
  refine F.ok sc_l_unlike (fun vs H Q E h => ?_) (fun cdv A outer s H vs Q E hr h => ?_)
  · obtain ⟨well, k, e, d, p, size, meths, errs, rfl, _⟩ := h
    rfl
  · have hu := hu_of hr
    have hu2 : (A.deeper (envOfC "_law_unlike" (defScope s_l_unlike) s.heap.objs.size (He.ga K "_law_unlike") cdv)).units + 2 < cLine := by have := hr.un; omega
    refine ⟨_, PSs.nox (pss_cons (ps_set (i := 6) sc_l_unlike.nd rfl (Or.inl rfl) (pe_lst (pa_cons (pe_cali c_Kind (hr.mono (by decide)) takes0 (pa_cons (pe_ifExp (pt_cmpR op_lt (pe_callB call_len_str rfl T.b_len (by decide +kernel) (pa_cons (pv 2) pa_nil)) pe_int (nomark _)) (pe_op op_add_str (pv 2) pe_str) pe_str) (pa_cons (pv 3) (pa_cons (pv 4) (pa_cons (pv 5) pa_nil))))) pa_nil)))
      (pss_cons (ps_set (i := 7) sc_l_unlike.nd rfl (Or.inl rfl) (pe_lst (pa_cons pe_str (pa_cons pe_str (pa_cons pe_str (pa_cons pe_str (pa_cons pe_str (pa_cons pe_str (pa_cons pe_str pa_nil)))))))))
      (pss_cons (ps_set (i := 9) sc_l_unlike.nd rfl (Or.inl rfl) (pe_ix (r := rIxL K) ix_list (pe_lc (own := [("_law_it", 8)]) (g := gName 8) rfl sc_l_unlike.nd (pi_list (pv 7)) (blkOk_by (own := [("_law_it", 8)]) (N := ["_law_well", "_law_kind", "_law_name", "_law_start", "_law_ends", "_law_moves", "_law_others", "_law_some", "_law_it", "_law_state", "_law_method", "_law_more", "_law_other", "_law_odd"]) (sc := defScope s_l_unlike) (by decide +kernel)) (fun _ _ _ _ _ => (pg_name (i := 8) sc_l_unlike.nd rfl (by first | exact Or.inl rfl | exact Or.inr rfl))) (fun _ _ _ _ _ => (pts_one (pt_cmpR (r := rIn K true) op_notIn_seq (pv 8) (pe_calm0 c_states T.cl_Kind (hr.mono (by decide)) takes0 (pv 1)) rfl))) (fun _ _ _ _ _ => (pv 8))) pe_int (fun _ _ => rfl)))
      (pss_cons (ps_set (i := 10) sc_l_unlike.nd rfl (Or.inl rfl) (pe_ix (r := rIxL K) ix_list (pe_lc (own := [("_law_it", 8)]) (g := gName 8) rfl sc_l_unlike.nd (pi_list (pv 7)) (blkOk_by (own := [("_law_it", 8)]) (N := ["_law_well", "_law_kind", "_law_name", "_law_start", "_law_ends", "_law_moves", "_law_others", "_law_some", "_law_it", "_law_state", "_law_method", "_law_more", "_law_other", "_law_odd"]) (sc := defScope s_l_unlike) (by decide +kernel)) (fun _ _ _ _ _ => (pg_name (i := 8) sc_l_unlike.nd rfl (by first | exact Or.inl rfl | exact Or.inr rfl))) (fun _ _ _ _ _ => (pts_one (pt_cmpR (r := rIn K true) op_notIn_seq (pv 8) (pe_calm0 c_methods T.cl_Kind (hr.mono (by decide)) takes0 (pv 1)) rfl))) (fun _ _ _ _ _ => (pv 8))) pe_int (fun _ _ => rfl)))
      (pss_cons (ps_set (i := 6) sc_l_unlike.nd rfl (Or.inl rfl) (pe_op op_cat (pv 6) (pe_lst (pa_cons (pe_cali c_Kind (hr.mono (by decide)) takes0 (pa_cons (pv 2) (pa_cons (pv 9) (pa_cons (pv 4) (pa_cons (pv 5) pa_nil))))) (pa_cons (pe_cali c_Kind (hr.mono (by decide)) takes0 (pa_cons (pv 2) (pa_cons (pv 3) (pa_cons (pe_op op_cat (pv 4) (pe_lst (pa_cons (pv 9) pa_nil))) (pa_cons (pv 5) pa_nil))))) pa_nil)))))
      (pss_cons (ps_set (i := 11) sc_l_unlike.nd rfl (Or.inl rfl) (pe_callTy (r := rDictT K) (call_dictT rfl hu2) rfl T.b_dict (by decide +kernel) (pa_cons (pe_op op_cat (pe_listItemsT rfl (pv 5) rfl T.b_list (by decide +kernel)) (pe_lst (pa_cons (pe_tup (pa_cons (pe_tup (pa_cons (pv 3) (pa_cons (pv 10) pa_nil))) (pa_cons (pe_lst pa_nil) pa_nil))) pa_nil))) pa_nil)))
      (pss_cons (ps_expr (pe_bm PySem.F.plainAttrs_list PySem.F.slot_list_append PySem.F.type_list_append mt_append (pv 6) (pa_cons (pe_cali c_Kind (hr.mono (by decide)) takes0 (pa_cons (pv 2) (pa_cons (pv 3) (pa_cons (pv 4) (pa_cons (pv 11) pa_nil))))) pa_nil)))
      (pss_cons (ps_if (pt_cmpR (op_neD hr.units) (pe_lc (own := [("_law_other", 12)]) (g := gName 12) rfl sc_l_unlike.nd (pi_list (pv 6)) (blkOk_by (own := [("_law_other", 12)]) (N := ["_law_well", "_law_kind", "_law_name", "_law_start", "_law_ends", "_law_moves", "_law_others", "_law_some", "_law_it", "_law_state", "_law_method", "_law_more", "_law_other", "_law_odd"]) (sc := defScope s_l_unlike) (by decide +kernel)) (fun _ _ _ _ _ => (pg_name (i := 12) sc_l_unlike.nd rfl (by first | exact Or.inl rfl | exact Or.inr rfl))) (fun _ _ _ _ _ => (pts_one (PW.pt (pw_or (pt_cmpR (r := rEqO K (kC K) (sp_eq K) E0) (op_caleq c_eq (hr.mono (by decide))) (pv 1) (pv 12) (nomark _)) (pw_or1 (pt_cmpR (r := rEqO K (kC K) (sp_eq K) E0) (op_caleq c_eq (hr.mono (by decide))) (pv 12) (pv 1) (nomark _))))))) (fun _ _ _ _ _ => pe_int)) (pe_lst pa_nil) (nomark _)) (pss_one (ps_ret pe_bl)) pss_nil)
      (pss_one (ps_ret (pe_cmpR (op_eqD hr.units) (pe_lc (own := [("_law_odd", 13)]) (g := gName 13) rfl sc_l_unlike.nd (pi_tup (pe_tup (pa_cons pe_non (pa_cons (pv 2) (pa_cons pe_int (pa_cons (pe_tup pa_nil) (pa_cons (pv 5) pa_nil))))))) (blkOk_by (own := [("_law_odd", 13)]) (N := ["_law_well", "_law_kind", "_law_name", "_law_start", "_law_ends", "_law_moves", "_law_others", "_law_some", "_law_it", "_law_state", "_law_method", "_law_more", "_law_other", "_law_odd"]) (sc := defScope s_l_unlike) (by decide +kernel)) (fun _ _ _ _ _ => (pg_name (i := 13) sc_l_unlike.nd rfl (by first | exact Or.inl rfl | exact Or.inr rfl))) (fun _ _ _ _ _ => (pts_one (pt_cmpR (r := rEqO K (kC K) (sp_eq K) E0) (op_caleq c_eq (hr.mono (by decide))) (pv 1) (pv 13) (nomark _)))) (fun _ _ _ _ _ => pe_int)) (pe_lst pa_nil) (nomark _)))))))))))), ?_⟩
    obtain ⟨well, k, e, d, p, size, meths, errs, rfl, c, ok, dr, hz, q⟩ := h
    refine su1 c ok dr hz fun H1 L1 ks1 kds1 s1 e1 l1 p1 => ?_
    refine su2 fun H2 S s2 e2 => ?_
    have c2 := c.same (s1.trans s2)
    refine su3 c2 ok dr hz e2 fun H3 x s3 hx hxs => ?_
    have c3 := c2.same s3
    refine su4 c3 ok dr hz (s3 _ _ e2) fun H4 y s4 hy hys => ?_
    have c4 := c3.same s4
    have s14 := (s2.trans s3).trans s4
    refine su5 c4 ok dr hz hx hxs (s14 _ _ e1) l1 (Paired.imp p1 fun _ _ z => ⟨z.1.same s14, z.2⟩) fun H5 L ks kds s5 e5 l5 n5 p5 => ?_
    have c5 := c4.same s5
    refine su6 c5 ok dr hz hys fun H6 U s6 hU => ?_
    have c6 := c5.same s6
    refine su7 c6 ok dr hz hy hU (s5.trans s6) n5 (s6 _ _ e5) l5 (Paired.imp p5 fun _ _ z => ⟨z.1.same s6, z.2⟩) fun H7 s7 nL => ?_
    have c7 := c4.same s7
    refine su8 c7 ok dr nL fun H8 s8 => ?_
    refine su9 (c7.same s8) ok dr fun H9 s9 => ?_
    exact q _ ((((s1.trans s14).trans s7).trans s8).trans s9)
end
end Rs
set_option Elab.async false
set_option linter.all false
set_option maxRecDepth 100000
set_option maxHeartbeats 4000000
namespace Rs
open PySem PySem.Spec PyProof.Rows L2
local macro_rules | `(tactic| walk_at "rd") => `(tactic| simp only [L2.tRet, L2.tRetN, L2.tSeq, L2.tNext, L2.tIfS, L2.tAsg, L2.gName, L2.gNil, L2.gCons, L2.tVar, L2.tC, L2.tOp, L2.tUn, L2.tCB, L2.tCons, L2.tNil, L2.tAndV, L2.tOrV, L2.tNotV, L2.tAnd, L2.tOr, L2.tNot, L2.tB, L2.tTest, L2.tIf, L2.tChain, L2.tTup, L2.tLst, L2.tDrop, L2.tFld, L2.sFld, L2.tOst, L2.tBM, L2.rNe, L2.tMkO, L2.start, L2.cxOf, L2.Cx.nox, L2.Cx.wish, L2.rI0, L2.rI, L2.tYes, Rs.tCalW, List.getElem?_cons_zero, List.getElem?_cons_succ, Option.some.injEq, exists_eq_left', exists_eq_left, exists_and_left, List.cons.injEq, and_true, true_and, L2.V.bl.injEq, L2.V.int.injEq, L2.V.str.injEq, L2.V.ref.injEq, List.set_cons_zero, List.set_cons_succ, List.map_cons, List.map_nil, List.length_cons, List.length_nil, List.replicate, List.cons_append, List.nil_append, List.append_nil, Nat.reduceSub, Nat.reduceAdd])
local macro_rules | `(tactic| walk_at "dn") => `(tactic| dsimp only [L2.tCons, L2.tC, L2.tNil])
section
variable {P : Program} {w : World} {K : PySem.W.Frag} {mg : PySem.Str → Option Value} {base : Heap}
def rListDT : List V → Hp → VK → Prop := fun xs H Q => ∃ d kvs, xs = [V.ref d] ∧ Rd H d (.dT kvs) ∧ ∀ p bs, H p = none → IsKeys H kvs bs → Q (.ref p) (upd H p (.lst (bs.map V.ref)))
/-! ### pairs in another order -/
theorem paired_perm {α β : Type} {R : α → β → Prop} {bs cs : List β} (h : bs.Perm cs) : ∀ {l : List α}, Paired R l bs → ∃ m, m.Perm l ∧ Paired R m cs := by
  induction h with
  | nil => intro l h; cases h; exact ⟨[], .refl _, .nil⟩
  | cons x _ ih =>
    intro l h
    cases h with
    | cons h1 h2 =>
      obtain ⟨m, p, q⟩ := ih h2
      exact ⟨_ :: m, p.cons _, .cons h1 q⟩
  | swap x y _ =>
    intro l h
    cases h with
    | cons h1 h2 =>
      cases h2 with
      | cons h3 h4 => exact ⟨_ :: _ :: _, List.Perm.swap _ _ _, .cons h3 (.cons h1 h4)⟩
  | trans _ _ ih1 ih2 =>
    intro l h
    obtain ⟨m, p1, q1⟩ := ih1 h
    obtain ⟨m', p2, q2⟩ := ih2 q1
    exact ⟨m', p2.trans p1, q2⟩
theorem perm_mapG {α β : Type} {f : α → β} {xs ys : List β} (h : xs.Perm ys) : ∀ {l : List α}, l.map f = xs → ∃ m : List α, ys = m.map f ∧ m.Perm l := by
  induction h with
  | nil => intro l e; exact ⟨[], rfl, by rw [List.map_eq_nil_iff.mp e]⟩
  | cons x _ ih =>
    intro l e
    cases l with
    | nil => simp at e
    | cons a l =>
      obtain ⟨e1, e2⟩ := List.cons.inj e
      obtain ⟨m, h1, h2⟩ := ih e2
      exact ⟨a :: m, by rw [h1, ← e1] <;> rfl, h2.cons a⟩
  | swap x y t =>
    intro l e
    match l, e with
    | a :: b :: l, e =>
      obtain ⟨e1, e2⟩ := List.cons.inj e
      obtain ⟨e3, e4⟩ := List.cons.inj e2
      exact ⟨b :: a :: l, by rw [List.map_cons, List.map_cons, e1, e3, e4], List.Perm.swap _ _ _⟩
  | trans _ _ ih1 ih2 =>
    intro l e
    obtain ⟨m, h1, h2⟩ := ih1 e
    obtain ⟨m', h3, h4⟩ := ih2 h1.symm
    exact ⟨m', h3, h4.trans h2⟩
theorem perm_map {α β : Type} {f : α → β} {l : List α} {ys : List β} (h : ys.Perm (l.map f)) : ∃ m : List α, ys = m.map f ∧ m.Perm l := perm_mapG h.symm rfl
theorem lm_look {H : Hp} {mv : List Mv} {kvs : List (List Key × V)} (hp : Paired (LMv H) mv kvs) (x y : PySem.Str) :
    match look mv (x, y) with
    | none => valV kvs [Sum.inr x, Sum.inr y] = none
    | some os => ∃ p, valV kvs [Sum.inr x, Sum.inr y] = some (.ref p) ∧ RowsAt H p os := by
  unfold look valV
  induction hp with
  | nil => exact rfl
  | @cons m kv tab kvs h1 _ ih =>
    by_cases e : m.1 = (x, y)
    · have e2 : kv.1 = [Sum.inr x, Sum.inr y] := by rw [h1.1, e]
      rw [List.find?_cons_of_pos (by simpa using e), List.find?_cons_of_pos (by simpa using e2)]
      obtain ⟨_, t, e3, h3⟩ := h1
      exact ⟨t, by rw [← e3] <;> rfl, h3⟩
    · have e2 : kv.1 ≠ [Sum.inr x, Sum.inr y] := fun z => e (key_inj (x := m.1) (y := (x, y)) (by rw [← h1.1]; exact z))
      rw [List.find?_cons_of_neg (by simpa using e), List.find?_cons_of_neg (by simpa using e2)]
      exact ih
/-! ### a turn of the law -/
/-- what stands since the turn began -/
structure TC (H0 H : Hp) (s e d : Addr) (p : Pl) : Prop where
  sx : SameX s H0 H
  src : Src s H
  src0 : Src s H0
  mv0 : LMoves H0 d p.mv
  en0 : H0 e = some (.lst (p.ends.map V.str))
section
variable {H0 H H' : Hp} {s e d dg : Addr} {p : Pl}
theorem TC.mvs (c : TC H0 H s e d p) : LMoves H d p.mv := c.mv0.keep c.src0 c.sx
theorem TC.ends (c : TC H0 H s e d p) : H e = some (.lst (p.ends.map V.str)) := c.sx _ _ (txts_ne c.src0 c.en0) c.en0
theorem TC.to (c : TC H0 H s e d p) (sx : SameX s H H') (src : Src s H') : TC H0 H' s e d p := ⟨c.sx.trans sx, src, c.src0, c.mv0, c.en0⟩
theorem TC.same (c : TC H0 H s e d p) (m : Same H H') : TC H0 H' s e d p := c.to (SameX.of m) (c.src.same m)
theorem TC.dm (c : TC H0 H s e d p) : Dm H0 H := Dm.srcX c.sx c.src
/-- an element of a given row: a tuple, or a new list -/
def GEl (H0 H : Hp) (o : PySem.Str × PySem.Str) (b : Addr) : Prop := H b = some (.tup [.str o.1, .str o.2]) ∨ (H0 b = none ∧ H b = some (.lst [.str o.1, .str o.2]))
/-- a given row, new -/
def GE (H0 H : Hp) (m : Mv) (kv : List Key × V) : Prop := kv.1 = [Sum.inr m.1.1, Sum.inr m.1.2] ∧ ∃ g bs, kv.2 = .ref g ∧ H0 g = none ∧ H g = some (.lst (bs.map V.ref)) ∧ Paired (GEl H0 H) m.2 bs
theorem GEl.keep {o : PySem.Str × PySem.Str} {b : Addr} (hs0 : Src s H0) (hs : Src s H) (sx : SameX s H H') (h : GEl H0 H o b) : GEl H0 H' o b := by
  obtain ⟨_, _, _, h0⟩ := hs0
  obtain ⟨_, _, _, h1⟩ := hs
  rcases h with h | ⟨n, h⟩
  · exact .inl (sx _ _ (ne_of h h1 (by intro z; cases z)) h)
  · exact .inr ⟨n, sx _ _ (ne_of_none h0 n).symm h⟩
theorem GE.keep {m : Mv} {kv : List Key × V} (hs0 : Src s H0) (hs : Src s H) (sx : SameX s H H') (h : GE H0 H m kv) : GE H0 H' m kv := by
  obtain ⟨e1, g, bs, e2, n, e3, hp⟩ := h
  obtain ⟨_, _, _, h0⟩ := id hs0
  exact ⟨e1, g, bs, e2, n, sx _ _ (ne_of_none h0 n).symm e3, Paired.imp hp fun _ _ z => z.keep hs0 hs sx⟩
/-- the same while the dict of them changes -/
theorem GE.put {m : Mv} {kv : List Key × V} {kvs kvs' : TK} (hd : H dg = some (.dT kvs)) (h : GE H0 H m kv) : GE H0 (L2.upd H dg (.dT kvs')) m kv := by
  obtain ⟨e1, g, bs, e2, n, e3, hp⟩ := h
  refine ⟨e1, g, bs, e2, n, by rw [upd_ne (ne_of e3 hd (by intro z; cases z))]; exact e3, Paired.imp hp fun o b z => ?_⟩
  rcases z with z | ⟨nb, z⟩
  · exact .inl (by rw [upd_ne (ne_of z hd (by intro z; cases z))]; exact z)
  · exact .inr ⟨nb, by rw [upd_ne (ne_of z hd (by intro z; cases z))]; exact z⟩
theorem GE.mv {m : Mv} {kv : List Key × V} (h : GE H0 H m kv) : MvAt K H m kv := by
  obtain ⟨e1, g, bs, e2, n, e3, hp⟩ := h
  exact ⟨e1, g, bs, e2, .inl (SqL.of e3), Paired.imp hp fun o b z => z.elim (fun z => .inr (SqT.of z)) fun z => .inl (SqL.of z.2)⟩
end
abbrev sgT (v0 v1 : Option V) (s : Addr) (v3 v4 v5 : Option V) (n st : PySem.Str) (e d : Addr) (v10 v11 v12 v13 v14 v15 v16 v17 v18 v19 v20 : Option V) : L2.St := [v0, v1, some (.ref s), v3, v4, v5, some (.str n), some (.str st), some (.ref e), some (.ref d), v10, v11, v12, v13, v14, v15, v16, v17, v18, v19, v20]
section
variable {H0 H : Hp} {s e d dg : Addr} {p : Pl} {size : Int} {meths errs : List PySem.Str} {D : Ends} {v0 v1 v3 v4 v5 v10 v11 v12 v13 v14 v15 v16 v17 v18 v19 v20 : Option V}
/-- a row of outcomes in another order, as lists or tuples -/
def tGiv (K : PySem.W.Frag) : TE := tLc (iList K (tCalW (sp_turned K) W0 (tCons (tVar 2) (tCons (tDGet (tVar 9) (tVar 11)) tNil)))) (gName 12) tYes (tOp (rIxL K) (tLst (tCons (tCB (rListOf K) (tCons (tVar 12) tNil)) (tCons (tVar 12) tNil))) (tCalW (sp_next K) W0 (tCons (tVar 2) (tCons (tC (V.int 2)) tNil)))) [12]
theorem giv_row {b : Addr} {m : Mv} {Q : VK} (c : TC H0 H s e d p) (ok : PlOk size meths errs p) (hb : H b = some (.tup [.str m.1.1, .str m.1.2])) (hm : m ∈ p.mv)
    (q : ∀ H' g bs os, os.Perm m.2 → SameX s H H' → Src s H' → H g = none → H' g = some (.lst (bs.map V.ref)) → Paired (GEl H0 H') os bs → Q (.ref g) H') :
    tGiv K (sgT v0 v1 s v3 v4 v5 p.name p.st e d v10 (some (.ref b)) v12 v13 v14 v15 v16 v17 v18 v19 v20) H Q := by
  have line : sizeLine = 16777216 := sizeLine_eq
  obtain ⟨kvs, hd, hpv, nd⟩ := c.mvs
  have m3 := ok.mvs.few m hm
  have lk := lm_look hpv m.1.1 m.1.2
  rw [show ((m.1.1, m.1.2) : PySem.Str × PySem.Str) = m.1 from rfl, look_mem nd hm] at lk
  obtain ⟨pp, hv, rbs, r1, r2⟩ := lk
  have rl := Paired.length r2
  refine ⟨_, rfl, _, rfl, _, rfl, d, .ref pp, rfl, .inr ⟨kvs, [Sum.inr m.1.1, Sum.inr m.1.2], b, .inl hd, rfl, hb, hv.symm⟩, ?_⟩
  walk_at "dn"
  refine ⟨s, pp, rbs.map V.ref, rfl, c.src, r1, rows_ne c.src r1, by rw [List.length_map]; omega, fun H1 l ys hy sx1 hs1 hl el => ?_⟩
  obtain ⟨rcs, rfl, hrp⟩ := perm_map hy
  obtain ⟨os, hos, hpo⟩ := paired_perm hrp.symm r2
  have hpo1 : Paired (TupAt H1) os rcs := Paired.imp hpo fun o x z => sx1 _ _ (tup_ne c.src z) z
  have ol := Paired.length hpo
  have hol := hos.length_eq
  have nls : l ≠ s := rows_ne hs1 el
  refine ⟨l, rfl, ⟨_, SqL.of el⟩, fun G hG => ?_⟩
  obtain ⟨x0, y0, z0, hs0⟩ := id c.src0
  have nGs : G ≠ s := by obtain ⟨_, _, _, h⟩ := hs1; exact (ne_of_none h hG).symm
  have nlG : l ≠ G := ne_of_none el hG
  have hG0 : H G = none := by
    cases z : H G with
    | none => rfl
    | some u => rw [sx1 G u nGs z] at hG; cases hG
  refine lc_it walk_lm (fun j H2 => SameX s H1 H2 ∧ Src s H2 ∧ ∃ es : List Addr, H2 G = some (.lst (es.map V.ref)) ∧ es.length = j ∧ Paired (fun o x => GEl H0 H2 o x ∧ x ≠ G) (os.take j) es) ⟨SameX.of (Same.new hG), hs1.new hG, [], upd_same, rfl, by rw [List.take_zero]; exact .nil⟩ (fun j H2 _ z => SqL.of (z.1 _ _ nls el)) (fun j v H2 H3 hj pv yy => ?_) (fun H2 pv => ?_)
  · obtain ⟨sx2, hs2, es, e2, hel, hpe⟩ := pv
    obtain ⟨rfl, hy2⟩ := yy
    obtain ⟨x, hx⟩ : ∃ x, rcs[j]? = some x := ⟨_, List.getElem?_eq_getElem hj⟩
    rw [List.getElem?_map, hx] at hy2
    cases Option.some.inj hy2
    obtain ⟨o, ho, hto⟩ := Paired.at hpo1 hx
    have hx2 : H3 x = some (.tup [.str o.1, .str o.2]) := sx2 _ _ (tup_ne hs1 hto) hto
    refine ⟨rfl, _, rfl, x, _, rfl, .inr (SqT.of hx2), fun l4 h4 => ⟨_, rfl, by show 2 ≤ sizeLine; omega, fun l5 h5 => ?_⟩⟩
    have s4 := Same.new (o := .lst [.str o.1, .str o.2]) h4
    have e4 : (L2.upd H3 l4 (.lst [.str o.1, .str o.2])) l4 = some (.lst [.str o.1, .str o.2]) := upd_same
    generalize L2.upd H3 l4 (.lst [.str o.1, .str o.2]) = H4 at s4 e4 h5 ⊢
    have s5 := Same.new (o := .lst [V.ref l4, V.ref x]) h5
    have e5 : (L2.upd H4 l5 (.lst [V.ref l4, V.ref x])) l5 = some (.lst [V.ref l4, V.ref x]) := upd_same
    have hs5 := (hs2.same s4).same s5
    generalize L2.upd H4 l5 (.lst [V.ref l4, V.ref x]) = H5 at s5 e5 hs5 ⊢
    obtain ⟨x5, y5, z5, ha5⟩ := id hs5
    have n5 : l5 ≠ s := fun z => by subst z; rw [ha5] at e5; cases e5
    refine ⟨_, rfl, s, x5, y5, z5, 2, rfl, ha5, by decide, by decide, fun r ob hob r1 r2 => ?_⟩
    have sx6 : SameX s H5 (L2.upd H5 s ob) := SameX.self
    have hs6 : Src s (L2.upd H5 s ob) := Src.upd hob
    generalize L2.upd H5 s ob = H6 at sx6 hs6 ⊢
    have sx36 : SameX s H3 H6 := (SameX.of (s4.trans s5)).trans sx6
    have e26 : H6 G = some (.lst (es.map V.ref)) := sx36 _ _ nGs e2
    have h04 : H0 l4 = none := by
      have h3 := sx2
      cases z : H0 l4 with
      | none => rfl
      | some u =>
        have nz : l4 ≠ s := fun zz => by subst zz; obtain ⟨_, _, _, hh⟩ := hs2; rw [hh] at h4; cases h4
        rw [sx2 _ _ nz (sx1 _ _ nz (c.sx _ _ nz z))] at h4
        cases h4
    have n4 : l4 ≠ s := (ne_of_none hs0 h04).symm
    have nl4 : l4 ≠ G := fun zz => by subst zz; rw [e2] at h4; cases h4
    have nxG : x ≠ G := ne_of hx2 e2 (by intro z; cases z)
    have fin : ∀ z, (GEl H0 H6 o z ∧ z ≠ G) → ∃ acc, H6 G = some (.lst acc) ∧ acc.length < sizeLine ∧ (SameX s H1 (L2.upd H6 G (.lst (acc ++ [V.ref z]))) ∧ Src s (L2.upd H6 G (.lst (acc ++ [V.ref z]))) ∧ ∃ es : List Addr, (L2.upd H6 G (.lst (acc ++ [V.ref z]))) G = some (.lst (es.map V.ref)) ∧ es.length = j + 1 ∧ Paired (fun o x => GEl H0 (L2.upd H6 G (.lst (acc ++ [V.ref z]))) o x ∧ x ≠ G) (os.take (j + 1)) es) := by
      intro z hz
      refine ⟨_, e26, by rw [List.length_map]; omega, fun c u n e => ?_, ?_, es ++ [z], by rw [upd_same, List.map_append] <;> rfl, by simp [hel], ?_⟩
      · rw [upd_ne (ne_of_none e hG)]
        exact sx36 _ _ n (sx2 _ _ n e)
      · obtain ⟨a1, a2, a3, a4⟩ := hs6
        exact ⟨a1, a2, a3, by rw [upd_ne nGs.symm]; exact a4⟩
      · have mov : ∀ {o : PySem.Str × PySem.Str} {y : Addr}, GEl H0 H6 o y ∧ y ≠ G → GEl H0 (L2.upd H6 G (.lst (es.map V.ref ++ [V.ref z]))) o y ∧ y ≠ G := fun {o y} h => by
          refine ⟨?_, h.2⟩
          rcases h.1 with h1 | ⟨h1, h2⟩
          · exact .inl (by rw [upd_ne h.2]; exact h1)
          · exact .inr ⟨h1, by rw [upd_ne h.2]; exact h2⟩
        rw [take_next ho]
        exact Paired.snoc (Paired.imp hpe fun o y z => mov ⟨z.1.keep c.src0 hs2 sx36, z.2⟩) (mov hz)
    have hix : r = 0 ∨ r = 1 := by omega
    rcases hix with rfl | rfl
    · exact ⟨l5, _, 0, .ref l4, rfl, rfl, SqL.of (sx6 _ _ n5 e5), rfl, fin l4 ⟨.inr ⟨h04, sx6 _ _ n4 (s5 _ _ e4)⟩, nl4⟩⟩
    · exact ⟨l5, _, 1, .ref x, rfl, rfl, SqL.of (sx6 _ _ n5 e5), rfl, fin x ⟨.inl (sx36 _ _ (tup_ne hs2 hx2) hx2), nxG⟩⟩
  · obtain ⟨sx2, hs2, es, e2, hel, hpe⟩ := pv
    rw [← ol, List.take_length] at hpe
    exact q H2 G es os hos (sx1.trans sx2) hs2 hG0 e2 (Paired.imp hpe fun _ _ z => z.1)
end
end
end Rs
set_option Elab.async false
set_option linter.all false
set_option maxRecDepth 100000
set_option maxHeartbeats 4000000
namespace Rs
open PySem PySem.Spec PyProof.Rows L2
local macro_rules | `(tactic| walk_at "rd") => `(tactic| simp only [L2.tRet, L2.tRetN, L2.tSeq, L2.tNext, L2.tIfS, L2.tAsg, L2.gName, L2.gNil, L2.gCons, L2.tVar, L2.tC, L2.tOp, L2.tUn, L2.tCB, L2.tCons, L2.tNil, L2.tAndV, L2.tOrV, L2.tNotV, L2.tAnd, L2.tOr, L2.tNot, L2.tB, L2.tTest, L2.tIf, L2.tChain, L2.tTup, L2.tLst, L2.tDrop, L2.tFld, L2.sFld, L2.tOst, L2.tBM, L2.rNe, L2.tMkO, L2.start, L2.cxOf, L2.Cx.nox, L2.Cx.wish, L2.rI0, L2.rI, L2.tYes, Rs.tCalW, List.getElem?_cons_zero, List.getElem?_cons_succ, Option.some.injEq, exists_eq_left', exists_eq_left, exists_and_left, List.cons.injEq, and_true, true_and, L2.V.bl.injEq, L2.V.int.injEq, L2.V.str.injEq, L2.V.ref.injEq, List.set_cons_zero, List.set_cons_succ, List.map_cons, List.map_nil, List.length_cons, List.length_nil, List.replicate, List.cons_append, List.nil_append, List.append_nil, Nat.reduceSub, Nat.reduceAdd])
local macro_rules | `(tactic| walk_at "dn") => `(tactic| dsimp only [L2.tCons, L2.tC, L2.tNil])
section
variable {P : Program} {w : World} {K : PySem.W.Frag} {mg : PySem.Str → Option Value} {base : Heap}
theorem pair_comp {α β γ : Type} {R : α → β → Prop} {S : β → γ → Prop} {T : α → γ → Prop} (g : ∀ a b c, R a b → S b c → T a c) : ∀ {l : List α} {m : List β} {n : List γ}, Paired R l m → Paired S m n → Paired T l n
  | _, _, _, .nil, .nil => .nil
  | _, _, _, .cons h t, .cons h' t' => .cons (g _ _ _ h h') (pair_comp g t t')
section
variable {H0 H : Hp} {s e d dg : Addr} {p : Pl} {size : Int} {meths errs : List PySem.Str} {D : Ends} {v0 v1 v3 v4 v5 v10 v11 v12 v13 v14 v15 v16 v17 v18 v19 v20 : Option V}
def GivAt (H0 H : Hp) (dg : Addr) (mg : List Mv) : Prop := ∃ kvs, H dg = some (.dT kvs) ∧ Paired (GE H0 H) mg kvs
theorem GivAt.keep {H' : Hp} {mg : List Mv} (hs0 : Src s H0) (hs : Src s H) (sx : SameX s H H') (h : GivAt H0 H dg mg) : GivAt H0 H' dg mg := by
  obtain ⟨kvs, h1, h2⟩ := h
  obtain ⟨_, _, _, h3⟩ := id hs
  exact ⟨kvs, sx _ _ (ne_of h1 h3 (by intro z; cases z)) h1, Paired.imp h2 fun _ _ z => z.keep hs0 hs sx⟩
theorem GivAt.same {H' : Hp} {mg : List Mv} (m : Same H H') (h : GivAt H0 H dg mg) : GivAt H0 H' dg mg := by
  obtain ⟨kvs, h1, h2⟩ := h
  refine ⟨kvs, m _ _ h1, Paired.imp h2 fun x kv z => ?_⟩
  obtain ⟨e1, g, bs, e2, n, e3, hp⟩ := z
  exact ⟨e1, g, bs, e2, n, m _ _ e3, Paired.imp hp fun o b y => y.elim (fun y => .inl (m _ _ y)) fun y => .inr ⟨y.1, m _ _ y.2⟩⟩
def l2 (K : PySem.W.Frag) : TS := tFor (iList K (tCalW (sp_turned K) W0 (tCons (tVar 2) (tCons (tCB rListDT (tCons (tVar 9) tNil)) tNil)))) (gName 11) (sDPut (tVar 10) (tVar 11) (tGiv K))
theorem sl2 (c : TC H0 H s e d p) (ok : PlOk size meths errs p) (hm : p.mv.length ≤ 100) (hdg : H dg = some (.dT [])) (ndg : H0 dg = none)
    (q : ∀ H' mg v11 v12, TC H0 H' s e d p → GivAt H0 H' dg mg → PermMv p.mv mg → D.nx (sgT v0 v1 s v3 v4 v5 p.name p.st e d (some (.ref dg)) v11 v12 v13 v14 v15 v16 v17 v18 v19 v20) H') :
    l2 K D (sgT v0 v1 s v3 v4 v5 p.name p.st e d (some (.ref dg)) v11 v12 v13 v14 v15 v16 v17 v18 v19 v20) H := by
  have line : sizeLine = 16777216 := sizeLine_eq
  obtain ⟨kvs, hd, hpv, nd⟩ := c.mvs
  have hkl := Paired.length hpv
  refine ⟨_, rfl, _, rfl, d, kvs, rfl, .inl hd, fun p1 bs hp1 hk => ?_⟩
  have hbl := Paired.length hk
  have hkey : Paired (fun (m : Mv) b => H b = some (.tup [.str m.1.1, .str m.1.2])) p.mv bs := pair_comp (fun m kv b h1 h2 => by rw [h2, h1.1] <;> rfl) hpv hk
  have s1 := Same.new (o := .lst (bs.map V.ref)) hp1
  have e1 : (L2.upd H p1 (.lst (bs.map V.ref))) p1 = some (.lst (bs.map V.ref)) := upd_same
  generalize L2.upd H p1 (.lst (bs.map V.ref)) = H1 at s1 e1
  have c1 := c.same s1
  walk_at "dn"
  refine ⟨s, p1, bs.map V.ref, rfl, c1.src, e1, rows_ne c1.src e1, by rw [List.length_map]; omega, fun H2 l ys hy sx2 hs2 hl el => ?_⟩
  obtain ⟨cs, rfl, hcp⟩ := perm_map hy
  obtain ⟨ms, hmp, hkm⟩ := paired_perm hcp.symm hkey
  have c2 := c1.to sx2 hs2
  have hk2 : Paired (fun (m : Mv) b => H2 b = some (.tup [.str m.1.1, .str m.1.2])) ms cs := Paired.imp hkm fun m b z => sx2 _ _ (tup_ne c1.src (s1 _ _ z)) (s1 _ _ z)
  have hd2 : H2 dg = some (.dT []) := by
    obtain ⟨_, _, _, hh⟩ := id c1.src
    exact sx2 _ _ (ne_of (s1 _ _ hdg) hh (by intro z; cases z)) (s1 _ _ hdg)
  obtain ⟨_, _, _, hs0'⟩ := id c.src0
  have ngs : dg ≠ s := (ne_of_none hs0' ndg).symm
  have nlg : l ≠ dg := ne_of el hd2 (by intro z; cases z)
  have nls : l ≠ s := rows_ne hs2 el
  have ndm : (ms.map (·.1)).Nodup := (hmp.map (·.1)).nodup_iff.mpr nd
  refine ⟨l, rfl, ⟨_, SqL.of el⟩, for_it walk_lm (fun i σ H3 => TC H0 H3 s e d p ∧ (∀ x u, x ≠ s → x ≠ dg → H2 x = some u → H3 x = some u) ∧ ∃ v11 v12 mg, σ = sgT v0 v1 s v3 v4 v5 p.name p.st e d (some (.ref dg)) v11 v12 v13 v14 v15 v16 v17 v18 v19 v20 ∧ GivAt H0 H3 dg mg ∧ mg.map (·.1) = (ms.take i).map (·.1) ∧ ∀ m ∈ mg, ∃ m0 ∈ p.mv, m0.1 = m.1 ∧ m.2.Perm m0.2)
    ⟨c2, fun _ _ _ _ z => z, _, _, [], rfl, ⟨[], hd2, .nil⟩, by rw [List.take_zero] <;> rfl, fun m hm => by cases hm⟩ (fun i σ H3 _ z => SqL.of (z.2.1 _ _ nls nlg el)) (fun i v σ H3 H4 hi pv yy => ?_) (fun σ H3 pv => ?_)⟩
  · obtain ⟨c3, k3, v11, v12, mg, rfl, hg3, hmk, hmp3⟩ := pv
    obtain ⟨rfl, hy3⟩ := yy
    obtain ⟨b, hb⟩ : ∃ b, cs[i]? = some b := ⟨_, List.getElem?_eq_getElem hi⟩
    rw [List.getElem?_map, hb] at hy3
    cases Option.some.inj hy3
    obtain ⟨m, hmi, hbm⟩ := Paired.at hk2 hb
    have hmm : m ∈ p.mv := hmp.mem_iff.mp (List.mem_of_getElem? hmi)
    have hb4 : H4 b = some (.tup [.str m.1.1, .str m.1.2]) := k3 _ _ (tup_ne hs2 hbm) (ne_of hbm hd2 (by intro z; cases z)) hbm
    unfold gName sDPut
    show tGiv K (sgT v0 v1 s v3 v4 v5 p.name p.st e d (some (.ref dg)) (some (.ref b)) v12 v13 v14 v15 v16 v17 v18 v19 v20) H4 _
    refine giv_row c3 ok hb4 hmm fun H5 g gs os hos sx5 hs5 hg5 eg5 hpe5 => ?_
    have c5 := c3.to sx5 hs5
    have hb5 : H5 b = some (.tup [.str m.1.1, .str m.1.2]) := sx5 _ _ (tup_ne c3.src hb4) hb4
    obtain ⟨kvs5, hd5, hp5⟩ := hg3.keep c.src0 c3.src sx5
    have kl : kvs5.length = i := by
      have h1 := Paired.length hp5
      have h2 := congrArg List.length hmk
      rw [List.length_map, List.length_map, List.length_take] at h2
      have h3 := Paired.length hk2
      omega
    have hcl := hcp.length_eq
    have hsz : kvs5.length < sizeLine := by omega
    have hg0 : H0 g = none := c3.dm g hg5
    refine ⟨.ref dg, rfl, .ref b, rfl, dg, _, rfl, DPut.t (k := [Sum.inr m.1.1, Sum.inr m.1.2]) hd5 hb5 hsz, ?_⟩
    have hmk5 : kvs5.map (·.1) = (mg.map (·.1)).map fun k => [Sum.inr k.1, Sum.inr k.2] := by
      have : ∀ {mg : List Mv} {kvs : TK}, Paired (GE H0 H5) mg kvs → kvs.map (·.1) = (mg.map (·.1)).map fun k => [Sum.inr k.1, Sum.inr k.2] := by
        intro mg kvs h
        induction h with
        | nil => rfl
        | cons h _ ih => rw [List.map_cons, List.map_cons, List.map_cons, ← ih, h.1]
      exact this hp5
    have nk : ([Sum.inr m.1.1, Sum.inr m.1.2] : List Key) ∉ kvs5.map (·.1) := fun z => by
      rw [hmk5, hmk] at z
      obtain ⟨k', hk', e'⟩ := List.mem_map.mp z
      have : k' = m.1 := key_inj e'
      subst this
      have ndt : ((ms.take (i + 1)).map (·.1)).Nodup := by rw [List.map_take]; exact ndm.sublist (List.take_sublist _ _)
      rw [take_next hmi, List.map_append] at ndt
      exact (List.nodup_append.mp ndt).2.2 _ hk' m.1 (by simp) rfl
    rw [putK_new nk]
    have sxd : SameX dg H5 (L2.upd H5 dg (.dT (kvs5 ++ [([Sum.inr m.1.1, Sum.inr m.1.2], .ref g)]))) := SameX.self
    refine ⟨⟨fun x u n z => sxd _ _ (ne_of_none z ndg) (c5.sx _ _ n z), ?_, c.src0, c.mv0, c.en0⟩, fun x u n1 n2 z => sxd _ _ n2 (sx5 _ _ n1 (k3 _ _ n1 n2 z)), _, _, mg ++ [(m.1, os)], rfl, ⟨_, upd_same, ?_⟩, ?_, fun m' hm' => ?_⟩
    · obtain ⟨a1, a2, a3, a4⟩ := hs5
      exact ⟨a1, a2, a3, sxd _ _ ngs.symm a4⟩
    · refine Paired.snoc (Paired.imp hp5 fun _ _ z => z.put hd5) (GE.put hd5 ⟨rfl, g, gs, rfl, hg0, eg5, hpe5⟩)
    · rw [List.map_append, hmk, take_next hmi, List.map_append] <;> rfl
    · rcases List.mem_append.mp hm' with hm' | hm'
      · exact hmp3 m' hm'
      · rw [List.mem_singleton.mp hm']
        exact ⟨m, hmm, rfl, hos⟩
  · obtain ⟨c3, k3, v11, v12, mg, rfl, hg3, hmk, hmp3⟩ := pv
    have hcl := Paired.length hk2
    rw [← hcl, List.take_length] at hmk
    refine q H3 mg v11 v12 c3 hg3 ⟨by rw [hmk]; exact hmp.map _, fun m hm => ?_⟩
    obtain ⟨m0, h1, h2, h3⟩ := hmp3 m hm
    exact ⟨m0.2, by rw [← h2]; exact look_mem nd h1, h3⟩
def l3 (K : PySem.W.Frag) : TS := tAsg (tCalW (sp_turned K) W0 (tCons (tVar 2) (tCons (tVar 8) tNil))) (gName 13)
theorem sl3 {mg : List Mv} (c : TC H0 H s e d p) (hl : p.ends.length ≤ 100) (g : GivAt H0 H dg mg) (q : ∀ H' sA (ends : List PySem.Str), TC H0 H' s e d p → GivAt H0 H' dg mg → H0 sA = none → H' sA = some (.lst (ends.map V.str)) → ends.Perm p.ends → D.nx (sgT v0 v1 s v3 v4 v5 p.name p.st e d v10 v11 v12 (some (.ref sA)) v14 v15 v16 v17 v18 v19 v20) H') :
    l3 K D (sgT v0 v1 s v3 v4 v5 p.name p.st e d v10 v11 v12 v13 v14 v15 v16 v17 v18 v19 v20) H := by
  refine ⟨_, rfl, _, rfl, ?_⟩
  walk_at "dn"
  refine ⟨s, e, _, rfl, c.src, c.ends, txts_ne c.src c.ends, by rw [List.length_map]; omega, fun H1 l ys hy sx hs hl el => ?_⟩
  obtain ⟨ends, rfl, hp⟩ := perm_map hy
  exact q H1 l ends (c.to sx hs) (g.keep c.src0 c.src sx) (c.dm l hl) el hp
end
end
end Rs
set_option Elab.async false
set_option linter.all false
set_option maxRecDepth 100000
set_option maxHeartbeats 4000000
namespace Rs
open PySem PySem.Spec PyProof.Rows L2
local macro_rules | `(tactic| walk_at "rd") => `(tactic| simp only [L2.tRet, L2.tRetN, L2.tSeq, L2.tNext, L2.tIfS, L2.tAsg, L2.gName, L2.gNil, L2.gCons, L2.tVar, L2.tC, L2.tOp, L2.tUn, L2.tCB, L2.tCons, L2.tNil, L2.tAndV, L2.tOrV, L2.tNotV, L2.tAnd, L2.tOr, L2.tNot, L2.tB, L2.tTest, L2.tIf, L2.tChain, L2.tTup, L2.tLst, L2.tDrop, L2.tFld, L2.sFld, L2.tOst, L2.tBM, L2.rNe, L2.tMkO, L2.start, L2.cxOf, L2.Cx.nox, L2.Cx.wish, L2.rI0, L2.rI, L2.tYes, Rs.tCalW, List.getElem?_cons_zero, List.getElem?_cons_succ, Option.some.injEq, exists_eq_left', exists_eq_left, exists_and_left, List.cons.injEq, and_true, true_and, L2.V.bl.injEq, L2.V.int.injEq, L2.V.str.injEq, L2.V.ref.injEq, List.set_cons_zero, List.set_cons_succ, List.map_cons, List.map_nil, List.length_cons, List.length_nil, List.replicate, List.cons_append, List.nil_append, List.append_nil, Nat.reduceSub, Nat.reduceAdd])
local macro_rules | `(tactic| walk_at "dn") => `(tactic| dsimp only [L2.tCons, L2.tC, L2.tNil])
section
variable {P : Program} {w : World} {K : PySem.W.Frag} {mg : PySem.Str → Option Value} {base : Heap}
/-- a kind whose table is not the dict at dg -/
def KindOff (K : PySem.W.Frag) (H : Hp) (k : Addr) (kd : KD) (dg : Addr) : Prop := ∃ dx e tb, tb ≠ dg ∧ H k = some (.ins (kC K) dx (kflds kd.name kd.start e tb)) ∧ SqT K H e (kd.ends.map V.str) ∧ TabAt K H tb kd.tab
section
variable {H0 H H' : Hp} {s e d dg k k2 sA : Addr} {p : Pl} {kd : KD} {size : Int} {meths errs : List PySem.Str} {mv : List Mv} {D : Ends} {v0 v1 v3 v4 v5 v10 v11 v12 v13 v14 v15 v16 v17 v18 v19 v20 : Option V}
theorem KindOff.at (h : KindOff K H k kd dg) : KindAt K H k kd := let ⟨dx, e, tb, _, h⟩ := h; ⟨dx, e, tb, h⟩
theorem KindOff.same (s : Same H H') (h : KindOff K H k kd dg) : KindOff K H' k kd dg := let ⟨dx, e, tb, n, h1, h2, h3⟩ := h; ⟨dx, e, tb, n, s _ _ h1, Same.tq s h2, h3.same s⟩
theorem KindOff.of {u : HO} (hd : H0 dg = some u) (h : KindNew K H0 H k kd) : KindOff K H k kd dg := let ⟨dx, e, tb, n, h⟩ := h; ⟨dx, e, tb, (ne_of_none hd n).symm, h⟩
/-- the dict at dg is changed -/
theorem KindOff.clear {kvs kvs' : TK} (hd : H dg = some (.dT kvs)) (h : KindOff K H k kd dg) : KindOff K (L2.upd H dg (.dT kvs')) k kd dg := by
  obtain ⟨dx, e, tb, n, h1, h2, ks, h3, h4, h5⟩ := h
  have sx : SameX dg H (L2.upd H dg (.dT kvs')) := SameX.self
  exact ⟨dx, e, tb, n, sx _ _ (ne_of h1 hd (by intro z; cases z)) h1, sx.tq hd rfl h2, ks, sx _ _ n h3, Paired.imp h4 fun _ _ z => sx.tab hd rfl z, h5⟩
/-- what stands while new lists are changed -/
def Pr (H0 H H' : Hp) : Prop := ∀ c u, H c = some u → (H0 c ≠ none ∨ ∀ xs, u ≠ .lst xs) → H' c = some u
theorem Pr.same (s : Same H H') : Pr H0 H H' := fun c u z _ => s c u z
theorem Pr.trans {H'' : Hp} (h : Pr H0 H H') (h' : Pr H0 H' H'') : Pr H0 H H'' := fun c u z n => h' c u (h c u z n) n
theorem Pr.upd {b : Addr} {ys : List V} {o : HO} (n : H0 b = none) (hb : H b = some (.lst ys)) : Pr H0 H (L2.upd H b o) := fun c u z m => by
  rw [upd_ne]
  · exact z
  · rintro rfl
    rw [hb] at z
    cases Option.some.inj z
    exact m.elim (fun m => m n) fun m => m _ rfl
theorem Pr.tq {b : Addr} {xs : List V} (h : Pr H0 H H') (q : SqT K H b xs) : SqT K H' b xs := by
  rcases q with (q | ⟨ob, q⟩) | q
  · exact .inl (.inl (h _ _ q (.inr fun xs z => by cases z)))
  · exact .inl (.inr ⟨ob, h _ _ q (.inr fun xs z => by cases z)⟩)
  · exact .inr q
theorem Pr.outs {t : Addr} {os : Outs} (h : Pr H0 H H') (q : OutsAt K H t os) : OutsAt K H' t os := let ⟨cs, h1, h2⟩ := q; ⟨cs, h.tq h1, Paired.imp h2 fun _ _ z => h.tq z⟩
theorem KindOff.pr (h : Pr H0 H H') (q : KindOff K H k kd dg) : KindOff K H' k kd dg := by
  obtain ⟨dx, e, tb, n, h1, h2, ks, h3, h4, h5⟩ := q
  refine ⟨dx, e, tb, n, h _ _ h1 (.inr fun xs z => by cases z), h.tq h2, ks, h _ _ h3 (.inr fun xs z => by cases z), Paired.imp h4 fun m kv z => ?_, h5⟩
  obtain ⟨z1, t, z2, z3⟩ := z
  exact ⟨z1, t, z2, h.outs z3⟩
theorem TC.pr (c : TC H0 H s e d p) (h : Pr H0 H H') : TC H0 H' s e d p := by
  refine ⟨fun x u n z => h _ _ (c.sx _ _ n z) (.inl fun y => by rw [z] at y; cases y), ?_, c.src0, c.mv0, c.en0⟩
  obtain ⟨a1, a2, a3, a4⟩ := c.src
  obtain ⟨_, _, _, b4⟩ := c.src0
  exact ⟨a1, a2, a3, h _ _ a4 (.inl fun y => by rw [b4] at y; cases y)⟩
/-! ### the two kinds -/
def l4 (K : PySem.W.Frag) : TS := tAsg (tMakeW (kC K) (sp_kindA K) W0 (tCons (tVar 6) (tCons (tVar 7) (tCons (tVar 13) (tCons (tVar 10) tNil))))) (gName 14)
theorem sl4 {ends : List PySem.Str} (c : TC H0 H s e d p) (ok : PlOk size meths errs p) (dr : DrawnOk meths errs) (hz : size ≤ 4) (g : GivAt H0 H dg mv) (pm : PermMv p.mv mv) (hA : H sA = some (.lst (ends.map V.str))) (pe : ends.Perm p.ends)
    (q : ∀ H' k, Same H H' → KindOff K H' k (kdOf p) dg → D.nx (sgT v0 v1 s v3 v4 v5 p.name p.st e d (some (.ref dg)) v11 v12 (some (.ref sA)) (some (.ref k)) v15 v16 v17 v18 v19 v20) H') :
    l4 K D (sgT v0 v1 s v3 v4 v5 p.name p.st e d (some (.ref dg)) v11 v12 (some (.ref sA)) v14 v15 v16 v17 v18 v19 v20) H := by
  obtain ⟨le, lm⟩ := pl_small ok dr hz
  have hf := ok.few
  have nd := ok.mvs.nd
  obtain ⟨kvs, hd, hp⟩ := id g
  have ee : isort strLt ends = isort strLt p.ends := isort_congr strLt_tot pe
  have et : sortTab mv = sortTab p.mv := sortTab_perm nd pm
  have pl := pe.length_eq
  refine ⟨_, rfl, _, rfl, _, rfl, _, rfl, ?_⟩
  walk_at "dn"
  refine mk_kindA (ends := ends) (mv := mv) ⟨ok.name, ok.names _ (pl_st ok), .inl (SqL.of hA), fun y hy => ok.names _ (ok.endsS _ (pe.mem_iff.mp hy)), pe.nodup_iff.mpr ok.endsN, by omega, ⟨kvs, hd, Paired.imp hp fun _ _ z => z.mv, pm.keys.nodup_iff.mpr nd⟩, moves_perm nd pm (pl_moves ok dr (by omega)), ?_⟩ fun H2 k s2 _ hk => ?_
  · rw [ee, et]
    exact few_of nd (l := p.sts) (by omega) (pl_st ok) ok.endsS (mv_in ok)
  · rw [ee, et] at hk
    exact q H2 k s2 (KindOff.of hd hk)
def l5 (K : PySem.W.Frag) : TS := tAsg (tMakeW (kC K) (sp_kindA K) W0 (tCons (tVar 6) (tCons (tVar 7) (tCons (tCB (rTupOf K) (tCons (tVar 8) tNil)) (tCons (tCB (rDictT K) (tCons (tLockE (tLc (iKeys (tVar 9)) (gName 11) tYes (tTup (tCons (tVar 11) (tCons (tCB (rTupOf K) (tCons (tDGet (tVar 9) (tVar 11)) tNil)) tNil))) [11])) tNil)) tNil))))) (gName 15)
theorem sl5 {kvs0 : TK} (c : TC H0 H s e d p) (ok : PlOk size meths errs p) (dr : DrawnOk meths errs) (hz : size ≤ 4) (hdg : H dg = some (.dT kvs0))
    (q : ∀ H' k, Same H H' → KindOff K H' k (kdOf p) dg → D.nx (sgT v0 v1 s v3 v4 v5 p.name p.st e d v10 v11 v12 v13 v14 (some (.ref k)) v16 v17 v18 v19 v20) H') :
    l5 K D (sgT v0 v1 s v3 v4 v5 p.name p.st e d v10 v11 v12 v13 v14 v15 v16 v17 v18 v19 v20) H := by
  have line : sizeLine = 16777216 := sizeLine_eq
  obtain ⟨le, lm⟩ := pl_small ok dr hz
  have hf := ok.few
  have f3 := ok.mvs.few
  refine ⟨_, rfl, _, rfl, _, rfl, e, _, rfl, .inl ⟨SqL.of c.ends, fun t1 h1 => ?_⟩⟩
  have s1 := Same.new (o := .tup (p.ends.map V.str)) h1
  have e1 : (L2.upd H t1 (.tup (p.ends.map V.str))) t1 = some (.tup (p.ends.map V.str)) := upd_same
  generalize L2.upd H t1 (.tup (p.ends.map V.str)) = H1 at s1 e1
  have c1 := c.same s1
  refine lc_keys (fun D m v H => ∃ pr b z, v = V.ref pr ∧ H pr = some (.tup [.ref b, z]) ∧ H b = some (.tup [.str m.1.1, .str m.1.2]) ∧ ∃ t cs, z = .ref t ∧ H t = some (.tup (cs.map V.ref)) ∧ Paired (TupAt H) m.2 cs) (fun H Q h => ⟨_, rfl, h⟩) c1.mvs (by omega) (fun D m v H1 H2 s z => ?_) (fun D m v H1 xs ys hD z => ?_) (fun D m v H1 od kvs hd z => ?_) (fun D od kvs m b H1 ys hmm hk _ _ Kt kt => ?_) (fun H3 D vl s3 hD e3 hp => ?_)
  · obtain ⟨pr, b, z, e1, g1, g2, t, cs, e2, g3, g4⟩ := z
    exact ⟨pr, b, z, e1, s _ _ g1, s _ _ g2, t, cs, e2, s _ _ g3, Paired.imp g4 fun _ _ y => s _ _ y⟩
  · obtain ⟨pr, b, z, e1, g1, g2, t, cs, e2, g3, g4⟩ := z
    have sx : SameX D H1 (L2.upd H1 D (.lst ys)) := SameX.self
    exact ⟨pr, b, z, e1, sx _ _ (ne_of g1 hD (by intro z; cases z)) g1, sx _ _ (ne_of g2 hD (by intro z; cases z)) g2, t, cs, e2, sx _ _ (ne_of g3 hD (by intro z; cases z)) g3, Paired.imp g4 fun _ _ y => sx _ _ (ne_of y hD (by intro z; cases z)) y⟩
  · obtain ⟨pr, b, z, e1, g1, g2, t, cs, e2, g3, g4⟩ := z
    have sx : SameX d H1 (L2.upd H1 d (.dT kvs)) := SameX.self
    exact ⟨pr, b, z, e1, sx _ _ (ne_of g1 hd (by intro z; cases z)) g1, sx _ _ (ne_of g2 hd (by intro z; cases z)) g2, t, cs, e2, sx _ _ (ne_of g3 hd (by intro z; cases z)) g3, Paired.imp g4 fun _ _ y => sx _ _ (ne_of y hd (by intro z; cases z)) y⟩
  · obtain ⟨pp, hv, bs, r1, r2⟩ := hk.val
    refine ⟨rfl, _, rfl, _, rfl, _, rfl, d, .ref pp, rfl, .inr ⟨kvs, [Sum.inr m.1.1, Sum.inr m.1.2], b, .inr ⟨od, same_loc hk.same⟩, rfl, hk.key, hv.symm⟩, pp, _, rfl, .inl ⟨SqL.of r1, fun t ht => ⟨by show 2 ≤ sizeLine; omega, fun pr hpr => ?_⟩⟩⟩
    have s2 := Same.new (o := .tup (bs.map V.ref)) ht
    have e2 : (L2.upd H1 t (.tup (bs.map V.ref))) t = some (.tup (bs.map V.ref)) := upd_same
    generalize L2.upd H1 t (.tup (bs.map V.ref)) = H2 at s2 e2 hpr
    have s3 := Same.new (o := .tup [.ref b, .ref t]) hpr
    exact kt _ _ (s2.trans s3) ⟨pr, b, .ref t, rfl, upd_same, (s2.trans s3) _ _ hk.key, t, bs, rfl, s3 _ _ e2, Paired.imp r2 fun _ _ z => (s2.trans s3) _ _ z⟩
  · obtain ⟨ps, kvs, ep, g1, g2⟩ := prs_split (S := fun m z => ∃ t cs, z = .ref t ∧ H3 t = some (.tup (cs.map V.ref)) ∧ Paired (TupAt H3) m.2 cs) hp
    subst ep
    have nk := keys_nd (S := fun m z => ∃ t cs, z = .ref t ∧ H3 t = some (.tup (cs.map V.ref)) ∧ Paired (TupAt H3) m.2 cs) g2
    have ndk : (kvs.map (·.1)).Nodup := by rw [nk]; exact nodup_keys ok.mvs.nd
    refine ⟨D, ps, kvs, rfl, SqL.of e3, g1, fun U hU => ?_⟩
    have em : mergeT [] kvs = kvs := mergeT_nd kvs [] ndk
    rw [em]
    have s4 := Same.new (o := .dT kvs) hU
    have e4 : (L2.upd H3 U (.dT kvs)) U = some (.dT kvs) := upd_same
    generalize L2.upd H3 U (.dT kvs) = H4 at s4 e4
    have s14 := s3.trans s4
    have hmv : MovesAt K H4 U p.mv := ⟨kvs, e4, Paired.imp g2 fun m kv z => by
      obtain ⟨z1, t, cs, z2, z3, z4⟩ := z
      exact ⟨z1, t, cs, z2, .inr (SqT.of (s4 _ _ z3)), Paired.imp z4 fun o b y => .inr (SqT.of (s4 _ _ y))⟩, ok.mvs.nd⟩
    walk_at "dn"
    refine mk_kindA (ends := p.ends) (mv := p.mv) ⟨ok.name, ok.names _ (pl_st ok), .inr (SqT.of (s14 _ _ e1)), fun y hy => ok.names _ (ok.endsS _ hy), ok.endsN, by omega, hmv, pl_moves ok dr (by omega), few_of ok.mvs.nd (l := p.sts) (by omega) (pl_st ok) ok.endsS (mv_in ok)⟩ fun H5 k s5 _ hk => ?_
    exact q H5 k ((s1.trans s14).trans s5) (KindOff.of (s14 _ _ (s1 _ _ hdg)) hk)
end
end
end Rs
set_option Elab.async false
set_option linter.all false
set_option maxRecDepth 100000
set_option maxHeartbeats 4000000
namespace Rs
open PySem PySem.Spec PyProof.Rows L2
local macro_rules | `(tactic| walk_at "rd") => `(tactic| simp only [L2.tRet, L2.tRetN, L2.tSeq, L2.tNext, L2.tIfS, L2.tAsg, L2.gName, L2.gNil, L2.gCons, L2.tVar, L2.tC, L2.tOp, L2.tUn, L2.tCB, L2.tCons, L2.tNil, L2.tAndV, L2.tOrV, L2.tNotV, L2.tAnd, L2.tOr, L2.tNot, L2.tB, L2.tTest, L2.tIf, L2.tChain, L2.tTup, L2.tLst, L2.tDrop, L2.tFld, L2.sFld, L2.tOst, L2.tBM, L2.rNe, L2.tMkO, L2.start, L2.cxOf, L2.Cx.nox, L2.Cx.wish, L2.rI0, L2.rI, L2.tYes, Rs.tCalW, List.getElem?_cons_zero, List.getElem?_cons_succ, Option.some.injEq, exists_eq_left', exists_eq_left, exists_and_left, List.cons.injEq, and_true, true_and, L2.V.bl.injEq, L2.V.int.injEq, L2.V.str.injEq, L2.V.ref.injEq, List.set_cons_zero, List.set_cons_succ, List.map_cons, List.map_nil, List.length_cons, List.length_nil, List.replicate, List.cons_append, List.nil_append, List.append_nil, Nat.reduceSub, Nat.reduceAdd])
local macro_rules | `(tactic| walk_at "dn") => `(tactic| dsimp only [L2.tCons, L2.tC, L2.tNil])
section
variable {P : Program} {w : World} {K : PySem.W.Frag} {mg : PySem.Str → Option Value} {base : Heap}
section
variable {H0 H H' : Hp} {s e d dg k k2 sA g : Addr} {p : Pl} {kd : KD} {size : Int} {meths errs : List PySem.Str} {mv : List Mv} {N : Nat} {D : Ends} {v0 v1 v3 v4 v5 v10 v11 v12 v13 v14 v15 v16 v17 v18 v19 v20 : Option V}
/-! ### what is changed behind -/
/-- a new list of fewer than N things -/
def LNew (H0 H : Hp) (N : Nat) (b : Addr) : Prop := H0 b = none ∧ ∃ ys, H b = some (.lst ys) ∧ ys.length < N
/-- an element: a tuple, nothing, a text, or a new list -/
def LEl (H0 H : Hp) (N : Nat) (x : V) : Prop := (∃ b xs, x = .ref b ∧ H b = some (.tup xs)) ∨ x = .non ∨ (∃ z, x = .str z) ∨ ∃ b, x = .ref b ∧ LNew H0 H N b
def LL (H0 H : Hp) (N : Nat) (g : Addr) : Prop := H0 g = none ∧ ∃ xs, H g = some (.lst xs) ∧ xs.length < N ∧ ∀ x ∈ xs, LEl H0 H N x
def LooseE (H0 H : Hp) (N : Nat) (m : Mv) (kv : List Key × V) : Prop := kv.1 = [Sum.inr m.1.1, Sum.inr m.1.2] ∧ ∃ g, kv.2 = .ref g ∧ LL H0 H N g
def Loose (H0 H : Hp) (N : Nat) (dg : Addr) (mv : List Mv) : Prop := ∃ kvs, H dg = some (.dT kvs) ∧ Paired (LooseE H0 H N) mv kvs
theorem LNew.mono {N' : Nat} {b : Addr} (h : N ≤ N') (z : LNew H0 H N b) : LNew H0 H N' b := let ⟨n, ys, h1, h2⟩ := z; ⟨n, ys, h1, Nat.lt_of_lt_of_le h2 h⟩
theorem LEl.to {N' : Nat} {x : V} (ht : ∀ b xs, H b = some (.tup xs) → H' b = some (.tup xs)) (hl : ∀ b, LNew H0 H N b → LNew H0 H' N' b) (z : LEl H0 H N x) : LEl H0 H' N' x := by
  rcases z with ⟨b, xs, e1, e2⟩ | e | ⟨z, e⟩ | ⟨b, e1, e2⟩
  · exact .inl ⟨b, xs, e1, ht _ _ e2⟩
  · exact .inr (.inl e)
  · exact .inr (.inr (.inl ⟨z, e⟩))
  · exact .inr (.inr (.inr ⟨b, e1, hl b e2⟩))
theorem Loose.same (m : Same H H') (h : Loose H0 H N dg mv) : Loose H0 H' N dg mv := by
  obtain ⟨kvs, h1, h2⟩ := h
  refine ⟨kvs, m _ _ h1, Paired.imp h2 fun x kv z => ?_⟩
  obtain ⟨e1, g, e2, n, xs, e3, e4, e5⟩ := z
  exact ⟨e1, g, e2, n, xs, m _ _ e3, e4, fun x hx => (e5 x hx).to (fun b xs y => m _ _ y) fun b ⟨n, ys, y1, y2⟩ => ⟨n, ys, m _ _ y1, y2⟩⟩
theorem Loose.mono {N' : Nat} (h : N ≤ N') (z : Loose H0 H N dg mv) : Loose H0 H N' dg mv := by
  obtain ⟨kvs, h1, h2⟩ := z
  refine ⟨kvs, h1, Paired.imp h2 fun x kv z => ?_⟩
  obtain ⟨e1, g, e2, n, xs, e3, e4, e5⟩ := z
  exact ⟨e1, g, e2, n, xs, e3, Nat.lt_of_lt_of_le e4 h, fun x hx => (e5 x hx).to (fun b xs y => y) fun b z => z.mono h⟩
/-- a new list grows by a thing that is no list -/
theorem LNew.app {b c : Addr} {ys : List V} {v : V} (hb : H b = some (.lst ys)) (hl : ys.length < N) (z : LNew H0 H N c) : LNew H0 (L2.upd H b (.lst (ys ++ [v]))) (N + 1) c := by
  obtain ⟨n, zs, h1, h2⟩ := z
  by_cases e : c = b
  · subst e
    exact ⟨n, _, upd_same, by rw [List.length_append]; show _ + 1 < _; omega⟩
  · exact ⟨n, zs, by rw [upd_ne e]; exact h1, by omega⟩
theorem Loose.app {b : Addr} {ys : List V} {v : V} (nb : H0 b = none) (hb : H b = some (.lst ys)) (hl : ys.length < N) (hv : v = .non ∨ ∃ z, v = .str z) (h : Loose H0 H N dg mv) : Loose H0 (L2.upd H b (.lst (ys ++ [v]))) (N + 1) dg mv := by
  obtain ⟨kvs, h1, h2⟩ := h
  have tp : ∀ c xs, H c = some (.tup xs) → (L2.upd H b (.lst (ys ++ [v]))) c = some (.tup xs) := fun c xs y => by rw [upd_ne (ne_of y hb (by intro z; cases z))]; exact y
  refine ⟨kvs, by rw [upd_ne (ne_of h1 hb (by intro z; cases z))]; exact h1, Paired.imp h2 fun x kv z => ?_⟩
  obtain ⟨e1, g, e2, n, xs, e3, e4, e5⟩ := z
  refine ⟨e1, g, e2, n, ?_⟩
  have el : ∀ x ∈ xs, LEl H0 (L2.upd H b (.lst (ys ++ [v]))) (N + 1) x := fun x hx => (e5 x hx).to tp fun c z => z.app hb hl
  by_cases e : g = b
  · subst e
    rw [hb] at e3
    cases HO.lst.inj (Option.some.inj e3)
    refine ⟨_, upd_same, by rw [List.length_append]; show _ + 1 < _; omega, fun x hx => ?_⟩
    rcases List.mem_append.mp hx with hx | hx
    · exact el x hx
    · rw [List.mem_singleton.mp hx]
      exact hv.elim (fun z => .inr (.inl z)) fun z => .inr (.inr (.inl z))
  · exact ⟨xs, by rw [upd_ne e]; exact e3, by omega, el⟩
theorem loose_of (ok : PlOk size meths errs p) (pm : PermMv p.mv mv) (h : GivAt H0 H dg mv) : Loose H0 H 9 dg mv := by
  obtain ⟨kvs, h1, h2⟩ := h
  refine ⟨kvs, h1, ?_⟩
  have : ∀ {l : List Mv} {m : TK}, Paired (GE H0 H) l m → (∀ x ∈ l, x.2.length ≤ 3) → Paired (LooseE H0 H 9) l m := by
    intro l m h
    induction h with
    | nil => intro _; exact .nil
    | @cons a b l m h _ ih =>
      intro hl
      refine .cons ?_ (ih fun x hx => hl x (List.mem_cons_of_mem _ hx))
      obtain ⟨e1, g, bs, e2, n, e3, hp⟩ := h
      have bl := Paired.length hp
      have := hl a List.mem_cons_self
      refine ⟨e1, g, e2, n, _, e3, by rw [List.length_map]; omega, fun x hx => ?_⟩
      obtain ⟨c, hc, rfl⟩ := List.mem_map.mp hx
      obtain ⟨i, hi⟩ := List.getElem?_of_mem hc
      obtain ⟨o, _, z⟩ := Paired.at hp hi
      rcases z with z | ⟨z1, z2⟩
      · exact .inl ⟨c, _, rfl, z⟩
      · exact .inr (.inr (.inr ⟨c, rfl, z1, _, z2, by show 2 < 9; decide⟩))
  refine this h2 fun x hx => ?_
  obtain ⟨os, e1, e2⟩ := pm.outs x hx
  rw [e2.length_eq]
  exact ok.mvs.few _ (look_in e1)
theorem loose_get (nd : (mv.map (·.1)).Nodup) {m : Mv} (hm : m.1 ∈ mv.map (·.1)) (h : Loose H0 H N dg mv) : ∃ kvs g, H dg = some (.dT kvs) ∧ valV kvs [Sum.inr m.1.1, Sum.inr m.1.2] = some (.ref g) ∧ LL H0 H N g := by
  obtain ⟨kvs, h1, h2⟩ := h
  obtain ⟨m', hm', e⟩ := List.mem_map.mp hm
  obtain ⟨i, hi⟩ := List.getElem?_of_mem hm'
  obtain ⟨kv, hkv, e1, g, e2, hl⟩ := Paired.atL h2 hi
  have ndk : (kvs.map (·.1)).Nodup := by
    have : kvs.map (·.1) = (mv.map (·.1)).map fun k => [Sum.inr k.1, Sum.inr k.2] := keys_nd (S := fun m v => ∃ g, v = .ref g ∧ LL H0 H N g) h2
    rw [this]
    exact nodup_keys nd
  refine ⟨kvs, g, h1, ?_, hl⟩
  rw [← e2, ← e, ← e1]
  exact valV_nd ndk (List.mem_of_getElem? hkv)
def l6 (K : PySem.W.Frag) : TS := tDrop (tBM K "list" rAppend (tVar 13) (tCons (tC (V.str "behind")) tNil))
theorem sl6 {ss : List V} (n0 : H0 sA = none) (hA : H sA = some (.lst ss)) (hl : ss.length < 1000) (q : Pr H0 H (L2.upd H sA (.lst (ss ++ [V.str "behind"]))) → D.nx (sgT v0 v1 s v3 v4 v5 p.name p.st e d v10 v11 v12 (some (.ref sA)) v14 v15 v16 v17 v18 v19 v20) (L2.upd H sA (.lst (ss ++ [V.str "behind"])))) :
    l6 K D (sgT v0 v1 s v3 v4 v5 p.name p.st e d v10 v11 v12 (some (.ref sA)) v14 v15 v16 v17 v18 v19 v20) H := by
  have line : sizeLine = 16777216 := sizeLine_eq
  exact ⟨_, rfl, .inl ⟨rfl, _, SqL.of hA⟩, sA, _, _, rfl, rfl, hA, by omega, q (Pr.upd n0 hA)⟩
def l7 (K : PySem.W.Frag) : TS := tLock (tFor (iKeys (tVar 9)) (gName 11) (tSeq (tAsg (tDGet (tVar 10) (tVar 11)) (gName 16)) (tSeq (tFor (iList K (tLc (iList K (tVar 16)) (gName 17) (tB (tCB (rIsi K) (tCons (tVar 17) (tCons (tC (V.ty "list")) tNil)))) (tVar 17) [17])) (gName 12) (tDrop (tBM K "list" rAppend (tVar 12) (tCons (tC (V.str "x")) tNil)))) (tDrop (tBM K "list" rAppend (tVar 16) (tCons (tC V.non) tNil))))))
theorem LEl.srt {x : V} (h : LEl H0 H N x) : ∃ n, Srt K H x n ∧ (n = "list" → ∃ b, x = .ref b ∧ LNew H0 H N b) := by
  rcases h with ⟨b, xs, rfl, e2⟩ | rfl | ⟨z, rfl⟩ | ⟨b, rfl, e2⟩
  · exact ⟨_, srt_tup e2, fun z => absurd z (by decide)⟩
  · exact ⟨_, srt_non, fun z => absurd z (by decide)⟩
  · exact ⟨_, srt_str z, fun z => absurd z (by decide)⟩
  · obtain ⟨_, ys, h1, _⟩ := id e2
    exact ⟨_, srt_lst h1, fun _ => ⟨b, rfl, e2⟩⟩
/-- one turn: the lists in a given row grow, and the row -/
theorem turn7 {u : Option V} (hz : 2 * N < 16000000) (hg : LL H0 H N g) (hL : Loose H0 H N dg mv)
    (q : ∀ H' v12, Pr H0 H H' → Loose H0 H' (2 * N) dg mv → D.nx (sgT v0 v1 s v3 v4 v5 p.name p.st e d v10 u v12 v13 v14 v15 (some (.ref g)) v17 v18 v19 v20) H') :
    tSeq (tFor (iList K (tLc (iList K (tVar 16)) (gName 17) (tB (tCB (rIsi K) (tCons (tVar 17) (tCons (tC (V.ty "list")) tNil)))) (tVar 17) [17])) (gName 12) (tDrop (tBM K "list" rAppend (tVar 12) (tCons (tC (V.str "x")) tNil)))) (tDrop (tBM K "list" rAppend (tVar 16) (tCons (tC V.non) tNil))) D (sgT v0 v1 s v3 v4 v5 p.name p.st e d v10 u v12 v13 v14 v15 (some (.ref g)) v17 v18 v19 v20) H := by
  have line : sizeLine = 16777216 := sizeLine_eq
  obtain ⟨n0, xs, hx, hxl, hxe⟩ := id hg
  refine ⟨_, rfl, g, rfl, ⟨_, SqL.of hx⟩, fun G hG => ?_⟩
  refine lc_it walk_list (fun j H2 => Same H H2 ∧ ∃ zs, H2 G = some (.lst zs) ∧ zs.length ≤ j ∧ ∀ z ∈ zs, ∃ b, z = .ref b ∧ LNew H0 H N b) ⟨Same.new hG, [], upd_same, Nat.zero_le _, fun z hz => by cases hz⟩ (fun j H2 _ z => SqL.of (z.1 _ _ hx)) (fun j v H2 H3 hj pv yy => ?_) (fun H2 pv => ?_)
  · obtain ⟨s2, zs, e2, zl, zp⟩ := pv
    obtain ⟨rfl, hv⟩ := yy
    obtain ⟨n, sr, hn⟩ := (hxe v (List.mem_of_getElem? hv)).srt (K := K)
    refine ⟨rfl, _, rfl, ?_⟩
    walk_at "dn"
    refine isi_is (m := "list") (Srt.same s2 sr) (by decide) ⟨_, rfl, ?_⟩
    by_cases en : n = "list"
    · rw [decide_eq_true en]
      refine ⟨_, rfl, zs, e2, by omega, same_upd s2 hG, zs ++ [v], upd_same, by rw [List.length_append]; show _ + 1 ≤ _; omega, fun z hz => ?_⟩
      rcases List.mem_append.mp hz with hz | hz
      · exact zp z hz
      · rw [List.mem_singleton.mp hz]; exact hn en
    · rw [decide_eq_false en]
      exact ⟨s2, zs, e2, by omega, zp⟩
  · obtain ⟨s2, zs, e2, zl, zp⟩ := pv
    have zp2 : ∀ z ∈ zs, ∃ b, z = .ref b ∧ b ≠ G ∧ LNew H0 H2 N b := fun z hz => by
      obtain ⟨b, e1, n, ys, h1, h2⟩ := zp z hz
      exact ⟨b, e1, ne_of_none h1 hG, n, ys, s2 _ _ h1, h2⟩
    refine ⟨G, rfl, ⟨_, SqL.of e2⟩, ?_⟩
    refine for_it walk_list (fun j σ H3 => Pr H0 H2 H3 ∧ Loose H0 H3 (N + j) dg mv ∧ H3 G = some (.lst zs) ∧ (∀ z ∈ zs, ∃ b, z = .ref b ∧ b ≠ G ∧ LNew H0 H3 (N + j) b) ∧ (∃ xs, H3 g = some (.lst xs) ∧ xs.length < N + j) ∧ ∃ v12, σ = sgT v0 v1 s v3 v4 v5 p.name p.st e d v10 u v12 v13 v14 v15 (some (.ref g)) v17 v18 v19 v20)
      ⟨Pr.same (Same.refl _), hL.same s2, e2, zp2, ⟨xs, s2 _ _ hx, hxl⟩, _, rfl⟩ (fun j σ H3 _ z => SqL.of z.2.2.1) (fun j v σ H3 H4 hj pv yy => ?_) (fun σ H3 pv => ?_)
    · obtain ⟨p3, l3, e3, zp3, ⟨gx, hg3, hgl⟩, v12, rfl⟩ := pv
      obtain ⟨rfl, hv⟩ := yy
      obtain ⟨b, rfl, nbG, nb, ys, hb, hbl⟩ := zp3 v (List.mem_of_getElem? hv)
      refine ⟨_, rfl, .inl ⟨rfl, _, SqL.of hb⟩, b, ys, _, rfl, rfl, hb, by omega, p3.trans (Pr.upd nb hb), l3.app nb hb hbl (.inr ⟨_, rfl⟩), by rw [upd_ne nbG.symm]; exact e3, fun z hz => ?_, ?_, _, rfl⟩
      · obtain ⟨c, e1, n1, n2⟩ := zp3 z hz
        exact ⟨c, e1, n1, n2.app hb hbl⟩
      · by_cases eg : g = b
        · subst eg
          exact ⟨_, upd_same, by rw [List.length_append]; show _ + 1 < _; omega⟩
        · exact ⟨gx, by rw [upd_ne eg]; exact hg3, by omega⟩
    · obtain ⟨p3, l3, e3, zp3, ⟨gx, hg3, hgl⟩, v12, rfl⟩ := pv
      refine ⟨_, rfl, .inl ⟨rfl, _, SqL.of hg3⟩, g, gx, _, rfl, rfl, hg3, by omega, q _ v12 ((Pr.same s2).trans (p3.trans (Pr.upd n0 hg3))) ?_⟩
      exact (l3.app n0 hg3 hgl (.inl rfl)).mono (by omega)
theorem sl7 (c : TC H0 H s e d p) (hm : p.mv.length ≤ 16) (nd : (mv.map (·.1)).Nodup) (pk : (mv.map (·.1)).Perm (p.mv.map (·.1))) (n0 : H0 dg = none) (hL : Loose H0 H 10 dg mv)
    (q : ∀ H' kvs v11 v12 v16, Pr H0 H H' → H' dg = some (.dT kvs) → D.nx (sgT v0 v1 s v3 v4 v5 p.name p.st e d (some (.ref dg)) v11 v12 v13 v14 v15 v16 v17 v18 v19 v20) H') :
    l7 K D (sgT v0 v1 s v3 v4 v5 p.name p.st e d (some (.ref dg)) v11 v12 v13 v14 v15 v16 v17 v18 v19 v20) H := by
  have line : sizeLine = 16777216 := sizeLine_eq
  obtain ⟨kvs, hd, hpv, ndv⟩ := c.mvs
  have hkl := Paired.length hpv
  obtain ⟨kvs0, hd0, _⟩ := id c.mv0
  have d0 : H0 d ≠ none := fun z => by rw [hd0] at z; cases z
  have ndd : dg ≠ d := fun z => by subst z; rw [hd0] at n0; cases n0
  refine ⟨d, _, hd, trivial, fun od => ⟨_, rfl, d, od, rfl, .inr ⟨kvs, upd_same, ?_⟩⟩⟩
  have lock : ∀ {N : Nat}, Loose H0 H N dg mv → Loose H0 (L2.upd H d (.frz od (.dT kvs))) N dg mv := fun {N} h => by
    obtain ⟨ks, h1, h2⟩ := h
    have off : ∀ {c : Addr} {xs : List V}, H c = some (.lst xs) → (L2.upd H d (.frz od (.dT kvs))) c = some (.lst xs) := fun {c xs} y => by rw [upd_ne (ne_of y hd (by intro z; cases z))]; exact y
    refine ⟨ks, by rw [upd_ne ndd]; exact h1, Paired.imp h2 fun x kv z => ?_⟩
    obtain ⟨e1, g, e2, n, xs, e3, e4, e5⟩ := z
    exact ⟨e1, g, e2, n, xs, off e3, e4, fun x hx => (e5 x hx).to (fun b xs y => by rw [upd_ne (ne_of y hd (by intro z; cases z))]; exact y) fun b ⟨n, ys, y1, y2⟩ => ⟨n, ys, off y1, y2⟩⟩
  refine for_it walk_keysT (fun i σ H1 => Pr H0 (L2.upd H d (.frz od (.dT kvs))) H1 ∧ Loose H0 H1 (10 * 2 ^ i) dg mv ∧ ∃ v11 v12 v16, σ = sgT v0 v1 s v3 v4 v5 p.name p.st e d (some (.ref dg)) v11 v12 v13 v14 v15 v16 v17 v18 v19 v20)
    ⟨Pr.same (Same.refl _), lock hL, _, _, _, rfl⟩ (fun i σ H1 _ z => z.1 _ _ upd_same (.inl d0)) (fun i x σ H1 H2 hi pv y => ?_) (fun σ H1 pv => ?_)
  · obtain ⟨p1, l1, v11, v12, v16, rfl⟩ := pv
    obtain ⟨rfl, kk, v, b, hk, rfl, hb⟩ := y
    obtain ⟨m, em, e1, _⟩ := Paired.at hpv hk
    have e1 : kk = [Sum.inr m.1.1, Sum.inr m.1.2] := e1
    subst e1
    obtain ⟨gk, g, g1, g2, g3⟩ := loose_get nd (m := m) (pk.mem_iff.mpr (List.mem_map.mpr ⟨m, List.mem_of_getElem? em, rfl⟩)) l1
    refine ⟨.ref dg, rfl, .ref b, rfl, dg, .ref g, rfl, .inr ⟨gk, [Sum.inr m.1.1, Sum.inr m.1.2], b, .inl g1, rfl, hb, g2.symm⟩, ?_⟩
    have hi16 : i < 16 := by omega
    have hpow : 2 ^ i ≤ 2 ^ 16 := Nat.pow_le_pow_right (by decide) (by omega)
    refine turn7 (N := 10 * 2 ^ i) (by omega) g3 l1 fun H3 v12 p3 l3 => ⟨p1.trans p3, ?_, _, _, _, rfl⟩
    rw [Nat.pow_succ]
    have : 2 * (10 * 2 ^ i) = 10 * (2 ^ i * 2) := by omega
    rw [← this]
    exact l3
  · obtain ⟨p1, l1, v11, v12, v16, rfl⟩ := pv
    refine ⟨p1 _ _ upd_same (.inl d0), ?_⟩
    obtain ⟨gk, g1, _⟩ := l1
    refine q _ gk v11 v12 v16 (fun c u z n => ?_) (by rw [upd_ne ndd]; exact g1)
    by_cases ec : c = d
    · subst ec
      rw [hd] at z
      cases Option.some.inj z
      exact upd_same
    · rw [upd_ne ec]
      exact p1 _ _ (by rw [upd_ne ec]; exact z) n
def l8 (K : PySem.W.Frag) : TS := tDrop (tBM0 K "dict" rClearT (tVar 10))
theorem sl8 {kvs : TK} (hd : H dg = some (.dT kvs)) (q : D.nx (sgT v0 v1 s v3 v4 v5 p.name p.st e d (some (.ref dg)) v11 v12 v13 v14 v15 v16 v17 v18 v19 v20) (L2.upd H dg (.dT []))) :
    l8 K D (sgT v0 v1 s v3 v4 v5 p.name p.st e d (some (.ref dg)) v11 v12 v13 v14 v15 v16 v17 v18 v19 v20) H :=
  ⟨_, rfl, .inr (.inr (.inl ⟨rfl, .inr ⟨_, hd⟩⟩)), dg, kvs, rfl, rfl, hd, q⟩
end
end
end Rs
set_option Elab.async false
set_option linter.all false
set_option maxRecDepth 100000
set_option maxHeartbeats 4000000
namespace Rs
open PySem PySem.Spec PyProof.Rows L2
local macro_rules | `(tactic| walk_at "rd") => `(tactic| simp only [L2.tRet, L2.tRetN, L2.tSeq, L2.tNext, L2.tIfS, L2.tAsg, L2.gName, L2.gNil, L2.gCons, L2.tVar, L2.tC, L2.tOp, L2.tUn, L2.tCB, L2.tCons, L2.tNil, L2.tAndV, L2.tOrV, L2.tNotV, L2.tAnd, L2.tOr, L2.tNot, L2.tB, L2.tTest, L2.tIf, L2.tChain, L2.tTup, L2.tLst, L2.tDrop, L2.tFld, L2.sFld, L2.tOst, L2.tBM, L2.rNe, L2.tMkO, L2.start, L2.cxOf, L2.Cx.nox, L2.Cx.wish, L2.rI0, L2.rI, L2.tYes, Rs.tCalW, List.getElem?_cons_zero, List.getElem?_cons_succ, Option.some.injEq, exists_eq_left', exists_eq_left, exists_and_left, List.cons.injEq, and_true, true_and, L2.V.bl.injEq, L2.V.int.injEq, L2.V.str.injEq, L2.V.ref.injEq, List.set_cons_zero, List.set_cons_succ, List.map_cons, List.map_nil, List.length_cons, List.length_nil, List.replicate, List.cons_append, List.nil_append, List.append_nil, Nat.reduceSub, Nat.reduceAdd])
local macro_rules | `(tactic| walk_at "dn") => `(tactic| dsimp only [L2.tCons, L2.tC, L2.tNil])
section
variable {P : Program} {w : World} {K : PySem.W.Frag} {mg : PySem.Str → Option Value} {base : Heap}
section
variable {H0 H H' : Hp} {s e d dg k k2 k3 : Addr} {p : Pl} {size : Int} {meths errs : List PySem.Str} {D : Ends} {v0 v1 v3 v4 v5 v10 v11 v12 v13 v14 v15 v16 v17 v18 v19 v20 : Option V}
theorem TC.rc {n : PySem.Str} (c : TC H0 H s e d p) (hk : KindAt K H k (kdN n p)) : RCtx K H k e d n p := ⟨hk, c.ends, c.mvs⟩
def l9 (K : PySem.W.Frag) : TS := tIfS (tOr (tNot (tB (tCalW (sp_right K) W0 (tCons (tVar 14) (tCons (tVar 6) (tCons (tVar 7) (tCons (tVar 8) (tCons (tVar 9) tNil)))))))) (tTest (tOp (rNeO K (kC K) (sp_eq K) E0) (tVar 14) (tVar 15)))) (tRet (tC (V.bl false))) tNext
theorem sl9 (c : TC H0 H s e d p) (ok : PlOk size meths errs p) (dr : DrawnOk meths errs) (hz : size ≤ 4) (hk : KindAt K H k (kdOf p)) (hk2 : KindAt K H k2 (kdOf p)) (q : ∀ H', Same H H' → D.nx (sgT v0 v1 s v3 v4 v5 p.name p.st e d v10 v11 v12 v13 (some (.ref k)) (some (.ref k2)) v16 v17 v18 v19 v20) H') :
    l9 K D (sgT v0 v1 s v3 v4 v5 p.name p.st e d v10 v11 v12 v13 (some (.ref k)) (some (.ref k2)) v16 v17 v18 v19 v20) H := by
  refine ⟨_, rfl, _, rfl, _, rfl, _, rfl, _, rfl, ?_⟩
  walk_at "dn"
  refine ⟨k, e, d, p.name, p, size, meths, errs, rfl, c.rc hk, ok, dr, hz, nm_tx ok.name, fun H1 s1 => ⟨_, rfl, ?_⟩⟩
  have hk1 := hk.same s1
  have hk21 := hk2.same s1
  obtain ⟨dx, ea, tb, ho, _⟩ := id hk1
  obtain ⟨dx2, ea2, tb2, ho2, _⟩ := id hk21
  have tx := kd_tx ok dr p.name
  refine ⟨_, rfl, _, rfl, k, dx, _, _, rfl, ho, .ins ho2, notFirst_self, k, kdOf p, .ref k2, kdB (kdOf p) (kdOf p), rfl, hk1, tx, .inr ⟨k2, kdOf p, rfl, hk21, tx, .inr rfl, rfl⟩, _, rfl, _, rfl, ?_⟩
  rw [kdB_self]
  exact q H1 s1
def l10 (K : PySem.W.Frag) : TS := tIfS (tNot (tB (tCalW (sp_unlike K) W0 (tCons (tVar 2) (tCons (tVar 14) (tCons (tVar 6) (tCons (tVar 7) (tCons (tVar 8) (tCons (tVar 9) tNil))))))))) (tRet (tC (V.bl false))) tNext
theorem sl10 (c : TC H0 H s e d p) (ok : PlOk size meths errs p) (dr : DrawnOk meths errs) (hz : size ≤ 4) (hk : KindAt K H k (kdOf p)) (q : ∀ H', Same H H' → D.nx (sgT v0 v1 s v3 v4 v5 p.name p.st e d v10 v11 v12 v13 (some (.ref k)) v15 v16 v17 v18 v19 v20) H') :
    l10 K D (sgT v0 v1 s v3 v4 v5 p.name p.st e d v10 v11 v12 v13 (some (.ref k)) v15 v16 v17 v18 v19 v20) H := by
  refine ⟨_, rfl, _, rfl, _, rfl, _, rfl, _, rfl, _, rfl, ?_⟩
  walk_at "dn"
  exact ⟨.ref s, k, e, d, p, size, meths, errs, rfl, c.rc hk, ok, dr, hz, fun H1 s1 => ⟨_, rfl, q H1 s1⟩⟩
def l11 (K : PySem.W.Frag) : TS := tDrop (tBM0 K "list" rClear (tMethW (kC K) "states" (sp_states K) W0 (tVar 14) tNil))
theorem sl11 (ok : PlOk size meths errs p) (dr : DrawnOk meths errs) (hz : size ≤ 4) (hk : KindAt K H k (kdOf p)) (q : ∀ H', Same H H' → D.nx (sgT v0 v1 s v3 v4 v5 p.name p.st e d v10 v11 v12 v13 (some (.ref k)) v15 v16 v17 v18 v19 v20) H') :
    l11 K D (sgT v0 v1 s v3 v4 v5 p.name p.st e d v10 v11 v12 v13 (some (.ref k)) v15 v16 v17 v18 v19 v20) H := by
  obtain ⟨dx, ea, tb, ho, _⟩ := id hk
  exact ⟨_, rfl, k, dx, _, rfl, ho, kflds_no (by decide), k, kdOf p, rfl, hk, st_len (n := p.name) ok dr hz, fun H1 l ys s1 hl e1 _ _ _ => ⟨.inl ⟨rfl, _, SqL.of e1⟩, l, _, rfl, rfl, e1, q _ (same_upd s1 hl)⟩⟩
def l12 (K : PySem.W.Frag) : TS := tDrop (tBM0 K "dict" rClearT (tMethW (kC K) "moves" (sp_moves K) W0 (tVar 14) tNil))
theorem sl12 (hk : KindAt K H k (kdOf p)) (q : ∀ H', Same H H' → D.nx (sgT v0 v1 s v3 v4 v5 p.name p.st e d v10 v11 v12 v13 (some (.ref k)) v15 v16 v17 v18 v19 v20) H') :
    l12 K D (sgT v0 v1 s v3 v4 v5 p.name p.st e d v10 v11 v12 v13 (some (.ref k)) v15 v16 v17 v18 v19 v20) H := by
  obtain ⟨dx, ea, tb, ho, _⟩ := id hk
  refine ⟨_, rfl, k, dx, _, rfl, ho, kflds_no (by decide), k, kdOf p, rfl, hk, fun H1 l s1 hl e1 => ?_⟩
  obtain ⟨kvs, e2, _⟩ := e1
  exact ⟨.inr (.inr (.inl ⟨rfl, .inr ⟨_, e2⟩⟩)), l, kvs, rfl, rfl, e2, q _ (same_upd s1 hl)⟩
def l13 (K : PySem.W.Frag) : TS := tDrop (tBM K "list" rAppend (tMethW (kC K) "methods" (sp_methods K) W0 (tVar 14) tNil) (tCons (tC (V.str "x")) tNil))
theorem sl13 (ok : PlOk size meths errs p) (dr : DrawnOk meths errs) (hz : size ≤ 4) (hk : KindAt K H k (kdOf p)) (q : ∀ H', Same H H' → D.nx (sgT v0 v1 s v3 v4 v5 p.name p.st e d v10 v11 v12 v13 (some (.ref k)) v15 v16 v17 v18 v19 v20) H') :
    l13 K D (sgT v0 v1 s v3 v4 v5 p.name p.st e d v10 v11 v12 v13 (some (.ref k)) v15 v16 v17 v18 v19 v20) H := by
  have line : sizeLine = 16777216 := sizeLine_eq
  obtain ⟨dx, ea, tb, ho, _⟩ := id hk
  obtain ⟨_, lm⟩ := pl_small ok dr hz
  have h3 : (kdOf p).tab.length = p.mv.length := sortTab_len p.mv
  have ml : (methodsOf (kdOf p)).length ≤ 16 := by
    rw [methodsOf, length_isort]
    have := uniq_len ((kdOf p).tab.map (·.1.2))
    rw [List.length_map] at this
    omega
  exact ⟨_, rfl, k, dx, _, rfl, ho, kflds_no (by decide), k, kdOf p, rfl, hk, by omega, fun H1 l s1 hl e1 => ⟨.inl ⟨rfl, _, SqL.of e1⟩, l, _, _, rfl, rfl, e1, by rw [List.length_map]; omega, q _ (same_upd s1 hl)⟩⟩
def l14 (K : PySem.W.Frag) : TS := tAsg (tMethW (kC K) "renamed" (sp_renamed K) W0 (tVar 14) (tCons (tC (V.str "other")) tNil)) (gName 18)
theorem other_nm : isName (.str "other") = true := by decide +kernel
theorem sl14 (ok : PlOk size meths errs p) (dr : DrawnOk meths errs) (hz : size ≤ 4) (hk : KindAt K H k (kdOf p)) (q : ∀ H' k3, Same H H' → KindAt K H' k3 (kdN "other" p) → D.nx (sgT v0 v1 s v3 v4 v5 p.name p.st e d v10 v11 v12 v13 (some (.ref k)) v15 v16 v17 (some (.ref k3)) v19 v20) H') :
    l14 K D (sgT v0 v1 s v3 v4 v5 p.name p.st e d v10 v11 v12 v13 (some (.ref k)) v15 v16 v17 v18 v19 v20) H := by
  obtain ⟨dx, ea, tb, ho, _⟩ := id hk
  refine ⟨_, rfl, k, dx, _, rfl, ho, kflds_no (by decide), k, kdOf p, .str "other", _, rfl, hk, kd_ok ok dr (by omega) p.name, srt_str _, (fun z e => by cases e; exact name_len other_nm), .inl ⟨"other", rfl, other_nm, fun H1 k3 s1 _ h => ?_⟩⟩
  refine q H1 k3 s1 ?_
  have := kd_again ok p.name "other"
  rw [← this]
  exact h
def l15 (K : PySem.W.Frag) : TS := tIfS (tOr (tNot (tB (tCalW (sp_right K) W0 (tCons (tVar 14) (tCons (tVar 6) (tCons (tVar 7) (tCons (tVar 8) (tCons (tVar 9) tNil)))))))) (tNot (tB (tCalW (sp_right K) W0 (tCons (tVar 18) (tCons (tC (V.str "other")) (tCons (tVar 7) (tCons (tVar 8) (tCons (tVar 9) tNil))))))))) (tRet (tC (V.bl false))) tNext
theorem sl15 (c : TC H0 H s e d p) (ok : PlOk size meths errs p) (dr : DrawnOk meths errs) (hz : size ≤ 4) (hk : KindAt K H k (kdOf p)) (hk3 : KindAt K H k3 (kdN "other" p)) (q : ∀ H', Same H H' → D.nx (sgT v0 v1 s v3 v4 v5 p.name p.st e d v10 v11 v12 v13 (some (.ref k)) v15 v16 v17 (some (.ref k3)) v19 v20) H') :
    l15 K D (sgT v0 v1 s v3 v4 v5 p.name p.st e d v10 v11 v12 v13 (some (.ref k)) v15 v16 v17 (some (.ref k3)) v19 v20) H := by
  refine ⟨_, rfl, _, rfl, _, rfl, _, rfl, _, rfl, ?_⟩
  walk_at "dn"
  refine ⟨k, e, d, p.name, p, size, meths, errs, rfl, c.rc hk, ok, dr, hz, nm_tx ok.name, fun H1 s1 => ⟨_, rfl, ?_⟩⟩
  refine ⟨_, rfl, _, rfl, _, rfl, _, rfl, ?_⟩
  walk_at "dn"
  exact ⟨k3, e, d, "other", p, size, meths, errs, rfl, (c.same s1).rc (hk3.same s1), ok, dr, hz, nm_tx other_nm, fun H2 s2 => ⟨_, rfl, q H2 (s1.trans s2)⟩⟩
def l16b (K : PySem.W.Frag) : TS := fun D σ H_1 =>
  tSeq (tDrop (tMethW (kC K) "renamed" (sp_renamed K) (wAs K (Value.ref (He.ga K "BadKind")) 20 (fun ea cls ed => tIfS (tTest (tOp rNe (tXf ea cls ed (He.ga K "BadKind") "part" (tVar 20)) (tC (V.str "name")))) (tRet (tC (V.bl false))) tNext) W0 D) (tVar 14) (tCons (tVar 19) tNil))) (tRet (tC (V.bl false))) D σ H_1
def l16 (K : PySem.W.Frag) : TS := tFor (iTup K (tTup (tCons (tC (V.str "")) (tCons (tC (V.str "Ab")) (tCons (tC (V.str "abcdefghi")) (tCons (tC V.non) (tCons (tC (V.int 5)) (tCons (tC (V.str "a b")) (tCons (tLst (tCons (tC (V.str "a")) tNil)) tNil))))))))) (gName 19) (l16b K)
theorem sl16 (T : Txt K mg) (ok : PlOk size meths errs p) (dr : DrawnOk meths errs) (hz : size ≤ 4) (hk : KindAt K H k (kdOf p)) (q : ∀ H' v19 v20, Same H H' → D.nx (sgT v0 v1 s v3 v4 v5 p.name p.st e d v10 v11 v12 v13 (some (.ref k)) v15 v16 v17 v18 v19 v20) H') :
    l16 K D (sgT v0 v1 s v3 v4 v5 p.name p.st e d v10 v11 v12 v13 (some (.ref k)) v15 v16 v17 v18 v19 v20) H := by
  have line : sizeLine = 16777216 := sizeLine_eq
  refine ⟨by show 1 ≤ sizeLine; omega, fun t1 h1 => ⟨by show 7 ≤ sizeLine; omega, fun t2 h2 => ?_⟩⟩
  have s1 := Same.new (o := .lst [V.str "a"]) h1
  have e1 : (L2.upd H t1 (.lst [V.str "a"])) t1 = some (.lst [V.str "a"]) := upd_same
  generalize L2.upd H t1 (.lst [V.str "a"]) = H1 at s1 e1 h2 ⊢
  have s2 := Same.new (o := .tup [V.str "", V.str "Ab", V.str "abcdefghi", V.non, V.int 5, V.str "a b", V.ref t1]) h2
  have e2 : (L2.upd H1 t2 (.tup [V.str "", V.str "Ab", V.str "abcdefghi", V.non, V.int 5, V.str "a b", V.ref t1])) t2 = some (.tup [V.str "", V.str "Ab", V.str "abcdefghi", V.non, V.int 5, V.str "a b", V.ref t1]) := upd_same
  generalize L2.upd H1 t2 (.tup [V.str "", V.str "Ab", V.str "abcdefghi", V.non, V.int 5, V.str "a b", V.ref t1]) = H2 at s2 e2 ⊢
  have odd : ∀ v ∈ [V.str "", V.str "Ab", V.str "abcdefghi", V.non, V.int 5, V.str "a b", V.ref t1], isName v = false ∧ StrOk v ∧ ∃ n, Srt K H2 v n := fun v hv => by
    have so : ∀ z : PySem.Str, z.length ≤ 100 → StrOk (.str z) := fun z h x e => by cases e; omega
    simp only [List.mem_cons, List.not_mem_nil, or_false] at hv
    rcases hv with rfl | rfl | rfl | rfl | rfl | rfl | rfl
    · exact ⟨by decide +kernel, so _ (by decide), _, srt_str _⟩
    · exact ⟨by decide +kernel, so _ (by decide), _, srt_str _⟩
    · exact ⟨by decide +kernel, so _ (by decide), _, srt_str _⟩
    · exact ⟨rfl, (fun z e => by cases e), _, srt_non⟩
    · exact ⟨rfl, (fun z e => by cases e), _, srt_int _⟩
    · exact ⟨by decide +kernel, so _ (by decide), _, srt_str _⟩
    · exact ⟨rfl, (fun z e => by cases e), _, srt_lst (s2 _ _ e1)⟩
  refine ⟨t2, rfl, ⟨_, SqT.of e2⟩, ?_⟩
  refine for_it walk_tup (fun i σ H3 => Same H2 H3 ∧ ∃ v19 v20, σ = sgT v0 v1 s v3 v4 v5 p.name p.st e d v10 v11 v12 v13 (some (.ref k)) v15 v16 v17 v18 v19 v20) ⟨Same.refl _, _, _, rfl⟩ (fun i σ H3 _ z => SqT.of (z.1 _ _ e2)) (fun i v σ H3 H4 hi pv yy => ?_) (fun σ H3 pv => ?_)
  · obtain ⟨s3, v19, v20, rfl⟩ := pv
    obtain ⟨rfl, hv⟩ := yy
    obtain ⟨hn, hso, n, sr⟩ := odd v (List.mem_of_getElem? hv)
    have hk3 := hk.same ((s1.trans s2).trans s3)
    obtain ⟨dx, ea, tb, ho, _⟩ := id hk3
    refine ⟨_, rfl, k, dx, _, rfl, ho, kflds_no (by decide), _, rfl, k, kdOf p, v, n, rfl, hk3, kd_ok ok dr (by omega) p.name, Srt.same s3 sr, hso, .inr ⟨hn, fun H5 s5 => ?_⟩⟩
    intro H6 dd s6 hd6 hx6
    refine ⟨true, T.exm_BadKind_BadKind, fun _ a ha => ?_, fun z => by cases z⟩
    exact ⟨_, rfl, rfl, rfl, dd, _, _, rfl, hx6, rfl, rfl, _, rfl, s3.trans (s5.trans s6), _, _, rfl⟩
  · obtain ⟨s3, v19, v20, rfl⟩ := pv
    exact q H3 v19 v20 ((s1.trans s2).trans s3)
end
end
end Rs
set_option Elab.async false
set_option linter.all false
set_option maxRecDepth 100000
set_option maxHeartbeats 4000000
namespace Rs
open PySem PySem.Spec PyProof.Rows L2
local macro_rules | `(tactic| walk_at "rd") => `(tactic| simp only [L2.tRet, L2.tRetN, L2.tSeq, L2.tNext, L2.tIfS, L2.tAsg, L2.gName, L2.gNil, L2.gCons, L2.tVar, L2.tC, L2.tOp, L2.tUn, L2.tCB, L2.tCons, L2.tNil, L2.tAndV, L2.tOrV, L2.tNotV, L2.tAnd, L2.tOr, L2.tNot, L2.tB, L2.tTest, L2.tIf, L2.tChain, L2.tTup, L2.tLst, L2.tDrop, L2.tFld, L2.sFld, L2.tOst, L2.tBM, L2.rNe, L2.tMkO, L2.start, L2.cxOf, L2.Cx.nox, L2.Cx.wish, L2.rI0, L2.rI, L2.tYes, Rs.tCalW, List.getElem?_cons_zero, List.getElem?_cons_succ, Option.some.injEq, exists_eq_left', exists_eq_left, exists_and_left, List.cons.injEq, and_true, true_and, L2.V.bl.injEq, L2.V.int.injEq, L2.V.str.injEq, L2.V.ref.injEq, List.set_cons_zero, List.set_cons_succ, List.map_cons, List.map_nil, List.length_cons, List.length_nil, List.replicate, List.cons_append, List.nil_append, List.append_nil, Nat.reduceSub, Nat.reduceAdd])
local macro_rules | `(tactic| walk_at "dn") => `(tactic| dsimp only [L2.tCons, L2.tC, L2.tNil])
section
variable {P : Program} {w : World} {K : PySem.W.Frag} {mg : PySem.Str → Option Value} {base : Heap}
def sp_law (K : PySem.W.Frag) : Sp := fun vs H Q _ => ∃ (a : Addr) (ns : List Int), vs = [.ref a] ∧ SqL K H a (ns.map V.int) ∧ ns.length ≤ 63 ∧ ∀ H', Q (.bl true) H'
theorem cells6 (ns : List Int) : cutV (ns.map V.int) none (some 6) ++ [V.int 0] = (ns.take 6 ++ [0]).map V.int := by
  rw [show (6 : Int) = ((6 : Nat) : Int) from rfl, cutV_take, ← List.map_take, List.map_append] <;> rfl
theorem ok_law (T : Txt K mg) {fd : FuncData} (F : FunD K "law" "law" (defArgs s_law) (defBody s_law) (defScope s_law) [] [] (He.ga K "law") fd) : FnOk P w K mg base (L2.CX P w) 12 (He.ga K "law") fd ["_law_script"] (sp_law K) := by
  have c_law_source := ok_source (P := P) (w := w) (base := base) T
  have c_law_draw := ok_draw (P := P) (w := w) (base := base) T
  have c_law_sorts := ok_sorts (P := P) (w := w) (base := base) T
  have c_law_turned := ok_turned (P := P) (w := w) (base := base) T
  have c_law_right := ok_right (P := P) (w := w) (base := base) T
  have c_law_unlike := ok_unlike (P := P) (w := w) (base := base) T
  have c_Kind := ok_kindA (P := P) (w := w) (base := base) T
  have c_states := ok_states (P := P) (w := w) (base := base) T
  have c_methods := ok_methods (P := P) (w := w) (base := base) T
  have c_moves := ok_moves (P := P) (w := w) (base := base) T
  have c_renamed := ok_renamed (P := P) (w := w) (base := base) T
  have c_eq := ok_eq (P := P) (w := w) (base := base) T
  refine F.ok sc_law (fun vs H Q E h => ?_) (fun cdv A outer s H vs Q E hr h => ?_)
  · obtain ⟨a, ns, rfl, _⟩ := h
    rfl
  · have hu := hu_of hr
    have hu2 : (A.deeper (envOfC "law" (defScope s_law) s.heap.objs.size (He.ga K "law") cdv)).units + 2 < cLine := by have := hr.un; omega
    have hne : NeC K (kC K) := ⟨T.ne_Kind, T.mro_Kind⟩
    refine ⟨_, PSs.nox (pss_cons (ps_for PassesOwn.never rfl (pi_list (pe_op op_cat (pe_slice (r := rSlL K) sl_list (pv 0) po_none (po_some pe_int)) (pe_lst (pa_cons pe_int pa_nil)))) (pg_name (i := 1) sc_law.nd rfl (Or.inl rfl))
      (pss_cons (ps_set (i := 2) sc_law.nd rfl (Or.inr rfl) (pe_cal c_law_source (hr.mono (by decide)) takes0 (pa_cons (pv 1) pa_nil)))
      (pss_cons (ps_asg (pe_cal c_law_sorts (hr.mono (by decide)) takes0 (pa_cons (pv 2) (pa_cons pe_int (pa_cons pe_int pa_nil)))) (pg_tup rfl (pgs_cons (pg_name (i := 3) sc_law.nd rfl (Or.inl rfl)) (pgs_cons (pg_name (i := 4) sc_law.nd rfl (Or.inl rfl)) (pgs_cons (pg_name (i := 5) sc_law.nd rfl (Or.inl rfl)) pgs_nil)))))
      (pss_one (ps_for PassesOwn.never rfl (pi_list (pv 3)) (pg_tup rfl (pgs_cons (pg_name (i := 6) sc_law.nd rfl (Or.inl rfl)) (pgs_cons (pg_name (i := 7) sc_law.nd rfl (Or.inl rfl)) (pgs_cons (pg_name (i := 8) sc_law.nd rfl (Or.inl rfl)) (pgs_cons (pg_name (i := 9) sc_law.nd rfl (Or.inr rfl)) pgs_nil)))))
      (pss_cons (ps_set (i := 10) sc_law.nd rfl (Or.inl rfl) pe_dnewT)
      (pss_cons (ps_for PassesOwn.never rfl (pi_list (pe_cal c_law_turned (hr.mono (by decide)) takes0 (pa_cons (pv 2) (pa_cons (pe_callTy (r := rListDT) (call_list_dT rfl) rfl T.b_list (by decide +kernel) (pa_cons (pv 9) pa_nil)) pa_nil)))) (pg_name (i := 11) sc_law.nd rfl (Or.inl rfl))
      (pss_one (ps_dput hu (pv 10) (pv 11) (pe_lc (own := [("_law_it", 12)]) (g := gName 12) (tt := tYes) rfl sc_law.nd (pi_list (pe_cal c_law_turned (hr.mono (by decide)) takes0 (pa_cons (pv 2) (pa_cons (pe_dgetC (pv 9) (pv 11) (fun _ _ => rfl) hu) pa_nil)))) (blkOk_by (own := [("_law_it", 12)]) (N := ["_law_script", "_law_cell", "_law_well", "_law_kinds", "_law_methods", "_law_errors", "_law_name", "_law_start", "_law_ends", "_law_moves", "_law_given", "_law_at", "_law_it", "_law_some", "_law_kind", "_law_again", "_law_known", "_law_one", "_law_other", "_law_odd", "e"]) (sc := defScope s_law) (by decide +kernel)) (fun _ _ _ _ _ => (pg_name (i := 12) sc_law.nd rfl (by first | exact Or.inl rfl | exact Or.inr rfl))) (fun _ _ _ _ _ => pts_nil) (fun _ _ _ _ _ => (pe_ix (r := rIxL K) ix_list (pe_lst (pa_cons (pe_callTy (r := rListOf K) call_listOf rfl T.b_list (by decide +kernel) (pa_cons (pv 12) pa_nil)) (pa_cons (pv 12) pa_nil))) (pe_cal c_law_draw (hr.mono (by decide)) takes0 (pa_cons (pv 2) (pa_cons pe_int pa_nil))) (fun _ _ => rfl)))) rfl)))
      (pss_cons (ps_set (i := 13) sc_law.nd rfl (Or.inl rfl) (pe_cal c_law_turned (hr.mono (by decide)) takes0 (pa_cons (pv 2) (pa_cons (pv 8) pa_nil))))
      (pss_cons (ps_set (i := 14) sc_law.nd rfl (Or.inl rfl) (pe_cali c_Kind (hr.mono (by decide)) takes0 (pa_cons (pv 6) (pa_cons (pv 7) (pa_cons (pv 13) (pa_cons (pv 10) pa_nil))))))
      (pss_cons (ps_set (i := 15) sc_law.nd rfl (Or.inl rfl) (pe_cali c_Kind (hr.mono (by decide)) takes0 (pa_cons (pv 6) (pa_cons (pv 7) (pa_cons (pe_callTy (r := rTupOf K) call_tupOf rfl T.b_tuple (by decide +kernel) (pa_cons (pv 8) pa_nil)) (pa_cons (pe_callTy (r := rDictT K) (call_dictT rfl hu2) rfl T.b_dict (by decide +kernel) (pa_cons (pe_lock (pe_lc (own := [("_law_at", 11)]) (g := gName 11) (tt := tYes) rfl sc_law.nd (pi_keys (pv 9)) (blkOk_by (own := [("_law_at", 11)]) (N := ["_law_script", "_law_cell", "_law_well", "_law_kinds", "_law_methods", "_law_errors", "_law_name", "_law_start", "_law_ends", "_law_moves", "_law_given", "_law_at", "_law_it", "_law_some", "_law_kind", "_law_again", "_law_known", "_law_one", "_law_other", "_law_odd", "e"]) (sc := defScope s_law) (by decide +kernel)) (fun _ _ _ _ _ => (pg_name (i := 11) sc_law.nd rfl (by first | exact Or.inl rfl | exact Or.inr rfl))) (fun _ _ _ _ _ => pts_nil) (fun _ _ _ _ _ => (pe_tup (pa_cons (pv 11) (pa_cons (pe_callTy (r := rTupOf K) call_tupOf rfl T.b_tuple (by decide +kernel) (pa_cons (pe_dgetC (pv 9) (pv 11) (fun _ _ => rfl) hu) pa_nil)) pa_nil)))))) pa_nil)) pa_nil))))))
      (pss_cons (ps_expr (pe_bm PySem.F.plainAttrs_list PySem.F.slot_list_append PySem.F.type_list_append mt_append (pv 13) (pa_cons pe_str pa_nil)))
      (pss_cons (ps_lock (ps_for PassesOwn.never rfl (pi_keys (pv 9)) (pg_name (i := 11) sc_law.nd rfl (Or.inl rfl))
      (pss_cons (ps_set (i := 16) sc_law.nd rfl (Or.inl rfl) (pe_dget hu (pv 10) (pv 11) (fun _ _ => rfl)))
      (pss_cons (ps_for PassesOwn.never rfl (pi_list (pe_lc (own := [("_law_one", 17)]) (g := gName 17) rfl sc_law.nd (pi_list (pv 16)) (blkOk_by (own := [("_law_one", 17)]) (N := ["_law_script", "_law_cell", "_law_well", "_law_kinds", "_law_methods", "_law_errors", "_law_name", "_law_start", "_law_ends", "_law_moves", "_law_given", "_law_at", "_law_it", "_law_some", "_law_kind", "_law_again", "_law_known", "_law_one", "_law_other", "_law_odd", "e"]) (sc := defScope s_law) (by decide +kernel)) (fun _ _ _ _ _ => (pg_name (i := 17) sc_law.nd rfl (by first | exact Or.inl rfl | exact Or.inr rfl))) (fun _ _ _ _ _ => (pts_one (pt_val (pe_callB (r := rIsi K) call_isi rfl T.b_isinstance (by decide +kernel) (pa_cons (pv 17) (pa_cons (pe_bltn (v := .ty "list") rfl T.b_list (by decide +kernel) rfl) pa_nil)))))) (fun _ _ _ _ _ => (pv 17)))) (pg_name (i := 12) sc_law.nd rfl (Or.inl rfl))
      (pss_one (ps_expr (pe_bm PySem.F.plainAttrs_list PySem.F.slot_list_append PySem.F.type_list_append mt_append (pv 12) (pa_cons pe_str pa_nil)))))
      (pss_one (ps_expr (pe_bm PySem.F.plainAttrs_list PySem.F.slot_list_append PySem.F.type_list_append mt_append (pv 16) (pa_cons pe_non pa_nil))))))))
      (pss_cons (ps_expr (pe_bm0 PySem.F.plainAttrs_dict PySem.F.slot_dict_clear PySem.F.type_dict_clear mt_clearT (pv 10)))
      (pss_cons (ps_if (PW.pt (pw_or (pt_not (pt_val (pe_cal c_law_right (hr.mono (by decide)) takes0 (pa_cons (pv 14) (pa_cons (pv 6) (pa_cons (pv 7) (pa_cons (pv 8) (pa_cons (pv 9) pa_nil)))))))) (pw_or1 (pt_cmpR (op_calne c_eq hne (hr.mono (by decide))) (pv 14) (pv 15) (nomark _))))) (pss_one (ps_ret pe_bl)) pss_nil)
      (pss_cons (ps_if (pt_not (pt_val (pe_cal c_law_unlike (hr.mono (by decide)) takes0 (pa_cons (pv 2) (pa_cons (pv 14) (pa_cons (pv 6) (pa_cons (pv 7) (pa_cons (pv 8) (pa_cons (pv 9) pa_nil))))))))) (pss_one (ps_ret pe_bl)) pss_nil)
      (pss_cons (ps_expr (pe_bm0 PySem.F.plainAttrs_list PySem.F.slot_list_clear PySem.F.type_list_clear mt_clear (pe_calm0 c_states T.cl_Kind (hr.mono (by decide)) takes0 (pv 14))))
      (pss_cons (ps_expr (pe_bm0 PySem.F.plainAttrs_dict PySem.F.slot_dict_clear PySem.F.type_dict_clear mt_clearT (pe_calm0 c_moves T.cl_Kind (hr.mono (by decide)) takes0 (pv 14))))
      (pss_cons (ps_expr (pe_bm PySem.F.plainAttrs_list PySem.F.slot_list_append PySem.F.type_list_append mt_append (pe_calm0 c_methods T.cl_Kind (hr.mono (by decide)) takes0 (pv 14)) (pa_cons pe_str pa_nil)))
      (pss_cons (ps_set (i := 18) sc_law.nd rfl (Or.inl rfl) (pe_calm c_renamed T.cl_Kind (hr.mono (by decide)) takes0 (pv 14) (pa_cons pe_str pa_nil)))
      (pss_cons (ps_if (PW.pt (pw_or (pt_not (pt_val (pe_cal c_law_right (hr.mono (by decide)) takes0 (pa_cons (pv 14) (pa_cons (pv 6) (pa_cons (pv 7) (pa_cons (pv 8) (pa_cons (pv 9) pa_nil)))))))) (pw_or1 (pt_not (pt_val (pe_cal c_law_right (hr.mono (by decide)) takes0 (pa_cons (pv 18) (pa_cons pe_str (pa_cons (pv 7) (pa_cons (pv 8) (pa_cons (pv 9) pa_nil))))))))))) (pss_one (ps_ret pe_bl)) pss_nil)
      (pss_one (ps_for PassesOwn.never rfl (pi_tup (pe_tup (pa_cons pe_str (pa_cons pe_str (pa_cons pe_str (pa_cons pe_non (pa_cons pe_int (pa_cons pe_str (pa_cons (pe_lst (pa_cons pe_str pa_nil)) pa_nil))))))))) (pg_name (i := 19) sc_law.nd rfl (Or.inl rfl))
      (pss_one (ps_try_as rfl rfl sc_law.nd (i := 20) rfl rfl ⟨rfl, by decide, .inl T.g_BadKind⟩ takes0 (fun W pn xe tk1 own1 => (pss_cons (ps_expr (pe_calm c_renamed T.cl_Kind (hr.mono (by decide)) tk1 (pv 14) (pa_cons (pv 19) pa_nil)))
      (pss_one (ps_ret pe_bl)))) (fun ea oe cls ed pn hz hf => (pss_one (ps_if (pt_cmpR op_ne (pe_xf (xf_ok T.exc_BadKind) T.no_BadKind_part hz hf (pv 20)) pe_str (nomark _)) (pss_one (ps_ret pe_bl)) pss_nil)))))))))))))))))))))))))))
      (pss_one (ps_ret pe_bl))), ?_⟩
    obtain ⟨a, ns, rfl, ha, hl, q⟩ := h
    have line : sizeLine = 16777216 := sizeLine_eq
    refine ⟨_, rfl, _, rfl, a, _, rfl, ha, fun t1 h1 => ⟨by show 1 ≤ sizeLine; omega, fun t2 h2 => ⟨t1, t2, _, _, rfl, rfl, Same.new h2 _ _ upd_same, upd_same, by have := cutV_length (ns.map V.int) none (some 6); simp at this ⊢; omega, fun L hL => ?_⟩⟩⟩
    rw [cells6]
    have hL1 : (L2.upd (L2.upd (L2.upd H t1 (.lst (cutV (ns.map V.int) none (some 6)))) t2 (.lst [V.int 0])) L (.lst ((ns.take 6 ++ [0]).map V.int))) L = some (.lst ((ns.take 6 ++ [0]).map V.int)) := upd_same
    generalize (L2.upd (L2.upd (L2.upd H t1 (.lst (cutV (ns.map V.int) none (some 6)))) t2 (.lst [V.int 0])) L (.lst ((ns.take 6 ++ [0]).map V.int))) = H1 at hL1 ⊢
    refine ⟨L, rfl, ⟨_, SqL.of hL1⟩, for_list (xs := (ns.take 6 ++ [0]).map V.int) (fun i σ H' => σ.length = 21 ∧ σ[0]? = some (some (.ref a)) ∧ H' L = some (.lst ((ns.take 6 ++ [0]).map V.int))) ⟨rfl, rfl, hL1⟩ (fun i σ H' _ pv => SqL.of pv.2.2) (fun i v σ H2 hv pv => ?_) (fun σ H2 pv => q _)⟩
    obtain ⟨hl21, h0, hL2⟩ := pv
    obtain ⟨u0, u1, u2, u3, u4, u5, u6, u7, u8, u9, u10, u11, u12, u13, u14, u15, u16, u17, u18, u19, u20, rfl⟩ : ∃ u0 u1 u2 u3 u4 u5 u6 u7 u8 u9 u10 u11 u12 u13 u14 u15 u16 u17 u18 u19 u20, σ = [u0, u1, u2, u3, u4, u5, u6, u7, u8, u9, u10, u11, u12, u13, u14, u15, u16, u17, u18, u19, u20] := by
      match σ, hl21 with
      | [u0, u1, u2, u3, u4, u5, u6, u7, u8, u9, u10, u11, u12, u13, u14, u15, u16, u17, u18, u19, u20], _ => exact ⟨_, _, _, _, _, _, _, _, _, _, _, _, _, _, _, _, _, _, _, _, _, rfl⟩
    have eu0 : u0 = some (.ref a) := by simpa using h0
    subst eu0
    rw [List.getElem?_map] at hv
    cases e : (ns.take 6 ++ [0])[i]? with
    | none => rw [e] at hv; cases hv
    | some c =>
      rw [e] at hv
      cases Option.some.inj hv
      refine ⟨_, rfl, c, rfl, fun s o hs ho => ?_⟩
      have nL : L ≠ s := ne_of_none hL2 hs
      have h3 : (L2.upd H2 s o) L = some (.lst ((ns.take 6 ++ [0]).map V.int)) := by rw [upd_ne nL]; exact hL2
      have hs3 : Src s (L2.upd H2 s o) := Src.upd ho
      generalize L2.upd H2 s o = H3 at h3 hs3 ⊢
      refine ⟨_, rfl, ?_⟩
      walk_at "dn"
      refine ⟨s, 2, 4, rfl, hs3, by decide, by decide, by decide, fun H4 t kL mL eL ts ps meths errs hpl hpn hpo dr sx4 hs4 so => ?_⟩
      have h4L := sx4 _ _ nL h3
      refine ⟨t, _, rfl, SqT.of so.tup, rfl, _, _, rfl, _, _, rfl, _, _, rfl, rfl, ?_⟩
      have ets := Paired.length so.pls
      refine ⟨_, rfl, kL, rfl, ⟨_, SqL.of so.kinds⟩, for_it walk_lm (fun i σ H' => SameX s H4 H' ∧ Src s H' ∧ ∃ v6 v7 v8 v9 v10 v11 v12 v13 v14 v15 v16 v17 v18 v19 v20, σ = [some (.ref a), some (.int c), some (.ref s), some (.ref kL), some (.ref mL), some (.ref eL), v6, v7, v8, v9, v10, v11, v12, v13, v14, v15, v16, v17, v18, v19, v20])
        ⟨SameX.of (Same.refl _), hs4, _, _, _, _, _, _, _, _, _, _, _, _, _, _, _, rfl⟩ (fun i σ H' _ pv => SqL.of (pv.1 _ _ (rows_ne hs4 so.kinds) so.kinds)) (fun i y σ H5 H6 hi pv yy => ?_) (fun σ H5 pv => ?_)⟩
      · obtain ⟨sx5, hs5, v6, v7, v8, v9, v10, v11, v12, v13, v14, v15, v16, v17, v18, v19, v20, rfl⟩ := pv
        obtain ⟨rfl, hy⟩ := yy
        obtain ⟨tp, htp⟩ : ∃ tp, ts[i]? = some tp := ⟨_, List.getElem?_eq_getElem hi⟩
        rw [List.getElem?_map, htp] at hy
        cases Option.some.inj hy
        obtain ⟨pl, hplm, plt⟩ := Paired.at so.pls htp
        have ok := hpo pl (List.mem_of_getElem? hplm)
        obtain ⟨eA, dA, pa⟩ := plt.keep hs4 sx5
        have hz : (4 : Int) ≤ 4 := by decide
        obtain ⟨le, lm⟩ := pl_small ok dr hz
        have nd := ok.mvs.nd
        refine ⟨tp, _, rfl, SqT.of pa.tup, rfl, _, _, rfl, _, _, rfl, _, _, rfl, _, _, rfl, rfl, ?_⟩
        have c6 : TC H6 H6 s eA dA pl := ⟨SameX.of (Same.refl _), hs5, hs5, pa.mvs, pa.ends⟩
        refine fun dg hdg => ?_
        have c7 := c6.same (Same.new (o := .dT []) hdg)
        refine sl2 c7 ok (by omega) upd_same hdg fun H8 mv' w11 w12 c8 g8 pm => ?_
        refine sl3 c8 (by omega) g8 fun H9 sA ends c9 g9 nA eA9 pe => ?_
        refine sl4 c9 ok dr hz g9 pm eA9 pe fun H10 k s10 hk10 => ?_
        have c10 := c9.same s10
        have g10 := g9.same s10
        obtain ⟨kv10, hd10, _⟩ := id g10
        refine sl5 c10 ok dr hz hd10 fun H11 k2 s11 hk11 => ?_
        have c11 := c10.same s11
        have g11 := g10.same s11
        have eA11 := s11 _ _ (s10 _ _ eA9)
        have el := pe.length_eq
        refine sl6 nA eA11 (by rw [List.length_map]; omega) fun p12 => ?_
        have lo := (loose_of ok pm g11).app nA eA11 (by rw [List.length_map]; omega) (.inr ⟨"behind", rfl⟩)
        have c12 := c11.pr p12
        have hk12 := (hk10.same s11).pr p12
        have hk12' := hk11.pr p12
        generalize L2.upd H11 sA (.lst (ends.map V.str ++ [V.str "behind"])) = H12 at p12 lo c12 hk12 hk12'
        refine sl7 c12 lm (pm.keys.nodup_iff.mpr nd) pm.keys hdg lo fun H13 kv13 x11 x12 x16 p13 hd13 => ?_
        have c13 := c12.pr p13
        refine sl8 hd13 ?_
        have hk14 := (hk12.pr p13).clear (kvs' := []) hd13
        have hk14' := (hk12'.pr p13).clear (kvs' := []) hd13
        have c14 : TC H6 (L2.upd H13 dg (.dT [])) s eA dA pl := by
          refine ⟨fun x u n z => by rw [upd_ne (ne_of_none z hdg)]; exact c13.sx _ _ n z, ?_, c13.src0, c13.mv0, c13.en0⟩
          obtain ⟨a1, a2, a3, a4⟩ := c13.src
          exact ⟨a1, a2, a3, by rw [upd_ne (ne_of a4 hd13 (by intro z; cases z))]; exact a4⟩
        generalize L2.upd H13 dg (.dT []) = H14 at c14 hk14 hk14'
        refine sl9 c14 ok dr hz hk14.at hk14'.at fun H15 s15 => ?_
        have c15 := c14.same s15
        have k15 := hk14.at.same s15
        refine sl10 c15 ok dr hz k15 fun H16 s16 => ?_
        refine sl11 ok dr hz (k15.same s16) fun H17 s17 => ?_
        have s57 := s16.trans s17
        refine sl12 (k15.same s57) fun H18 s18 => ?_
        have s58 := s57.trans s18
        refine sl13 ok dr hz (k15.same s58) fun H19 s19 => ?_
        have s59 := s58.trans s19
        refine sl14 ok dr hz (k15.same s59) fun H20 k3 s20 hk3 => ?_
        have s60 := s59.trans s20
        refine sl15 (c15.same s60) ok dr hz (k15.same s60) hk3 fun H21 s21 => ?_
        have s61 := s60.trans s21
        refine sl16 T ok dr hz (k15.same s61) fun H22 y19 y20 s22 => ?_
        have c22 := c15.same (s61.trans s22)
        exact ⟨sx5.trans c22.sx, c22.src, _, _, _, _, _, _, _, _, _, _, _, _, _, _, _, rfl⟩
      · obtain ⟨sx5, hs5, v6, v7, v8, v9, v10, v11, v12, v13, v14, v15, v16, v17, v18, v19, v20, rfl⟩ := pv
        exact ⟨rfl, rfl, sx5 _ _ nL h4L⟩
end
end Rs
set_option Elab.async false
set_option linter.all false
set_option maxRecDepth 100000
set_option maxHeartbeats 0
namespace Rs
open PySem PySem.Spec PyProof.Rows L2
theorem runT (w : World) : HandSHeadRun.RunEq RT (PySem.W.view RT.prog [lawAt]) hkT obT 20000 looseT w := by
  intro os
  kernel_rfl
end Rs
set_option Elab.async false
set_option linter.all false
set_option maxRecDepth 100000
set_option maxHeartbeats 0
namespace Rs
open PySem PySem.Spec PyProof.Rows L2
theorem facts {P : Program} {w : World} {K : PySem.W.Frag} {h : Heap} {mg : PySem.Str → Option Value} {f : Addr} (X : K.In h) (G : h.Ns mainGlobals mg) (hfa : mg ("law" : PySem.Str) = some (.ref f)) (c : SaysR faT fnT K) :
    ∃ fd : FuncData, (∀ (s : Shared) (v : Value), BindsTo s fd ⟨[v], []⟩ [("_law_script", v)]) ∧ ∀ base : Heap, K.In base → base.Ns mainGlobals mg → FnOk P w K mg base (L2.CX P w) 12 f fd ["_law_script"] (sp_law K) := by
  have T : Txt K mg := ⟨c, h, X, G⟩
  obtain ⟨fd, F⟩ := T.d_law
  have e := hfa.symm.trans T.g_law
  cases e
  have b := FunD.bindsA (ps := ["_law_script"]) F fun _ _ _ _ _ _ us hl => match us, hl with | [_], _ => rfl
  exact ⟨fd, fun s v => b s [v] rfl, fun base _ _ => ok_law T F⟩
/-- the walk's end, where what is raised is told by the world, too -/
theorem walk_endW {l : PySem.W.OpenLaw} {m lev : Nat} {vw : Program} {ls : List PySem.Str} {A1 : (PySem.Str → Option Value) → Heap → Prop} {A2 : World → Heap → Prop} {dr : DefRec} {arg : PySem.Str} {SP : PySem.W.Frag → Sp}
    (most : l.most = some m) (small : m ≤ sizeLine) (nod : dr.params.defaults = []) (room : Room lev callerA)
    (meets : ∀ (K : PySem.W.Frag) (H : Hp) (b : Addr) (is : List Int), is.length ≤ m → SqL K H b (is.map V.int) → SP K [.ref b] H (fun v _ => v = .bl true) fun _ _ _ => False)
    (F : ∀ (w : World) (g : PySem.Str → Option Value) (b : Addr) (hp : Heap), A2 w hp → hp.Ns mainGlobals g → g dr.name = some (.ref b) →
      ∃ (K : PySem.W.Frag) (fd : FuncData), K.In hp ∧ (∀ (s : Shared) (u : Value), BindsTo s fd ⟨[u], []⟩ [(arg, u)]) ∧ ∀ bs : Heap, K.In bs → bs.Ns mainGlobals g → FnOk l.prog w K g bs (L2.CX l.prog w) lev b fd [arg] (SP K)) :
    PySem.W.WalkO vw ls A1 A2 l.row.toRowW dr [] (fun c us => PySem.call c us) := by
  refine Att.attach_call most nod ?_
  intro w s0 s1 g mb b o pm cd doc ad us is G Y _ _ _ hg hobj hints hlen hgd
  obtain ⟨K, fd, KX, hb, hF⟩ := F w g b _ Y G.T.g hg
  refine law_call KX G.T.g G.T.b G.T.builtins G.T.nolimit hgd hobj hints (Nat.le_trans hlen small) room hF hb (fun H _ hS => meets K H ad is hlen hS) ?_
  rintro H e s' ⟨_, _, _, _, _, _, _, _, _, _, _, _, z⟩
  exact z
end Rs
open PySem PySem.W PySem.Calls PyProof.Rows
set_option maxRecDepth 100000 in
set_option maxHeartbeats 0 in
theorem PySem.Challenge.cw_rightstate_k01_kinds_told_holds : PySem.Challenge.rw_rightstate_k01_kinds_told.Holds := by
  w_on; o_law
  refine HandSHeadRun.head_any (r := OpenLaw.row PySem.Challenge.rw_rightstate_k01_kinds_told) (q := view (OpenLaw.row PySem.Challenge.rw_rightstate_k01_kinds_told).prog [Rs.lawAt]) (H := Rs.hkT) (ob := Rs.obT) (M := 20000) (loose := Rs.looseT) (d := HandSHeadRun.topDef (OpenLaw.row PySem.Challenge.rw_rightstate_k01_kinds_told).prog Rs.lawAt) (kwd := []) Rs.obT_eq
    (by kernel_rfl) (fun s => by kernel_rfl) Rs.runT (by kernel_rfl) (by kernel_rfl) (by kernel_rfl) (by rfl) (by first | assumption | decide +kernel) (by decide +kernel) ⟨rfl, rfl, rfl, rfl, rfl, by decide +kernel⟩ ?hw ?hc
  case hw => w_witness2
  case hc =>
    refine Rs.walk_endW (l := PySem.Challenge.rw_rightstate_k01_kinds_told) (m := 63) (lev := 12) (arg := "_law_script") (SP := Rs.sp_law) rfl (by decide) (by kernel_rfl) ⟨rfl, by decide, by decide⟩ (fun K H b is hl hS => ⟨b, is, rfl, hS, hl, fun _ => rfl⟩) ?F
    intro w mg fa h Y G hmg0
    obtain ⟨K, KX, c⟩ := Y
    have hmg : mg ("law" : PySem.Str) = some (.ref fa) := by
      have e : (HandSHeadRun.topDef (OpenLaw.row PySem.Challenge.rw_rightstate_k01_kinds_told).prog Rs.lawAt).name = ("law" : PySem.Str) := by kernel_rfl
      rw [← e]
      exact hmg0
    obtain ⟨fd, hb, hF⟩ := Rs.facts (P := (PySem.Challenge.rw_rightstate_k01_kinds_told).prog) (w := w) KX G hmg c
    exact ⟨K, fd, KX, hb, hF⟩
