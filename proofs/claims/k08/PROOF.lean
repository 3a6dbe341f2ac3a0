import PyProof.Rows.All
import Wide.All
import OpenK.AllK
import Wide.FinOn
import KE.KTupSum
import HandS.ForMost
import HandS.Wide
import HandS.Style
import HandS.Gcd
import KE.KMathG
import Flt.RightSqrt
import HandS.SlotsOwn
import HandS.IsInst
import KE.KOpsOwn
import KE.KCallOwn
import KE.KOwnIter
import OpenK.KMeth
import OpenK.KOps
import PyProof.InstNe
import HandS.OwnIter
import HandS.IterNext
import HandS.Defaults
import HandS.HeadHook2
import HandS.HeadNt
import HandS.Iter
import KE.GoesMore
import HandS.Codes
import HandS.Words
import HandS.Slots
import HandS.ClsMeth
import PyProof.ListIndex
import HandS.List
import HandS.AnyAll
import HandS.ExcOwn
import KE.KDictIter
import PyProof.GenCompT
import HandS.HeadHook4
import HandS.HeadWalk
import HandS.Conv
import HandS.Star
import HandS.TupAny
import HandS.Zip
import HandS.Evl
import HandS.WordsExc
import HandS.Head0
import HandS.Head1
import HandS.Head2
import HandS.Head3
import HandS.HeadEnd
import HandS.HeadHook1
import HandS.HeadHook3
import HandS.FStr
import KE.KEqSeq
import HandS.TupMul
import PySem.Challenge.RW_sourceforms_k08_whole_powers_and_factors

set_option Elab.async false
set_option linter.all false
set_option maxRecDepth 100000
set_option maxHeartbeats 4000000
/-! rules of mine: a tuple turned round by a slice, the sum of a tuple -/
namespace MyR
open PySem PySem.Spec PyProof.Rows L2 HT
section
variable {prog : Program} {w : World} {A : Around} {E : Value → Shared → Prop} {s : Shared}
end
section
variable {X : Cx}
/-- // by any int other than 0 -/
def CDivZ (_ j : Int) : Prop := j ≠ 0 ∧ j.natAbs.log2 < 9000
theorem op_fdivZ : OpR X (binaryOp .FloorDiv) (rI CDivZ fun i j => .int (i.fdiv j)) := opI fun i j _ _ _ _ _ hc q =>
  floordiv_int hc.1 q (.inl (PyProof.noPylong_of_log2 hc.2))
end
end MyR

set_option Elab.async false
set_option linter.all false
set_option maxRecDepth 100000
set_option maxHeartbeats 2000000
/-! rules for instances with slots: own +, -, *, unary -, ==, !=, len, str -/
namespace OwnR
open PySem PySem.Spec PyProof.Rows L2 SlX
section
variable {X : Cx} {CX : CXT} {C g : Addr} {n : Nat} {sp : Sp} {E : XK}
/-- x op i, x an instance of the class at C, i an int -/
def rBinI (C : Addr) (sp : Sp) (E : XK) : R2 := fun x y H Q => ∃ a dx vs i, x = .ref a ∧ y = .int i ∧ Slt H a C dx vs ∧ sp [x, y] H Q E
theorem op_binI {op : Operator} {fo ro rc : Option Value} (hc : PySem.W.selfFirst X.K C = true) (hs : PySem.W.findIn X.K (.ref C) (PySem.dunder op.info.2) = some (some (.ref g))) (hf : PySem.W.isFn X.K (.ref g) = true)
    (hr1 : PySem.W.findIn X.K (.ref C) (dunderR op.info.2) = some rc) (hp : rc = none ∨ ∃ g' : Addr, rc = some (.ref g'))
    (h1 : PySem.W.findIn X.K (.type "int") (PySem.dunder op.info.2) = some fo) (h2 : PySem.W.findIn X.K (.type "int") (dunderR op.info.2) = some ro) (hsub : PySem.W.subIn X.K (.type "int") (.ref C) = some false)
    (F : FnR X.prog X.w X.K X.mg X.base CX n g sp) (hr : Room n X.A) (hx : Passes CX X E) : OpR X (binaryOp op) (rBinI C sp E) := by
  intro pins s σ H x y v u Q I rx ry h
  obtain ⟨a, dx, vs, i, rfl, rfl, ha, q⟩ := h
  cases (show v = Value.ref a from rx)
  obtain ⟨t, rfl⟩ := (show ∃ t, u = Value.int i t from ry)
  obtain ⟨sl, od, _, J, _⟩ := slt_inst I ha
  obtain ⟨m, hF⟩ := I.fr
  refine PySem.W.ksp_binT (T := "int") hF I.ok.mod.kin J rfl hc hs hf hr1 hp h1 h2 hsub ?_
  refine wpAny_mono (wpAny_call (run_fnR (us := [.ref a, .int i t]) (vs := [.ref a, .int i]) F hr hx I (.cons rfl (.cons ⟨t, rfl⟩ .nil)) q)) (fun w s' z => ?_) fun _ _ x => x
  obtain ⟨z', H', I', rz, qz⟩ := z
  exact cmpback rz ⟨z', H', I', rz, qz⟩
/-- the right operand of a comparison: a value of a plain type, or an instance -/
inductive RT (X : Cx) (H : Hp) : V → Value → Prop where
  | plain {x : V} {T : String} (t : TyB X.K H x T) : RT X H x (.type T)
  | inst {b C' dy : Addr} {ws : List (Option V)} (h : Slt H b C' dy ws) : RT X H (.ref b) (.ref C')
theorem rt_looks {pins : List (Addr × Obj)} {σ : L2.St} {H : Hp} {s : Shared} {y : V} {u tb : Value} (I : Inv X pins σ H s) (ry : RelV y u) (t : RT X H y tb) : PySem.W.Looks (model X.prog X.w) s.heap (typeOf u) tb := by
  cases t with
  | plain t =>
    have e := t.is I ry
    cases u with
    | ref b =>
      obtain ⟨o, h1, h2⟩ := (show ∃ o, s.heap.get? b = some o ∧ o.cls = .type _ from e)
      rw [← h2]
      exact (PySem.W.Looks.ld (part := none) h1).andThen .now
    | _ => exact PySem.W.Looks.of_pure e
  | inst h =>
    cases (show u = Value.ref _ from ry)
    obtain ⟨sl, od, _, J, _⟩ := slt_inst I h
    exact J.type
/-- x == y, x an instance of the class at C with its own __eq__ at g -/
def rEqO (X : Cx) (C : Addr) (sp : Sp) (E : XK) : R2 := fun x y H Q => ∃ a dx vs tb, x = .ref a ∧ Slt H a C dx vs ∧ RT X H y tb ∧ PySem.W.notFirst X.K C tb = true ∧ sp [x, y] H Q E
theorem op_eqO (hs : PySem.W.findIn X.K (.ref C) "__eq__" = some (some (.ref g))) (hf : PySem.W.isFn X.K (.ref g) = true) (F : FnR X.prog X.w X.K X.mg X.base CX n g sp)
    (hr : Room n X.A) (hx : Passes CX X E) : OpR X (compareOp .Eq) (rEqO X C sp E) := by
  intro pins s σ H x y v u Q I rx ry h
  obtain ⟨a, dx, vs, tb, rfl, ha, ht, hn, q⟩ := h
  cases (show v = Value.ref a from rx)
  obtain ⟨sl, od, _, J, _⟩ := slt_inst I ha
  obtain ⟨m, hF⟩ := I.fr
  show wpAny _ _ (richCompare .Eq (.ref a) u) _ _ _
  refine PySem.W.cmp_K (op := .Eq) (tb := tb) hr.units0 hF I.ok.mod.kin J (rt_looks I ry ht) hn hs hf ?_
  refine wpAny_mono (wpAny_call (run_fnR (us := [.ref a, u]) (vs := [.ref a, y]) F hr hx I (.cons rfl (.cons ry .nil)) q)) (fun w s' z => ?_) fun _ _ x => x
  obtain ⟨z', H', I', rz, qz⟩ := z
  exact cmpback rz ⟨z', H', I', rz, qz⟩
end
end OwnR

set_option Elab.async false
set_option linter.all false
set_option maxRecDepth 100000
set_option maxHeartbeats 2000000
/-! list(x) of an instance with own __iter__ (an iterator over a tuple) and own __len__; iter of a tuple -/
namespace OwnR
open PySem PySem.Spec PyProof.Rows L2 SlX
/-- at it an iterator over the tuple at t, the next place is i -/
def ItT (t it : Addr) (i : Nat) : HO := .ext fun h => IsTupIter h it t i
section
variable {X : Cx} {CX : CXT} {pins : List (Addr × Obj)} {σ : L2.St} {H : Hp} {s : Shared} {C g gl t it q : Addr} {n i : Nat} {sp spl : Sp} {E : XK}
/-- what stands while the iterator's items are taken -/
structure Tk (K : PySem.W.Frag) (H0 H : Hp) (t it q : Addr) (ys : List V) (i : Nat) : Prop where
  at_ : H it = some (ItT t it i)
  tu : SqT K H t ys
  li : H q = some (.lst (ys.take i))
  st : ∀ b o, b ≠ it → b ≠ q → H0 b = some o → H b = some o
theorem slt_upd {a dx q : Addr} {vs : List (Option V)} {o : HO} (h : Slt H a C dx vs) (n : H q = none) : Slt (upd H q o) a C dx vs := by
  rcases h with ⟨h1, h2⟩ | ⟨h1, h2⟩
  · exact .inl ⟨by rw [upd_ne (ne_of_none h1 n)]; exact h1, h2⟩
  · exact .inr ⟨by rw [upd_ne (ne_of_none h1 n)]; exact h1, by rw [upd_ne (ne_of_none h2 n)]; exact h2⟩
end
end OwnR

set_option Elab.async false
set_option linter.all false
set_option maxRecDepth 100000
set_option maxHeartbeats 2000000
/-! a Hook that tells of defs found anywhere (a global, a class's method, a property's getter), and of classes with slots -/
namespace HookG
open PySem PySem.Spec PyProof.Rows L2 He
/-- the property f of the class at C -/
def prA (K : PySem.W.Frag) (C : Addr) (f : Str) : Addr := match PySem.W.recIn K (ma K C f) "property" with
  | some (.ref g :: _) => g
  | _ => 0
/-- where a def stands: a global; a method; a property's getter; a classmethod -/
inductive At where
  | glo (x : Str)
  | met (C m : Str)
  | prp (C f : Str)
  | cms (C m : Str)
def At.adr (K : PySem.W.Frag) : At → Addr
  | .glo x => ga K x
  | .met C m => ma K (ga K C) m
  | .prp C f => prA K (ga K C) f
  | .cms C m => He5.wf K (ga K C) "classmethod" m
structure GD where
  at_ : At
  name : Str
  qual : Str
  params : Arguments
  body : List Stmt
  scope : Scope
def fnA (K : PySem.W.Frag) (a : Addr) : FnW := match K.lookup a with
  | some ⟨_, _, .func fd, _⟩ => some (fd.name, fd.qualname, fd.params, fd.body, fd.scope, fd.globals, fd.closure, fd.builtins)
  | _ => none
def GD.val (d : GD) : FnW := some (d.name, d.qual, d.params, .stmts d.body, d.scope, mainGlobals, [], builtinsNs)
def GD.ok (K : PySem.W.Frag) (d : GD) : Bool := PySem.W.keepIn K (.ref (d.at_.adr K)) && (match K.lookup (d.at_.adr K) with
  | some ⟨_, _, .func fd, _⟩ => PySem.W.codeIn K fd.code d.qual && (dflB K fd.defaults [] && kwdB K fd.kwdefaults [])
  | _ => false)
theorem GD.funD {K : PySem.W.Frag} {d : GD} (e : fnA K (d.at_.adr K) = d.val) (c : d.ok K = true) : ∃ fd, FunD K d.name d.qual d.params d.body d.scope [] [] (d.at_.adr K) fd := by
  obtain ⟨kp, c2⟩ := ba c
  unfold fnA at e
  cases q : K.lookup (d.at_.adr K) with
  | none => rw [q] at c2; cases c2
  | some o =>
    obtain ⟨oc, od, dt, osl⟩ := o
    rw [q] at c2 e
    cases dt with
    | func fd =>
      obtain ⟨n1, n2, n3, n4, n5, n6, n7, n8, n9, n10, n11, n12, n13, n14, n15⟩ := fd
      have e2 : (some (n1, n2, n3, n4, n5, n6, n7, n15) : FnW) = some (d.name, d.qual, d.params, .stmts d.body, d.scope, mainGlobals, [], builtinsNs) := e
      simp only [Option.some.injEq, Prod.mk.injEq] at e2
      obtain ⟨h1, h2, h3, h4, h5, h6, h7, h8⟩ := e2
      subst h1 h2 h3 h4 h5 h6 h7 h8
      have c3 : (PySem.W.codeIn K n13 d.qual && (dflB K n8 [] && kwdB K n9 [])) = true := c2
      obtain ⟨k1, k2⟩ := ba c3
      obtain ⟨k3, k4⟩ := ba k2
      exact ⟨_, ⟨oc, od, n8, n9, n10, n11, n12, n13, n14, osl, rfl, q, k1, dflB_ok k3, kwdB_ok k4⟩, kp⟩
    | _ => cases c2
/-! ### facts of classes with slots -/
def dO {α : Type} [DecidableEq α] (a b : Option α) : Bool := decide (a = b)
theorem dO_ok {α : Type} [DecidableEq α] {a b : Option α} (h : dO a b = true) : a = b := of_decide_eq_true h
/-- the class at the module's name x: plain, with slots -/
def sclB (K : PySem.W.Frag) (x : Str) : Bool := PySem.W.plainGet K (ga K x) Str.empty && (PySem.W.isClsIn K (ga K x) && (PySem.W.plainOver K (ga K x) && eqO (PySem.W.findIn K (.ref (ga K x)) "__setattr__") (some (some (.builtin "object.__setattr__")))))
theorem sclB_ok {K : PySem.W.Frag} {x : Str} (h : sclB K x = true) : SlX.SCls K (ga K x) := by
  obtain ⟨c1, c⟩ := ba h
  obtain ⟨c2, c⟩ := ba c
  obtain ⟨c3, c4⟩ := ba c
  exact ⟨c1, c2, c3, eqO_ok c4⟩
def slotB (K : PySem.W.Frag) (x f : Str) (i : Nat) : Bool := eqO (PySem.W.findIn K (.ref (ga K x)) f) (some (some (.ref (ma K (ga K x) f)))) && (eqO (PySem.W.specialIn K (.ref (ma K (ga K x) f)) "__get__") (some (some (.builtin "member_descriptor.__get__"))) && (dO (PySem.W.takesIn K (.ref (ma K (ga K x) f))) (some true) && (dO (PySem.W.typeIn K (.ref (ma K (ga K x) f))) (some (.type "member_descriptor")) && dO (PySem.W.slotIn K (ma K (ga K x) f) (ga K x)) (some i))))
theorem slotB_ok {K : PySem.W.Frag} {x f : Str} {i : Nat} (h : slotB K x f i = true) (hi : i < 1000) : SlX.Slot1 K (ga K x) f (ma K (ga K x) f) i := by
  obtain ⟨c1, c⟩ := ba h
  obtain ⟨c2, c⟩ := ba c
  obtain ⟨c3, c⟩ := ba c
  obtain ⟨c4, c5⟩ := ba c
  exact ⟨eqO_ok c1, eqO_ok c2, dO_ok c3, dO_ok c4, dO_ok c5, hi⟩
def sisB (K : PySem.W.Frag) (x : Str) : Bool := eqO (PySem.W.findIn K (.ref (ga K x)) "__class__") (some (some (.builtin "object.__class__"))) && (eqO (PySem.W.specialIn K (.builtin "object.__class__") "__get__") (some (some (.builtin "getset_descriptor.__get__"))) && (dO (PySem.W.takesIn K (.builtin "object.__class__")) (some true) && dO (PySem.W.mroIn K (ga K x) (.type "object")) (some true)))
theorem sisB_ok {K : PySem.W.Frag} {x : Str} (h : sisB K x = true) : SlX.SIsi K (ga K x) := by
  obtain ⟨c1, c⟩ := ba h
  obtain ⟨c2, c⟩ := ba c
  obtain ⟨c3, c4⟩ := ba c
  exact ⟨eqO_ok c1, eqO_ok c2, dO_ok c3, dO_ok c4⟩
/-- a method: found in the class, a function -/
structure Mt (K : PySem.W.Frag) (C : Addr) (m : Str) (g : Addr) : Prop where
  at_ : PySem.W.findIn K (.ref C) m = some (some (.ref g))
  fn : PySem.W.isFn K (.ref g) = true
def mtB (K : PySem.W.Frag) (x m : Str) : Bool := eqO (PySem.W.findIn K (.ref (ga K x)) m) (some (some (.ref (ma K (ga K x) m)))) && PySem.W.isFn K (.ref (ma K (ga K x) m))
theorem mtB_ok {K : PySem.W.Frag} {x m : Str} (h : mtB K x m = true) : Mt K (ga K x) m (ma K (ga K x) m) := by
  obtain ⟨c1, c2⟩ := ba h
  exact ⟨eqO_ok c1, c2⟩
/-- a property, its getter at g -/
structure Pr (K : PySem.W.Frag) (C : Addr) (f : Str) (p g : Addr) : Prop where
  at_ : PySem.W.findIn K (.ref C) f = some (some (.ref p))
  get : PySem.W.specialIn K (.ref p) "__get__" = some (some (.builtin "property.__get__"))
  tk : PySem.W.takesIn K (.ref p) = some true
  rc : ∃ rest, PySem.W.recIn K p "property" = some (.ref g :: rest)
def recB (K : PySem.W.Frag) (p g : Addr) : Bool := match PySem.W.recIn K p "property" with
  | some (.ref a :: _) => decide (a = g)
  | _ => false
def prB (K : PySem.W.Frag) (x f : Str) : Bool := eqO (PySem.W.findIn K (.ref (ga K x)) f) (some (some (.ref (ma K (ga K x) f)))) && (eqO (PySem.W.specialIn K (.ref (ma K (ga K x) f)) "__get__") (some (some (.builtin "property.__get__"))) && (dO (PySem.W.takesIn K (.ref (ma K (ga K x) f))) (some true) && recB K (ma K (ga K x) f) (prA K (ga K x) f)))
theorem prB_ok {K : PySem.W.Frag} {x f : Str} (h : prB K x f = true) : Pr K (ga K x) f (ma K (ga K x) f) (prA K (ga K x) f) := by
  obtain ⟨c1, c⟩ := ba h
  obtain ⟨c2, c⟩ := ba c
  obtain ⟨c3, c4⟩ := ba c
  refine ⟨eqO_ok c1, eqO_ok c2, dO_ok c3, ?_⟩
  unfold recB at c4
  cases q : PySem.W.recIn K (ma K (ga K x) f) "property" with
  | none => rw [q] at c4; cases c4
  | some l =>
    rw [q] at c4
    cases l with
    | nil => cases c4
    | cons a r =>
      cases a with
      | ref b =>
        have e : b = prA K (ga K x) f := of_decide_eq_true c4
        rw [← e]
        exact ⟨r, rfl⟩
      | _ => cases c4
/-! ### the Hook -/
abbrev AlG : Type := Bool × List FnW
def obsG (fa : List Fa) (fn : List GD) (ex : PySem.W.Frag → Bool) (K : PySem.W.Frag) : AlG := ((fa.all fun f => f.ok K) && ((fn.all fun d => d.ok K) && ex K), fn.map fun d => fnA K (d.at_.adr K))
def valG (fn : List GD) : AlG := (true, fn.map GD.val)
def SaysG (fa : List Fa) (fn : List GD) (ex : PySem.W.Frag → Bool) (K : PySem.W.Frag) : Prop := obsG fa fn ex K = valG fn
section
variable {fa : List Fa} {fn : List GD} {ex : PySem.W.Frag → Bool} {K : PySem.W.Frag}
theorem SaysG.all (c : SaysG fa fn ex K) : ((fa.all fun f => f.ok K) && ((fn.all fun d => d.ok K) && ex K)) = true := congrArg (fun z : AlG => z.1) c
theorem SaysG.fact (c : SaysG fa fn ex K) (i : Nat) {f : Fa} (h : fa[i]? = some f := by rfl) : f.ok K = true := List.all_eq_true.mp (ba c.all).1 f (List.mem_of_getElem? h)
theorem SaysG.more (c : SaysG fa fn ex K) : ex K = true := (ba (ba c.all).2).2
theorem SaysG.def_ (c : SaysG fa fn ex K) (i : Nat) {d : GD} (h : fn[i]? = some d := by rfl) : ∃ fd, FunD K d.name d.qual d.params d.body d.scope [] [] (d.at_.adr K) fd := by
  have c2 := (ba (ba c.all).2).1
  have e : fn.map (fun d => fnA K (d.at_.adr K)) = fn.map GD.val := congrArg (fun z : AlG => z.2) c
  have e2 : (fn.map fun d => fnA K (d.at_.adr K))[i]? = (fn.map GD.val)[i]? := by rw [e]
  rw [List.getElem?_map, List.getElem?_map, h] at e2
  exact GD.funD (Option.some.inj e2) (List.all_eq_true.mp c2 d (List.mem_of_getElem? h))
end
end HookG

set_option Elab.async false
set_option linter.all false
set_option maxRecDepth 100000
set_option maxHeartbeats 2000000
/-! HookG's Hook over a lesser fragment: what the globals name, what is named by that, and so on; a function names its code and its defaults only -/
namespace HookG
open PySem PySem.Spec PyProof.Rows L2 He
def refsW (o : Obj) : List Addr := match o.data with
  | .func fd => refV fd.code ++ refV fd.defaults ++ refV fd.kwdefaults
  | _ => refsD o
def nxtW (g : Addr → Option Obj) (as : List Addr) : List Addr := as.flatMap fun a => match g a with
  | some o => refsW o
  | none => []
def levW (g : Addr → Option Obj) : Nat → List Addr → List Addr
  | 0, as => as
  | n + 1, as => as ++ levW g n (nxtW g as)
def asW (g : Addr → Option Obj) (n : Nat) : List Addr := levW g n [mainGlobals] ++ [cStatics]
end HookG

set_option Elab.async false
set_option linter.all false
set_option maxRecDepth 100000
set_option maxHeartbeats 2000000
/-! enumerate(t), t a tuple -/
namespace EnumT
open PySem PySem.Spec PyProof.Rows L2
open AutoSeq1 (wpAny_loadPart')
theorem meets_newT (l : Addr) (items : Array Value) (n : Nat) (dct : Option Addr) (sl : Array (Option Value)) :
    Meets (Builtin.«enumerate.__new__» ⟨[.type "enumerate", .ref l], []⟩) (fun _ R s => s.heap.get? l = some { cls := .type "tuple", dict := dct, data := .seq items n, slots := sl } ∧
      R (.ok (.ret (.ref (s.heap.push { cls := .type "tuple_iterator", data := .fields #[.ref l, .int 0 0] }).objs.size)))
        { s with heap := (s.heap.push { cls := .type "tuple_iterator", data := .fields #[.ref l, .int 0 0] }).push { cls := .type "enumerate", data := .fields #[.none, .bool false, .ref s.heap.objs.size, rawInt 0, .none, .none] } }) :=
  .of_wp fun prog w A R s h => by
    obtain ⟨hp, g, d, tk, os⟩ := s; obtain ⟨hl, h⟩ := h
    have hsub := sub_enumerate
    have hL : Heap.IsTuple (Shared.heap ⟨hp, g, d, tk, os⟩) l items := ⟨_, hl, rfl, n, rfl⟩
    wp_walk using wpAny_loadPart' hl
    refine wpAny_stack_any fun st => wpAny_pure ?_
    split
    · rename_i c _ _ _ _ _
      cases (c == Value.type "enumerate")
      · wp_walk using wpAny_loadPart' hl, wpAny_pyIter_tuple hL
        exact ⟨_, rfl, h⟩
      · wp_walk using wpAny_loadPart' hl, wpAny_pyIter_tuple hL
        exact ⟨_, rfl, h⟩
    · wp_walk using wpAny_loadPart' hl, wpAny_pyIter_tuple hL
      exact ⟨_, rfl, h⟩
section
variable {prog : Program} {w : World} {A : Around} {E : Value → Shared → Prop} {s : Shared}
theorem call_enumT {l : Addr} {items : Array Value} {Q : Value → Shared → Prop} (hL : s.heap.IsTuple l items)
    (h : ∀ h', IsEnum h' (s.heap.objs.size + 1) s.heap.objs.size 0 .none → h'.IsTupleIter s.heap.objs.size l 0 → h'.objs.size = s.heap.objs.size + 2 →
      (∀ b o, s.heap.get? b = some o → h'.get? b = some o) → Q (.ref (s.heap.objs.size + 1)) { s with heap := h' }) :
    wpAny (model prog w) A (call (.type "enumerate") [.ref l]) Q E s := by
  obtain ⟨⟨c, dct, dt, sl⟩, hl, hc, n, hd⟩ := hL
  replace hc : c = .type "tuple" := hc
  replace hd : dt = .seq items n := hd
  subst hc hd
  refine callType_new F.called_enumerate (by decide) (F.typeCall_enumerate_1 _) (F.newCall_enumerate_1 _) (fun obj => F.args_object_init_2 obj _) F.entry_enumerate_new
    (meets_newT l items n dct sl) ⟨hl, ?_⟩
  have hz : (s.heap.push { cls := .type "tuple_iterator", data := .fields #[.ref l, .int 0 0] }).objs.size = s.heap.objs.size + 1 := Heap.size_push ..
  show _ ∧ _
  rw [hz]
  have he : IsEnum ((s.heap.push { cls := .type "tuple_iterator", data := .fields #[.ref l, .int 0 0] }).push
      { cls := .type "enumerate", data := .fields #[.none, .bool false, .ref s.heap.objs.size, rawInt 0, .none, .none] }) (s.heap.objs.size + 1) s.heap.objs.size 0 .none := by
    have := Heap.get?_push_size (s.heap.push { cls := .type "tuple_iterator", data := .fields #[.ref l, .int 0 0] })
      (o := { cls := .type "enumerate", data := .fields #[.none, .bool false, .ref s.heap.objs.size, rawInt 0, .none, .none] }) rfl
    rw [hz] at this; exact this
  refine ⟨⟨_, he, rfl⟩, h _ he ⟨_, Heap.get?_push_of_some _ (Heap.get?_push_size _ rfl), rfl, rfl⟩ (by rw [Heap.size_push, hz]) fun b o x => Heap.get?_push_of_some _ (Heap.get?_push_of_some _ x)⟩
end
/-- the tuple at a, each item in a new pair -/
def IteT (K : PySem.W.Frag) (a : Addr) : It :=
  ⟨fun i H => ∃ (xs : List V) (x : V), SqT K H a xs ∧ xs[i]? = some x, fun i H v H' => ∃ T x, v = .ref T ∧ H T = none ∧ H' = upd H T (.tup [.int (i : Nat), x]) ∧ ∀ xs, SqT K H a xs → xs[i]? = some x, fun i H => ∃ xs : List V, SqT K H a xs ∧ xs.length = i⟩
theorem turn_enumT {P : Program} {w : World} {K : PySem.W.Frag} {elts : List Expr} {kk : Nat} {tpos : Pos} (a e it : Addr) (hait : a ≠ it) (hae : a ≠ e) :
    Turn P w K (.Tuple elts kk tpos) (IteT K a) [e, it] e (fun i h => (∃ old, IsEnum h e it ((i : Nat) : Int) old) ∧ h.IsTupleIter it a i ∧ e ≠ it) where
  mem := by simp
  obj := fun i h st b hb => by
    obtain ⟨⟨old, he⟩, ⟨o, ho, hc, hd⟩, _⟩ := st
    have e' : b = e ∨ b = it := by simpa using hb
    rcases e' with z | z
    · rw [z]; exact ⟨_, he, fun v q => nomatch q⟩
    · rw [z]; exact ⟨o, ho, fun v q => by rw [hd] at q; cases q⟩
  keep := fun i h h' st k => let ⟨⟨old, he⟩, hi, hne⟩ := st; ⟨⟨old, k e (by simp) _ he⟩, hi.at fun o q => k it (by simp) o q, hne⟩
  item := by
    intro X hP hw hK hc i pins s σ H E I hf st hg
    subst hP hw hK
    obtain ⟨⟨old, he⟩, hit, hne⟩ := st
    obtain ⟨xs, x, hq, hx⟩ := hg
    obtain ⟨its, rv, p, hz⟩ := I.tuple hq
    obtain ⟨u, hu, ru⟩ := rv.get hx
    have hel : e < s.heap.objs.size := Heap.lt_size he
    have hil : it < s.heap.objs.size := by obtain ⟨_, q, _⟩ := hit; exact Heap.lt_size q
    have pT : s.heap.IsTuple a its.toArray := p
    have hlt : i < its.toArray.size := by
      have := (List.getElem?_eq_some_iff.mp hu).1
      simpa using this
    refine wpAny_pyNext_enum_itemD (Draws.tuple (A := X.A.in1) (I.ok.hd hc) it a hait its.toArray) he ⟨hit, pT⟩ hlt hne (by simp [Ne.symm hae, hne]) fun x' h' tk hx' ho hit' hT hsz hk => ?_
    have hux : x' = u := by
      have h1 : its[i]? = some x' := by simpa using hx'
      rw [hu] at h1
      exact (Option.some.inj h1).symm
    subst hux
    refine ⟨_, rfl, wpAny_letOwnedTupleGo_enum (s := { s with heap := h', toks := tk + 1 }) ho fun h'' he' sb => ?_⟩
    have hT2 : h''.get? s.heap.objs.size = some { cls := .type "tuple", data := .seq #[.int i tk, x'] } := (sb.2 _ (Nat.ne_of_gt hel)).trans hT
    have new : ObjOk X.prog X.w (upd H s.heap.objs.size (.tup [.int (i : Nat), x])) h'' s.heap.objs.size (.tup [.int (i : Nat), x]) :=
      ⟨by show 2 ≤ sizeLine; decide, [.int i tk, x'], .cons ⟨_, rfl⟩ (.cons ru .nil), ⟨_, hT2, rfl, _, rfl⟩⟩
    have I1 : Inv X pins σ (upd H s.heap.objs.size (.tup [.int (i : Nat), x])) { s with heap := h'', toks := tk + 1 } :=
      I.turnedNew (ch := [e, it]) (fun b ob hb q => (sb.2 b (fun z => hb (by simp [z]))).trans (hk b ob (fun z => hb (by simp [z])) (fun z => hb (by simp [z])) q)) hf (Nat.le_refl _) new
    refine ⟨.ref s.heap.objs.size, _, I1, rfl, ⟨_, x, rfl, I.hok.fresh (Nat.le_refl _), rfl, fun ys hy => ?_⟩, ⟨⟨x', ?_⟩, hit'.1.at fun o q => (sb.2 it (Ne.symm hne)).trans q, hne⟩, fun b hb => ?_⟩
    · rw [show ys = xs from I.tuple_inj hy hq]
      exact hx
    · have e1 : ((i + 1 : Nat) : Int) = (i : Int) + 1 := by omega
      rw [e1]; exact he'
    · have hb' : b < s.heap.objs.size := by
        have e' : b = e ∨ b = it := by simpa using hb
        rcases e' with z | z
        · rw [z]; exact hel
        · rw [z]; exact hil
      rw [upd_ne (Nat.ne_of_lt hb')]
      exact (hf b hb).1
  done := by
    intro X hP hw hK hc i pins s σ H E I hf st hg
    subst hP hw hK
    obtain ⟨⟨old, he⟩, hit, hne⟩ := st
    obtain ⟨xs, hq, hx⟩ := hg
    obtain ⟨its, rv, p, hz⟩ := I.tuple hq
    obtain ⟨f0, f1, f2, f3, f4, f5⟩ := hf it (by simp)
    have hl := rv.length
    have hz2 : i = its.toArray.size := by rw [List.size_toArray]; omega
    subst hz2
    exact wpAny_pyNext_enum_endD (Draws.tuple (A := X.A.in1) (I.ok.hd hc) it a hait its.toArray) he ⟨hit, show s.heap.IsTuple a its.toArray from p⟩ fun h' eb => ⟨rfl, I.turned (t' := s.toks) (fun b o hb q => eb b o hb q) f0 f1 f3 f4 f5⟩
  self := fun A i s Q E st h => let ⟨⟨_, he⟩, _⟩ := st; wpAny_pyIter_enum he h
def iEnumT (K : PySem.W.Frag) (ta : TA) : TI := fun σ H R => ta σ H fun vs H1 => ∃ a xs, vs = [.ref a] ∧ SqT K H1 a xs ∧ R (IteT K a) H1
theorem pi_enumT {X : Cx} {e : Expr} {ta : TA} {p pos tpos : Pos} {elts : List Expr} {kk : Nat} (hg : Gl X "enumerate") (hm : X.mg "enumerate" = none) (ha : PA X [e] ta) (hs : starEach [e] X.env = [(false, eval e X.env)] := by rfl) :
    PI X (.Tuple elts kk tpos) (.Call (.Name "enumerate" p) [e] [] pos) (iEnumT X.K ta) := by
  refine ⟨fun pins s σ H R I h => ?_⟩
  refine Call_ (ld_blt I hg hm boot_enumerate (PyProof.Rows.callWith_type1 (thn (ha.run pos pins s σ H _ I h) fun us s1 ⟨vs, H1, I1, r1, q1⟩ => ?_) hs rfl))
  obtain ⟨a, xs, ex, hq, q⟩ := q1
  subst ex
  cases r1 with
  | cons r rr =>
    cases rr
    cases r
    obtain ⟨its, rv, p', hz⟩ := I1.tuple hq
    have hlt : a < s1.heap.objs.size := by obtain ⟨_, ho, _⟩ := p'; exact Heap.lt_size ho
    refine call_enumT (show s1.heap.IsTuple a its.toArray from p') fun h' he hit hsz hk => wpAny_pyIter_enum he ?_
    have I2 : Inv X pins σ H1 { s1 with heap := h' } := I1.kept (t' := s1.toks) hk
    refine ⟨s1.heap.objs.size + 1, [s1.heap.objs.size + 1, s1.heap.objs.size], _, _, H1, rfl, I2, turn_enumT a (s1.heap.objs.size + 1) s1.heap.objs.size (Nat.ne_of_lt hlt) (Nat.ne_of_lt (Nat.lt_succ_of_lt hlt)), ⟨⟨.none, he⟩, hit, Nat.succ_ne_self _⟩, fun b hb => ?_, q⟩
    have e' : b = s1.heap.objs.size + 1 ∨ b = s1.heap.objs.size := by simpa using hb
    have hle : s1.heap.objs.size ≤ b := by
      rcases e' with z | z
      · rw [z]; exact Nat.le_add_right _ _
      · rw [z]; exact Nat.le_refl _
    exact I1.fpOk hle (I1.hok.fresh hle)
/-- a loop over enumerate of a tuple -/
theorem for_enumT {K : PySem.W.Frag} {a : Addr} {xs : List V} {g : TG} {tb : TS} {D : Ends} {σ : L2.St} {H : Hp} (Pv : Nat → L2.St → Hp → Prop) (h0 : Pv 0 σ H) (hq : ∀ i σ H, Pv i σ H → SqT K H a xs)
    (hs : ∀ (i : Nat) (x : V) (T : Addr) (σ : L2.St) (H : Hp), xs[i]? = some x → Pv i σ H → H T = none → g (.ref T) σ (upd H T (.tup [.int (i : Nat), x])) fun σ2 H2 => tb { D with nx := Pv (i + 1), ct := Pv (i + 1), bk := D.nx } σ2 H2) (hd : ∀ σ H, Pv xs.length σ H → D.nx σ H) :
    ∃ W : Nat → Nat → L2.St → Hp → Prop, (∃ m, W 0 m σ H) ∧ ∀ i m σ H, W i m σ H →
      ((IteT K a).stop i H ∧ D.nx σ H) ∨ ((IteT K a).go i H ∧ ∃ N : L2.St → Hp → Prop, (∀ σ' H', N σ' H' → ∃ m', m' < m ∧ W (i + 1) m' σ' H') ∧ ∀ v H', (IteT K a).yld i H v H' → g v σ H' fun σ2 H2 => tb { D with nx := N, ct := N, bk := D.nx } σ2 H2) := by
  refine ⟨fun i m σ H => m = xs.length - i ∧ i ≤ xs.length ∧ Pv i σ H, ⟨xs.length, rfl, Nat.zero_le _, h0⟩, ?_⟩
  rintro i m σ H ⟨rfl, hi, p⟩
  have qx := hq i σ H p
  by_cases hlt : i < xs.length
  · have hx : xs[i]? = some xs[i] := List.getElem?_eq_getElem hlt
    refine .inr ⟨⟨xs, _, qx, hx⟩, Pv (i + 1), fun σ' H' p' => ⟨xs.length - (i + 1), by omega, rfl, hlt, p'⟩, fun v H' y => ?_⟩
    obtain ⟨T, x', rfl, hT, rfl, f1⟩ := y
    exact hs i x' T σ H (f1 xs qx) p hT
  · have e : i = xs.length := by omega
    subst e
    exact .inl ⟨⟨xs, qx, rfl⟩, hd σ H p⟩
end EnumT

set_option Elab.async false
set_option linter.all false
set_option maxRecDepth 100000
set_option maxHeartbeats 2000000
/-! the rules of OwnR, OwnL, over the facts of HookG -/
namespace OwnF
open PySem PySem.Spec PyProof.Rows L2 He SlX OwnR HookG
/-- what is asked of a class with slots -/
structure OC (K : PySem.W.Frag) (C : Addr) : Prop where
  scl : SCls K C
  sis : SIsi K C
  first : PySem.W.selfFirst K C = true
  ne : PySem.W.findIn K (.ref C) "__ne__" = some (some (.builtin "object.__ne__"))
  ntup : PySem.W.notFirst K C (.type "tuple") = true
  rmul : PySem.W.findIn K (.ref C) "__rmul__" = some none
  imul : PySem.W.findIn K (.type "int") "__mul__" = some (some (.builtin "int.__mul__"))
  irmul : PySem.W.findIn K (.type "int") "__rmul__" = some (some (.builtin "int.__rmul__"))
  isub : PySem.W.subIn K (.type "int") (.ref C) = some false
  kself : PySem.W.kitOne K (.ref C) (.ref C) = some true
  ktup : PySem.W.kitOne K (.type "tuple") (.ref C) = some false
  kint : PySem.W.kitOne K (.type "int") (.ref C) = some false
def ocB (K : PySem.W.Frag) (x : Str) : Bool := sclB K x && (sisB K x && (PySem.W.selfFirst K (ga K x) && (eqO (PySem.W.findIn K (.ref (ga K x)) "__ne__") (some (some (.builtin "object.__ne__"))) && (PySem.W.notFirst K (ga K x) (.type "tuple") && (eqO (PySem.W.findIn K (.ref (ga K x)) "__rmul__") (some none) && (eqO (PySem.W.findIn K (.type "int") "__mul__") (some (some (.builtin "int.__mul__"))) && (eqO (PySem.W.findIn K (.type "int") "__rmul__") (some (some (.builtin "int.__rmul__"))) && (dO (PySem.W.subIn K (.type "int") (.ref (ga K x))) (some false) && (dO (PySem.W.kitOne K (.ref (ga K x)) (.ref (ga K x))) (some true) && (dO (PySem.W.kitOne K (.type "tuple") (.ref (ga K x))) (some false) && dO (PySem.W.kitOne K (.type "int") (.ref (ga K x))) (some false)))))))))))
theorem ocB_ok {K : PySem.W.Frag} {x : Str} (h : ocB K x = true) : OC K (ga K x) := by
  obtain ⟨c1, c⟩ := ba h
  obtain ⟨c2, c⟩ := ba c
  obtain ⟨c3, c⟩ := ba c
  obtain ⟨c4, c⟩ := ba c
  obtain ⟨c5, c⟩ := ba c
  obtain ⟨c6, c⟩ := ba c
  obtain ⟨c7, c⟩ := ba c
  obtain ⟨c8, c⟩ := ba c
  obtain ⟨c9, c⟩ := ba c
  obtain ⟨c10, c⟩ := ba c
  obtain ⟨c11, c12⟩ := ba c
  exact ⟨sclB_ok c1, sisB_ok c2, c3, eqO_ok c4, c5, eqO_ok c6, eqO_ok c7, eqO_ok c8, dO_ok c9, dO_ok c10, dO_ok c11, dO_ok c12⟩
theorem raw0 {P : Program} {w : World} {K : PySem.W.Frag} {mg : Str → Option Value} {base : Heap} {CX : CXT} {k : Nat} {f : Addr} {sp : Sp} {fd : FuncData} {ps : List Str} (F : FnOk P w K mg base CX k f fd ps sp) (hb : Binds K fd ps []) : FnR P w K mg base CX k f sp :=
  (F.raw hb .nil).imp fun vs H Q E h => by rw [List.append_nil]; exact h
section
variable {X : Cx} {C g gl pp : Addr} {n : Nat} {sp spl : Sp} {fd fdl : FuncData} {ps psl : List Str} {f : Str} {e : Expr} {pos : Pos} {ta : TE}
theorem hx0 : ∀ (H : Hp) (s : Shared) (e : Value) (s' : Shared), CX0 X.stack H s E0 e s' → False := fun _ _ _ _ h => h
theorem pe_prp (he : PE X e ta) (c : OC X.K C) (p : Pr X.K C f pp g) (F : FnOk X.prog X.w X.K X.mg X.base CX0 n g fd ps sp) (hb : Binds X.K fd ps []) (hr : Room (n + 1) X.A) (hb2 : attributeBase e f X.env (eval e X.env) = eval e X.env := by rfl) : PE X (.Attribute e f pos) (tPropSl C sp E0 ta) :=
  pe_propSl he c.scl p.at_ p.get p.tk p.rc (raw0 F hb) hr hx0 hb2
theorem op_mulOI (c : OC X.K C) (m : Mt X.K C "__mul__" g) (F : FnOk X.prog X.w X.K X.mg X.base CX0 n g fd ps sp) (hb : Binds X.K fd ps []) (hr : Room n X.A) : OpR X (binaryOp .Mult) (rBinI C sp E0) :=
  op_binI c.first ((show PySem.dunder (Operator.info .Mult).2 = ("__mul__" : Str) by decide +kernel) ▸ m.at_) m.fn ((show dunderR (Operator.info .Mult).2 = ("__rmul__" : Str) by decide +kernel) ▸ c.rmul) (.inl rfl)
    ((show PySem.dunder (Operator.info .Mult).2 = ("__mul__" : Str) by decide +kernel) ▸ c.imul) ((show dunderR (Operator.info .Mult).2 = ("__rmul__" : Str) by decide +kernel) ▸ c.irmul) c.isub (raw0 F hb) hr pass0
theorem op_eqF (m : Mt X.K C "__eq__" g) (F : FnOk X.prog X.w X.K X.mg X.base CX0 n g fd ps sp) (hb : Binds X.K fd ps []) (hr : Room n X.A) : OpR X (compareOp .Eq) (rEqO X C sp E0) := op_eqO m.at_ m.fn (raw0 F hb) hr pass0
theorem iter_anyT {prog : Program} {w : World} {A : Around} {E : Value → Shared → Prop} {s : Shared} {l : Addr} {items : Array Value} {Q : Value → Shared → Prop} (hl : s.heap.IsTuple l items)
    (h : ∀ s₂ : Shared, s₂ = { s with heap := s.heap.push { cls := .type "tuple_iterator", data := .fields #[.ref l, .int 0 0] } } →
      (s₂.heap.IsTupleIter s.heap.objs.size l 0 ∧ s₂.heap.IsTuple l items) → l ≠ s.heap.objs.size → Q (.ref s.heap.objs.size) s₂) : wpAny (model prog w) A (pyIter (.ref l)) Q E s := by
  have hlt : l < s.heap.objs.size := by obtain ⟨_, e, _⟩ := hl; exact Heap.lt_size e
  exact wpAny_pyIter_tuple hl (h _ rfl ⟨⟨_, Heap.get?_push_size _ rfl, rfl, rfl⟩, hl.push _⟩ (Nat.ne_of_lt hlt))
theorem truth_ints {prog : Program} {w : World} {A : Around} {ns : List Int} {its : List Value} (r : Vals (ns.map V.int) its) :
    TruthOf prog w A (fun i v => its.toArray[i]? = some v) (fun i => ns.getD i 0 != 0) := fun i v s Q E hv hq => by
  have hv' : its[i]? = some v := by simpa using hv
  have hlen := r.length
  rw [List.length_map] at hlen
  have hlt : i < ns.length := by
    have := (List.getElem?_eq_some_iff.mp hv').1
    omega
  obtain ⟨u, hu, t, ru⟩ := r.get (show (ns.map V.int)[i]? = some (.int ns[i]) by rw [List.getElem?_map, List.getElem?_eq_getElem hlt]; rfl)
  rw [hv'] at hu
  cases hu
  subst ru
  have hg : ns.getD i 0 = ns[i] := by rw [List.getD_eq_getElem?_getD, List.getElem?_eq_getElem hlt] <;> rfl
  have hq' : Q (ns.getD i 0 != 0) s := hq
  rw [hg] at hq'
  exact truthy_int hq'
theorem any_rangeI : ∀ ns : List Int, (List.range ns.length).any (fun i => ns.getD i 0 != 0) = ns.any (· != 0)
  | [] => rfl
  | b :: bs => by
    rw [List.length_cons, List.range_succ_eq_map, List.any_cons, List.any_map, List.any_cons, ← any_rangeI bs]
    all_goals rfl
/-- any of a tuple of ints -/
def rAnyTI (K : PySem.W.Frag) : List V → Hp → VK → Prop := fun vs H Q => ∃ (a : Addr) (ns : List Int), vs = [V.ref a] ∧ SqT K H a (ns.map V.int) ∧ Q (.bl (ns.any (· != 0))) H
theorem cr_anyTI (hc : X.calm = true) : CallR X (.builtin "any") (rAnyTI X.K) := by
  intro pins s σ H vs us Q I r h
  obtain ⟨a, ns, rfl, hs, q⟩ := h
  obtain ⟨its, rv, hl, _⟩ := I.tuple hs
  rw [Vals.ref1 r]
  have hlen := rv.length
  rw [List.length_map] at hlen
  refine call_any_walk (iter_anyT (show s.heap.IsTuple a its.toArray from hl) fun s₂ e2 st hne => ?_)
  subst e2
  refine ⟨_, _, _, _, _, _, _, rfl, Walks.tuple (A := X.A.in1) (I.ok.hd hc) _ a hne its.toArray, st, truth_ints rv, fun h' tk hk => ?_⟩
  refine ⟨.bl _, H, I.kept fun b o eo => hk b o (fun hmem => ?_) (Heap.get?_push_of_some _ eo), ?_, q⟩
  · rcases List.mem_cons.mp hmem with e1 | hmem
    · exact absurd (e1 ▸ Heap.lt_size eo) (Nat.lt_irrefl _)
    · cases hmem
  · show Value.bool _ = Value.bool _
    rw [← any_rangeI, List.size_toArray, ← hlen]
/-- isinstance(x, C): x of a plain type, or an instance -/
theorem call_isiF (C : Addr) : CallR X (.builtin "isinstance") (fun xs H Q => rIsi X.K xs H Q ∨ rIsiSl X.K (.ref C) xs H Q) := call_isi.or (call_isiSl (.ref C))
end
end OwnF

set_option Elab.async false
set_option linter.all false
set_option maxRecDepth 100000
set_option maxHeartbeats 2000000
/-! a method of an instance with slots -/
namespace OwnF
open PySem PySem.Spec PyProof.Rows L2 He SlX OwnR HookG
section
variable {X : Cx} {C g : Addr} {n : Nat} {sp : Sp} {fd : FuncData} {ps : List Str} {o e : Expr} {es : List Expr} {x : Str} {pos apos : Pos} {ta : TE} {t : TA}
theorem pe_mSl {pl : Sem Bool} (he : PE X o ta) (c : OC X.K C) (m : Mt X.K C x g) (kp : PySem.W.keepIn X.K (.ref g) = true) (F : FnOk X.prog X.w X.K X.mg X.base CX0 n g fd ps sp) (hb : Binds X.K fd ps []) (hr : Room n X.A) (ha : PA X (e :: es) t)
    (hst : starEach (e :: es) X.env = (false, eval e X.env) :: starEach es X.env := by rfl) (hpl : (backTo pos (starEach es X.env)).any (·.1) = false := by rfl)
    (ht : eval (.Call (.Attribute o x apos) (e :: es) [] pos) X.env = (do
      let ov ← eval o X.env
      standAt apos.atName
      let (f, first) ← holding [ov] (getMethod ov x pl)
      callWith pos f first (backTo pos (starEach (e :: es) X.env)) (backToKw pos (keywordEach [] X.env))) := by rfl) :
    PE X (.Call (.Attribute o x apos) (e :: es) [] pos) (tMethSl C sp E0 ta t) :=
  pe_methSl (pl := pl) he c.scl ⟨m.at_, m.fn, kp⟩ (raw0 F hb) hr pass0 ha hst hpl ht
end
end OwnF

set_option Elab.async false
set_option linter.all false
set_option maxRecDepth 100000
set_option maxHeartbeats 2000000
/-! classmethods, classes in local names, xs[i] op= e -/
namespace OwnC
open PySem PySem.Spec PyProof.Rows L2 He SlX OwnR HookG OwnF
/-- C.m is a classmethod: its record at p, its def at g -/
structure Cm (K : PySem.W.Frag) (C : Addr) (m : Str) (p g : Addr) : Prop where
  rd : ClX.CRead K C (.type "type")
  cm : ClX.CMet K C (.type "type") m p g
def cmB (K : PySem.W.Frag) (x m : Str) : Bool := PySem.W.readsIn K (ga K x) (.type "type") && (He5.wrapB K (ga K x) "classmethod" "classmethod.__get__" m && PySem.W.fnIn K (He5.wf K (ga K x) "classmethod" m))
theorem cread_of {K : PySem.W.Frag} {C : Addr} (h : PySem.W.readsIn K C (.type "type") = true) : ClX.CRead K C (.type "type") := by
  refine ⟨h, ?_⟩
  unfold PySem.W.readsIn at h
  obtain ⟨h, _⟩ := ba h
  obtain ⟨h, _⟩ := ba h
  obtain ⟨h, h3⟩ := ba h
  obtain ⟨_, h2⟩ := ba h
  unfold PySem.W.specialIn
  rw [beq_iff_eq.mp h2, Option.bind_some]
  exact beq_iff_eq.mp h3
theorem cmB_ok {K : PySem.W.Frag} {x m : Str} (h : cmB K x m = true) : Cm K (ga K x) m (ma K (ga K x) m) (He5.wf K (ga K x) "classmethod" m) := by
  obtain ⟨c1, c⟩ := ba h
  obtain ⟨c2, c3⟩ := ba c
  obtain ⟨h1, h2⟩ := He5.wrapB_ok c2
  exact ⟨cread_of c1, h1, h2, c3⟩
section
variable {X : Cx} {C p g f : Addr} {n i : Nat} {sp : Sp} {fd : FuncData} {ps : List Str} {o e : Expr} {es : List Expr} {m x : Str} {pos apos pp : Pos} {ta : TE} {t : TA}
theorem pe_cmF {pl : Sem Bool} (he : PE X o ta) (c : Cm X.K C m p g) (F : FnOk X.prog X.w X.K X.mg X.base CX0 n g fd ps sp) (hb : Binds X.K fd ps []) (hr : Room n X.A) (ha : PA X (e :: es) t)
    (hst : starEach (e :: es) X.env = (false, eval e X.env) :: starEach es X.env := by rfl) (hpl : (backTo pos (starEach es X.env)).any (·.1) = false := by rfl)
    (ht : eval (.Call (.Attribute o m apos) (e :: es) [] pos) X.env = (do
      let ov ← eval o X.env
      standAt apos.atName
      let (f, first) ← holding [ov] (getMethod ov m pl)
      callWith pos f first (backTo pos (starEach (e :: es) X.env)) (backToKw pos (keywordEach [] X.env))) := by rfl) :
    PE X (.Call (.Attribute o m apos) (e :: es) [] pos) (ClX.tCMeth C sp E0 ta t) :=
  ClX.pe_cmeth (pl := pl) he c.rd c.cm (raw0 F hb) hr pass0 ha hst hpl ht
/-- c(e, ..), c a local name that holds the class at C -/
def tMakeV (i : Nat) (C : Addr) (sp : Sp) (t : TA) : TE := fun σ H Q => σ[i]? = some (some (.ref C)) ∧ tMake C sp [] E0 t σ H Q
theorem pe_makeV (M : Mk X.K C f) (F : FnOk X.prog X.w X.K X.mg X.base CX0 n f fd ps sp) (hr : Room (n + 1) X.A) (hb : Binds X.K fd ps []) (hN : X.N[i]? = some x) (hv : Vis X.env.scope x) (ha : PA X (e :: es) t)
    (hd : (x == ("__debug__" : Str)) = false := by decide) (hcd : (x == ("__classdict__" : Str)) = false := by decide)
    (he : starEach (e :: es) X.env = (false, eval e X.env) :: starEach es X.env := by rfl) (hpl : (backTo pos (starEach es X.env)).any (·.1) = false := by rfl) : PE X (.Call (.Name x pp) (e :: es) [] pos) (tMakeV i C sp t) := by
  refine ⟨fun pins s σ H Q I h => ?_⟩
  obtain ⟨hs, h⟩ := h
  refine wpAny_Call_Name_kw (thn ((pe_var (pos := pp) (i := i) hN hv hd hcd).run pins s σ H (fun v H1 => v = .ref C ∧ H1 = H) I ⟨.ref C, hs, rfl, rfl⟩) fun u s1 ⟨v, H1, I1, r1, ev, eH⟩ => ?_)
  subst ev
  rw [eH] at I1
  cases r1
  refine PySem.W.callWith_K (h₀ := X.base) I.ok.mod.kin M.kp (thn (ha.run pos pins s1 σ H _ I1 h) fun us s2 ⟨vs, H2, I2, r, q⟩ => ⟨I2.kIn, ?_⟩) he hpl
  exact run_make M F hr hb .nil pass0 I2 r q
end
end OwnC

set_option Elab.async false
set_option linter.all false
set_option maxRecDepth 100000
set_option maxHeartbeats 2000000
/-! sequences that may be a list or a tuple: len, index, enumerate -/
namespace SeqE
open PySem PySem.Spec PyProof.Rows L2
/-- at a a list or a tuple with these items -/
def Sq (H : Hp) (a : Addr) (xs : List V) : Prop := H a = some (.tup xs) ∨ H a = some (.lst xs)
theorem Sq.same {H H' : Hp} {a : Addr} {xs : List V} (h : Sq H a xs) (s : Same H H') : Sq H' a xs := h.elim (fun e => .inl (s _ _ e)) fun e => .inr (s _ _ e)
theorem Sq.upd {H : Hp} {a p : Addr} {o : HO} {xs : List V} (h : Sq H a xs) (hp : H p = none) : Sq (upd H p o) a xs := by
  refine h.elim (fun e => .inl ?_) fun e => .inr ?_ <;> rw [upd_ne (ne_of_none e hp)] <;> exact e
end SeqE

set_option Elab.async false
set_option linter.all false
set_option maxRecDepth 100000
set_option maxHeartbeats 2000000
/-! next(.. for .. in .. if .., default) -/
namespace GenNx
open PySem PySem.Spec PyProof.Rows L2 GxR EnumT
section
variable {prog : Program} {w : World} {A : Around} {E : Value → Shared → Prop} {s : Shared} {I : Addr} {fp wr : List Addr} {G : Array GenState → Array GenState → Prop} {n : Nat} {Pv : Nat → Value → Prop} {St : Nat → Shared → Prop}
/-- next(generator, default): the first item, or the default -/
theorem call_next_walkS {d : Value} {Q : Value → Shared → Prop} (W : WalksS prog w A.in1 I fp wr G n Pv St) (hT : s.TypeIs (.ref I) "generator") (st : St 0 s)
    (h1 : ∀ v s', 0 < n → Pv 0 v → Moved wr G s s' → Q v s') (h2 : ∀ s', n = 0 → Moved wr G s s' → Q d s') : wpAny (model prog w) A (call (.builtin "next") [.ref I, d]) Q E s := by
  refine Calls.call_function_entry (by decide +kernel) (by decide +kernel) PySem.W.kdk_entry_next (PySem.W.kdk_args_next2 _ _) ?_
  unfold Builtin.«next»
  refine wpAny_bind (m := someArgs "next" 1 2 _) (wpAny_of_eq (a := [Value.ref I, d]) (by first | rfl | kernel_rfl!) ?_)
  dsimp only
  refine wpAny_bind (wpAny_specialOf (name := Str.ofString "__next__") hT slot_gen_next.lookup ?_)
  refine wpAny_ite_split (fun hab => absurd hab (by decide)) (fun _ => ?_)
  by_cases hn : 0 < n
  · refine wpAny_bind (W.item 0 _ _ _ hn st fun v s' hv _ hm => ?_)
    exact wpAny_pure ⟨_, rfl, h1 v s' hn hv hm⟩
  · have e : n = 0 := by omega
    refine wpAny_bind (W.done _ _ _ (by rw [e]; exact st) fun s' hm => ?_)
    exact wpAny_pure ⟨_, rfl, h2 s' e hm⟩
end
/-- the generator expression's own scope: its names xa, xb -/
structure GenS2 (env : Env) (scope : Scope) (xa xb : Str) : Prop where
  kind : scope.kind = .function
  co : scope.isCoroutine = false
  cell : ∀ y ∈ scope.names, y.2 ≠ .cell
  dot : scope.names.lookup (".0" : Str) = some NameKind.local
  la : scope.names.lookup xa = some .local
  lb : scope.names.lookup xb = some .local
  ab : xa ≠ xb
  free : ∀ y ∈ scope.names, y.2 = .free → ∃ c, env.cells.lookup y.1 = some c
theorem GenS2.of {env : Env} {scope : Scope} {xa xb : Str} (h1 : scope.kind = .function) (h2 : scope.isCoroutine = false) (h3 : ∀ y ∈ scope.names, y.2 ≠ .cell ∧ y.2 ≠ .free) (h4 : scope.names.lookup (".0" : Str) = some NameKind.local) (h5 : scope.names.lookup xa = some .local) (h6 : scope.names.lookup xb = some .local) (h7 : xa ≠ xb) : GenS2 env scope xa xb :=
  ⟨h1, h2, fun y hy => (h3 y hy).1, h4, h5, h6, h7, fun y hy z => absurd z (h3 y hy).2⟩
/-- a test of the int in x -/
def TestI (prog : Program) (w : World) (scope : Scope) (x : Str) (c : Expr) (pb : Int → Bool) : Prop :=
  ∀ (cenv : Env) (A' : Around) (E' : Value → Shared → Prop) (i : Int) (t : Tok) (s₂ : Shared) (m₂ : Str → Option Value), cenv.scope = scope → s₂.heap.Ns cenv.locals m₂ → m₂ x = some (.int i t) →
    wpAny (model prog w) A' (isTrue c cenv (eval c cenv)) (fun ok s₃ => ok = pb i ∧ Keeps s₂ s₃) E' s₂
theorem test_ne0 {prog : Program} {w : World} {scope : Scope} {x : Str} {j : Nat} {p1 p2 p3 : Pos} (hk : scope.kind = .function) (hl : scope.names.lookup x = some .local) (hd : (x == ("__debug__" : Str)) = false := by decide) :
    TestI prog w scope x (.Compare (.Name x p1) [.NotEq] [.Constant (.int 0) j p2] p3) (fun i => i != 0) := by
  intro cenv A' E' i t s₂ m₂ hs hn hm
  refine wpAny_isTrue_Compare1 ?_
  refine wpAny_Name (wpAny_loadName_local (by rw [hs]; exact hk) (show cenv.scope.names.lookup x = some .local by rw [hs]; exact hl) hn hm ?_) hd
  refine wpAny_Constant_int ?_
  exact PySem.P.ne_int (wpAny_truthy_bool ⟨rfl, keeps_tok _ _⟩)
/-- the element is the int in x -/
theorem elt_name {prog : Program} {w : World} {cenv : Env} {A' : Around} {E' : Value → Shared → Prop} {x : Str} {p1 : Pos} {v : Value} {s₂ : Shared} {m₂ : Str → Option Value} {scope : Scope} (hs : cenv.scope = scope) (hk : scope.kind = .function) (hl : scope.names.lookup x = some .local) (hn : s₂.heap.Ns cenv.locals m₂) (hm : m₂ x = some v) (hd : (x == ("__debug__" : Str)) = false := by decide) :
    wpAny (model prog w) A' (eval (.Name x p1) cenv) (fun y s₃ => y = v ∧ Keeps s₂ s₃) E' s₂ :=
  wpAny_Name (wpAny_loadName_local (by rw [hs]; exact hk) (show cenv.scope.names.lookup x = some .local by rw [hs]; exact hl) hn hm ⟨rfl, keeps_refl _⟩) hd
theorem one_if {M : Model} {A : Around} {E : Value → Shared → Prop} {s : Shared} {c : Expr} {cenv : Env} {Q : Bool → Shared → Prop} (h : wpAny M A (isTrue c cenv (eval c cenv)) Q E s) :
    wpAny M A (forIn [c] true fun c r => if r = true then do let ok ← isTrue c cenv (eval c cenv); pure (ForInStep.yield ok) else pure (ForInStep.yield r)) Q E s := by
  simp only [List.forIn_cons, List.forIn_nil, if_true]
  exact wpAny_bind (wpAny_bind (wpAny_mono h (fun ok s' hq => wpAny_pure (wpAny_pure hq)) fun _ _ e => e))
section
variable {X : Cx} {pins : List (Addr × Obj)} {σ : L2.St} {H : Hp} {s : Shared}
/-- the generator g, ready to be asked, its j-th item is tied by F to the j-th place of js -/
def ReadyN (X : Cx) (pins : List (Addr × Obj)) (σ : L2.St) (H1 : Hp) (P : Addr) (js : List Nat) (F : Nat → Value → Prop) (g : Addr) (s5 : Shared) : Prop :=
  ∃ (fp wr : List Addr) (G : Array GenState → Array GenState → Prop) (St : Nat → Shared → Prop),
    WalksS X.prog X.w X.A.in1 g fp wr G js.length (fun j y => ∃ i, js[j]? = some i ∧ F i y) St ∧ St 0 s5 ∧ s5.TypeIs (.ref g) "generator" ∧
    ∀ s', Moved wr G s5 s' → ∃ H2, Tabbed P H1 H2 ∧ Inv X pins σ H2 s'
def pzL (pb : Int → Bool) (l : List Int) (i : Nat) : Bool := match l[i]? with
  | some z => pb z
  | none => false
theorem pzL_some {pb : Int → Bool} {l : List Int} {i : Nat} {z : Int} (h : l[i]? = some z) : pzL pb l i = pb z := by
  unfold pzL
  rw [h]
/-- an item of a row of ints, by values -/
theorem int_item {l : List Int} {its : List Value} (rv : Vals (l.map V.int) its) {i : Nat} {x : Value} (h : its[i]? = some x) : ∃ z t, l[i]? = some z ∧ x = .int z t := by
  have hl := rv.length
  have hi : i < its.length := (List.getElem?_eq_some_iff.mp h).1
  rw [List.length_map] at hl
  have hi2 : i < l.length := by omega
  obtain ⟨u, hu, ru⟩ := rv.get (i := i) (x := .int l[i]) (by rw [List.getElem?_map, List.getElem?_eq_getElem hi2]; rfl)
  obtain ⟨t, rfl⟩ := ru
  rw [h] at hu
  exact ⟨l[i], t, List.getElem?_eq_getElem hi2, Option.some.inj hu⟩
theorem gen_enum {c P : Addr} {e ct : Expr} {xa xb : Str} {pa pb' pt pn cpos gpos : Pos} {kt : Nat} {scope : Scope} {pb : Int → Bool} {ta : TA} {k : Nat} {p1 : Pos} {Q' : Value → Shared → Prop} {R : Addr → List Int → Hp → Prop}
    (hr : Room k X.A) (TB : TabB X.base X.mg c P) (hcode : X.env.code = .ref c) (S : GenS2 X.env scope xa xb) (hg : Gl X "enumerate") (hm : X.mg "enumerate" = none) (ha : PA X [e] ta) (hst : starEach [e] X.env = [(false, eval e X.env)])
    (htest : TestI X.prog X.w scope xb ct pb) (hda : (xa == ("__debug__" : Str)) = false)
    (hs : ∀ v, genFold (.Call (.Name "enumerate" pn) [e] [] cpos) X.env v = pure v) (I : Inv X pins σ H s) (h : ta σ H fun vs H1 => ∃ (t : Addr) (l : List Int), vs = [.ref t] ∧ SqT X.K H1 t (l.map V.int) ∧ TabG H1 P ∧ R t l H1)
    (hQ : ∀ t l H1 g s5, R t l H1 → ReadyN X pins σ H1 P (passing (pzL pb l) l.length 0) (fun i y => ∃ u, y = .int (i : Nat) u) g s5 → Q' (.ref g) s5) :
    wpAny (model X.prog X.w) X.A (eval (.GeneratorExp (.Name xa p1) [⟨.Tuple [.Name xa pa, .Name xb pb'] kt pt, .Call (.Name "enumerate" pn) [e] [] cpos, [ct], 0⟩] scope gpos) X.env) Q' X.xe s := by
  refine wpAny_GeneratorExp_walksQT hr.hd S.co (closure_ok S.free) S.cell S.dot S.la S.lb S.ab S.kind (by have := hr.dp; omega) ?_ hs
  refine Call_ (ld_blt I hg hm boot_enumerate (PyProof.Rows.callWith_type1 (thn (ha.run cpos pins s σ H _ I h) fun us s1 hv => ?_) hst rfl))
  obtain ⟨vs, H1, I1, r1, t, l, rfl, hq, ⟨ps, hP, ht⟩, q1⟩ := hv
  cases r1 with
  | cons r rr =>
    cases rr
    cases r
    obtain ⟨its, rv, p', hz⟩ := I1.tuple hq
    have pT : s1.heap.IsTuple t its.toArray := p'
    have hlt : t < s1.heap.objs.size := by obtain ⟨_, ho, _⟩ := p'; exact Heap.lt_size ho
    refine call_enumT pT fun h2 he hit hsz2 hk2 => wpAny_pyIter_enum he ?_
    have hPs : s1.heap.get? P = some { cls := .none, data := .fields ps } := I1.hok P _ hP
    have hPlt : P < s1.heap.objs.size := Heap.lt_size hPs
    have hP2 : h2.get? P = some { cls := .none, data := .fields ps } := hk2 _ _ hPs
    have cd : PySem.W.CodeHd h2 c P := TB.code.keeps fun b u e => hk2 _ _ (I1.bk b u e)
    have lim2 : h2.NoLimit := I1.nolimit.keeps hk2
    have hll := rv.length
    rw [List.length_map] at hll
    have tP : t ≠ P := fun z => by
      obtain ⟨o, ho, _, n, hd⟩ := pT
      rw [z, hPs] at ho
      cases ho
      cases hd
    have hzn : its.toArray.size = l.length := by rw [List.size_toArray]; omega
    have WT : ∀ A' : Around, A'.handled = none → WalksU X.prog X.w A' (s1.heap.objs.size + 1) _ _ _ _ _ _ := fun A' hA =>
      (WalksT.enumerateD (A := A') (Draws.tuple (prog := X.prog) (w := X.w) (A := A'.in1) hA s1.heap.objs.size t (Nat.ne_of_lt hlt) its.toArray) (s1.heap.objs.size + 1) (Nat.succ_ne_self _) (fun hm => by
        rcases List.mem_cons.mp hm with e | hm
        · exact Nat.succ_ne_self _ e
        · exact Nat.ne_of_gt (Nat.lt_succ_of_lt hlt) (List.mem_singleton.mp hm)) (by simp)).toU
    have cont : ∀ (code : Value) (h3 : Heap) (tk : Nat) (ps' : Array Value), Heap.ExtBut P h2 h3 → h2.objs.size ≤ h3.objs.size → h3.get? P = some { cls := .none, data := .fields ps' } → (∃ more, ps' = ps ++ more) → TriplesOk ps'.toList →
        wpAny (model X.prog X.w) X.A (builtinsFor X.env.globals X.env.builtins) (fun bi s₄ =>
          ∃ Ia fp wr n₀ Pt St₀ Mid pz F, Value.ref (s1.heap.objs.size + 1) = .ref Ia ∧ (∀ A' : Around, A'.handled = none → WalksU X.prog X.w A' Ia fp wr n₀ Pt St₀ Mid) ∧ (∀ i vals, Pt i vals → ∃ va vb, vals = #[va, vb]) ∧ St₀ 0 s₄.heap ∧ (∀ b ∈ fp, b < s₄.heap.objs.size) ∧ s₄.heap.NoLimit ∧ cStatics ∉ wr ∧
            (∀ href : Heap, (∀ b o, s₄.heap.get? b = some o → href.get? b = some o) →
              QuietGenT X.prog X.w (genEnv scope (cloFrom X.env.cells scope.names []) s₄.heap.objs.size code bi X.env) xa xb [ct] (.Name xa p1) (List.range s₄.heap.objs.size) wr Pt pz F href) ∧
            (∀ a h₅ tk gs, gs.bare = true → s₄.heap.objs.size < a → h₅.objs.size = a + 1 → (∀ b o, s₄.heap.get? b = some o → h₅.get? b = some o) →
              WalksS X.prog X.w X.A.in4 a (a :: s₄.heap.objs.size :: List.range s₄.heap.objs.size) (s₄.heap.objs.size :: wr) (GenOnlyQ s₄.gens.size) (passing pz n₀ 0).length
                (fun j y => ∃ i, (passing pz n₀ 0)[j]? = some i ∧ F i y) (GenAt X.prog X.w X.A.in4 a s₄.gens.size s₄.heap.objs.size (List.range s₄.heap.objs.size) wr pz n₀ F) →
              GenAt X.prog X.w X.A.in4 a s₄.gens.size s₄.heap.objs.size (List.range s₄.heap.objs.size) wr pz n₀ F 0 { s₄ with gens := s₄.gens.push gs, toks := tk, heap := h₅ } →
              Q' (.ref a) { s₄ with gens := s₄.gens.push gs, toks := tk, heap := h₅ })) X.xe { s1 with heap := h3, toks := tk } := by
      intro code h3 tk ps' hx hsz hP3 hmore ht3
      obtain ⟨bm, ob, e1, e2, e3, e4, e5, e6, e7, e8⟩ := TB.bm
      have hcP : cStatics ≠ P := fun e => by
        obtain ⟨_, hns, _⟩ := I1.nolimit
        obtain ⟨o', es, ep, ho, hd, _⟩ := hns
        rw [e, hPs] at ho
        cases ho
        cases hd
      have hcl : cStatics < s1.heap.objs.size := let ⟨_, hns, _⟩ := I1.nolimit; hns.lt
      have keep3 : ∀ b u, b ≠ P → s1.heap.get? b = some u → h3.get? b = some u := fun b u hb e => hx b u hb (hk2 _ _ e)
      have eP : s1.heap.objs.size + 1 ≠ P := fun z => Nat.lt_irrefl _ (Nat.lt_of_succ_lt (z ▸ hPlt))
      have iP : s1.heap.objs.size ≠ P := fun z => Nat.lt_irrefl _ (z ▸ hPlt)
      have off : ∀ b, b < s1.heap.objs.size → b ∉ [s1.heap.objs.size + 1, s1.heap.objs.size] := fun b hb hm => by
        have hm' : b = s1.heap.objs.size + 1 ∨ b = s1.heap.objs.size := by simpa using hm
        rcases hm' with z | z <;> omega
      refine wpAny_builtinsFor (m := X.mg) (by rw [I1.ok.glob]; exact (((I1.mod.glob.keeps I1.bk).keeps hk2).extBut hx TB.gP)) e1 e2 (keep3 _ _ e4 (I1.bk _ _ e5)) e6 e7 e8 ?_
      refine ⟨s1.heap.objs.size + 1, _, _, _, _, _, _, pzL pb l, (fun i y => ∃ u, y = .int (i : Nat) u), rfl, WT, ?_, ⟨⟨_, hx _ _ eP he⟩, hit.at fun o q => hx _ o iP q, pT.at fun o q => keep3 _ o tP q⟩, ?_, lim2.extBut hx hcP, off _ hcl, ?_, ?_⟩
      · rintro i vals ⟨u, x, hxi, rfl⟩
        exact ⟨_, _, rfl⟩
      · intro b hb
        have hb' : b = s1.heap.objs.size + 1 ∨ b = s1.heap.objs.size ∨ b = t := by simpa using hb
        show b < h3.objs.size
        rcases hb' with z | z | z
        · rw [z]
          show s1.heap.objs.size + 1 < h3.objs.size
          omega
        · rw [z]
          show s1.heap.objs.size < h3.objs.size
          omega
        · rw [z]
          exact Nat.lt_of_lt_of_le hlt (show s1.heap.objs.size ≤ h3.objs.size by omega)
      · intro href hhref
        refine ⟨fun A' E' i va vb s₂ m₂ hA hPv hn hma hmb hk => ?_, fun A' E' i va vb s₂ m₂ hA hPv hp hn hma hmb hk => ?_⟩
        · obtain ⟨u, x, hxi, ev⟩ := hPv
          cases ev
          have hxi' : its[i]? = some vb := by simpa using hxi
          obtain ⟨z, t2, hz1, rfl⟩ := int_item rv hxi'
          refine one_if (wpAny_mono (htest _ A' E' z t2 s₂ m₂ rfl hn hmb) (fun ok s3 q => ⟨?_, q.2⟩) fun _ _ e => e)
          rw [pzL_some hz1]
          exact q.1
        · obtain ⟨u, x, hxi, ev⟩ := hPv
          cases ev
          exact wpAny_mono (elt_name (scope := scope) rfl S.kind S.la hn hma hda) (fun y s3 q => ⟨⟨u, q.1⟩, q.2⟩) fun _ _ e => e
      · intro g h5 tk5 gs hgb hag hsz5 hk5 W5 hat
        rw [hzn] at W5
        refine hQ t l H1 g _ q1 ⟨_, _, _, _, W5.in4_1, ?_, hat.1.typeIs, fun s' hm => ?_⟩
        · rw [hzn] at hat
          exact hat
        · obtain ⟨more, em⟩ := hmore
          have nwr : ∀ b u, s1.heap.get? b = some u → b ∉ h3.objs.size :: [s1.heap.objs.size + 1, s1.heap.objs.size] := fun b u e hb => by
            have hl := Heap.lt_size e
            rcases List.mem_cons.mp hb with z | z
            · rw [z] at hl
              have h9 : (h3.objs.size : Nat) < s1.heap.objs.size := hl
              omega
            · exact off b hl z
          have J := inv_tab (more := more) (h' := s'.heap) (g' := s'.gens) (d' := s'.drawn) (t' := s'.toks) I1 hP (fun b u hb e => hm.heap b u (nwr b u e) (hk5 b u (keep3 b u hb e)))
            (by rw [← em]; exact hm.heap P _ (nwr P _ hPs) (hk5 P _ hP3)) (AllBare.movedS (I1.bare.push hgb) hm)
          rw [sh_eta s1 s' hm.os] at J
          refine ⟨upd H1 P (.tbl (ps ++ more)), ⟨⟨ps ++ more, upd_same, by rw [← em]; exact ht3⟩, fun b hb => upd_ne hb⟩, J⟩
    refine ⟨lim2, ?_⟩
    cases hf : codeAmong gpos ps.toList with
    | none =>
      refine wpAny_genexprCodeX hcode (cd.code hP2 ht) (cd.tab hP2) hf fun c' h' tk hx hge hlt hco' _ htab' _ => ?_
      obtain ⟨o1, vs, f1, tf, fl, tg, inF, tx, tt, op, _, _, _, _, _, _, _, _, _, htr, _⟩ := hco'
      exact cont _ h' tk _ hx (Nat.le_trans hge (Nat.le_of_lt hlt)) htab'.2 ⟨_, rfl⟩ htr
    | some cv =>
      refine wpAny_genexprCode_hit hcode (cd.code hP2 ht) hf ?_
      exact cont cv h2 s1.toks ps (Heap.ExtBut.refl _ _) (Nat.le_refl _) hP2 ⟨#[], by simp⟩ ht
/-- the first place whose entry the test lets pass, or the default -/
def FirstIx (pb : Int → Bool) (l : List Int) (d r : Int) : Prop :=
  ((∀ (j : Nat) (z : Int), l[j]? = some z → pb z = false) ∧ r = d) ∨ ∃ (i : Nat) (z : Int), l[i]? = some z ∧ pb z = true ∧ (∀ (j : Nat) (y : Int), j < i → l[j]? = some y → pb y = false) ∧ r = (i : Int)
theorem passing_nil {pb : Int → Bool} {l : List Int} (h : (passing (pzL pb l) l.length 0).length = 0) : ∀ (j : Nat) (z : Int), l[j]? = some z → pb z = false := fun j z hj => by
  have e : passing (pzL pb l) l.length 0 = [] := List.eq_nil_of_length_eq_zero h
  have hlt : j < l.length := (List.getElem?_eq_some_iff.mp hj).1
  cases hb : pb z with
  | false => rfl
  | true =>
    have hm : j ∈ passing (pzL pb l) l.length 0 := by
      unfold passing
      rw [List.drop_zero]
      exact List.mem_filter.mpr ⟨List.mem_range.mpr hlt, by rw [pzL_some hj]; exact hb⟩
    rw [e] at hm
    cases hm
theorem passing_first {pb : Int → Bool} {l : List Int} {i : Nat} (h : (passing (pzL pb l) l.length 0)[0]? = some i) : ∃ z, l[i]? = some z ∧ pb z = true ∧ ∀ (j : Nat) (y : Int), j < i → l[j]? = some y → pb y = false := by
  unfold passing at h
  rw [List.drop_zero] at h
  have h2 : ((List.range l.length).filter (pzL pb l)).head? = some i := by rw [List.head?_eq_getElem?]; exact h
  rw [List.head?_filter] at h2
  have h3 := List.find?_eq_some_iff_getElem.mp h2
  obtain ⟨hp, k, hk, ek, hn⟩ := h3
  rw [List.getElem_range] at ek
  subst ek
  rw [List.length_range] at hk
  refine ⟨l[k], List.getElem?_eq_getElem hk, ?_, fun j y hj hy => ?_⟩
  · rw [pzL_some (List.getElem?_eq_getElem hk)] at hp
    exact hp
  · have := hn j hj
    rw [List.getElem_range, pzL_some hy] at this
    simpa using this
/-- next((i for i, x in enumerate(e) if test of x), d) -/
def tNextE (K : PySem.W.Frag) (P : Addr) (pb : Int → Bool) (d : Int) (ta : TA) : TE := fun σ H Q => ta σ H fun vs H1 => ∃ (t : Addr) (l : List Int), vs = [.ref t] ∧ SqT K H1 t (l.map V.int) ∧ TabG H1 P ∧ ∀ r H2, FirstIx pb l d r → Tabbed P H1 H2 → Q (.int r) H2
theorem pe_nextE {c P : Addr} {e ct : Expr} {xa xb : Str} {pa pb' pt pn cpos gpos p pos dp : Pos} {kt jd : Nat} {scope : Scope} {pb : Int → Bool} {d : Int} {ta : TA} {k : Nat} {p1 : Pos}
    (hr : Room k X.A) (hgn : Gl X "next") (hmn : X.mg "next" = none) (TB : TabB X.base X.mg c P) (hcode : X.env.code = .ref c) (S : GenS2 X.env scope xa xb) (hg : Gl X "enumerate") (hm : X.mg "enumerate" = none) (ha : PA X [e] ta)
    (htest : TestI X.prog X.w scope xb ct pb) (hda : (xa == ("__debug__" : Str)) = false := by decide) (hst : starEach [e] X.env = [(false, eval e X.env)] := by rfl)
    (hs : ∀ v, genFold (.Call (.Name "enumerate" pn) [e] [] cpos) X.env v = pure v := by intro _; rfl)
    (he : starEach [.GeneratorExp (.Name xa p1) [⟨.Tuple [.Name xa pa, .Name xb pb'] kt pt, .Call (.Name "enumerate" pn) [e] [] cpos, [ct], 0⟩] scope gpos, .Constant (.int d) jd dp] X.env
      = (false, eval (.GeneratorExp (.Name xa p1) [⟨.Tuple [.Name xa pa, .Name xb pb'] kt pt, .Call (.Name "enumerate" pn) [e] [] cpos, [ct], 0⟩] scope gpos) X.env) :: starEach [.Constant (.int d) jd dp] X.env := by rfl)
    (he2 : starEach [.Constant (.int d) jd dp] X.env = [(false, eval (.Constant (.int d) jd dp) X.env)] := by rfl) :
    PE X (.Call (.Name "next" p) [.GeneratorExp (.Name xa p1) [⟨.Tuple [.Name xa pa, .Name xb pb'] kt pt, .Call (.Name "enumerate" pn) [e] [] cpos, [ct], 0⟩] scope gpos, .Constant (.int d) jd dp] [] pos) (tNextE X.K P pb d ta) := by
  refine ⟨fun pins s σ H Q I h => ?_⟩
  refine wpAny_Call_Name_kw (ld_blt I hgn hmn boot_next ?_)
  refine PyProof.Rows.callWith_builtin1 ?_ he (by rw [he2]; rfl)
  rw [he, he2]
  show wpAny _ _ (spliced ((false, eval (.GeneratorExp (.Name xa p1) [⟨.Tuple [.Name xa pa, .Name xb pb'] kt pt, .Call (.Name "enumerate" pn) [e] [] cpos, [ct], 0⟩] scope gpos) X.env) :: (false, eval (.Constant (.int d) jd dp) X.env) :: [])) _ _ s
  refine Calls.spliced_cons (gen_enum (R := fun t l H1 => ∀ r H2, FirstIx pb l d r → Tabbed P H1 H2 → Q (.int r) H2) hr TB hcode S hg hm ha hst htest hda hs I h fun t l H1 g s5 hR hG => ?_)
  refine Calls.spliced_cons (wpAny_Constant_int (Calls.spliced_nil ?_))
  obtain ⟨fp, wr, G, St, W, hst5, hT, hI⟩ := hG
  have back : ∀ {s'}, Moved wr G { s5 with toks := s5.toks + 1 } s' → Moved wr G s5 s' := fun m => ⟨m.heap, m.gens, m.drawn, m.os, Nat.le_trans (Nat.le_succ _) m.toks⟩
  refine call_next_walkS W hT (W.frame 0 s5 s5.heap (s5.toks + 1) hst5 (Nat.le_succ _) fun _ _ _ z => z) (fun v s' hn hv hmv => ?_) (fun s' hn hmv => ?_)
  · obtain ⟨H2, hTb, J⟩ := hI s' (back hmv)
    obtain ⟨i, hi, u, rfl⟩ := hv
    obtain ⟨z, hz1, hz2, hz3⟩ := passing_first hi
    exact ⟨.int i, H2, J, ⟨u, rfl⟩, hR i H2 (.inr ⟨i, z, hz1, hz2, hz3, rfl⟩) hTb⟩
  · obtain ⟨H2, hTb, J⟩ := hI s' (back hmv)
    exact ⟨.int d, H2, J, ⟨_, rfl⟩, hR d H2 (.inl ⟨passing_nil hn, rfl⟩) hTb⟩
end
end GenNx

set_option Elab.async false
set_option linter.all false
set_option maxRecDepth 100000
set_option maxHeartbeats 2000000
/-! HookW's Hook with defs that hold generator expressions: their code objects, the tables of these, empty at the start and left out of the fragment -/
namespace HookT
open PySem PySem.Spec PyProof.Rows L2 He HookG
/-- the code object of the function at a -/
def codA (K : PySem.W.Frag) (a : Addr) : Addr := match K.lookup a with
  | some ⟨_, _, .func fd, _⟩ => (match fd.code with
    | .ref c => c
    | _ => 0)
  | _ => 0
theorem code_of {K : PySem.W.Frag} {x qual : Str} {params : Arguments} {body : List Stmt} {scope : Scope} {dvs : List V} {kws : List (Str × V)} {f : Addr} {fd : FuncData} (F : FunD K x qual params body scope dvs kws f fd) : fd.code = .ref (codA K f) := by
  obtain ⟨oc, od, dV, kV, doc, pm, an, cdv, ct, osl, rfl, lk, hcd, _, _⟩ := F.ex
  obtain ⟨c, rfl⟩ := codeIn_ref hcd
  unfold codA
  rw [lk] <;> rfl
/-- FunD.ok with the code object known -/
theorem okC {P : Program} {w : World} {K : PySem.W.Frag} {mg : Str → Option Value} {base : Heap} {x qual : Str} {params : Arguments} {body : List Stmt} {scope : Scope} {dvs : List V} {kws : List (Str × V)} {f : Addr} {fd : FuncData} {CX : CXT} {N ps : List Str} {k : Nat} {sp : Sp}
    (F : FunD K x qual params body scope dvs kws f fd) (S : FnScope N ps scope) (len : ∀ vs H Q E, sp vs H Q E → vs.length = ps.length)
    (hbody : ∀ (A : Around) (outer : List Env) (s : Shared) (H : Hp) (vs : List V) (Q : VK) (E : XK), Room k (A.deeper (envOfC qual scope s.heap.objs.size f fd.code)) → sp vs H Q E →
      ∃ t, PSs (cxOf CX P w K mg base N qual scope f fd.code A outer s H E) body t ∧ t { nx := fun _ H' => Q .non H', rt := Q } (start N vs) H) : FnOk P w K mg base CX (k + 1) f fd ps sp := by
  obtain ⟨oc, od, dV, kV, doc, pm, an, cdv, ct, osl, rfl, lk, hcd, _, _⟩ := F.ex
  exact fn_of lk hcd S len fun A outer s H vs Q E hr hsp => hbody A outer s H vs Q E hr hsp
def cTA (K : PySem.W.Frag) (p : At) : Addr × Addr := (codA K (p.adr K), tabOf K (codA K (p.adr K)))
structure SaysGT (fa : List Fa) (fn : List GD) (tf : List At) (ex : PySem.W.Frag → Bool) (h : Heap) (K : PySem.W.Frag) : Prop where
  g : SaysG fa fn ex K
  hd : ∀ p ∈ tf, PySem.W.codeHdIn K (cTA K p).1 (cTA K p).2 = true
  out : ∀ p ∈ tf, K.lookup (cTA K p).2 = none
  empty : ∀ p ∈ tf, h.get? (cTA K p).2 = some { cls := .none, data := .fields #[] }
def tabsB (g : Addr → Option Obj) (tf : List At) (K : PySem.W.Frag) : Bool := tf.all fun p => PySem.W.codeHdIn K (cTA K p).1 (cTA K p).2 && (match g (cTA K p).2 with
  | some o => emptyTab o
  | none => false)
abbrev AlGT : Type := AlG × Bool
def obsGT (n : Nat) (fa : List Fa) (fn : List GD) (tf : List At) (ex : PySem.W.Frag → Bool) (g : Addr → Option Obj) : AlGT := (obsG fa fn ex (frT g (asW g n)), tabsB g tf (frT g (asW g n)))
theorem saysGT_of {n : Nat} {fa : List Fa} {fn : List GD} {tf : List At} {ex : PySem.W.Frag → Bool} {h : Heap} (e : obsGT n fa fn tf ex h.get? = (valG fn, true)) : SaysGT fa fn tf ex h (frT h.get? (asW h.get? n)) := by
  have e1 : obsG fa fn ex (frT h.get? (asW h.get? n)) = valG fn := congrArg (fun z : AlGT => z.1) e
  have e2 : tabsB h.get? tf (frT h.get? (asW h.get? n)) = true := congrArg (fun z : AlGT => z.2) e
  have key : ∀ p ∈ tf, PySem.W.codeHdIn (frT h.get? (asW h.get? n)) (cTA (frT h.get? (asW h.get? n)) p).1 (cTA (frT h.get? (asW h.get? n)) p).2 = true ∧ ∃ o, h.get? (cTA (frT h.get? (asW h.get? n)) p).2 = some o ∧ emptyTab o = true := fun p hp => by
    obtain ⟨h3, h4⟩ := ba (List.all_eq_true.mp e2 p hp)
    refine ⟨h3, ?_⟩
    cases q : h.get? (cTA (frT h.get? (asW h.get? n)) p).2 with
    | none =>
      rw [q] at h4
      cases h4
    | some o =>
      rw [q] at h4
      exact ⟨o, rfl, h4⟩
  exact ⟨e1, fun p hp => (key p hp).1, fun p hp => by
    obtain ⟨_, o, q, z⟩ := key p hp
    exact frT_none q z, fun p hp => by
    obtain ⟨_, o, q, z⟩ := key p hp
    rw [q, emptyTab_eq z]⟩
def hookT (n : Nat) (fa : List Fa) (fn : List GD) (tf : List At) (ex : PySem.W.Frag → Bool) : PySem.W.Hook where
  α := AlGT
  obs := fun s => obsGT n fa fn tf ex s.heap.get?
  val := fun _ => (valG fn, true)
  says := fun _ h => ∃ K : PySem.W.Frag, K.In h ∧ SaysGT fa fn tf ex h K
  of := fun _ _ e => ⟨_, frT_in, saysGT_of e⟩
  keeps := fun _ _ _ ⟨K, hK, c⟩ k => ⟨K, PySem.W.Frag.In.keeps hK k, ⟨c.g, c.hd, c.out, fun p hp => k _ _ (c.empty p hp)⟩⟩
theorem obsGT_eq {n : Nat} {fa : List Fa} {fn : List GD} {tf : List At} {ex : PySem.W.Frag → Bool} {g : Addr → Option Obj} {s : Shared} (h : ∀ a, g a = s.heap.get? a) : obsGT n fa fn tf ex g = (hookT n fa fn tf ex).obs s := by
  have e : g = s.heap.get? := funext h
  rw [e] <;> rfl
/-- a table at the start -/
theorem tabG0 {H : Hp} {P : Addr} (h : H P = some (.tbl #[])) : GxR.TabG H P := ⟨#[], h, True.intro⟩
end HookT

set_option Elab.async false
set_option linter.all false
set_option maxRecDepth 100000
set_option maxHeartbeats 4000000
namespace K08
open PySem PySem.Spec PyProof.Rows L2 SlX OwnR OwnF
theorem hu64 {k : Nat} {A : Around} (hr : Room k A) : A.units + 64 < cLine := hr.units
theorem same_upd0 {H : Hp} {p : Addr} {o : HO} (h : H p = none) : Same H (upd H p o) := fun b x e => by
  rw [upd_ne (ne_of_none e h)]
  exact e
def topS (i : Nat) : Stmt := PySem.Challenge.pw_sourceforms_k08_whole_powers_and_factors.main.body.getD i (.Pass ⟨0, 0, 0, 0⟩)
abbrev FnM (K : PySem.W.Frag) (x q : Str) (st : Stmt) (f : Addr) (fd : FuncData) : Prop := FunD K x q (defArgs st) (defBody st) (defScope st) [] [] f fd
abbrev FnP (K : PySem.W.Frag) (x : Str) (st : Stmt) (f : Addr) (fd : FuncData) : Prop := FunD K x x (defArgs st) (defBody st) (defScope st) [] [] f fd
abbrev s_is_whole : Stmt := topS 12
abbrev N_is_whole : List Str := ["value"]
theorem sc_is_whole : FnScope N_is_whole ["value"] (defScope s_is_whole) := ⟨rfl, rfl, rfl, by decide +kernel, rfl, by decide +kernel, by decide +kernel⟩
abbrev s_is_short : Stmt := topS 13
abbrev N_is_short : List Str := ["value"]
theorem sc_is_short : FnScope N_is_short ["value"] (defScope s_is_short) := ⟨rfl, rfl, rfl, by decide +kernel, rfl, by decide +kernel, by decide +kernel⟩
abbrev s_is_from : Stmt := topS 14
abbrev N_is_from : List Str := ["value", "least", "most"]
theorem sc_is_from : FnScope N_is_from ["value", "least", "most"] (defScope s_is_from) := ⟨rfl, rfl, rfl, by decide +kernel, rfl, by decide +kernel, by decide +kernel⟩
abbrev s_are_short : Stmt := topS 15
abbrev N_are_short : List Str := ["value", "entry"]
theorem sc_are_short : FnScope N_are_short ["value"] (defScope s_are_short) := ⟨rfl, rfl, rfl, by decide +kernel, rfl, by decide +kernel, by decide +kernel⟩
abbrev s_require_short : Stmt := topS 16
abbrev N_require_short : List Str := ["value"]
theorem sc_require_short : FnScope N_require_short ["value"] (defScope s_require_short) := ⟨rfl, rfl, rfl, by decide +kernel, rfl, by decide +kernel, by decide +kernel⟩
abbrev s_require_from : Stmt := topS 17
abbrev N_require_from : List Str := ["value", "least", "most"]
theorem sc_require_from : FnScope N_require_from ["value", "least", "most"] (defScope s_require_from) := ⟨rfl, rfl, rfl, by decide +kernel, rfl, by decide +kernel, by decide +kernel⟩
abbrev s_is_change : Stmt := topS 18
abbrev N_is_change : List Str := ["value", "row"]
theorem sc_is_change : FnScope N_is_change ["value"] (defScope s_is_change) := ⟨rfl, rfl, rfl, by decide +kernel, rfl, by decide +kernel, by decide +kernel⟩
abbrev s_require_change : Stmt := topS 19
abbrev N_require_change : List Str := ["value"]
theorem sc_require_change : FnScope N_require_change ["value"] (defScope s_require_change) := ⟨rfl, rfl, rfl, by decide +kernel, rfl, by decide +kernel, by decide +kernel⟩
abbrev s_product_in : Stmt := topS 22
abbrev N_product_in : List Str := ["one", "other"]
theorem sc_product_in : FnScope N_product_in ["one", "other"] (defScope s_product_in) := ⟨rfl, rfl, rfl, by decide +kernel, rfl, by decide +kernel, by decide +kernel⟩
abbrev s_joined_entries : Stmt := topS 23
abbrev N_joined_entries : List Str := ["one", "other", "found", "place", "at"]
theorem sc_joined_entries : FnScope N_joined_entries ["one", "other"] (defScope s_joined_entries) := ⟨rfl, rfl, rfl, by decide +kernel, rfl, by decide +kernel, by decide +kernel⟩
abbrev s_power_in : Stmt := topS 24
abbrev N_power_in : List Str := ["pair", "degree", "found", "turn"]
theorem sc_power_in : FnScope N_power_in ["pair", "degree"] (defScope s_power_in) := ⟨rfl, rfl, rfl, by decide +kernel, rfl, by decide +kernel, by decide +kernel⟩
abbrev s_value_in : Stmt := topS 25
abbrev s_changed_in : Stmt := topS 26
abbrev N_changed_in : List Str := ["entries", "table", "found", "power", "entry", "longer", "first", "second"]
theorem sc_changed_in : FnScope N_changed_in ["entries", "table"] (defScope s_changed_in) := ⟨rfl, rfl, rfl, by decide +kernel, rfl, by decide +kernel, by decide +kernel⟩
abbrev s_is_zero_in : Stmt := topS 27
abbrev N_is_zero_in : List Str := ["entries"]
theorem sc_is_zero_in : FnScope N_is_zero_in ["entries"] (defScope s_is_zero_in) := ⟨rfl, rfl, rfl, by decide +kernel, rfl, by decide +kernel, by decide +kernel⟩
abbrev s_first_index : Stmt := topS 28
abbrev N_first_index : List Str := ["entries"]
theorem sc_first_index : FnScope N_first_index ["entries"] (defScope s_first_index) := ⟨rfl, rfl, rfl, by decide +kernel, rfl, by decide +kernel, by decide +kernel⟩
abbrev s_ratio_between : Stmt := topS 29
abbrev N_ratio_between : List Str := ["one", "other", "top", "bottom", "first", "second", "part"]
theorem sc_ratio_between : FnScope N_ratio_between ["one", "other"] (defScope s_ratio_between) := ⟨rfl, rfl, rfl, by decide +kernel, rfl, by decide +kernel, by decide +kernel⟩
abbrev s_are_entries : Stmt := topS 31
abbrev N_are_entries : List Str := ["value"]
theorem sc_are_entries : FnScope N_are_entries ["value"] (defScope s_are_entries) := ⟨rfl, rfl, rfl, by decide +kernel, rfl, by decide +kernel, by decide +kernel⟩
abbrev s_form_of : Stmt := topS 33
abbrev N_form_of : List Str := ["entries"]
theorem sc_form_of : FnScope N_form_of ["entries"] (defScope s_form_of) := ⟨rfl, rfl, rfl, by decide +kernel, rfl, by decide +kernel, by decide +kernel⟩
abbrev s_require_form : Stmt := topS 34
abbrev N_require_form : List Str := ["value"]
theorem sc_require_form : FnScope N_require_form ["value"] (defScope s_require_form) := ⟨rfl, rfl, rfl, by decide +kernel, rfl, by decide +kernel, by decide +kernel⟩
abbrev s_sum_in : Stmt := topS 35
abbrev s_factor_between : Stmt := topS 36
abbrev N_factor_between : List Str := ["one", "other"]
theorem sc_factor_between : FnScope N_factor_between ["one", "other"] (defScope s_factor_between) := ⟨rfl, rfl, rfl, by decide +kernel, rfl, by decide +kernel, by decide +kernel⟩
abbrev s_law_dice : Stmt := topS 38
abbrev N_law_dice : List Str := ["_law_script", "_law_spot", "_law_cell", "_law_left"]
theorem sc_law_dice : FnScope N_law_dice ["_law_script", "_law_spot"] (defScope s_law_dice) := ⟨rfl, rfl, rfl, by decide +kernel, rfl, by decide +kernel, by decide +kernel⟩
abbrev s_law_roll : Stmt := topS 39
abbrev N_law_roll : List Str := ["_law_dice_here", "_law_total", "_law_found", "_law_one", "_law_two"]
theorem sc_law_roll : FnScope N_law_roll ["_law_dice_here", "_law_total"] (defScope s_law_roll) := ⟨rfl, rfl, rfl, by decide +kernel, rfl, by decide +kernel, by decide +kernel⟩
abbrev s_law_pick : Stmt := topS 40
abbrev N_law_pick : List Str := ["_law_dice_here", "_law_items"]
theorem sc_law_pick : FnScope N_law_pick ["_law_dice_here", "_law_items"] (defScope s_law_pick) := ⟨rfl, rfl, rfl, by decide +kernel, rfl, by decide +kernel, by decide +kernel⟩
abbrev s_law_near : Stmt := topS 41
abbrev N_law_near : List Str := ["_law_dice_here", "_law_most"]
theorem sc_law_near : FnScope N_law_near ["_law_dice_here", "_law_most"] (defScope s_law_near) := ⟨rfl, rfl, rfl, by decide +kernel, rfl, by decide +kernel, by decide +kernel⟩
abbrev s_law_gcd : Stmt := topS 42
abbrev N_law_gcd : List Str := ["_law_one", "_law_other"]
theorem sc_law_gcd : FnScope N_law_gcd ["_law_one", "_law_other"] (defScope s_law_gcd) := ⟨rfl, rfl, rfl, by decide +kernel, rfl, by decide +kernel, by decide +kernel⟩
abbrev s_law_shared : Stmt := topS 43
abbrev N_law_shared : List Str := ["_law_numbers", "_law_found", "_law_number"]
theorem sc_law_shared : FnScope N_law_shared ["_law_numbers"] (defScope s_law_shared) := ⟨rfl, rfl, rfl, by decide +kernel, rfl, by decide +kernel, by decide +kernel⟩
abbrev s_law_lowest : Stmt := topS 44
abbrev N_law_lowest : List Str := ["_law_top", "_law_bottom", "_law_part"]
theorem sc_law_lowest : FnScope N_law_lowest ["_law_top", "_law_bottom"] (defScope s_law_lowest) := ⟨rfl, rfl, rfl, by decide +kernel, rfl, by decide +kernel, by decide +kernel⟩
abbrev s_law_raised : Stmt := topS 45
abbrev N_law_raised : List Str := ["_law_number", "_law_times", "_law_found", "_law_turn"]
theorem sc_law_raised : FnScope N_law_raised ["_law_number", "_law_times"] (defScope s_law_raised) := ⟨rfl, rfl, rfl, by decide +kernel, rfl, by decide +kernel, by decide +kernel⟩
abbrev s_law_choose : Stmt := topS 46
abbrev N_law_choose : List Str := ["_law_many", "_law_few", "_law_found", "_law_at"]
theorem sc_law_choose : FnScope N_law_choose ["_law_many", "_law_few"] (defScope s_law_choose) := ⟨rfl, rfl, rfl, by decide +kernel, rfl, by decide +kernel, by decide +kernel⟩
abbrev s_law_plus : Stmt := topS 47
abbrev N_law_plus : List Str := ["_law_one", "_law_other", "_law_first", "_law_second"]
theorem sc_law_plus : FnScope N_law_plus ["_law_one", "_law_other"] (defScope s_law_plus) := ⟨rfl, rfl, rfl, by decide +kernel, rfl, by decide +kernel, by decide +kernel⟩
abbrev s_law_scaled : Stmt := topS 48
abbrev N_law_scaled : List Str := ["_law_form_here", "_law_factor", "_law_entry"]
theorem sc_law_scaled : FnScope N_law_scaled ["_law_form_here", "_law_factor"] (defScope s_law_scaled) := ⟨rfl, rfl, rfl, by decide +kernel, rfl, by decide +kernel, by decide +kernel⟩
abbrev s_law_product : Stmt := topS 49
abbrev N_law_product : List Str := ["_law_one", "_law_other", "_law_found", "_law_place", "_law_at", "_law_first", "_law_second"]
theorem sc_law_product : FnScope N_law_product ["_law_one", "_law_other"] (defScope s_law_product) := ⟨rfl, rfl, rfl, by decide +kernel, rfl, by decide +kernel, by decide +kernel⟩
abbrev s_law_all_product : Stmt := topS 50
abbrev N_law_all_product : List Str := ["_law_forms", "_law_found", "_law_form_here"]
theorem sc_law_all_product : FnScope N_law_all_product ["_law_forms"] (defScope s_law_all_product) := ⟨rfl, rfl, rfl, by decide +kernel, rfl, by decide +kernel, by decide +kernel⟩
abbrev s_law_power : Stmt := topS 51
abbrev N_law_power : List Str := ["_law_pair", "_law_times", "_law_found", "_law_turn"]
theorem sc_law_power : FnScope N_law_power ["_law_pair", "_law_times"] (defScope s_law_power) := ⟨rfl, rfl, rfl, by decide +kernel, rfl, by decide +kernel, by decide +kernel⟩
abbrev s_law_plain : Stmt := topS 52
abbrev N_law_plain : List Str := ["_law_form_here", "_law_part", "_law_first", "_law_entry"]
theorem sc_law_plain : FnScope N_law_plain ["_law_form_here"] (defScope s_law_plain) := ⟨rfl, rfl, rfl, by decide +kernel, rfl, by decide +kernel, by decide +kernel⟩
abbrev s_law_line : Stmt := topS 53
abbrev N_law_line : List Str := ["_law_point_here"]
theorem sc_law_line : FnScope N_law_line ["_law_point_here"] (defScope s_law_line) := ⟨rfl, rfl, rfl, by decide +kernel, rfl, by decide +kernel, by decide +kernel⟩
abbrev s_law_point : Stmt := topS 54
abbrev N_law_point : List Str := ["_law_dice_here", "_law_most", "_law_one", "_law_other"]
theorem sc_law_point : FnScope N_law_point ["_law_dice_here", "_law_most"] (defScope s_law_point) := ⟨rfl, rfl, rfl, by decide +kernel, rfl, by decide +kernel, by decide +kernel⟩
abbrev s_law_small_form : Stmt := topS 55
abbrev N_law_small_form : List Str := ["_law_dice_here", "_law_degree", "_law_most", "_law_place"]
theorem sc_law_small_form : FnScope N_law_small_form ["_law_dice_here", "_law_degree", "_law_most"] (defScope s_law_small_form) := ⟨rfl, rfl, rfl, by decide +kernel, rfl, by decide +kernel, by decide +kernel⟩
abbrev s_law_form : Stmt := topS 56
abbrev N_law_form : List Str := ["_law_dice_here", "_law_degree", "_law_way", "_law_turn", "_law_line_here", "_law_often", "_law_found", "_law_place"]
theorem sc_law_form : FnScope N_law_form ["_law_dice_here", "_law_degree"] (defScope s_law_form) := ⟨rfl, rfl, rfl, by decide +kernel, rfl, by decide +kernel, by decide +kernel⟩
abbrev s_law_table : Stmt := topS 57
abbrev N_law_table : List Str := ["_law_dice_here", "_law_most", "_law_found", "_law_row"]
theorem sc_law_table : FnScope N_law_table ["_law_dice_here", "_law_most"] (defScope s_law_table) := ⟨rfl, rfl, rfl, by decide +kernel, rfl, by decide +kernel, by decide +kernel⟩
abbrev s_law_factor_due : Stmt := topS 58
abbrev N_law_factor_due : List Str := ["_law_one", "_law_other", "_law_at", "_law_place", "_law_entry", "_law_ratio", "_law_unlike", "_law_a", "_law_b"]
theorem sc_law_factor_due : FnScope N_law_factor_due ["_law_one", "_law_other"] (defScope s_law_factor_due) := ⟨rfl, rfl, rfl, by decide +kernel, rfl, by decide +kernel, by decide +kernel⟩
abbrev s_law_are_powers_right : Stmt := topS 59
abbrev N_law_are_powers_right : List Str := ["_law_dice_here", "_law_pair", "_law_degree", "_law_told", "_law_at", "_law_entry", "_law_table_here", "_law_moved"]
theorem sc_law_are_powers_right : FnScope N_law_are_powers_right ["_law_dice_here"] (defScope s_law_are_powers_right) := ⟨rfl, rfl, rfl, by decide +kernel, rfl, by decide +kernel, by decide +kernel⟩
abbrev s_law_are_factors_right : Stmt := topS 60
abbrev N_law_are_factors_right : List Str := ["_law_dice_here", "_law_one", "_law_up", "_law_down", "_law_first", "_law_other", "_law_at", "_law_near_here", "_law_nothing", "_law_entry", "_law_some", "_law_told", "_law_table_here"]
theorem sc_law_are_factors_right : FnScope N_law_are_factors_right ["_law_dice_here"] (defScope s_law_are_factors_right) := ⟨rfl, rfl, rfl, by decide +kernel, rfl, by decide +kernel, by decide +kernel⟩
abbrev s_law : Stmt := topS 61
abbrev N_law : List Str := ["_law_script", "_law_spot", "_law_dice_here", "_law_told"]
theorem sc_law : FnScope N_law ["_law_script"] (defScope s_law) := ⟨rfl, rfl, rfl, by decide +kernel, rfl, by decide +kernel, by decide +kernel⟩
abbrev s_Told_init : Stmt := inClass (topS 30) 1
abbrev N_Told_init : List Str := ["self", "row"]
theorem sc_Told_init : FnScope N_Told_init ["self", "row"] (defScope s_Told_init) := ⟨rfl, rfl, rfl, by decide +kernel, rfl, by decide +kernel, by decide +kernel⟩
abbrev s_Form_init : Stmt := inClass (topS 32) 1
abbrev N_Form_init : List Str := ["self", "entries"]
theorem sc_Form_init : FnScope N_Form_init ["self", "entries"] (defScope s_Form_init) := ⟨rfl, rfl, rfl, by decide +kernel, rfl, by decide +kernel, by decide +kernel⟩
abbrev s_Form_power : Stmt := inClass (topS 32) 3
abbrev N_Form_power : List Str := ["cls", "pair", "degree"]
theorem sc_Form_power : FnScope N_Form_power ["cls", "pair", "degree"] (defScope s_Form_power) := ⟨rfl, rfl, rfl, by decide +kernel, rfl, by decide +kernel, by decide +kernel⟩
abbrev s_Form_entries : Stmt := inClass (topS 32) 4
abbrev N_Form_entries : List Str := ["self"]
theorem sc_Form_entries : FnScope N_Form_entries ["self"] (defScope s_Form_entries) := ⟨rfl, rfl, rfl, by decide +kernel, rfl, by decide +kernel, by decide +kernel⟩
abbrev s_Form_degree : Stmt := inClass (topS 32) 5
abbrev N_Form_degree : List Str := ["self"]
theorem sc_Form_degree : FnScope N_Form_degree ["self"] (defScope s_Form_degree) := ⟨rfl, rfl, rfl, by decide +kernel, rfl, by decide +kernel, by decide +kernel⟩
abbrev s_Form_is_zero : Stmt := inClass (topS 32) 6
abbrev N_Form_is_zero : List Str := ["self"]
theorem sc_Form_is_zero : FnScope N_Form_is_zero ["self"] (defScope s_Form_is_zero) := ⟨rfl, rfl, rfl, by decide +kernel, rfl, by decide +kernel, by decide +kernel⟩
abbrev s_Form_value : Stmt := inClass (topS 32) 9
abbrev s_Form_changed : Stmt := inClass (topS 32) 10
abbrev N_Form_changed : List Str := ["self", "table"]
theorem sc_Form_changed : FnScope N_Form_changed ["self", "table"] (defScope s_Form_changed) := ⟨rfl, rfl, rfl, by decide +kernel, rfl, by decide +kernel, by decide +kernel⟩
abbrev s_Form_add : Stmt := inClass (topS 32) 14
abbrev s_Form_sub : Stmt := inClass (topS 32) 15
abbrev s_Form_neg : Stmt := inClass (topS 32) 16
abbrev s_Form_mul : Stmt := inClass (topS 32) 17
abbrev N_Form_mul : List Str := ["self", "other", "entry"]
theorem sc_Form_mul : FnScope N_Form_mul ["self", "other"] (defScope s_Form_mul) := ⟨rfl, rfl, rfl, by decide +kernel, rfl, by decide +kernel, by decide +kernel⟩
abbrev s_Form_eq : Stmt := inClass (topS 32) 18
abbrev N_Form_eq : List Str := ["self", "other"]
theorem sc_Form_eq : FnScope N_Form_eq ["self", "other"] (defScope s_Form_eq) := ⟨rfl, rfl, rfl, by decide +kernel, rfl, by decide +kernel, by decide +kernel⟩
abbrev s_Form_len : Stmt := inClass (topS 32) 19
abbrev s_Form_iter : Stmt := inClass (topS 32) 20
abbrev s_Form_str : Stmt := inClass (topS 32) 21
/-- where the defs stand, what the names of the module are -/
structure Facts (K : PySem.W.Frag) (mg : Str → Option Value) where
  f_is_whole : Addr
  fd_is_whole : FuncData
  F_is_whole : FnP K "is_whole" s_is_whole f_is_whole fd_is_whole
  g_is_whole : mg "is_whole" = some (.ref f_is_whole)
  b_is_whole : Binds K fd_is_whole ["value"] []
  f_is_short : Addr
  fd_is_short : FuncData
  F_is_short : FnP K "is_short" s_is_short f_is_short fd_is_short
  g_is_short : mg "is_short" = some (.ref f_is_short)
  b_is_short : Binds K fd_is_short ["value"] []
  f_is_from : Addr
  fd_is_from : FuncData
  F_is_from : FnP K "is_from" s_is_from f_is_from fd_is_from
  g_is_from : mg "is_from" = some (.ref f_is_from)
  b_is_from : Binds K fd_is_from ["value", "least", "most"] []
  f_are_short : Addr
  fd_are_short : FuncData
  F_are_short : FnP K "are_short" s_are_short f_are_short fd_are_short
  g_are_short : mg "are_short" = some (.ref f_are_short)
  b_are_short : Binds K fd_are_short ["value"] []
  f_require_short : Addr
  fd_require_short : FuncData
  F_require_short : FnP K "require_short" s_require_short f_require_short fd_require_short
  g_require_short : mg "require_short" = some (.ref f_require_short)
  b_require_short : Binds K fd_require_short ["value"] []
  f_require_from : Addr
  fd_require_from : FuncData
  F_require_from : FnP K "require_from" s_require_from f_require_from fd_require_from
  g_require_from : mg "require_from" = some (.ref f_require_from)
  b_require_from : Binds K fd_require_from ["value", "least", "most"] []
  f_is_change : Addr
  fd_is_change : FuncData
  F_is_change : FnP K "is_change" s_is_change f_is_change fd_is_change
  g_is_change : mg "is_change" = some (.ref f_is_change)
  b_is_change : Binds K fd_is_change ["value"] []
  f_require_change : Addr
  fd_require_change : FuncData
  F_require_change : FnP K "require_change" s_require_change f_require_change fd_require_change
  g_require_change : mg "require_change" = some (.ref f_require_change)
  b_require_change : Binds K fd_require_change ["value"] []
  f_product_in : Addr
  fd_product_in : FuncData
  F_product_in : FnP K "product_in" s_product_in f_product_in fd_product_in
  g_product_in : mg "product_in" = some (.ref f_product_in)
  b_product_in : Binds K fd_product_in ["one", "other"] []
  f_joined_entries : Addr
  fd_joined_entries : FuncData
  F_joined_entries : FnP K "joined_entries" s_joined_entries f_joined_entries fd_joined_entries
  g_joined_entries : mg "joined_entries" = some (.ref f_joined_entries)
  b_joined_entries : Binds K fd_joined_entries ["one", "other"] []
  f_power_in : Addr
  fd_power_in : FuncData
  F_power_in : FnP K "power_in" s_power_in f_power_in fd_power_in
  g_power_in : mg "power_in" = some (.ref f_power_in)
  b_power_in : Binds K fd_power_in ["pair", "degree"] []
  f_value_in : Addr
  fd_value_in : FuncData
  F_value_in : FnP K "value_in" s_value_in f_value_in fd_value_in
  g_value_in : mg "value_in" = some (.ref f_value_in)
  b_value_in : Binds K fd_value_in ["entries", "x", "y"] []
  f_changed_in : Addr
  fd_changed_in : FuncData
  F_changed_in : FnP K "changed_in" s_changed_in f_changed_in fd_changed_in
  g_changed_in : mg "changed_in" = some (.ref f_changed_in)
  b_changed_in : Binds K fd_changed_in ["entries", "table"] []
  f_is_zero_in : Addr
  fd_is_zero_in : FuncData
  F_is_zero_in : FnP K "is_zero_in" s_is_zero_in f_is_zero_in fd_is_zero_in
  g_is_zero_in : mg "is_zero_in" = some (.ref f_is_zero_in)
  b_is_zero_in : Binds K fd_is_zero_in ["entries"] []
  f_first_index : Addr
  fd_first_index : FuncData
  F_first_index : FnP K "first_index" s_first_index f_first_index fd_first_index
  g_first_index : mg "first_index" = some (.ref f_first_index)
  b_first_index : Binds K fd_first_index ["entries"] []
  f_ratio_between : Addr
  fd_ratio_between : FuncData
  F_ratio_between : FnP K "ratio_between" s_ratio_between f_ratio_between fd_ratio_between
  g_ratio_between : mg "ratio_between" = some (.ref f_ratio_between)
  b_ratio_between : Binds K fd_ratio_between ["one", "other"] []
  f_are_entries : Addr
  fd_are_entries : FuncData
  F_are_entries : FnP K "are_entries" s_are_entries f_are_entries fd_are_entries
  g_are_entries : mg "are_entries" = some (.ref f_are_entries)
  b_are_entries : Binds K fd_are_entries ["value"] []
  f_form_of : Addr
  fd_form_of : FuncData
  F_form_of : FnP K "form_of" s_form_of f_form_of fd_form_of
  g_form_of : mg "form_of" = some (.ref f_form_of)
  b_form_of : Binds K fd_form_of ["entries"] []
  f_require_form : Addr
  fd_require_form : FuncData
  F_require_form : FnP K "require_form" s_require_form f_require_form fd_require_form
  g_require_form : mg "require_form" = some (.ref f_require_form)
  b_require_form : Binds K fd_require_form ["value"] []
  f_sum_in : Addr
  fd_sum_in : FuncData
  F_sum_in : FnP K "sum_in" s_sum_in f_sum_in fd_sum_in
  g_sum_in : mg "sum_in" = some (.ref f_sum_in)
  b_sum_in : Binds K fd_sum_in ["one", "other", "sign"] []
  f_factor_between : Addr
  fd_factor_between : FuncData
  F_factor_between : FnP K "factor_between" s_factor_between f_factor_between fd_factor_between
  g_factor_between : mg "factor_between" = some (.ref f_factor_between)
  b_factor_between : Binds K fd_factor_between ["one", "other"] []
  f_law_dice : Addr
  fd_law_dice : FuncData
  F_law_dice : FnP K "_law_dice" s_law_dice f_law_dice fd_law_dice
  g_law_dice : mg "_law_dice" = some (.ref f_law_dice)
  b_law_dice : Binds K fd_law_dice ["_law_script", "_law_spot"] []
  f_law_roll : Addr
  fd_law_roll : FuncData
  F_law_roll : FnP K "_law_roll" s_law_roll f_law_roll fd_law_roll
  g_law_roll : mg "_law_roll" = some (.ref f_law_roll)
  b_law_roll : Binds K fd_law_roll ["_law_dice_here", "_law_total"] []
  f_law_pick : Addr
  fd_law_pick : FuncData
  F_law_pick : FnP K "_law_pick" s_law_pick f_law_pick fd_law_pick
  g_law_pick : mg "_law_pick" = some (.ref f_law_pick)
  b_law_pick : Binds K fd_law_pick ["_law_dice_here", "_law_items"] []
  f_law_near : Addr
  fd_law_near : FuncData
  F_law_near : FnP K "_law_near" s_law_near f_law_near fd_law_near
  g_law_near : mg "_law_near" = some (.ref f_law_near)
  b_law_near : Binds K fd_law_near ["_law_dice_here", "_law_most"] []
  f_law_gcd : Addr
  fd_law_gcd : FuncData
  F_law_gcd : FnP K "_law_gcd" s_law_gcd f_law_gcd fd_law_gcd
  g_law_gcd : mg "_law_gcd" = some (.ref f_law_gcd)
  b_law_gcd : Binds K fd_law_gcd ["_law_one", "_law_other"] []
  f_law_shared : Addr
  fd_law_shared : FuncData
  F_law_shared : FnP K "_law_shared" s_law_shared f_law_shared fd_law_shared
  g_law_shared : mg "_law_shared" = some (.ref f_law_shared)
  b_law_shared : Binds K fd_law_shared ["_law_numbers"] []
  f_law_lowest : Addr
  fd_law_lowest : FuncData
  F_law_lowest : FnP K "_law_lowest" s_law_lowest f_law_lowest fd_law_lowest
  g_law_lowest : mg "_law_lowest" = some (.ref f_law_lowest)
  b_law_lowest : Binds K fd_law_lowest ["_law_top", "_law_bottom"] []
  f_law_raised : Addr
  fd_law_raised : FuncData
  F_law_raised : FnP K "_law_raised" s_law_raised f_law_raised fd_law_raised
  g_law_raised : mg "_law_raised" = some (.ref f_law_raised)
  b_law_raised : Binds K fd_law_raised ["_law_number", "_law_times"] []
  f_law_choose : Addr
  fd_law_choose : FuncData
  F_law_choose : FnP K "_law_choose" s_law_choose f_law_choose fd_law_choose
  g_law_choose : mg "_law_choose" = some (.ref f_law_choose)
  b_law_choose : Binds K fd_law_choose ["_law_many", "_law_few"] []
  f_law_plus : Addr
  fd_law_plus : FuncData
  F_law_plus : FnP K "_law_plus" s_law_plus f_law_plus fd_law_plus
  g_law_plus : mg "_law_plus" = some (.ref f_law_plus)
  b_law_plus : Binds K fd_law_plus ["_law_one", "_law_other"] []
  f_law_scaled : Addr
  fd_law_scaled : FuncData
  F_law_scaled : FnP K "_law_scaled" s_law_scaled f_law_scaled fd_law_scaled
  g_law_scaled : mg "_law_scaled" = some (.ref f_law_scaled)
  b_law_scaled : Binds K fd_law_scaled ["_law_form_here", "_law_factor"] []
  f_law_product : Addr
  fd_law_product : FuncData
  F_law_product : FnP K "_law_product" s_law_product f_law_product fd_law_product
  g_law_product : mg "_law_product" = some (.ref f_law_product)
  b_law_product : Binds K fd_law_product ["_law_one", "_law_other"] []
  f_law_all_product : Addr
  fd_law_all_product : FuncData
  F_law_all_product : FnP K "_law_all_product" s_law_all_product f_law_all_product fd_law_all_product
  g_law_all_product : mg "_law_all_product" = some (.ref f_law_all_product)
  b_law_all_product : Binds K fd_law_all_product ["_law_forms"] []
  f_law_power : Addr
  fd_law_power : FuncData
  F_law_power : FnP K "_law_power" s_law_power f_law_power fd_law_power
  g_law_power : mg "_law_power" = some (.ref f_law_power)
  b_law_power : Binds K fd_law_power ["_law_pair", "_law_times"] []
  f_law_plain : Addr
  fd_law_plain : FuncData
  F_law_plain : FnP K "_law_plain" s_law_plain f_law_plain fd_law_plain
  g_law_plain : mg "_law_plain" = some (.ref f_law_plain)
  b_law_plain : Binds K fd_law_plain ["_law_form_here"] []
  f_law_line : Addr
  fd_law_line : FuncData
  F_law_line : FnP K "_law_line" s_law_line f_law_line fd_law_line
  g_law_line : mg "_law_line" = some (.ref f_law_line)
  b_law_line : Binds K fd_law_line ["_law_point_here"] []
  f_law_point : Addr
  fd_law_point : FuncData
  F_law_point : FnP K "_law_point" s_law_point f_law_point fd_law_point
  g_law_point : mg "_law_point" = some (.ref f_law_point)
  b_law_point : Binds K fd_law_point ["_law_dice_here", "_law_most"] []
  f_law_small_form : Addr
  fd_law_small_form : FuncData
  F_law_small_form : FnP K "_law_small_form" s_law_small_form f_law_small_form fd_law_small_form
  g_law_small_form : mg "_law_small_form" = some (.ref f_law_small_form)
  b_law_small_form : Binds K fd_law_small_form ["_law_dice_here", "_law_degree", "_law_most"] []
  f_law_form : Addr
  fd_law_form : FuncData
  F_law_form : FnP K "_law_form" s_law_form f_law_form fd_law_form
  g_law_form : mg "_law_form" = some (.ref f_law_form)
  b_law_form : Binds K fd_law_form ["_law_dice_here", "_law_degree"] []
  f_law_table : Addr
  fd_law_table : FuncData
  F_law_table : FnP K "_law_table" s_law_table f_law_table fd_law_table
  g_law_table : mg "_law_table" = some (.ref f_law_table)
  b_law_table : Binds K fd_law_table ["_law_dice_here", "_law_most"] []
  f_law_factor_due : Addr
  fd_law_factor_due : FuncData
  F_law_factor_due : FnP K "_law_factor_due" s_law_factor_due f_law_factor_due fd_law_factor_due
  g_law_factor_due : mg "_law_factor_due" = some (.ref f_law_factor_due)
  b_law_factor_due : Binds K fd_law_factor_due ["_law_one", "_law_other"] []
  f_law_are_powers_right : Addr
  fd_law_are_powers_right : FuncData
  F_law_are_powers_right : FnP K "_law_are_powers_right" s_law_are_powers_right f_law_are_powers_right fd_law_are_powers_right
  g_law_are_powers_right : mg "_law_are_powers_right" = some (.ref f_law_are_powers_right)
  b_law_are_powers_right : Binds K fd_law_are_powers_right ["_law_dice_here"] []
  f_law_are_factors_right : Addr
  fd_law_are_factors_right : FuncData
  F_law_are_factors_right : FnP K "_law_are_factors_right" s_law_are_factors_right f_law_are_factors_right fd_law_are_factors_right
  g_law_are_factors_right : mg "_law_are_factors_right" = some (.ref f_law_are_factors_right)
  b_law_are_factors_right : Binds K fd_law_are_factors_right ["_law_dice_here"] []
  f_law : Addr
  fd_law : FuncData
  F_law : FnP K "law" s_law f_law fd_law
  g_law : mg "law" = some (.ref f_law)
  b_law : Binds K fd_law ["_law_script"] []
  f_Told_init : Addr
  fd_Told_init : FuncData
  F_Told_init : FnM K "__init__" "Told.__init__" s_Told_init f_Told_init fd_Told_init
  b_Told_init : Binds K fd_Told_init ["self", "row"] []
  f_Form_init : Addr
  fd_Form_init : FuncData
  F_Form_init : FnM K "__init__" "Form.__init__" s_Form_init f_Form_init fd_Form_init
  b_Form_init : Binds K fd_Form_init ["self", "entries"] []
  f_Form_power : Addr
  fd_Form_power : FuncData
  F_Form_power : FnM K "power" "Form.power" s_Form_power f_Form_power fd_Form_power
  b_Form_power : Binds K fd_Form_power ["cls", "pair", "degree"] []
  f_Form_entries : Addr
  fd_Form_entries : FuncData
  F_Form_entries : FnM K "entries" "Form.entries" s_Form_entries f_Form_entries fd_Form_entries
  b_Form_entries : Binds K fd_Form_entries ["self"] []
  f_Form_degree : Addr
  fd_Form_degree : FuncData
  F_Form_degree : FnM K "degree" "Form.degree" s_Form_degree f_Form_degree fd_Form_degree
  b_Form_degree : Binds K fd_Form_degree ["self"] []
  f_Form_is_zero : Addr
  fd_Form_is_zero : FuncData
  F_Form_is_zero : FnM K "is_zero" "Form.is_zero" s_Form_is_zero f_Form_is_zero fd_Form_is_zero
  b_Form_is_zero : Binds K fd_Form_is_zero ["self"] []
  f_Form_value : Addr
  fd_Form_value : FuncData
  F_Form_value : FnM K "value" "Form.value" s_Form_value f_Form_value fd_Form_value
  b_Form_value : Binds K fd_Form_value ["self", "x", "y"] []
  f_Form_changed : Addr
  fd_Form_changed : FuncData
  F_Form_changed : FnM K "changed" "Form.changed" s_Form_changed f_Form_changed fd_Form_changed
  b_Form_changed : Binds K fd_Form_changed ["self", "table"] []
  f_Form_add : Addr
  fd_Form_add : FuncData
  F_Form_add : FnM K "__add__" "Form.__add__" s_Form_add f_Form_add fd_Form_add
  b_Form_add : Binds K fd_Form_add ["self", "other"] []
  f_Form_sub : Addr
  fd_Form_sub : FuncData
  F_Form_sub : FnM K "__sub__" "Form.__sub__" s_Form_sub f_Form_sub fd_Form_sub
  b_Form_sub : Binds K fd_Form_sub ["self", "other"] []
  f_Form_neg : Addr
  fd_Form_neg : FuncData
  F_Form_neg : FnM K "__neg__" "Form.__neg__" s_Form_neg f_Form_neg fd_Form_neg
  b_Form_neg : Binds K fd_Form_neg ["self"] []
  f_Form_mul : Addr
  fd_Form_mul : FuncData
  F_Form_mul : FnM K "__mul__" "Form.__mul__" s_Form_mul f_Form_mul fd_Form_mul
  b_Form_mul : Binds K fd_Form_mul ["self", "other"] []
  f_Form_eq : Addr
  fd_Form_eq : FuncData
  F_Form_eq : FnM K "__eq__" "Form.__eq__" s_Form_eq f_Form_eq fd_Form_eq
  b_Form_eq : Binds K fd_Form_eq ["self", "other"] []
  f_Form_len : Addr
  fd_Form_len : FuncData
  F_Form_len : FnM K "__len__" "Form.__len__" s_Form_len f_Form_len fd_Form_len
  b_Form_len : Binds K fd_Form_len ["self"] []
  f_Form_iter : Addr
  fd_Form_iter : FuncData
  F_Form_iter : FnM K "__iter__" "Form.__iter__" s_Form_iter f_Form_iter fd_Form_iter
  b_Form_iter : Binds K fd_Form_iter ["self"] []
  f_Form_str : Addr
  fd_Form_str : FuncData
  F_Form_str : FnM K "__str__" "Form.__str__" s_Form_str f_Form_str fd_Form_str
  b_Form_str : Binds K fd_Form_str ["self"] []
  C_Told : Addr
  g_Told : mg "Told" = some (.ref C_Told)
  oc_Told : OwnF.OC K C_Told
  mk_Told : Mk K C_Told f_Told_init
  a_own_row : Addr
  sl_own_row : SlX.Slot1 K C_Told "own_row" a_own_row 0
  C_Form : Addr
  g_Form : mg "Form" = some (.ref C_Form)
  oc_Form : OwnF.OC K C_Form
  mk_Form : Mk K C_Form f_Form_init
  a_own_entries : Addr
  sl_own_entries : SlX.Slot1 K C_Form "own_entries" a_own_entries 0
  mt_Told_init : HookG.Mt K C_Told "__init__" f_Told_init
  mt_Form_init : HookG.Mt K C_Form "__init__" f_Form_init
  p_Form_power : Addr
  cm_Form_power : OwnC.Cm K C_Form "power" p_Form_power f_Form_power
  p_Form_entries : Addr
  pr_Form_entries : HookG.Pr K C_Form "entries" p_Form_entries f_Form_entries
  p_Form_degree : Addr
  pr_Form_degree : HookG.Pr K C_Form "degree" p_Form_degree f_Form_degree
  p_Form_is_zero : Addr
  pr_Form_is_zero : HookG.Pr K C_Form "is_zero" p_Form_is_zero f_Form_is_zero
  mt_Form_value : HookG.Mt K C_Form "value" f_Form_value
  mt_Form_changed : HookG.Mt K C_Form "changed" f_Form_changed
  mt_Form_add : HookG.Mt K C_Form "__add__" f_Form_add
  mt_Form_sub : HookG.Mt K C_Form "__sub__" f_Form_sub
  mt_Form_neg : HookG.Mt K C_Form "__neg__" f_Form_neg
  mt_Form_mul : HookG.Mt K C_Form "__mul__" f_Form_mul
  mt_Form_eq : HookG.Mt K C_Form "__eq__" f_Form_eq
  mt_Form_len : HookG.Mt K C_Form "__len__" f_Form_len
  mt_Form_iter : HookG.Mt K C_Form "__iter__" f_Form_iter
  mt_Form_str : HookG.Mt K C_Form "__str__" f_Form_str
  kit_Told_Form : PySem.W.kitOne K (.ref C_Told) (.ref C_Form) = some false
  kit_Form_Told : PySem.W.kitOne K (.ref C_Form) (.ref C_Told) = some false
  z_abs : mg "abs" = none
  z_all : mg "all" = none
  z_any : mg "any" = none
  z_bool : mg "bool" = none
  z_enumerate : mg "enumerate" = none
  z_int : mg "int" = none
  z_isinstance : mg "isinstance" = none
  z_iter : mg "iter" = none
  z_len : mg "len" = none
  z_max : mg "max" = none
  z_min : mg "min" = none
  z_next : mg "next" = none
  z_range : mg "range" = none
  z_str : mg "str" = none
  z_tuple : mg "tuple" = none
  z_zip : mg "zip" = none
  m_gcd : mg "gcd" = some (.builtin "math.gcd")
  c_GREATEST : ∃ t, mg "GREATEST" = some (.int 1000000000000000000000000000000000000000000000000000000000000 t)
  c_MAX_DEGREE : ∃ t, mg "MAX_DEGREE" = some (.int 40 t)
  c_first_index : Addr
  P_first_index : Addr
  code_first_index : fd_first_index.code = .ref c_first_index
  tab_first_index : (c_first_index, P_first_index) = HookT.cTA K (HookG.At.glo "first_index")
/-! ### for the head -/
def d_is_whole : HookG.GD := ⟨.glo "is_whole", "is_whole", "is_whole", defArgs s_is_whole, defBody s_is_whole, defScope s_is_whole⟩
def d_is_short : HookG.GD := ⟨.glo "is_short", "is_short", "is_short", defArgs s_is_short, defBody s_is_short, defScope s_is_short⟩
def d_is_from : HookG.GD := ⟨.glo "is_from", "is_from", "is_from", defArgs s_is_from, defBody s_is_from, defScope s_is_from⟩
def d_are_short : HookG.GD := ⟨.glo "are_short", "are_short", "are_short", defArgs s_are_short, defBody s_are_short, defScope s_are_short⟩
def d_require_short : HookG.GD := ⟨.glo "require_short", "require_short", "require_short", defArgs s_require_short, defBody s_require_short, defScope s_require_short⟩
def d_require_from : HookG.GD := ⟨.glo "require_from", "require_from", "require_from", defArgs s_require_from, defBody s_require_from, defScope s_require_from⟩
def d_is_change : HookG.GD := ⟨.glo "is_change", "is_change", "is_change", defArgs s_is_change, defBody s_is_change, defScope s_is_change⟩
def d_require_change : HookG.GD := ⟨.glo "require_change", "require_change", "require_change", defArgs s_require_change, defBody s_require_change, defScope s_require_change⟩
def d_product_in : HookG.GD := ⟨.glo "product_in", "product_in", "product_in", defArgs s_product_in, defBody s_product_in, defScope s_product_in⟩
def d_joined_entries : HookG.GD := ⟨.glo "joined_entries", "joined_entries", "joined_entries", defArgs s_joined_entries, defBody s_joined_entries, defScope s_joined_entries⟩
def d_power_in : HookG.GD := ⟨.glo "power_in", "power_in", "power_in", defArgs s_power_in, defBody s_power_in, defScope s_power_in⟩
def d_value_in : HookG.GD := ⟨.glo "value_in", "value_in", "value_in", defArgs s_value_in, defBody s_value_in, defScope s_value_in⟩
def d_changed_in : HookG.GD := ⟨.glo "changed_in", "changed_in", "changed_in", defArgs s_changed_in, defBody s_changed_in, defScope s_changed_in⟩
def d_is_zero_in : HookG.GD := ⟨.glo "is_zero_in", "is_zero_in", "is_zero_in", defArgs s_is_zero_in, defBody s_is_zero_in, defScope s_is_zero_in⟩
def d_first_index : HookG.GD := ⟨.glo "first_index", "first_index", "first_index", defArgs s_first_index, defBody s_first_index, defScope s_first_index⟩
def d_ratio_between : HookG.GD := ⟨.glo "ratio_between", "ratio_between", "ratio_between", defArgs s_ratio_between, defBody s_ratio_between, defScope s_ratio_between⟩
def d_are_entries : HookG.GD := ⟨.glo "are_entries", "are_entries", "are_entries", defArgs s_are_entries, defBody s_are_entries, defScope s_are_entries⟩
def d_form_of : HookG.GD := ⟨.glo "form_of", "form_of", "form_of", defArgs s_form_of, defBody s_form_of, defScope s_form_of⟩
def d_require_form : HookG.GD := ⟨.glo "require_form", "require_form", "require_form", defArgs s_require_form, defBody s_require_form, defScope s_require_form⟩
def d_sum_in : HookG.GD := ⟨.glo "sum_in", "sum_in", "sum_in", defArgs s_sum_in, defBody s_sum_in, defScope s_sum_in⟩
def d_factor_between : HookG.GD := ⟨.glo "factor_between", "factor_between", "factor_between", defArgs s_factor_between, defBody s_factor_between, defScope s_factor_between⟩
def d_law_dice : HookG.GD := ⟨.glo "_law_dice", "_law_dice", "_law_dice", defArgs s_law_dice, defBody s_law_dice, defScope s_law_dice⟩
def d_law_roll : HookG.GD := ⟨.glo "_law_roll", "_law_roll", "_law_roll", defArgs s_law_roll, defBody s_law_roll, defScope s_law_roll⟩
def d_law_pick : HookG.GD := ⟨.glo "_law_pick", "_law_pick", "_law_pick", defArgs s_law_pick, defBody s_law_pick, defScope s_law_pick⟩
def d_law_near : HookG.GD := ⟨.glo "_law_near", "_law_near", "_law_near", defArgs s_law_near, defBody s_law_near, defScope s_law_near⟩
def d_law_gcd : HookG.GD := ⟨.glo "_law_gcd", "_law_gcd", "_law_gcd", defArgs s_law_gcd, defBody s_law_gcd, defScope s_law_gcd⟩
def d_law_shared : HookG.GD := ⟨.glo "_law_shared", "_law_shared", "_law_shared", defArgs s_law_shared, defBody s_law_shared, defScope s_law_shared⟩
def d_law_lowest : HookG.GD := ⟨.glo "_law_lowest", "_law_lowest", "_law_lowest", defArgs s_law_lowest, defBody s_law_lowest, defScope s_law_lowest⟩
def d_law_raised : HookG.GD := ⟨.glo "_law_raised", "_law_raised", "_law_raised", defArgs s_law_raised, defBody s_law_raised, defScope s_law_raised⟩
def d_law_choose : HookG.GD := ⟨.glo "_law_choose", "_law_choose", "_law_choose", defArgs s_law_choose, defBody s_law_choose, defScope s_law_choose⟩
def d_law_plus : HookG.GD := ⟨.glo "_law_plus", "_law_plus", "_law_plus", defArgs s_law_plus, defBody s_law_plus, defScope s_law_plus⟩
def d_law_scaled : HookG.GD := ⟨.glo "_law_scaled", "_law_scaled", "_law_scaled", defArgs s_law_scaled, defBody s_law_scaled, defScope s_law_scaled⟩
def d_law_product : HookG.GD := ⟨.glo "_law_product", "_law_product", "_law_product", defArgs s_law_product, defBody s_law_product, defScope s_law_product⟩
def d_law_all_product : HookG.GD := ⟨.glo "_law_all_product", "_law_all_product", "_law_all_product", defArgs s_law_all_product, defBody s_law_all_product, defScope s_law_all_product⟩
def d_law_power : HookG.GD := ⟨.glo "_law_power", "_law_power", "_law_power", defArgs s_law_power, defBody s_law_power, defScope s_law_power⟩
def d_law_plain : HookG.GD := ⟨.glo "_law_plain", "_law_plain", "_law_plain", defArgs s_law_plain, defBody s_law_plain, defScope s_law_plain⟩
def d_law_line : HookG.GD := ⟨.glo "_law_line", "_law_line", "_law_line", defArgs s_law_line, defBody s_law_line, defScope s_law_line⟩
def d_law_point : HookG.GD := ⟨.glo "_law_point", "_law_point", "_law_point", defArgs s_law_point, defBody s_law_point, defScope s_law_point⟩
def d_law_small_form : HookG.GD := ⟨.glo "_law_small_form", "_law_small_form", "_law_small_form", defArgs s_law_small_form, defBody s_law_small_form, defScope s_law_small_form⟩
def d_law_form : HookG.GD := ⟨.glo "_law_form", "_law_form", "_law_form", defArgs s_law_form, defBody s_law_form, defScope s_law_form⟩
def d_law_table : HookG.GD := ⟨.glo "_law_table", "_law_table", "_law_table", defArgs s_law_table, defBody s_law_table, defScope s_law_table⟩
def d_law_factor_due : HookG.GD := ⟨.glo "_law_factor_due", "_law_factor_due", "_law_factor_due", defArgs s_law_factor_due, defBody s_law_factor_due, defScope s_law_factor_due⟩
def d_law_are_powers_right : HookG.GD := ⟨.glo "_law_are_powers_right", "_law_are_powers_right", "_law_are_powers_right", defArgs s_law_are_powers_right, defBody s_law_are_powers_right, defScope s_law_are_powers_right⟩
def d_law_are_factors_right : HookG.GD := ⟨.glo "_law_are_factors_right", "_law_are_factors_right", "_law_are_factors_right", defArgs s_law_are_factors_right, defBody s_law_are_factors_right, defScope s_law_are_factors_right⟩
def d_law : HookG.GD := ⟨.glo "law", "law", "law", defArgs s_law, defBody s_law, defScope s_law⟩
def d_Told_init : HookG.GD := ⟨.met "Told" "__init__", "__init__", "Told.__init__", defArgs s_Told_init, defBody s_Told_init, defScope s_Told_init⟩
def d_Form_init : HookG.GD := ⟨.met "Form" "__init__", "__init__", "Form.__init__", defArgs s_Form_init, defBody s_Form_init, defScope s_Form_init⟩
def d_Form_power : HookG.GD := ⟨.cms "Form" "power", "power", "Form.power", defArgs s_Form_power, defBody s_Form_power, defScope s_Form_power⟩
def d_Form_entries : HookG.GD := ⟨.prp "Form" "entries", "entries", "Form.entries", defArgs s_Form_entries, defBody s_Form_entries, defScope s_Form_entries⟩
def d_Form_degree : HookG.GD := ⟨.prp "Form" "degree", "degree", "Form.degree", defArgs s_Form_degree, defBody s_Form_degree, defScope s_Form_degree⟩
def d_Form_is_zero : HookG.GD := ⟨.prp "Form" "is_zero", "is_zero", "Form.is_zero", defArgs s_Form_is_zero, defBody s_Form_is_zero, defScope s_Form_is_zero⟩
def d_Form_value : HookG.GD := ⟨.met "Form" "value", "value", "Form.value", defArgs s_Form_value, defBody s_Form_value, defScope s_Form_value⟩
def d_Form_changed : HookG.GD := ⟨.met "Form" "changed", "changed", "Form.changed", defArgs s_Form_changed, defBody s_Form_changed, defScope s_Form_changed⟩
def d_Form_add : HookG.GD := ⟨.met "Form" "__add__", "__add__", "Form.__add__", defArgs s_Form_add, defBody s_Form_add, defScope s_Form_add⟩
def d_Form_sub : HookG.GD := ⟨.met "Form" "__sub__", "__sub__", "Form.__sub__", defArgs s_Form_sub, defBody s_Form_sub, defScope s_Form_sub⟩
def d_Form_neg : HookG.GD := ⟨.met "Form" "__neg__", "__neg__", "Form.__neg__", defArgs s_Form_neg, defBody s_Form_neg, defScope s_Form_neg⟩
def d_Form_mul : HookG.GD := ⟨.met "Form" "__mul__", "__mul__", "Form.__mul__", defArgs s_Form_mul, defBody s_Form_mul, defScope s_Form_mul⟩
def d_Form_eq : HookG.GD := ⟨.met "Form" "__eq__", "__eq__", "Form.__eq__", defArgs s_Form_eq, defBody s_Form_eq, defScope s_Form_eq⟩
def d_Form_len : HookG.GD := ⟨.met "Form" "__len__", "__len__", "Form.__len__", defArgs s_Form_len, defBody s_Form_len, defScope s_Form_len⟩
def d_Form_iter : HookG.GD := ⟨.met "Form" "__iter__", "__iter__", "Form.__iter__", defArgs s_Form_iter, defBody s_Form_iter, defScope s_Form_iter⟩
def d_Form_str : HookG.GD := ⟨.met "Form" "__str__", "__str__", "Form.__str__", defArgs s_Form_str, defBody s_Form_str, defScope s_Form_str⟩
def fnL : List HookG.GD := [d_is_whole, d_is_short, d_is_from, d_are_short, d_require_short, d_require_from, d_is_change, d_require_change, d_product_in, d_joined_entries, d_power_in, d_value_in, d_changed_in, d_is_zero_in, d_first_index, d_ratio_between, d_are_entries, d_form_of, d_require_form, d_sum_in, d_factor_between, d_law_dice, d_law_roll, d_law_pick, d_law_near, d_law_gcd, d_law_shared, d_law_lowest, d_law_raised, d_law_choose, d_law_plus, d_law_scaled, d_law_product, d_law_all_product, d_law_power, d_law_plain, d_law_line, d_law_point, d_law_small_form, d_law_form, d_law_table, d_law_factor_due, d_law_are_powers_right, d_law_are_factors_right, d_law, d_Told_init, d_Form_init, d_Form_power, d_Form_entries, d_Form_degree, d_Form_is_zero, d_Form_value, d_Form_changed, d_Form_add, d_Form_sub, d_Form_neg, d_Form_mul, d_Form_eq, d_Form_len, d_Form_iter, d_Form_str]
def faL : List He.Fa := [.glo "is_whole", .glo "is_short", .glo "is_from", .glo "are_short", .glo "require_short", .glo "require_from", .glo "is_change", .glo "require_change", .glo "product_in", .glo "joined_entries", .glo "power_in", .glo "value_in", .glo "changed_in", .glo "is_zero_in", .glo "first_index", .glo "ratio_between", .glo "are_entries", .glo "form_of", .glo "require_form", .glo "sum_in", .glo "factor_between", .glo "_law_dice", .glo "_law_roll", .glo "_law_pick", .glo "_law_near", .glo "_law_gcd", .glo "_law_shared", .glo "_law_lowest", .glo "_law_raised", .glo "_law_choose", .glo "_law_plus", .glo "_law_scaled", .glo "_law_product", .glo "_law_all_product", .glo "_law_power", .glo "_law_plain", .glo "_law_line", .glo "_law_point", .glo "_law_small_form", .glo "_law_form", .glo "_law_table", .glo "_law_factor_due", .glo "_law_are_powers_right", .glo "_law_are_factors_right", .glo "law", .glo "Told", .glo "Form", .free "abs", .free "all", .free "any", .free "bool", .free "enumerate", .free "int", .free "isinstance", .free "iter", .free "len", .free "max", .free "min", .free "next", .free "range", .free "str", .free "tuple", .free "zip", .int "GREATEST" 1000000000000000000000000000000000000000000000000000000000000, .int "MAX_DEGREE" 40, .mkr "Told", .mkr "Form"]
def tfL : List HookG.At := [(HookG.At.glo "first_index")]
def exL (K : PySem.W.Frag) : Bool := He.eqO (PySem.W.nsIn K mainGlobals "gcd") (some (some (.builtin "math.gcd"))) && (OwnF.ocB K "Told" && (HookG.slotB K "Told" "own_row" 0 && (OwnF.ocB K "Form" && (HookG.slotB K "Form" "own_entries" 0 && (HookG.mtB K "Told" "__init__" && (HookG.mtB K "Form" "__init__" && (OwnC.cmB K "Form" "power" && (HookG.prB K "Form" "entries" && (HookG.prB K "Form" "degree" && (HookG.prB K "Form" "is_zero" && (HookG.mtB K "Form" "value" && (HookG.mtB K "Form" "changed" && (HookG.mtB K "Form" "__add__" && (HookG.mtB K "Form" "__sub__" && (HookG.mtB K "Form" "__neg__" && (HookG.mtB K "Form" "__mul__" && (HookG.mtB K "Form" "__eq__" && (HookG.mtB K "Form" "__len__" && (HookG.mtB K "Form" "__iter__" && (HookG.mtB K "Form" "__str__" && (HookG.dO (PySem.W.kitOne K (.ref (He.ga K "Told")) (.ref (He.ga K "Form"))) (some false) && (HookG.dO (PySem.W.kitOne K (.ref (He.ga K "Form")) (.ref (He.ga K "Told"))) (some false)))))))))))))))))))))))
theorem facts_of {K : PySem.W.Frag} {h : Heap} {mg : Str → Option Value} (X : K.In h) (G : h.Ns mainGlobals mg) (c : HookG.SaysG faL fnL exL K) : Nonempty (Facts K mg) := by
  have ex := c.more
  unfold exL at ex
  obtain ⟨ex_0, ex⟩ := He.ba ex
  obtain ⟨ex_1, ex⟩ := He.ba ex
  obtain ⟨ex_2, ex⟩ := He.ba ex
  obtain ⟨ex_3, ex⟩ := He.ba ex
  obtain ⟨ex_4, ex⟩ := He.ba ex
  obtain ⟨ex_5, ex⟩ := He.ba ex
  obtain ⟨ex_6, ex⟩ := He.ba ex
  obtain ⟨ex_7, ex⟩ := He.ba ex
  obtain ⟨ex_8, ex⟩ := He.ba ex
  obtain ⟨ex_9, ex⟩ := He.ba ex
  obtain ⟨ex_10, ex⟩ := He.ba ex
  obtain ⟨ex_11, ex⟩ := He.ba ex
  obtain ⟨ex_12, ex⟩ := He.ba ex
  obtain ⟨ex_13, ex⟩ := He.ba ex
  obtain ⟨ex_14, ex⟩ := He.ba ex
  obtain ⟨ex_15, ex⟩ := He.ba ex
  obtain ⟨ex_16, ex⟩ := He.ba ex
  obtain ⟨ex_17, ex⟩ := He.ba ex
  obtain ⟨ex_18, ex⟩ := He.ba ex
  obtain ⟨ex_19, ex⟩ := He.ba ex
  obtain ⟨ex_20, ex⟩ := He.ba ex
  obtain ⟨ex_21, ex⟩ := He.ba ex
  obtain ⟨fd_is_whole, F_is_whole⟩ := c.def_ 0 (d := d_is_whole) rfl
  obtain ⟨fd_is_short, F_is_short⟩ := c.def_ 1 (d := d_is_short) rfl
  obtain ⟨fd_is_from, F_is_from⟩ := c.def_ 2 (d := d_is_from) rfl
  obtain ⟨fd_are_short, F_are_short⟩ := c.def_ 3 (d := d_are_short) rfl
  obtain ⟨fd_require_short, F_require_short⟩ := c.def_ 4 (d := d_require_short) rfl
  obtain ⟨fd_require_from, F_require_from⟩ := c.def_ 5 (d := d_require_from) rfl
  obtain ⟨fd_is_change, F_is_change⟩ := c.def_ 6 (d := d_is_change) rfl
  obtain ⟨fd_require_change, F_require_change⟩ := c.def_ 7 (d := d_require_change) rfl
  obtain ⟨fd_product_in, F_product_in⟩ := c.def_ 8 (d := d_product_in) rfl
  obtain ⟨fd_joined_entries, F_joined_entries⟩ := c.def_ 9 (d := d_joined_entries) rfl
  obtain ⟨fd_power_in, F_power_in⟩ := c.def_ 10 (d := d_power_in) rfl
  obtain ⟨fd_value_in, F_value_in⟩ := c.def_ 11 (d := d_value_in) rfl
  obtain ⟨fd_changed_in, F_changed_in⟩ := c.def_ 12 (d := d_changed_in) rfl
  obtain ⟨fd_is_zero_in, F_is_zero_in⟩ := c.def_ 13 (d := d_is_zero_in) rfl
  obtain ⟨fd_first_index, F_first_index⟩ := c.def_ 14 (d := d_first_index) rfl
  obtain ⟨fd_ratio_between, F_ratio_between⟩ := c.def_ 15 (d := d_ratio_between) rfl
  obtain ⟨fd_are_entries, F_are_entries⟩ := c.def_ 16 (d := d_are_entries) rfl
  obtain ⟨fd_form_of, F_form_of⟩ := c.def_ 17 (d := d_form_of) rfl
  obtain ⟨fd_require_form, F_require_form⟩ := c.def_ 18 (d := d_require_form) rfl
  obtain ⟨fd_sum_in, F_sum_in⟩ := c.def_ 19 (d := d_sum_in) rfl
  obtain ⟨fd_factor_between, F_factor_between⟩ := c.def_ 20 (d := d_factor_between) rfl
  obtain ⟨fd_law_dice, F_law_dice⟩ := c.def_ 21 (d := d_law_dice) rfl
  obtain ⟨fd_law_roll, F_law_roll⟩ := c.def_ 22 (d := d_law_roll) rfl
  obtain ⟨fd_law_pick, F_law_pick⟩ := c.def_ 23 (d := d_law_pick) rfl
  obtain ⟨fd_law_near, F_law_near⟩ := c.def_ 24 (d := d_law_near) rfl
  obtain ⟨fd_law_gcd, F_law_gcd⟩ := c.def_ 25 (d := d_law_gcd) rfl
  obtain ⟨fd_law_shared, F_law_shared⟩ := c.def_ 26 (d := d_law_shared) rfl
  obtain ⟨fd_law_lowest, F_law_lowest⟩ := c.def_ 27 (d := d_law_lowest) rfl
  obtain ⟨fd_law_raised, F_law_raised⟩ := c.def_ 28 (d := d_law_raised) rfl
  obtain ⟨fd_law_choose, F_law_choose⟩ := c.def_ 29 (d := d_law_choose) rfl
  obtain ⟨fd_law_plus, F_law_plus⟩ := c.def_ 30 (d := d_law_plus) rfl
  obtain ⟨fd_law_scaled, F_law_scaled⟩ := c.def_ 31 (d := d_law_scaled) rfl
  obtain ⟨fd_law_product, F_law_product⟩ := c.def_ 32 (d := d_law_product) rfl
  obtain ⟨fd_law_all_product, F_law_all_product⟩ := c.def_ 33 (d := d_law_all_product) rfl
  obtain ⟨fd_law_power, F_law_power⟩ := c.def_ 34 (d := d_law_power) rfl
  obtain ⟨fd_law_plain, F_law_plain⟩ := c.def_ 35 (d := d_law_plain) rfl
  obtain ⟨fd_law_line, F_law_line⟩ := c.def_ 36 (d := d_law_line) rfl
  obtain ⟨fd_law_point, F_law_point⟩ := c.def_ 37 (d := d_law_point) rfl
  obtain ⟨fd_law_small_form, F_law_small_form⟩ := c.def_ 38 (d := d_law_small_form) rfl
  obtain ⟨fd_law_form, F_law_form⟩ := c.def_ 39 (d := d_law_form) rfl
  obtain ⟨fd_law_table, F_law_table⟩ := c.def_ 40 (d := d_law_table) rfl
  obtain ⟨fd_law_factor_due, F_law_factor_due⟩ := c.def_ 41 (d := d_law_factor_due) rfl
  obtain ⟨fd_law_are_powers_right, F_law_are_powers_right⟩ := c.def_ 42 (d := d_law_are_powers_right) rfl
  obtain ⟨fd_law_are_factors_right, F_law_are_factors_right⟩ := c.def_ 43 (d := d_law_are_factors_right) rfl
  obtain ⟨fd_law, F_law⟩ := c.def_ 44 (d := d_law) rfl
  obtain ⟨fd_Told_init, F_Told_init⟩ := c.def_ 45 (d := d_Told_init) rfl
  obtain ⟨fd_Form_init, F_Form_init⟩ := c.def_ 46 (d := d_Form_init) rfl
  obtain ⟨fd_Form_power, F_Form_power⟩ := c.def_ 47 (d := d_Form_power) rfl
  obtain ⟨fd_Form_entries, F_Form_entries⟩ := c.def_ 48 (d := d_Form_entries) rfl
  obtain ⟨fd_Form_degree, F_Form_degree⟩ := c.def_ 49 (d := d_Form_degree) rfl
  obtain ⟨fd_Form_is_zero, F_Form_is_zero⟩ := c.def_ 50 (d := d_Form_is_zero) rfl
  obtain ⟨fd_Form_value, F_Form_value⟩ := c.def_ 51 (d := d_Form_value) rfl
  obtain ⟨fd_Form_changed, F_Form_changed⟩ := c.def_ 52 (d := d_Form_changed) rfl
  obtain ⟨fd_Form_add, F_Form_add⟩ := c.def_ 53 (d := d_Form_add) rfl
  obtain ⟨fd_Form_sub, F_Form_sub⟩ := c.def_ 54 (d := d_Form_sub) rfl
  obtain ⟨fd_Form_neg, F_Form_neg⟩ := c.def_ 55 (d := d_Form_neg) rfl
  obtain ⟨fd_Form_mul, F_Form_mul⟩ := c.def_ 56 (d := d_Form_mul) rfl
  obtain ⟨fd_Form_eq, F_Form_eq⟩ := c.def_ 57 (d := d_Form_eq) rfl
  obtain ⟨fd_Form_len, F_Form_len⟩ := c.def_ 58 (d := d_Form_len) rfl
  obtain ⟨fd_Form_iter, F_Form_iter⟩ := c.def_ 59 (d := d_Form_iter) rfl
  obtain ⟨fd_Form_str, F_Form_str⟩ := c.def_ 60 (d := d_Form_str) rfl
  exact ⟨{ f_is_whole := _, fd_is_whole := _, F_is_whole := F_is_whole, b_is_whole := (F_is_whole.bindsN fun _ _ _ _ _ _ us hl => match us, hl with | [_], _ => rfl), g_is_whole := He.glo_ok X G (c.fact 0 (f := .glo "is_whole") rfl), f_is_short := _, fd_is_short := _, F_is_short := F_is_short, b_is_short := (F_is_short.bindsN fun _ _ _ _ _ _ us hl => match us, hl with | [_], _ => rfl), g_is_short := He.glo_ok X G (c.fact 1 (f := .glo "is_short") rfl), f_is_from := _, fd_is_from := _, F_is_from := F_is_from, b_is_from := (F_is_from.bindsN fun _ _ _ _ _ _ us hl => match us, hl with | [_, _, _], _ => rfl), g_is_from := He.glo_ok X G (c.fact 2 (f := .glo "is_from") rfl), f_are_short := _, fd_are_short := _, F_are_short := F_are_short, b_are_short := (F_are_short.bindsN fun _ _ _ _ _ _ us hl => match us, hl with | [_], _ => rfl), g_are_short := He.glo_ok X G (c.fact 3 (f := .glo "are_short") rfl), f_require_short := _, fd_require_short := _, F_require_short := F_require_short, b_require_short := (F_require_short.bindsN fun _ _ _ _ _ _ us hl => match us, hl with | [_], _ => rfl), g_require_short := He.glo_ok X G (c.fact 4 (f := .glo "require_short") rfl), f_require_from := _, fd_require_from := _, F_require_from := F_require_from, b_require_from := (F_require_from.bindsN fun _ _ _ _ _ _ us hl => match us, hl with | [_, _, _], _ => rfl), g_require_from := He.glo_ok X G (c.fact 5 (f := .glo "require_from") rfl), f_is_change := _, fd_is_change := _, F_is_change := F_is_change, b_is_change := (F_is_change.bindsN fun _ _ _ _ _ _ us hl => match us, hl with | [_], _ => rfl), g_is_change := He.glo_ok X G (c.fact 6 (f := .glo "is_change") rfl), f_require_change := _, fd_require_change := _, F_require_change := F_require_change, b_require_change := (F_require_change.bindsN fun _ _ _ _ _ _ us hl => match us, hl with | [_], _ => rfl), g_require_change := He.glo_ok X G (c.fact 7 (f := .glo "require_change") rfl), f_product_in := _, fd_product_in := _, F_product_in := F_product_in, b_product_in := (F_product_in.bindsN fun _ _ _ _ _ _ us hl => match us, hl with | [_, _], _ => rfl), g_product_in := He.glo_ok X G (c.fact 8 (f := .glo "product_in") rfl), f_joined_entries := _, fd_joined_entries := _, F_joined_entries := F_joined_entries, b_joined_entries := (F_joined_entries.bindsN fun _ _ _ _ _ _ us hl => match us, hl with | [_, _], _ => rfl), g_joined_entries := He.glo_ok X G (c.fact 9 (f := .glo "joined_entries") rfl), f_power_in := _, fd_power_in := _, F_power_in := F_power_in, b_power_in := (F_power_in.bindsN fun _ _ _ _ _ _ us hl => match us, hl with | [_, _], _ => rfl), g_power_in := He.glo_ok X G (c.fact 10 (f := .glo "power_in") rfl), f_value_in := _, fd_value_in := _, F_value_in := F_value_in, b_value_in := (F_value_in.bindsN fun _ _ _ _ _ _ us hl => match us, hl with | [_, _, _], _ => rfl), g_value_in := He.glo_ok X G (c.fact 11 (f := .glo "value_in") rfl), f_changed_in := _, fd_changed_in := _, F_changed_in := F_changed_in, b_changed_in := (F_changed_in.bindsN fun _ _ _ _ _ _ us hl => match us, hl with | [_, _], _ => rfl), g_changed_in := He.glo_ok X G (c.fact 12 (f := .glo "changed_in") rfl), f_is_zero_in := _, fd_is_zero_in := _, F_is_zero_in := F_is_zero_in, b_is_zero_in := (F_is_zero_in.bindsN fun _ _ _ _ _ _ us hl => match us, hl with | [_], _ => rfl), g_is_zero_in := He.glo_ok X G (c.fact 13 (f := .glo "is_zero_in") rfl), f_first_index := _, fd_first_index := _, F_first_index := F_first_index, b_first_index := (F_first_index.bindsN fun _ _ _ _ _ _ us hl => match us, hl with | [_], _ => rfl), g_first_index := He.glo_ok X G (c.fact 14 (f := .glo "first_index") rfl), f_ratio_between := _, fd_ratio_between := _, F_ratio_between := F_ratio_between, b_ratio_between := (F_ratio_between.bindsN fun _ _ _ _ _ _ us hl => match us, hl with | [_, _], _ => rfl), g_ratio_between := He.glo_ok X G (c.fact 15 (f := .glo "ratio_between") rfl), f_are_entries := _, fd_are_entries := _, F_are_entries := F_are_entries, b_are_entries := (F_are_entries.bindsN fun _ _ _ _ _ _ us hl => match us, hl with | [_], _ => rfl), g_are_entries := He.glo_ok X G (c.fact 16 (f := .glo "are_entries") rfl), f_form_of := _, fd_form_of := _, F_form_of := F_form_of, b_form_of := (F_form_of.bindsN fun _ _ _ _ _ _ us hl => match us, hl with | [_], _ => rfl), g_form_of := He.glo_ok X G (c.fact 17 (f := .glo "form_of") rfl), f_require_form := _, fd_require_form := _, F_require_form := F_require_form, b_require_form := (F_require_form.bindsN fun _ _ _ _ _ _ us hl => match us, hl with | [_], _ => rfl), g_require_form := He.glo_ok X G (c.fact 18 (f := .glo "require_form") rfl), f_sum_in := _, fd_sum_in := _, F_sum_in := F_sum_in, b_sum_in := (F_sum_in.bindsN fun _ _ _ _ _ _ us hl => match us, hl with | [_, _, _], _ => rfl), g_sum_in := He.glo_ok X G (c.fact 19 (f := .glo "sum_in") rfl), f_factor_between := _, fd_factor_between := _, F_factor_between := F_factor_between, b_factor_between := (F_factor_between.bindsN fun _ _ _ _ _ _ us hl => match us, hl with | [_, _], _ => rfl), g_factor_between := He.glo_ok X G (c.fact 20 (f := .glo "factor_between") rfl), f_law_dice := _, fd_law_dice := _, F_law_dice := F_law_dice, b_law_dice := (F_law_dice.bindsN fun _ _ _ _ _ _ us hl => match us, hl with | [_, _], _ => rfl), g_law_dice := He.glo_ok X G (c.fact 21 (f := .glo "_law_dice") rfl), f_law_roll := _, fd_law_roll := _, F_law_roll := F_law_roll, b_law_roll := (F_law_roll.bindsN fun _ _ _ _ _ _ us hl => match us, hl with | [_, _], _ => rfl), g_law_roll := He.glo_ok X G (c.fact 22 (f := .glo "_law_roll") rfl), f_law_pick := _, fd_law_pick := _, F_law_pick := F_law_pick, b_law_pick := (F_law_pick.bindsN fun _ _ _ _ _ _ us hl => match us, hl with | [_, _], _ => rfl), g_law_pick := He.glo_ok X G (c.fact 23 (f := .glo "_law_pick") rfl), f_law_near := _, fd_law_near := _, F_law_near := F_law_near, b_law_near := (F_law_near.bindsN fun _ _ _ _ _ _ us hl => match us, hl with | [_, _], _ => rfl), g_law_near := He.glo_ok X G (c.fact 24 (f := .glo "_law_near") rfl), f_law_gcd := _, fd_law_gcd := _, F_law_gcd := F_law_gcd, b_law_gcd := (F_law_gcd.bindsN fun _ _ _ _ _ _ us hl => match us, hl with | [_, _], _ => rfl), g_law_gcd := He.glo_ok X G (c.fact 25 (f := .glo "_law_gcd") rfl), f_law_shared := _, fd_law_shared := _, F_law_shared := F_law_shared, b_law_shared := (F_law_shared.bindsN fun _ _ _ _ _ _ us hl => match us, hl with | [_], _ => rfl), g_law_shared := He.glo_ok X G (c.fact 26 (f := .glo "_law_shared") rfl), f_law_lowest := _, fd_law_lowest := _, F_law_lowest := F_law_lowest, b_law_lowest := (F_law_lowest.bindsN fun _ _ _ _ _ _ us hl => match us, hl with | [_, _], _ => rfl), g_law_lowest := He.glo_ok X G (c.fact 27 (f := .glo "_law_lowest") rfl), f_law_raised := _, fd_law_raised := _, F_law_raised := F_law_raised, b_law_raised := (F_law_raised.bindsN fun _ _ _ _ _ _ us hl => match us, hl with | [_, _], _ => rfl), g_law_raised := He.glo_ok X G (c.fact 28 (f := .glo "_law_raised") rfl), f_law_choose := _, fd_law_choose := _, F_law_choose := F_law_choose, b_law_choose := (F_law_choose.bindsN fun _ _ _ _ _ _ us hl => match us, hl with | [_, _], _ => rfl), g_law_choose := He.glo_ok X G (c.fact 29 (f := .glo "_law_choose") rfl), f_law_plus := _, fd_law_plus := _, F_law_plus := F_law_plus, b_law_plus := (F_law_plus.bindsN fun _ _ _ _ _ _ us hl => match us, hl with | [_, _], _ => rfl), g_law_plus := He.glo_ok X G (c.fact 30 (f := .glo "_law_plus") rfl), f_law_scaled := _, fd_law_scaled := _, F_law_scaled := F_law_scaled, b_law_scaled := (F_law_scaled.bindsN fun _ _ _ _ _ _ us hl => match us, hl with | [_, _], _ => rfl), g_law_scaled := He.glo_ok X G (c.fact 31 (f := .glo "_law_scaled") rfl), f_law_product := _, fd_law_product := _, F_law_product := F_law_product, b_law_product := (F_law_product.bindsN fun _ _ _ _ _ _ us hl => match us, hl with | [_, _], _ => rfl), g_law_product := He.glo_ok X G (c.fact 32 (f := .glo "_law_product") rfl), f_law_all_product := _, fd_law_all_product := _, F_law_all_product := F_law_all_product, b_law_all_product := (F_law_all_product.bindsN fun _ _ _ _ _ _ us hl => match us, hl with | [_], _ => rfl), g_law_all_product := He.glo_ok X G (c.fact 33 (f := .glo "_law_all_product") rfl), f_law_power := _, fd_law_power := _, F_law_power := F_law_power, b_law_power := (F_law_power.bindsN fun _ _ _ _ _ _ us hl => match us, hl with | [_, _], _ => rfl), g_law_power := He.glo_ok X G (c.fact 34 (f := .glo "_law_power") rfl), f_law_plain := _, fd_law_plain := _, F_law_plain := F_law_plain, b_law_plain := (F_law_plain.bindsN fun _ _ _ _ _ _ us hl => match us, hl with | [_], _ => rfl), g_law_plain := He.glo_ok X G (c.fact 35 (f := .glo "_law_plain") rfl), f_law_line := _, fd_law_line := _, F_law_line := F_law_line, b_law_line := (F_law_line.bindsN fun _ _ _ _ _ _ us hl => match us, hl with | [_], _ => rfl), g_law_line := He.glo_ok X G (c.fact 36 (f := .glo "_law_line") rfl), f_law_point := _, fd_law_point := _, F_law_point := F_law_point, b_law_point := (F_law_point.bindsN fun _ _ _ _ _ _ us hl => match us, hl with | [_, _], _ => rfl), g_law_point := He.glo_ok X G (c.fact 37 (f := .glo "_law_point") rfl), f_law_small_form := _, fd_law_small_form := _, F_law_small_form := F_law_small_form, b_law_small_form := (F_law_small_form.bindsN fun _ _ _ _ _ _ us hl => match us, hl with | [_, _, _], _ => rfl), g_law_small_form := He.glo_ok X G (c.fact 38 (f := .glo "_law_small_form") rfl), f_law_form := _, fd_law_form := _, F_law_form := F_law_form, b_law_form := (F_law_form.bindsN fun _ _ _ _ _ _ us hl => match us, hl with | [_, _], _ => rfl), g_law_form := He.glo_ok X G (c.fact 39 (f := .glo "_law_form") rfl), f_law_table := _, fd_law_table := _, F_law_table := F_law_table, b_law_table := (F_law_table.bindsN fun _ _ _ _ _ _ us hl => match us, hl with | [_, _], _ => rfl), g_law_table := He.glo_ok X G (c.fact 40 (f := .glo "_law_table") rfl), f_law_factor_due := _, fd_law_factor_due := _, F_law_factor_due := F_law_factor_due, b_law_factor_due := (F_law_factor_due.bindsN fun _ _ _ _ _ _ us hl => match us, hl with | [_, _], _ => rfl), g_law_factor_due := He.glo_ok X G (c.fact 41 (f := .glo "_law_factor_due") rfl), f_law_are_powers_right := _, fd_law_are_powers_right := _, F_law_are_powers_right := F_law_are_powers_right, b_law_are_powers_right := (F_law_are_powers_right.bindsN fun _ _ _ _ _ _ us hl => match us, hl with | [_], _ => rfl), g_law_are_powers_right := He.glo_ok X G (c.fact 42 (f := .glo "_law_are_powers_right") rfl), f_law_are_factors_right := _, fd_law_are_factors_right := _, F_law_are_factors_right := F_law_are_factors_right, b_law_are_factors_right := (F_law_are_factors_right.bindsN fun _ _ _ _ _ _ us hl => match us, hl with | [_], _ => rfl), g_law_are_factors_right := He.glo_ok X G (c.fact 43 (f := .glo "_law_are_factors_right") rfl), f_law := _, fd_law := _, F_law := F_law, b_law := (F_law.bindsN fun _ _ _ _ _ _ us hl => match us, hl with | [_], _ => rfl), g_law := He.glo_ok X G (c.fact 44 (f := .glo "law") rfl), f_Told_init := _, fd_Told_init := _, F_Told_init := F_Told_init, b_Told_init := (F_Told_init.bindsN fun _ _ _ _ _ _ us hl => match us, hl with | [_, _], _ => rfl), f_Form_init := _, fd_Form_init := _, F_Form_init := F_Form_init, b_Form_init := (F_Form_init.bindsN fun _ _ _ _ _ _ us hl => match us, hl with | [_, _], _ => rfl), f_Form_power := _, fd_Form_power := _, F_Form_power := F_Form_power, b_Form_power := (F_Form_power.bindsN fun _ _ _ _ _ _ us hl => match us, hl with | [_, _, _], _ => rfl), f_Form_entries := _, fd_Form_entries := _, F_Form_entries := F_Form_entries, b_Form_entries := (F_Form_entries.bindsN fun _ _ _ _ _ _ us hl => match us, hl with | [_], _ => rfl), f_Form_degree := _, fd_Form_degree := _, F_Form_degree := F_Form_degree, b_Form_degree := (F_Form_degree.bindsN fun _ _ _ _ _ _ us hl => match us, hl with | [_], _ => rfl), f_Form_is_zero := _, fd_Form_is_zero := _, F_Form_is_zero := F_Form_is_zero, b_Form_is_zero := (F_Form_is_zero.bindsN fun _ _ _ _ _ _ us hl => match us, hl with | [_], _ => rfl), f_Form_value := _, fd_Form_value := _, F_Form_value := F_Form_value, b_Form_value := (F_Form_value.bindsN fun _ _ _ _ _ _ us hl => match us, hl with | [_, _, _], _ => rfl), f_Form_changed := _, fd_Form_changed := _, F_Form_changed := F_Form_changed, b_Form_changed := (F_Form_changed.bindsN fun _ _ _ _ _ _ us hl => match us, hl with | [_, _], _ => rfl), f_Form_add := _, fd_Form_add := _, F_Form_add := F_Form_add, b_Form_add := (F_Form_add.bindsN fun _ _ _ _ _ _ us hl => match us, hl with | [_, _], _ => rfl), f_Form_sub := _, fd_Form_sub := _, F_Form_sub := F_Form_sub, b_Form_sub := (F_Form_sub.bindsN fun _ _ _ _ _ _ us hl => match us, hl with | [_, _], _ => rfl), f_Form_neg := _, fd_Form_neg := _, F_Form_neg := F_Form_neg, b_Form_neg := (F_Form_neg.bindsN fun _ _ _ _ _ _ us hl => match us, hl with | [_], _ => rfl), f_Form_mul := _, fd_Form_mul := _, F_Form_mul := F_Form_mul, b_Form_mul := (F_Form_mul.bindsN fun _ _ _ _ _ _ us hl => match us, hl with | [_, _], _ => rfl), f_Form_eq := _, fd_Form_eq := _, F_Form_eq := F_Form_eq, b_Form_eq := (F_Form_eq.bindsN fun _ _ _ _ _ _ us hl => match us, hl with | [_, _], _ => rfl), f_Form_len := _, fd_Form_len := _, F_Form_len := F_Form_len, b_Form_len := (F_Form_len.bindsN fun _ _ _ _ _ _ us hl => match us, hl with | [_], _ => rfl), f_Form_iter := _, fd_Form_iter := _, F_Form_iter := F_Form_iter, b_Form_iter := (F_Form_iter.bindsN fun _ _ _ _ _ _ us hl => match us, hl with | [_], _ => rfl), f_Form_str := _, fd_Form_str := _, F_Form_str := F_Form_str, b_Form_str := (F_Form_str.bindsN fun _ _ _ _ _ _ us hl => match us, hl with | [_], _ => rfl), C_Told := He.ga K "Told", g_Told := He.glo_ok X G (c.fact 45 (f := .glo "Told") rfl), mk_Told := He.mkr_ok (c.fact 65 (f := .mkr "Told") rfl), C_Form := He.ga K "Form", g_Form := He.glo_ok X G (c.fact 46 (f := .glo "Form") rfl), mk_Form := He.mkr_ok (c.fact 66 (f := .mkr "Form") rfl), z_abs := He.free_ok X G (c.fact 47 (f := .free "abs") rfl), z_all := He.free_ok X G (c.fact 48 (f := .free "all") rfl), z_any := He.free_ok X G (c.fact 49 (f := .free "any") rfl), z_bool := He.free_ok X G (c.fact 50 (f := .free "bool") rfl), z_enumerate := He.free_ok X G (c.fact 51 (f := .free "enumerate") rfl), z_int := He.free_ok X G (c.fact 52 (f := .free "int") rfl), z_isinstance := He.free_ok X G (c.fact 53 (f := .free "isinstance") rfl), z_iter := He.free_ok X G (c.fact 54 (f := .free "iter") rfl), z_len := He.free_ok X G (c.fact 55 (f := .free "len") rfl), z_max := He.free_ok X G (c.fact 56 (f := .free "max") rfl), z_min := He.free_ok X G (c.fact 57 (f := .free "min") rfl), z_next := He.free_ok X G (c.fact 58 (f := .free "next") rfl), z_range := He.free_ok X G (c.fact 59 (f := .free "range") rfl), z_str := He.free_ok X G (c.fact 60 (f := .free "str") rfl), z_tuple := He.free_ok X G (c.fact 61 (f := .free "tuple") rfl), z_zip := He.free_ok X G (c.fact 62 (f := .free "zip") rfl), c_GREATEST := He.int_ok X G (c.fact 63 (f := .int "GREATEST" 1000000000000000000000000000000000000000000000000000000000000) rfl), c_MAX_DEGREE := He.int_ok X G (c.fact 64 (f := .int "MAX_DEGREE" 40) rfl), c_first_index := HookT.codA K ((HookG.At.glo "first_index").adr K), P_first_index := He.tabOf K (HookT.codA K ((HookG.At.glo "first_index").adr K)), code_first_index := HookT.code_of F_first_index, tab_first_index := rfl, m_gcd := PySem.W.mg_of X G (He.eqO_ok ex_0), oc_Told := OwnF.ocB_ok ex_1, a_own_row := _, sl_own_row := HookG.slotB_ok ex_2 (by decide), oc_Form := OwnF.ocB_ok ex_3, a_own_entries := _, sl_own_entries := HookG.slotB_ok ex_4 (by decide), mt_Told_init := HookG.mtB_ok ex_5, mt_Form_init := HookG.mtB_ok ex_6, p_Form_power := _, cm_Form_power := OwnC.cmB_ok ex_7, p_Form_entries := _, pr_Form_entries := HookG.prB_ok ex_8, p_Form_degree := _, pr_Form_degree := HookG.prB_ok ex_9, p_Form_is_zero := _, pr_Form_is_zero := HookG.prB_ok ex_10, mt_Form_value := HookG.mtB_ok ex_11, mt_Form_changed := HookG.mtB_ok ex_12, mt_Form_add := HookG.mtB_ok ex_13, mt_Form_sub := HookG.mtB_ok ex_14, mt_Form_neg := HookG.mtB_ok ex_15, mt_Form_mul := HookG.mtB_ok ex_16, mt_Form_eq := HookG.mtB_ok ex_17, mt_Form_len := HookG.mtB_ok ex_18, mt_Form_iter := HookG.mtB_ok ex_19, mt_Form_str := HookG.mtB_ok ex_20, kit_Told_Form := HookG.dO_ok ex_21, kit_Form_Told := HookG.dO_ok ex }⟩

end K08

set_option Elab.async false
set_option linter.all false
set_option maxRecDepth 100000
set_option maxHeartbeats 0
namespace K08
open PySem PySem.Spec PyProof.Rows L2
abbrev R : PySem.W.OpenRow := PySem.W.OpenLaw.row PySem.Challenge.rw_sourceforms_k08_whole_powers_and_factors
abbrev hk : PySem.W.Hook := HookT.hookT 5 faL fnL tfL exL
def ob (s : PySem.W.SharedT) : HookT.AlGT := HookT.obsGT 5 faL fnL tfL exL (HandSHeadRun.getT s)
theorem ob_eq (s : PySem.W.SharedT) : ob s = hk.obs s.abs := HookT.obsGT_eq (HandSHeadRun.getT_eq s)
def loose0 : List Str := ["_wall", "LetterError", "InvalidForm", "InvalidTable", "InvalidPoint", "InvalidOperation", "InvalidNumber", "TooMany", "GREATEST", "is_whole", "is_short", "is_from", "are_short", "require_short", "require_from", "is_change", "require_change", "MAX_DEGREE", "product_in", "joined_entries", "power_in", "value_in", "changed_in", "is_zero_in", "first_index", "ratio_between", "Told", "are_entries", "Form", "form_of"]
def loose1 : List Str := ["require_form", "sum_in", "factor_between", "_law_dice", "_law_roll", "_law_pick", "_law_near", "_law_gcd", "_law_shared", "_law_lowest", "_law_raised", "_law_choose", "_law_plus", "_law_scaled", "_law_product", "_law_all_product", "_law_power", "_law_plain", "_law_line", "_law_point", "_law_small_form", "_law_form", "_law_table", "_law_factor_due", "_law_are_powers_right", "_law_are_factors_right"]
def loose : List Str := loose0 ++ loose1
theorem run (w : World) : HandSHeadRun.RunEqI R (PySem.W.view R.prog [0, 61]) hk ob 9000 loose w := by
  show (_ : Option _) = _
  kernel_rfl
end K08

set_option Elab.async false
set_option linter.all false
set_option maxRecDepth 100000
/-! products of forms: the plain law -/
namespace K08
/-- the entry at a place, 0 behind the end -/
def co (l : List Int) (k : Nat) : Int := l.getD k 0
/-- the entries of a product -/
def cv : List Int → (Nat → Int) → Nat → Int
  | [], _, _ => 0
  | x :: xs, g, k => x * g k + (match k with
    | 0 => 0
    | k + 1 => cv xs g k)
theorem cv_nil (g : Nat → Int) (k : Nat) : cv [] g k = 0 := rfl
theorem cv_zero (x : Int) (xs : List Int) (g : Nat → Int) : cv (x :: xs) g 0 = x * g 0 := by show x * g 0 + 0 = _; omega
theorem cv_succ (x : Int) (xs : List Int) (g : Nat → Int) (k : Nat) : cv (x :: xs) g (k + 1) = x * g (k + 1) + cv xs g k := rfl
theorem cv_congr {g h : Nat → Int} : ∀ (l : List Int) (k : Nat), (∀ i, i ≤ k → g i = h i) → cv l g k = cv l h k
  | [], _, _ => rfl
  | x :: xs, 0, e => by rw [cv_zero, cv_zero, e 0 (Nat.le_refl _)]
  | x :: xs, k + 1, e => by rw [cv_succ, cv_succ, e (k + 1) (Nat.le_refl _), cv_congr xs k fun i hi => e i (by omega)]
theorem cv_ext {g h : Nat → Int} (l : List Int) (e : ∀ i, g i = h i) (k : Nat) : cv l g k = cv l h k := cv_congr l k fun i _ => e i
theorem cv_add (l : List Int) (g h : Nat → Int) : ∀ k, cv l (fun i => g i + h i) k = cv l g k + cv l h k := by
  induction l with
  | nil => intro k; rfl
  | cons x xs ih =>
    intro k
    cases k with
    | zero => rw [cv_zero, cv_zero, cv_zero, Int.mul_add]
    | succ k => rw [cv_succ, cv_succ, cv_succ, ih, Int.mul_add]; omega
theorem cv_mul (l : List Int) (c : Int) (g : Nat → Int) : ∀ k, cv l (fun i => c * g i) k = c * cv l g k := by
  induction l with
  | nil => intro k; show (0 : Int) = c * 0; rw [Int.mul_zero]
  | cons x xs ih =>
    intro k
    cases k with
    | zero => rw [cv_zero, cv_zero]; rw [← Int.mul_assoc, Int.mul_comm x c, Int.mul_assoc]
    | succ k => rw [cv_succ, cv_succ, ih, Int.mul_add, ← Int.mul_assoc, Int.mul_comm x c, Int.mul_assoc]
theorem cv_zeroF (l : List Int) : ∀ k, cv l (fun _ => 0) k = 0 := by
  induction l with
  | nil => intro k; rfl
  | cons x xs ih =>
    intro k
    cases k with
    | zero => rw [cv_zero, Int.mul_zero]
    | succ k => rw [cv_succ, ih, Int.mul_zero]; rfl
/-- what is moved by one place -/
def sh (g : Nat → Int) : Nat → Int
  | 0 => 0
  | k + 1 => g k
theorem cv_sh (l : List Int) (g : Nat → Int) : ∀ k, cv l (sh g) k = sh (cv l g) k := by
  induction l with
  | nil => intro k; cases k <;> rfl
  | cons x xs ih =>
    intro k
    cases k with
    | zero => rw [cv_zero]; show x * 0 = 0; rw [Int.mul_zero]
    | succ k =>
      rw [cv_succ, ih]
      show x * g k + sh (cv xs g) k = cv (x :: xs) g k
      cases k with
      | zero => rw [cv_zero]; show x * g 0 + 0 = x * g 0; omega
      | succ k => rw [cv_succ] <;> rfl
theorem cv_cons (x : Int) (xs : List Int) (g : Nat → Int) (k : Nat) : cv (x :: xs) g k = x * g k + sh (cv xs g) k := by
  cases k with
  | zero => rw [cv_zero]; show x * g 0 = x * g 0 + 0; omega
  | succ k => rw [cv_succ] <;> rfl
theorem co_cons (x : Int) (xs : List Int) (k : Nat) : co (x :: xs) k = (if k = 0 then x else 0) + sh (co xs) k := by
  cases k with
  | zero => show x = x + 0; omega
  | succ k =>
    show co xs k = (if k + 1 = 0 then x else 0) + co xs k
    rw [if_neg (by omega)]
    omega
/-- a constant times -/
theorem cv_one (l : List Int) : ∀ k, cv l (fun i => if i = 0 then 1 else 0) k = co l k := by
  induction l with
  | nil => intro k; rfl
  | cons x xs ih =>
    intro k
    cases k with
    | zero => rw [cv_zero, if_pos rfl, Int.mul_one]; rfl
    | succ k => rw [cv_succ, if_neg (by omega), Int.mul_zero, ih]; show 0 + co xs k = co xs k; omega
theorem cv_delta (l : List Int) (x : Int) (k : Nat) : cv l (fun i => if i = 0 then x else 0) k = x * co l k := by
  rw [← cv_one l k, ← cv_mul]
  refine cv_ext l (fun i => ?_) k
  by_cases h : i = 0
  · rw [if_pos h, if_pos h, Int.mul_one]
  · rw [if_neg h, if_neg h, Int.mul_zero]
theorem cv_comm (l m : List Int) : ∀ k, cv l (co m) k = cv m (co l) k := by
  induction l with
  | nil =>
    intro k
    rw [show cv m (co []) k = cv m (fun _ => 0) k from cv_ext m (fun i => rfl) k, cv_zeroF]
    rfl
  | cons x xs ih =>
    intro k
    rw [cv_cons, cv_ext m (h := fun i => (if i = 0 then x else 0) + sh (co xs) i) (fun i => co_cons x xs i), cv_add, cv_delta, cv_sh]
    congr 1
    cases k with
    | zero => rfl
    | succ k => exact ih k
theorem cv_far {g : Nat → Int} {b : Nat} (hb : 1 ≤ b) (hg : ∀ i, b ≤ i → g i = 0) : ∀ (l : List Int) (k : Nat), l.length + b ≤ k + 1 → cv l g k = 0
  | [], _, _ => rfl
  | x :: xs, 0, h => by rw [List.length_cons] at h; omega
  | x :: xs, k + 1, h => by
    rw [List.length_cons] at h
    rw [cv_succ, hg _ (by omega), Int.mul_zero, cv_far hb hg xs k (by omega)]
    rfl
/-- the first n values -/
def tb (n : Nat) (f : Nat → Int) : List Int := (List.range n).map f
theorem tb_len (n : Nat) (f : Nat → Int) : (tb n f).length = n := by
  unfold tb
  rw [List.length_map, List.length_range]
theorem co_tb {n : Nat} {f : Nat → Int} (k : Nat) : co (tb n f) k = if k < n then f k else 0 := by
  unfold co tb
  rw [List.getD_eq_getElem?_getD, List.getElem?_map]
  by_cases h : k < n
  · rw [List.getElem?_range h, if_pos h]
    rfl
  · rw [List.getElem?_eq_none (by rw [List.length_range]; omega), if_neg h]
    rfl
theorem co_far {l : List Int} {i : Nat} (h : l.length ≤ i) : co l i = 0 := by
  unfold co
  rw [List.getD_eq_getElem?_getD, List.getElem?_eq_none h]
  rfl
theorem co_get {l : List Int} {i : Nat} (h : i < l.length) : co l i = l[i] := by
  unfold co
  rw [List.getD_eq_getElem?_getD, List.getElem?_eq_getElem h]
  rfl
theorem co_inj {l m : List Int} (hl : l.length = m.length) (h : ∀ i, co l i = co m i) : l = m := by
  refine List.ext_getElem hl fun i h1 h2 => ?_
  rw [← co_get h1, ← co_get h2, h]
theorem tb_co (l : List Int) : tb l.length (co l) = l := co_inj (tb_len _ _) fun i => by
  rw [co_tb]
  split
  · rfl
  · exact (co_far (by omega)).symm
/-- the product of two forms -/
def ml (l m : List Int) : List Int := tb (l.length + m.length - 1) (cv l (co m))
theorem ml_len (l m : List Int) : (ml l m).length = l.length + m.length - 1 := tb_len _ _
theorem co_ml {l m : List Int} (hm : m ≠ []) (k : Nat) : co (ml l m) k = cv l (co m) k := by
  unfold ml
  rw [co_tb]
  by_cases h : k < l.length + m.length - 1
  · rw [if_pos h]
  · rw [if_neg h]
    have h1 : 0 < m.length := List.length_pos_iff.mpr hm
    exact (cv_far (b := m.length) (by omega) (fun i hi => co_far hi) l k (by omega)).symm
theorem ml_ne {l m : List Int} (hl : l ≠ []) (hm : m ≠ []) : ml l m ≠ [] := by
  intro e
  have h := ml_len l m
  rw [e] at h
  have h1 : 0 < m.length := List.length_pos_iff.mpr hm
  have h2 : 0 < l.length := List.length_pos_iff.mpr hl
  have : 0 = l.length + m.length - 1 := h
  omega
/-- entry by entry -/
def pl (l m : List Int) : List Int := List.zipWith (· + ·) l m
theorem pl_len {l m : List Int} (h : l.length = m.length) : (pl l m).length = l.length := by
  unfold pl
  rw [List.length_zipWith, h, Nat.min_self]
end K08

set_option Elab.async false
set_option linter.all false
set_option maxRecDepth 100000
/-! the contents of forms -/
namespace K08
theorem least (P : Nat → Prop) (n : Nat) (h : P n) : ∃ m, P m ∧ ∀ k, P k → m ≤ k := by
  induction n using Nat.strongRecOn with
  | _ n ih =>
    by_cases c : ∃ k, k < n ∧ P k
    · obtain ⟨k, hk, pk⟩ := c
      exact ih k hk pk
    · exact ⟨n, h, fun k pk => Nat.le_of_not_lt fun z => c ⟨k, z, pk⟩⟩
structure Prm (p : Nat) : Prop where
  gt : 1 < p
  pr : ∀ a b : Nat, p ∣ a * b → p ∣ a ∨ p ∣ b
theorem Prm.int {p : Nat} (h : Prm p) {x y : Int} (d : (p : Int) ∣ x * y) : (p : Int) ∣ x ∨ (p : Int) ∣ y := by
  have e := Int.natAbs_dvd_natAbs.mpr d
  rw [Int.natAbs_mul] at e
  rcases h.pr _ _ e with e | e
  · exact .inl (Int.natAbs_dvd_natAbs.mp e)
  · exact .inr (Int.natAbs_dvd_natAbs.mp e)
/-- the greatest common divisor of all -/
def cont : List Int → Nat
  | [] => 0
  | x :: xs => Nat.gcd x.natAbs (cont xs)
theorem cont_dvd : ∀ (l : List Int) (x : Int), x ∈ l → (cont l : Int) ∣ x
  | y :: ys, x, h => by
    rcases List.mem_cons.mp h with e | e
    · rw [e]
      exact Int.natAbs_dvd_natAbs.mp (by show Nat.gcd _ _ ∣ _; exact Nat.gcd_dvd_left _ _)
    · have := cont_dvd ys x e
      exact Int.dvd_trans (Int.natAbs_dvd_natAbs.mp (by show Nat.gcd _ _ ∣ cont ys; exact Nat.gcd_dvd_right _ _)) this
theorem cont_zero {l : List Int} (h : cont l = 0) : ∀ x ∈ l, x = 0 := fun x hx => by
  have := cont_dvd l x hx
  rw [h] at this
  exact Int.zero_dvd.mp this
theorem co_mem {l : List Int} {k : Nat} : co l k = 0 ∨ co l k ∈ l := by
  by_cases h : k < l.length
  · rw [co_get h]
    exact .inr (List.getElem_mem h)
  · exact .inl (co_far (by omega))
theorem co_map (c : Int) (l : List Int) (k : Nat) : co (l.map (c * ·)) k = c * co l k := by
  by_cases h : k < l.length
  · rw [co_get (by rw [List.length_map]; exact h), co_get h, List.getElem_map]
  · rw [co_far (by rw [List.length_map]; omega), co_far (by omega), Int.mul_zero]
end K08

set_option Elab.async false
set_option linter.all false
set_option maxRecDepth 100000
set_option maxHeartbeats 4000000
namespace K08
open PySem PySem.Spec PyProof.Rows L2 MyR SlX OwnR OwnF
/-- an int of at most sixty digits -/
def Sho (i : Int) : Prop := i.natAbs < 10 ^ 60
theorem Same.rf (H : Hp) : Same H H := fun _ _ h => h
@[elab_as_elim] theorem gen_upd {G : Hp → Prop} (H : Hp) (p : Addr) (o : HO) (n : H p = none) (h : ∀ H', Same H H' → H' p = some o → G H') : G (upd H p o) := h _ (same_upd0 n) upd_same
section
variable {P : Program} {w : World} {K : PySem.W.Frag} {mg : Str → Option Value} {base : Heap}
def spWhole : Sp := fun vs H Q _ => ∃ i : Int, vs = [.int i] ∧ Q (.bl true) H
theorem ok_is_whole (T : Facts K mg) : FnOk P w K mg base CX0 1 T.f_is_whole T.fd_is_whole ["value"] spWhole := by
  refine T.F_is_whole.ok sc_is_whole (fun vs H Q E h => ?_) (fun cdv A outer s H vs Q E hr h => ?_)
  · obtain ⟨i, rfl, _⟩ := h
    rfl
  · obtain ⟨i, rfl, q⟩ := h
    refine ⟨_, (PSs.nox (pss_one (ps_ret (pe_and (pe_callB call_isi (by rfl) T.z_isinstance (by decide +kernel) (pa_cons (pv 0) (pa_cons (pe_bltn (v := .ty "int") (by rfl) T.z_int (by decide +kernel) rfl) pa_nil))) (pe_one (pe_not (pe_callB call_isi (by rfl) T.z_isinstance (by decide +kernel) (pa_cons (pv 0) (pa_cons (pe_bltn (v := .ty "bool") (by rfl) T.z_bool (by decide +kernel) rfl) pa_nil))))))))), ?_⟩
    refine ⟨_, rfl, .int i, .ty "int", .type "int", .type "int", true, rfl, .ty "int", .base (.int i), kit_ty (show kitB "int" "int" = some true by decide +kernel), true, rfl, iteT ?_⟩
    exact ⟨_, rfl, .int i, .ty "bool", .type "int", .type "bool", false, rfl, .ty "bool", .base (.int i), kit_ty (show kitB "int" "bool" = some false by decide +kernel), false, rfl, q⟩
def spShort : Sp := fun vs H Q _ => ∃ i : Int, vs = [.int i] ∧ Sho i ∧ Q (.bl true) H
theorem ok_is_short (T : Facts K mg) : FnOk P w K mg base CX0 2 T.f_is_short T.fd_is_short ["value"] spShort := by
  have G_is_whole : FnOk P w K mg base CX0 1 T.f_is_whole T.fd_is_whole ["value"] spWhole := ok_is_whole T
  refine T.F_is_short.ok sc_is_short (fun vs H Q E h => ?_) (fun cdv A outer s H vs Q E hr h => ?_)
  · obtain ⟨i, rfl, _⟩ := h
    rfl
  · obtain ⟨i, rfl, hi, q⟩ := h
    have e60 : (10 : Nat) ^ 60 = 1000000000000000000000000000000000000000000000000000000000000 := by decide
    unfold Sho at hi
    rw [e60] at hi
    refine ⟨_, (PSs.nox (pss_one (ps_ret (pe_and (pe_call G_is_whole hr (by rfl) T.g_is_whole T.F_is_whole.kp T.b_is_whole .nil pass0 (pa_cons (pv 0) pa_nil)) (pe_one (pe_chain op_lt op_lt (pe_un un_neg (pe_glob (v := .int 1000000000000000000000000000000000000000000000000000000000000) (by rfl) T.c_GREATEST.choose_spec ⟨_, rfl⟩)) (pv 0) (pe_glob (v := .int 1000000000000000000000000000000000000000000000000000000000000) (by rfl) T.c_GREATEST.choose_spec ⟨_, rfl⟩))))))), ?_⟩
    refine ⟨_, rfl, i, rfl, true, rfl, iteT ⟨_, rfl, _, rfl, _, i, rfl, rfl, true, ?_, iteT ⟨i, _, rfl, rfl, ?_⟩⟩⟩
    · show V.bl (decide (-1000000000000000000000000000000000000000000000000000000000000 < i)) = V.bl true
      rw [decide_eq_true (by omega)]
    · show Q (V.bl (decide (i < 1000000000000000000000000000000000000000000000000000000000000))) H
      rw [decide_eq_true (by omega)]
      exact q
def spReqShort : Sp := fun vs H Q _ => ∃ i : Int, vs = [.int i] ∧ Sho i ∧ Q .non H
theorem ok_require_short (T : Facts K mg) : FnOk P w K mg base CX0 3 T.f_require_short T.fd_require_short ["value"] spReqShort := by
  have G_is_short : FnOk P w K mg base CX0 2 T.f_is_short T.fd_is_short ["value"] spShort := ok_is_short T
  refine T.F_require_short.ok sc_require_short (fun vs H Q E h => ?_) (fun cdv A outer s H vs Q E hr h => ?_)
  · obtain ⟨i, rfl, _⟩ := h
    rfl
  · obtain ⟨i, rfl, hs, q⟩ := h
    refine ⟨_, (PSs.nox (pss_one (ps_if (pt_not (pt_val (pe_call G_is_short hr (by rfl) T.g_is_short T.F_is_short.kp T.b_is_short .nil pass0 (pa_cons (pv 0) pa_nil))))
      (pss_one ps_never)
      pss_nil))), ?_⟩
    exact ⟨_, rfl, i, rfl, hs, true, rfl, iteF q⟩
/-- a tuple of ints -/
abbrev tp (ns : List Int) : HO := .tup (ns.map V.int)
def spAreShort : Sp := fun vs H Q _ => ∃ (t : Addr) (ns : List Int), vs = [.ref t] ∧ H t = some (tp ns) ∧ ns.length ≤ 1000 ∧ (∀ x ∈ ns, Sho x) ∧ ∀ H', Same H H' → Q (.bl true) H'
theorem ok_are_short (T : Facts K mg) : FnOk P w K mg base CX0 3 T.f_are_short T.fd_are_short ["value"] spAreShort := by
  have G_is_short : FnOk P w K mg base CX0 2 T.f_is_short T.fd_is_short ["value"] spShort := ok_is_short T
  refine T.F_are_short.ok sc_are_short (fun vs H Q E h => ?_) (fun cdv A outer s H vs Q E hr h => ?_)
  · obtain ⟨t, ns, rfl, _⟩ := h
    rfl
  · obtain ⟨t, ns, rfl, ht, hl, hs, q⟩ := h
    refine ⟨_, (PSs.nox (pss_one (ps_ret (pe_and (pe_callB call_isi (by rfl) T.z_isinstance (by decide +kernel) (pa_cons (pv 0) (pa_cons (pe_bltn (v := .ty "tuple") (by rfl) T.z_tuple (by decide +kernel) rfl) pa_nil))) (pe_one (pe_callB (cr_all (by rfl)) (by rfl) T.z_all (by decide +kernel) (pa_cons (pe_lc (own := [("entry", 1)]) (g := (gName 1)) (tt := tYes) (by rfl) sc_are_short.nd (pi_tup (pv 0)) (blkOk_by (N := N_are_short) (sc := defScope s_are_short) (by decide +kernel)) (fun _ _ _ _ _ => (pg_name (i := 1) sc_are_short.nd rfl (.inl rfl))) (fun _ _ _ _ _ => pts_nil) (fun _ _ _ _ _ => (pe_call G_is_short hr (by rfl) T.g_is_short T.F_is_short.kp T.b_is_short .nil pass0 (pa_cons (pv 1) pa_nil)))) pa_nil))))))), ?_⟩
    refine ⟨_, rfl, .ref t, .ty "tuple", .type "tuple", .type "tuple", true, rfl, .ty "tuple", .base (.tup ht), kit_ty (show kitB "tuple" "tuple" = some true by decide +kernel), true, rfl, iteT ?_⟩
    refine ⟨_, rfl, t, rfl, ⟨_, SqT.of ht⟩, fun D hD => lc_tup (xs := ns.map V.int) (fun i H' => H' = upd H D (.lst (List.replicate i (V.bl true)))) rfl (fun i H' hi hP => ?_) (fun i x H' hi hP => ?_) (fun H' hP => ?_)⟩
    · rw [hP]
      exact SqT.of (same_upd0 hD _ _ ht)
    · subst hP
      rw [List.getElem?_map] at hi
      obtain ⟨y, hy, rfl⟩ := Option.map_eq_some_iff.mp hi
      have hlt : i < ns.length := (List.getElem?_eq_some_iff.mp hy).1
      refine ⟨rfl, ⟨_, rfl, y, rfl, hs y (List.mem_of_getElem? hy), _, upd_same, ?_, ?_⟩⟩
      · rw [List.length_replicate]
        exact small1000 (by omega)
      · rw [upd_upd, List.replicate_succ']
    · subst hP
      rw [List.length_map]
      refine ⟨D, List.replicate ns.length true, rfl, SqL.of (by rw [upd_same, List.map_replicate]), ?_⟩
      have e : (List.replicate ns.length true).all id = true := by
        rw [List.all_eq_true]
        intro x hx
        rw [(List.mem_replicate.mp hx).2]
        rfl
      rw [e]
      exact q _ (same_upd0 hD)
def spAreEntries : Sp := fun vs H Q _ => ∃ (t : Addr) (ns : List Int), vs = [.ref t] ∧ H t = some (tp ns) ∧ 1 ≤ ns.length ∧ ns.length ≤ 41 ∧ (∀ x ∈ ns, Sho x) ∧ ∀ H', Same H H' → Q (.bl true) H'
theorem ok_are_entries (T : Facts K mg) : FnOk P w K mg base CX0 4 T.f_are_entries T.fd_are_entries ["value"] spAreEntries := by
  have G_are_short : FnOk P w K mg base CX0 3 T.f_are_short T.fd_are_short ["value"] spAreShort := ok_are_short T
  refine T.F_are_entries.ok sc_are_entries (fun vs H Q E h => ?_) (fun cdv A outer s H vs Q E hr h => ?_)
  · obtain ⟨t, ns, rfl, _⟩ := h
    rfl
  · obtain ⟨t, ns, rfl, ht, h1, h41, hs, q⟩ := h
    refine ⟨_, (PSs.nox (pss_one (ps_ret (pe_and (pe_call G_are_short hr (by rfl) T.g_are_short T.F_are_short.kp T.b_are_short .nil pass0 (pa_cons (pv 0) pa_nil)) (pe_one (pe_chain op_le op_le pe_int (pe_callB call_len_seq (by rfl) T.z_len (by decide +kernel) (pa_cons (pv 0) pa_nil)) (pe_op op_add (pe_glob (v := .int 40) (by rfl) T.c_MAX_DEGREE.choose_spec ⟨_, rfl⟩) pe_int))))))), ?_⟩
    refine ⟨_, rfl, t, ns, rfl, ht, by omega, hs, fun H1 s1 => ⟨true, rfl, iteT ?_⟩⟩
    have ht1 := s1 _ _ ht
    refine ⟨_, rfl, t, _, rfl, .inr (SqT.of ht1), 1, _, rfl, rfl, true, ?_, iteT ⟨_, _, rfl, rfl, _, _, rfl, rfl, ?_⟩⟩
    · rw [List.length_map]
      show V.bl (decide ((1 : Int) ≤ (ns.length : Int))) = V.bl true
      rw [decide_eq_true (by omega)]
    · rw [List.length_map]
      show Q (V.bl (decide ((ns.length : Int) ≤ 40 + 1))) H1
      rw [decide_eq_true (by omega)]
      exact q H1 s1
/-! ### making a form -/
/-- a form with these entries -/
def Fo (C : Addr) (H : Hp) (a : Addr) (ns : List Int) : Prop := ∃ dx t, H a = some (SlO a C dx [some (.ref t)]) ∧ H dx = some (.xd []) ∧ H t = some (tp ns)
theorem Fo.same {C a : Addr} {H H' : Hp} {ns : List Int} (h : Fo C H a ns) (s : Same H H') : Fo C H' a ns := by
  obtain ⟨dx, t, h1, h2, h3⟩ := h
  exact ⟨dx, t, s _ _ h1, s _ _ h2, s _ _ h3⟩
theorem Fo.slt {C a : Addr} {H : Hp} {ns : List Int} (h : Fo C H a ns) : ∃ dx t, Slt H a C dx [some (.ref t)] ∧ H t = some (tp ns) := by
  obtain ⟨dx, t, h1, h2, h3⟩ := h
  exact ⟨dx, t, .inr ⟨h1, h2⟩, h3⟩
/-- Told(row) -/
def spTold (C : Addr) : Sp := fun vs H Q _ => ∃ (x dx : Addr) (v : V), vs = [.ref x, v] ∧ Slt H x C dx [] ∧ Q .non (slH H x C dx [some v])
theorem ok_Told_init (T : Facts K mg) : FnOk P w K mg base CX0 1 T.f_Told_init T.fd_Told_init ["self", "row"] (spTold T.C_Told) := by
  refine T.F_Told_init.ok sc_Told_init (fun vs H Q E h => ?_) (fun cdv A outer s H vs Q E hr h => ?_)
  · obtain ⟨x, dx, v, rfl, _⟩ := h
    rfl
  · obtain ⟨x, dx, v, rfl, hx, q⟩ := h
    refine ⟨_, (PSs.nox (pss_one (ps_sl (pv 0) (pv 1)))), ?_⟩
    exact ⟨_, rfl, _, rfl, x, T.C_Told, dx, T.a_own_row, [], 0, rfl, hx, T.oc_Told.scl, T.sl_own_row, q⟩
/-- Form(entries) -/
def spForm (CT CF : Addr) : Sp := fun vs H Q _ => ∃ (x dx y t : Addr), vs = [.ref x, .ref y] ∧ Slt H x CF dx [] ∧ ((∃ dy, Slt H y CT dy [some (.ref t)]) ∨ ∃ ns, y = t ∧ H t = some (tp ns) ∧ 1 ≤ ns.length ∧ ns.length ≤ 41 ∧ ∀ z ∈ ns, Sho z) ∧ ∀ H', Same H H' → Q .non (slH H' x CF dx [some (.ref t)])
theorem Slt.same {C a dx : Addr} {vs : List (Option V)} {H H' : Hp} (h : Slt H a C dx vs) (s : Same H H') : Slt H' a C dx vs := by
  rcases h with ⟨h1, h2⟩ | ⟨h1, h2⟩
  · exact .inl ⟨s _ _ h1, h2⟩
  · exact .inr ⟨s _ _ h1, s _ _ h2⟩
theorem ok_Form_init (T : Facts K mg) : FnOk P w K mg base CX0 5 T.f_Form_init T.fd_Form_init ["self", "entries"] (spForm T.C_Told T.C_Form) := by
  have G_are_entries : FnOk P w K mg base CX0 4 T.f_are_entries T.fd_are_entries ["value"] spAreEntries := ok_are_entries T
  refine T.F_Form_init.ok sc_Form_init (fun vs H Q E h => ?_) (fun cdv A outer s H vs Q E hr h => ?_)
  · obtain ⟨x, dx, y, t, rfl, _⟩ := h
    rfl
  · obtain ⟨x, dx, y, t, rfl, hx, hy, q⟩ := h
    refine ⟨_, (PSs.nox (pss_cons (ps_if (pw_and (pt_not (pt_val (pe_callB (call_isiF T.C_Told) (by rfl) T.z_isinstance (by decide +kernel) (pa_cons (pv 1) (pa_cons (pe_glob (v := .ref T.C_Told) (by rfl) T.g_Told rfl) pa_nil))))) (pw_and1 (pt_not (pt_val (pe_call G_are_entries hr (by rfl) T.g_are_entries T.F_are_entries.kp T.b_are_entries .nil pass0 (pa_cons (pv 1) pa_nil)))))).pt
      (pss_one ps_never)
      pss_nil)
    (pss_one (ps_sl (pv 0) (pe_ifExp (pt_val (pe_callB (call_isiF T.C_Told) (by rfl) T.z_isinstance (by decide +kernel) (pa_cons (pv 1) (pa_cons (pe_glob (v := .ref T.C_Told) (by rfl) T.g_Told rfl) pa_nil)))) (pe_sl (pv 1)) (pv 1)))))), ?_⟩
    rcases hy with ⟨dy, hy⟩ | ⟨ns, rfl, ht, h1, h41, hs⟩
    · refine ⟨_, rfl, .inr ⟨y, T.C_Told, dy, _, .ref T.C_Told, true, rfl, rfl, fun w r => r, hy, T.oc_Told.scl, T.oc_Told.sis, T.oc_Told.kself, true, rfl, iteF ?_⟩⟩
      refine ⟨_, rfl, .inr ⟨y, T.C_Told, dy, _, .ref T.C_Told, true, rfl, rfl, fun w r => r, hy, T.oc_Told.scl, T.oc_Told.sis, T.oc_Told.kself, true, rfl, iteT ?_⟩⟩
      refine ⟨_, rfl, y, T.C_Told, dy, T.a_own_row, _, 0, .ref t, rfl, hy, T.oc_Told.scl, T.sl_own_row, rfl, ?_⟩
      exact ⟨_, rfl, x, T.C_Form, dx, T.a_own_entries, [], 0, rfl, hx, T.oc_Form.scl, T.sl_own_entries, q H (Same.rf H)⟩
    · refine ⟨_, rfl, .inl ⟨.ref y, .ref T.C_Told, .type "tuple", .ref T.C_Told, false, rfl, .own _, .base (.tup ht), T.oc_Told.ktup, false, rfl, iteT ?_⟩⟩
      refine ⟨_, rfl, y, ns, rfl, ht, h1, h41, hs, fun H1 s1 => ⟨true, rfl, iteF ?_⟩⟩
      refine ⟨_, rfl, .inl ⟨.ref y, .ref T.C_Told, .type "tuple", .ref T.C_Told, false, rfl, .own _, .base (.tup (s1 _ _ ht)), T.oc_Told.ktup, false, rfl, iteF ?_⟩⟩
      exact ⟨_, rfl, _, rfl, x, T.C_Form, dx, T.a_own_entries, [], 0, rfl, Slt.same hx s1, T.oc_Form.scl, T.sl_own_entries, q H1 s1⟩
/-- what making leaves -/
theorem made {C x dx : Addr} {v : V} {H' H0 : Hp} (hx : H0 x = none) (hdx : H0 dx = none) (hne : dx ≠ x) (s : Same (upd (upd H0 dx (.own x)) x (.ins C dx [])) H') : Same H0 (slH H' x C dx [some v]) := fun b o e => by
  have h1 : b ≠ x := ne_of_none e hx
  have h2 : b ≠ dx := ne_of_none e hdx
  rw [slH_ne h1 h2]
  exact s _ _ (by rw [upd_ne h1, upd_ne h2]; exact e)
/-- what is made of a row -/
def spMake (C : Addr) : Sp := fun vs H Q _ => ∃ (t : Addr) (ns : List Int), vs = [.ref t] ∧ H t = some (tp ns) ∧ ∀ p H', Same H H' → H p = none → Fo C H' p ns → Q (.ref p) H'
theorem ok_form_of (T : Facts K mg) : FnOk P w K mg base CX0 7 T.f_form_of T.fd_form_of ["entries"] (spMake T.C_Form) := by
  have G_Told_init : FnOk P w K mg base CX0 1 T.f_Told_init T.fd_Told_init ["self", "row"] (spTold T.C_Told) := ok_Told_init T
  have G_Form_init : FnOk P w K mg base CX0 5 T.f_Form_init T.fd_Form_init ["self", "entries"] (spForm T.C_Told T.C_Form) := ok_Form_init T
  refine T.F_form_of.ok sc_form_of (fun vs H Q E h => ?_) (fun cdv A outer s H vs Q E hr h => ?_)
  · obtain ⟨t, ns, rfl, _⟩ := h
    rfl
  · obtain ⟨t, ns, rfl, ht, q⟩ := h
    refine ⟨_, (PSs.nox (pss_one (ps_ret (pe_make T.mk_Form G_Form_init (hr.mono (by decide)) (by rfl) T.g_Form T.b_Form_init .nil pass0 (pa_cons (pe_make T.mk_Told G_Told_init (hr.mono (by decide)) (by rfl) T.g_Told T.b_Told_init .nil pass0 (pa_cons (pv 0) pa_nil)) pa_nil))))), ?_⟩
    refine ⟨_, rfl, fun x dx hx hdx hne => ⟨x, dx, .ref t, rfl, .inl ⟨upd_same, rfl⟩, rfl, ?_⟩⟩
    have s1 : Same H (slH (upd (upd H dx (.own x)) x (.ins T.C_Told dx [])) x T.C_Told dx [some (.ref t)]) := made hx hdx hne (Same.rf _)
    have y1 : Slt (slH (upd (upd H dx (.own x)) x (.ins T.C_Told dx [])) x T.C_Told dx [some (.ref t)]) x T.C_Told dx [some (.ref t)] := slH_slt hne
    generalize slH (upd (upd H dx (.own x)) x (.ins T.C_Told dx [])) x T.C_Told dx [some (.ref t)] = H1 at s1 y1 ⊢
    refine fun x2 dx2 hx2 hdx2 hne2 => ⟨x2, dx2, x, t, rfl, .inl ⟨upd_same, rfl⟩, .inl ⟨dx, ?_⟩, fun H2 s2 => ⟨rfl, ?_⟩⟩
    · exact slt_upd (slt_upd y1 hdx2) (by rw [upd_ne (Ne.symm hne2)]; exact hx2)
    · have s3 : Same H1 (slH H2 x2 T.C_Form dx2 [some (.ref t)]) := made hx2 hdx2 hne2 s2
      have hx0 : H x2 = none := by
        cases e : H x2 with
        | none => rfl
        | some o =>
          have := s1 _ _ e
          rw [hx2] at this
          cases this
      refine q x2 _ (fun b o e => s3 _ _ (s1 _ _ e)) hx0 ⟨dx2, t, upd_same, ?_, s3 _ _ (s1 _ _ ht)⟩
      unfold slH
      rw [upd_ne hne2, upd_same]
end
end K08

set_option Elab.async false
set_option linter.all false
set_option maxRecDepth 100000
set_option maxHeartbeats 4000000
namespace K08
open PySem PySem.Spec PyProof.Rows L2 MyR SlX OwnR OwnF
theorem cv_snoc (x : Int) (g : Nat → Int) : ∀ (l : List Int) (k : Nat), cv (l ++ [x]) g k = cv l g k + (if l.length ≤ k then x * g (k - l.length) else 0)
  | [], k => by
    show cv (x :: []) g k = 0 + (if 0 ≤ k then x * g (k - 0) else 0)
    rw [if_pos (Nat.zero_le k), Nat.sub_zero]
    cases k with
    | zero => rw [cv_zero]; omega
    | succ k => rw [cv_succ]; show x * g (k + 1) + 0 = 0 + x * g (k + 1); omega
  | y :: ys, 0 => by
    show cv (y :: (ys ++ [x])) g 0 = cv (y :: ys) g 0 + (if ys.length + 1 ≤ 0 then _ else 0)
    rw [cv_zero, cv_zero, if_neg (by omega)]
    omega
  | y :: ys, k + 1 => by
    show cv (y :: (ys ++ [x])) g (k + 1) = cv (y :: ys) g (k + 1) + (if ys.length + 1 ≤ k + 1 then x * g (k + 1 - (ys.length + 1)) else 0)
    rw [cv_succ, cv_succ, cv_snoc x g ys k, Nat.add_sub_add_right]
    by_cases h : ys.length ≤ k
    · rw [if_pos h, if_pos (by omega)]; omega
    · rw [if_neg h, if_neg (by omega)]; omega
/-- the entries so far: i rows, and j places of the next one -/
def J (xs : List Int) (g : Nat → Int) (i j k : Nat) : Int := cv (xs.take i) g k + (if i ≤ k ∧ k < i + j then co xs i * g (k - i) else 0)
theorem J_0 {xs : List Int} {g : Nat → Int} {i k : Nat} : J xs g i 0 k = cv (xs.take i) g k := by
  unfold J
  rw [if_neg (by omega)]
  omega
theorem J_step {xs : List Int} {g : Nat → Int} {i j k : Nat} : (if k = i + j then J xs g i j (i + j) + co xs i * g j else J xs g i j k) = J xs g i (j + 1) k := by
  unfold J
  by_cases h : k = i + j
  · subst h
    rw [if_pos rfl, if_neg (by omega), if_pos (by omega), Nat.add_sub_cancel_left]
    omega
  · rw [if_neg h]
    by_cases c : i ≤ k ∧ k < i + j
    · rw [if_pos c, if_pos (by omega)]
    · rw [if_neg c, if_neg (by omega)]
theorem J_end {xs ys : List Int} {i k : Nat} (hi : i < xs.length) : J xs (co ys) i ys.length k = cv (xs.take (i + 1)) (co ys) k := by
  unfold J
  have e : xs.take (i + 1) = xs.take i ++ [xs[i]] := by rw [List.take_add_one, List.getElem?_eq_getElem hi]; rfl
  have hl : (xs.take i).length = i := by rw [List.length_take]; omega
  rw [e, cv_snoc, hl, co_get hi]
  congr 1
  by_cases c : i ≤ k
  · by_cases d : k < i + ys.length
    · rw [if_pos ⟨c, d⟩, if_pos c]
    · rw [if_neg (by omega), if_pos c, co_far (by omega), Int.mul_zero]
  · rw [if_neg (by omega), if_neg c]
def tab (L : Nat) (f : Nat → Int) : List V := (List.range L).map fun k => V.int (f k)
theorem tab_tb (L : Nat) (f : Nat → Int) : tab L f = (tb L f).map V.int := by
  unfold tab tb
  rw [List.map_map]
  rfl
theorem tab_len (L : Nat) (f : Nat → Int) : (tab L f).length = L := by
  unfold tab
  rw [List.length_map, List.length_range]
theorem tab_get {L : Nat} {f : Nat → Int} {k : Nat} (h : k < L) : (tab L f)[k]? = some (.int (f k)) := by
  unfold tab
  rw [List.getElem?_map, List.getElem?_range h]
  rfl
theorem tab_ext {L : Nat} {f g : Nat → Int} (h : ∀ k, k < L → f k = g k) : tab L f = tab L g := by
  unfold tab
  exact List.map_congr_left fun k hk => by rw [h k (List.mem_range.mp hk)]
theorem tab_none {L : Nat} {f : Nat → Int} {k : Nat} (h : L ≤ k) : (tab L f)[k]? = none := List.getElem?_eq_none (by rw [tab_len]; exact h)
theorem tab_set {L : Nat} {f : Nat → Int} {j : Nat} {v : Int} : (tab L f).set j (.int v) = tab L (fun k => if k = j then v else f k) := by
  apply List.ext_getElem?
  intro k
  by_cases hk : k < L
  · rw [tab_get hk]
    by_cases e : k = j
    · subst e
      rw [List.getElem?_set_self (by rw [tab_len]; exact hk), if_pos rfl]
    · rw [List.getElem?_set_ne (Ne.symm e), tab_get hk, if_neg e]
  · rw [tab_none (Nat.le_of_not_lt hk), List.getElem?_eq_none (by rw [List.length_set, tab_len]; exact Nat.le_of_not_lt hk)]
theorem tab_rep (n : Nat) : List.replicate n (V.int 0) = tab n fun _ => 0 := by
  unfold tab
  rw [List.map_const', List.length_range]
theorem ix_at {n : Nat} {z : Int} {j : Nat} (e : z = (j : Int)) (h : j < n) : ixN n z = some j := by
  rw [e]
  exact Evl.ixN_nat h
theorem at_of {xs : List V} {z : Int} {j : Nat} {v : V} (e : z = (j : Int)) (h : xs[j]? = some v) : atI xs z = some v := by
  rw [e]
  exact atI_nat h
/-- ints of less than 400 bits -/
def sm (x : Int) : Prop := x.natAbs < 2 ^ 400
theorem sm_mul {x y : Int} (hx : sm x) (hy : sm y) : CMulW x y := wide_mul hx hy (by decide) (by decide) (by decide)
theorem get_int {xs : List Int} {i : Nat} (h : i < xs.length) : (xs.map V.int)[i]? = some (.int (co xs i)) := by
  rw [List.getElem?_map, List.getElem?_eq_getElem h, co_get h]
  rfl
theorem sm_co {xs : List Int} {i : Nat} (h : ∀ x ∈ xs, sm x) (hi : i < xs.length) : sm (co xs i) := by
  rw [co_get hi]
  exact h _ (List.getElem_mem hi)
section
variable {P : Program} {w : World} {K : PySem.W.Frag} {mg : Str → Option Value} {base : Heap}
def spJoin (K : PySem.W.Frag) : Sp := fun vs H Q _ => ∃ (a b : Addr) (xs ys : List Int), vs = [.ref a, .ref b] ∧ H a = some (tp xs) ∧ H b = some (tp ys) ∧ xs ≠ [] ∧ ys ≠ [] ∧ xs.length ≤ 100 ∧ ys.length ≤ 100 ∧ (∀ x ∈ xs, sm x) ∧ (∀ x ∈ ys, sm x) ∧ ∀ p H', Same H H' → H p = none → H' p = some (tp (ml xs ys)) → Q (.ref p) H'
theorem ok_joined_entries (T : Facts K mg) : FnOk P w K mg base CX0 1 T.f_joined_entries T.fd_joined_entries ["one", "other"] (spJoin K) := by
  refine T.F_joined_entries.ok sc_joined_entries (fun vs H Q E h => ?_) (fun cdv A outer s H vs Q E hr h => ?_)
  · obtain ⟨a, b, xs, ys, rfl, _⟩ := h
    rfl
  · obtain ⟨a, b, xs, ys, rfl, ha, hb, nx, ny, lx, ly, hx, hy, q⟩ := h
    have px : 0 < xs.length := List.length_pos_iff.mpr nx
    have py : 0 < ys.length := List.length_pos_iff.mpr ny
    refine ⟨_, (PSs.nox (pss_cons (ps_setLc (i := 2) (own := [("place", 3)]) (g := (gName 3)) (tt := tYes) rfl sc_joined_entries.nd rfl rfl (sw_true rfl rfl rfl (by decide +kernel)) (pi_range1 (by rfl) T.z_range (pa_cons (pe_op op_sub (pe_op op_add (pe_callB call_len_seq (by rfl) T.z_len (by decide +kernel) (pa_cons (pv 0) pa_nil)) (pe_callB call_len_seq (by rfl) T.z_len (by decide +kernel) (pa_cons (pv 1) pa_nil))) pe_int) pa_nil)) (blkOk_by (N := N_joined_entries) (sc := defScope s_joined_entries) (by decide +kernel)) (fun _ _ _ _ _ => (pg_name (i := 3) sc_joined_entries.nd rfl (.inl rfl))) (fun _ _ _ _ _ => pts_nil) (fun _ _ _ _ _ => pe_int))
    (pss_cons (ps_for PassesOwn.never (by rfl) (pi_range1 (by rfl) T.z_range (pa_cons (pe_callB call_len_seq (by rfl) T.z_len (by decide +kernel) (pa_cons (pv 0) pa_nil)) pa_nil)) (pg_name (i := 4) sc_joined_entries.nd rfl (.inl rfl))
      (pss_one (ps_for PassesOwn.never (by rfl) (pi_range1 (by rfl) T.z_range (pa_cons (pe_callB call_len_seq (by rfl) T.z_len (by decide +kernel) (pa_cons (pv 1) pa_nil)) pa_nil)) (pg_name (i := 3) sc_joined_entries.nd rfl (.inl rfl))
        (pss_one (ps_asg (pe_op op_add (pe_ix ix_list (pv 2) (pe_op op_add (pv 4) (pv 3)) (fun _ _ => rfl)) (pe_op op_mulW (pe_ix ix_tup (pv 0) (pv 4) (fun _ _ => rfl)) (pe_ix ix_tup (pv 1) (pv 3) (fun _ _ => rfl)))) (pg_sub (pv 2) (pe_op op_add (pv 4) (pv 3)) set_list))))))
    (pss_one (ps_ret (pe_tupleOf (by rfl) T.z_tuple (pv 2))))))), ?_⟩
    refine ⟨_, rfl, a, _, rfl, .inr (SqT.of ha), _, rfl, b, _, rfl, .inr (SqT.of hb), ?_⟩
    rw [List.length_map, List.length_map]
    obtain ⟨N, hN⟩ : ∃ N, N = xs.length + ys.length - 1 := ⟨_, rfl⟩
    have eN : (((xs.length : Int) + (ys.length : Int) - 1)).toNat = N := by omega
    refine ⟨_, _, rfl, rfl, _, _, rfl, rfl, _, rfl, (by show -(2 ^ 62) ≤ (xs.length : Int) + (ys.length : Int) - 1; omega), (by show (xs.length : Int) + (ys.length : Int) - 1 < 2 ^ 62; omega), fun D hD => lc_range (n := _) (fun j H' => H' = upd H D (.lst (List.replicate j (V.int 0)))) rfl (fun j H' hj hP => ?_) (fun H' hP => ?_)⟩
    · subst hP
      have hj2 : j < N := by rw [← eN]; exact hj
      refine ⟨rfl, ⟨_, upd_same, ?_, ?_⟩⟩
      · rw [List.length_replicate]
        exact small1000 (by omega)
      · rw [upd_upd, List.replicate_succ']
    · subst hP
      show _
      rw [show List.replicate (((xs.length : Int) + (ys.length : Int) - 1)).toNat (V.int 0) = tab N (fun k => cv (xs.take 0) (co ys) k) by rw [eN, tab_rep]; rfl]
      have sD : ∀ o, Same H (upd H D o) := fun o => same_upd0 hD
      refine ⟨_, rfl, a, _, rfl, .inr (SqT.of (sD _ _ _ ha)), ?_⟩
      rw [List.length_map]
      refine ⟨xs.length, rfl, by omega, by omega, for_range (n := (xs.length : Int).toNat) (fun i σ H' => ∃ y3 y4, σ = [some (.ref a), some (.ref b), some (.ref D), y3, y4] ∧ H' = upd H D (.lst (tab N fun k => cv (xs.take i) (co ys) k))) ⟨none, none, rfl, rfl⟩ (fun i σ H' hi hP => ?_) (fun σ H' hP => ?_)⟩
      · obtain ⟨y3, y4, rfl, rfl⟩ := hP
        have hi2 : i < xs.length := by omega
        refine ⟨_, rfl, b, _, rfl, .inr (SqT.of (sD _ _ _ hb)), ?_⟩
        rw [List.length_map, tab_ext (g := J xs (co ys) i 0) fun k hk => J_0.symm]
        refine ⟨ys.length, rfl, by omega, by omega, for_range (n := (ys.length : Int).toNat) (fun j σ H' => ∃ y3, σ = [some (.ref a), some (.ref b), some (.ref D), y3, some (.int (0 + (i : Int)))] ∧ H' = upd H D (.lst (tab N (J xs (co ys) i j)))) ⟨y3, rfl, rfl⟩ (fun j σ H' hj hP => ?_) (fun σ H' hP => ?_)⟩
        · obtain ⟨y3, rfl, rfl⟩ := hP
          have hj2 : j < ys.length := by omega
          have e1 : (0 : Int) + (i : Int) + (0 + (j : Int)) = ((i + j : Nat) : Int) := by omega
          have e2 : (0 : Int) + (i : Int) = ((i : Nat) : Int) := by omega
          have e3 : (0 : Int) + (j : Int) = ((j : Nat) : Int) := by omega
          refine ⟨_, rfl, _, rfl, _, rfl, _, _, rfl, rfl, D, _, _, _, rfl, rfl, SqL.of upd_same, at_of e1 (tab_get (by omega)), _, rfl, _, rfl, a, _, _, _, rfl, rfl, SqT.of (sD _ _ _ ha), at_of e2 (get_int hi2), _, rfl, _, rfl, b, _, _, _, rfl, rfl, SqT.of (sD _ _ _ hb), at_of e3 (get_int hj2), _, _, rfl, rfl, sm_mul (sm_co hx hi2) (sm_co hy hj2), _, _, rfl, rfl, ?_⟩
          refine ⟨_, rfl, _, rfl, _, rfl, _, _, rfl, rfl, D, _, _, (i + j), rfl, rfl, upd_same, ?_, ?_⟩
          · rw [tab_len]
            exact ix_at e1 (by omega)
          · refine ⟨_, rfl, ?_⟩
            rw [upd_upd]
            show upd H D (.lst ((tab N (J xs (co ys) i j)).set (i + j) (.int (J xs (co ys) i j (i + j) + co xs i * co ys j)))) = _
            rw [tab_set, tab_ext fun k hk => J_step]
        · obtain ⟨y3, rfl, rfl⟩ := hP
          refine ⟨_, _, rfl, ?_⟩
          rw [Int.toNat_natCast, tab_ext fun k hk => J_end hi2]
      · obtain ⟨y3, y4, rfl, rfl⟩ := hP
        rw [Int.toNat_natCast, List.take_length, tab_tb]
        refine ⟨_, rfl, ?_⟩
        refine .inl ⟨D, _, rfl, SqL.of upd_same, fun p hp => ?_⟩
        refine q p _ ((sD _).trans (same_upd0 hp)) (Same.free (sD _) hp) ?_
        rw [upd_same, hN]
        rfl
end
end K08

set_option Elab.async false
set_option linter.all false
set_option maxRecDepth 100000
set_option maxHeartbeats 4000000
namespace K08
open PySem PySem.Spec PyProof.Rows L2 StX RZ MyR SlX OwnR OwnF
/-- a comprehension over zip of two tuples of one length -/
theorem lc_zipT {K : PySem.W.Frag} {a b : Addr} {xs ys : List V} {g : TG} {tt : TT} {te : TE} {vs : List Nat} {σ : L2.St} {H1 : Hp} {D : Addr} {Qd : Hp → Prop} (hl : xs.length = ys.length) (Pv : Nat → Hp → Prop) (h0 : Pv 0 (upd H1 D (.lst []))) (hq : ∀ i H, i ≤ xs.length → Pv i H → SqT K H a xs ∧ SqT K H b ys)
    (hs : ∀ (i : Nat) (x y : V) (T : Addr) (H : Hp), xs[i]? = some x → ys[i]? = some y → Pv i H → H T = none → g (.ref T) (wipe σ vs) (upd H T (.tup [x, y])) fun σ2 H2 => wipe σ2 vs = wipe σ vs ∧ tt σ2 H2 fun b H3 =>
      if b = true then te σ2 H3 fun y H4 => ∃ acc, H4 D = some (.lst acc) ∧ acc.length < sizeLine ∧ Pv (i + 1) (upd H4 D (.lst (acc ++ [y]))) else Pv (i + 1) H3) (hd : ∀ H, Pv xs.length H → Qd H) :
    ∃ W : Nat → Nat → Hp → Prop, (∃ m, W 0 m (upd H1 D (.lst []))) ∧ ∀ i m H, W i m H →
      ((ItzT K a b).stop i H ∧ Qd H) ∨ ((ItzT K a b).go i H ∧ ∃ Nx : Hp → Prop, (∀ H', Nx H' → ∃ m', m' < m ∧ W (i + 1) m' H') ∧ ∀ x H', (ItzT K a b).yld i H x H' → g x (wipe σ vs) H' fun σ2 H2 => wipe σ2 vs = wipe σ vs ∧ tt σ2 H2 fun b H3 =>
        if b = true then te σ2 H3 fun y H4 => ∃ acc, H4 D = some (.lst acc) ∧ acc.length < sizeLine ∧ Nx (upd H4 D (.lst (acc ++ [y]))) else Nx H3) := by
  refine ⟨fun i m H => m = xs.length - i ∧ i ≤ xs.length ∧ Pv i H, ⟨xs.length, by simp, Nat.zero_le _, h0⟩, ?_⟩
  rintro i m H ⟨rfl, hi, p⟩
  obtain ⟨qx, qy⟩ := hq i H hi p
  by_cases hlt : i < xs.length
  · have hlt2 : i < ys.length := by omega
    have hx : xs[i]? = some xs[i] := List.getElem?_eq_getElem hlt
    have hy : ys[i]? = some ys[i] := List.getElem?_eq_getElem hlt2
    refine .inr ⟨⟨xs, ys, _, _, qx, qy, hx, hy⟩, Pv (i + 1), fun H' p' => ⟨xs.length - (i + 1), by omega, rfl, hlt, p'⟩, fun v H' y => ?_⟩
    obtain ⟨T, x', y', rfl, hT, rfl, f1, f2⟩ := y
    exact hs i x' y' T H (f1 xs qx) (f2 ys qy) p hT
  · have e : i = xs.length := by omega
    subst e
    exact .inl ⟨⟨xs, ys, qx, qy, Or.inl (Nat.le_refl _)⟩, hd H p⟩
/-- the sign of the first entry that is not 0 -/
def sg : List Int → Int
  | [] => 1
  | x :: xs => if x = 0 then sg xs else if 0 < x then 1 else -1
theorem sg_cases : ∀ l : List Int, sg l = 1 ∨ sg l = -1
  | [] => .inl rfl
  | x :: xs => by
    unfold sg
    split
    · exact sg_cases xs
    · split
      · exact .inl rfl
      · exact .inr rfl
def part (l : List Int) : Int := (cont l : Int) * sg l
theorem part_abs (l : List Int) : (part l).natAbs = cont l := by
  unfold part
  rw [Int.natAbs_mul]
  rcases sg_cases l with e | e <;> rw [e] <;> simp
theorem sm_cont {l : List Int} (h : ∀ x ∈ l, sm x) : cont l < 2 ^ 400 := by
  by_cases c : ∃ x ∈ l, x ≠ 0
  · obtain ⟨x, hx, h0⟩ := c
    have h1 := Int.natAbs_dvd_natAbs.mpr (cont_dvd l x hx)
    have h2 := Nat.le_of_dvd (Int.natAbs_pos.mpr h0) h1
    exact Nat.lt_of_le_of_lt h2 (h x hx)
  · have hz : ∀ l : List Int, (∀ x ∈ l, x = 0) → cont l = 0 := by
      intro l
      induction l with
      | nil => intro _; rfl
      | cons y ys ih =>
        intro hl
        show Nat.gcd y.natAbs (cont ys) = 0
        rw [ih fun x hx => hl x (List.mem_cons_of_mem _ hx), hl y List.mem_cons_self]
        rfl
    rw [hz l fun x hx => Classical.byContradiction fun q => c ⟨x, hx, q⟩]
    decide
theorem sm_part {l : List Int} (h : ∀ x ∈ l, sm x) : sm (part l) := by
  show (part l).natAbs < _
  rw [part_abs]
  exact sm_cont h
/-- divided by its content, the first entry that is not 0 above 0 -/
def prim (l : List Int) : List Int := if part l = 0 then l else l.map fun x => x.fdiv (part l)
theorem tb_map (f : Int → Int) (l : List Int) : (tb l.length fun k => f (co l k)) = l.map f := by
  conv => rhs; rw [← tb_co l]
  unfold tb
  rw [List.map_map]
  rfl
section
variable {P : Program} {w : World} {K : PySem.W.Frag} {mg : Str → Option Value} {base : Heap}
def spZero : Sp := fun vs H Q _ => ∃ (t : Addr) (ns : List Int), vs = [.ref t] ∧ H t = some (tp ns) ∧ Q (.bl (!ns.any (· != 0))) H
theorem ok_is_zero_in (T : Facts K mg) : FnOk P w K mg base CX0 1 T.f_is_zero_in T.fd_is_zero_in ["entries"] spZero := by
  refine T.F_is_zero_in.ok sc_is_zero_in (fun vs H Q E h => ?_) (fun cdv A outer s H vs Q E hr h => ?_)
  · obtain ⟨t, ns, rfl, _⟩ := h
    rfl
  · obtain ⟨t, ns, rfl, ht, q⟩ := h
    refine ⟨_, (PSs.nox (pss_one (ps_ret (pe_not (pe_callB (cr_anyTI (by rfl)) (by rfl) T.z_any (by decide +kernel) (pa_cons (pv 0) pa_nil)))))), ?_⟩
    exact ⟨_, rfl, t, ns, rfl, SqT.of ht, _, rfl, q⟩
def spPrim : Sp := fun vs H Q _ => ∃ (t : Addr) (ns : List Int), vs = [.ref t] ∧ H t = some (tp ns) ∧ ns.length ≤ 1000 ∧ (∀ x ∈ ns, sm x) ∧ ∀ p H', Same H H' → H' p = some (tp (prim ns)) → Q (.ref p) H'
/-- the sum of one row and a multiple of the other -/
def zs (c : Int) (xs ys : List Int) : List Int := List.zipWith (fun x y => x + c * y) xs ys
end
end K08

set_option Elab.async false
set_option linter.all false
set_option maxRecDepth 100000
set_option maxHeartbeats 4000000
namespace K08
open PySem PySem.Spec PyProof.Rows L2 StX RZ MyR SlX OwnR OwnF
/-! ### == of tuples of ints -/
theorem dpAll_ints {K : PySem.W.Frag} {H : Hp} : ∀ ns : List Int, DpAll K H (ns.map V.int) (ns.map PyData.int)
  | [] => .nil
  | n :: r => .cons (.int n) (dpAll_ints r)
theorem lay_ints : ∀ ns : List Int, PyData.canLayAll0 (ns.map PyData.int) = true
  | [] => rfl
  | n :: r => by
    show (PyData.canLay0 (.int n) && PyData.canLayAll0 (r.map PyData.int)) = true
    rw [lay_ints r]
    rfl
theorem depth_ints : ∀ ns : List Int, PyData.depthAll (ns.map PyData.int) = 0
  | [] => rfl
  | n :: r => by
    show max (PyData.depth (.int n)) (PyData.depthAll (r.map PyData.int)) = 0
    rw [depth_ints r]
    rfl
theorem shaped_tints (ns : List Int) : SeqAt.shaped (.tuple (ns.map PyData.int)) = true := by
  unfold SeqAt.shaped
  rw [show PyData.canLay0 (.tuple (ns.map PyData.int)) = PyData.canLayAll0 (ns.map PyData.int) from rfl, lay_ints]
  rw [show PyData.depth (.tuple (ns.map PyData.int)) = PyData.depthAll (ns.map PyData.int) + 1 from rfl, depth_ints]
  rfl
/-! ### the properties, the operators -/
section
variable {P : Program} {w : World} {K : PySem.W.Frag} {mg : Str → Option Value} {base : Heap}
def spEnt (C : Addr) : Sp := fun vs H Q _ => ∃ (a : Addr) (ns : List Int), vs = [.ref a] ∧ Fo C H a ns ∧ ∀ t, H t = some (tp ns) → Q (.ref t) H
theorem ok_Form_entries (T : Facts K mg) : FnOk P w K mg base CX0 1 T.f_Form_entries T.fd_Form_entries ["self"] (spEnt T.C_Form) := by
  refine T.F_Form_entries.ok sc_Form_entries (fun vs H Q E h => ?_) (fun cdv A outer s H vs Q E hr h => ?_)
  · obtain ⟨a, ns, rfl, _⟩ := h
    rfl
  · obtain ⟨a, ns, rfl, fa, q⟩ := h
    obtain ⟨dx, t, ha, ht⟩ := fa.slt
    refine ⟨_, (PSs.nox (pss_one (ps_ret (pe_sl (pv 0))))), ?_⟩
    exact ⟨_, rfl, a, T.C_Form, dx, T.a_own_entries, _, 0, .ref t, rfl, ha, T.oc_Form.scl, T.sl_own_entries, rfl, q t ht⟩
def spDeg (C : Addr) : Sp := fun vs H Q _ => ∃ (a : Addr) (ns : List Int), vs = [.ref a] ∧ Fo C H a ns ∧ Q (.int ((ns.length : Int) - 1)) H
theorem ok_Form_degree (T : Facts K mg) : FnOk P w K mg base CX0 1 T.f_Form_degree T.fd_Form_degree ["self"] (spDeg T.C_Form) := by
  refine T.F_Form_degree.ok sc_Form_degree (fun vs H Q E h => ?_) (fun cdv A outer s H vs Q E hr h => ?_)
  · obtain ⟨a, ns, rfl, _⟩ := h
    rfl
  · obtain ⟨a, ns, rfl, fa, q⟩ := h
    obtain ⟨dx, t, ha, ht⟩ := fa.slt
    refine ⟨_, (PSs.nox (pss_one (ps_ret (pe_op op_sub (pe_callB call_len_seq (by rfl) T.z_len (by decide +kernel) (pa_cons (pe_sl (pv 0)) pa_nil)) pe_int)))), ?_⟩
    refine ⟨_, rfl, a, T.C_Form, dx, T.a_own_entries, _, 0, .ref t, rfl, ha, T.oc_Form.scl, T.sl_own_entries, rfl, t, _, rfl, .inr (SqT.of ht), _, _, rfl, rfl, ?_⟩
    rw [List.length_map]
    exact q
def spIsZ (C : Addr) : Sp := fun vs H Q _ => ∃ (a : Addr) (ns : List Int), vs = [.ref a] ∧ Fo C H a ns ∧ Q (.bl (!ns.any (· != 0))) H
theorem ok_Form_is_zero (T : Facts K mg) : FnOk P w K mg base CX0 2 T.f_Form_is_zero T.fd_Form_is_zero ["self"] (spIsZ T.C_Form) := by
  have G_is_zero_in : FnOk P w K mg base CX0 1 T.f_is_zero_in T.fd_is_zero_in ["entries"] spZero := ok_is_zero_in T
  refine T.F_Form_is_zero.ok sc_Form_is_zero (fun vs H Q E h => ?_) (fun cdv A outer s H vs Q E hr h => ?_)
  · obtain ⟨a, ns, rfl, _⟩ := h
    rfl
  · obtain ⟨a, ns, rfl, fa, q⟩ := h
    obtain ⟨dx, t, ha, ht⟩ := fa.slt
    refine ⟨_, (PSs.nox (pss_one (ps_ret (pe_call G_is_zero_in hr (by rfl) T.g_is_zero_in T.F_is_zero_in.kp T.b_is_zero_in .nil pass0 (pa_cons (pe_sl (pv 0)) pa_nil))))), ?_⟩
    exact ⟨_, rfl, a, T.C_Form, dx, T.a_own_entries, _, 0, .ref t, rfl, ha, T.oc_Form.scl, T.sl_own_entries, rfl, t, ns, rfl, ht, q⟩
/-- what is asked of a form's row -/
structure Rw (ns : List Int) : Prop where
  ne : ns ≠ []
  len : ns.length ≤ 100
  sm : ∀ x ∈ ns, sm x
/-- isinstance(x, Form), x a form -/
theorem isi_form {X : Cx} {C b dy : Addr} {vs : List (Option V)} {H : Hp} {Q : VK} (c : OC X.K C) (hb : Slt H b C dy vs) (q : Q (.bl true) H) : rIsi X.K [.ref b, .ref C] H Q ∨ rIsiSl X.K (.ref C) [.ref b, .ref C] H Q :=
  .inr ⟨b, C, dy, vs, .ref C, true, rfl, rfl, fun w r => r, hb, c.scl, c.sis, c.kself, q⟩
end
end K08

set_option Elab.async false
set_option linter.all false
set_option maxRecDepth 100000
set_option maxHeartbeats 4000000
namespace K08
open PySem PySem.Spec PyProof.Rows L2 StX RZ MyR SlX OwnR OwnF
theorem eqvAll_ints : ∀ xs ys : List Int, PyData.eqvAll (xs.map PyData.int) (ys.map PyData.int) = decide (xs = ys)
  | [], [] => rfl
  | [], _ :: _ => rfl
  | _ :: _, [] => rfl
  | x :: xs, y :: ys => by
    show (PyData.eqv (.int x) (.int y) && PyData.eqvAll (xs.map PyData.int) (ys.map PyData.int)) = _
    rw [eqvAll_ints xs ys]
    show ((x == y) && decide (xs = ys)) = decide (x :: xs = y :: ys)
    by_cases h : x = y
    · by_cases k : xs = ys
      · subst h k
        simp
      · rw [decide_eq_false k, decide_eq_false fun z => k (List.cons.inj z).2, Bool.and_false]
    · rw [decide_eq_false fun z => h (List.cons.inj z).1, beq_eq_false_iff_ne.mpr h, Bool.false_and]
theorem eqv_ints (xs ys : List Int) : PyData.eqv (.tuple (xs.map PyData.int)) (.tuple (ys.map PyData.int)) = decide (xs = ys) := eqvAll_ints xs ys
theorem eq_ints {K : PySem.W.Frag} {H : Hp} {a b : Addr} {xs ys : List Int} {Q : VK} (ha : SqT K H a (xs.map V.int)) (hb : SqT K H b (ys.map V.int)) (q : Q (.bl (decide (xs = ys))) H) : rEqD K (.ref a) (.ref b) H Q := by
  refine ⟨_, _, .tup ha (dpAll_ints xs), .tup hb (dpAll_ints ys), shaped_tints xs, shaped_tints ys, ?_⟩
  rw [eqv_ints]
  exact q
theorem ne_ints {K : PySem.W.Frag} {H : Hp} {a b : Addr} {xs ys : List Int} {Q : VK} (ha : SqT K H a (xs.map V.int)) (hb : SqT K H b (ys.map V.int)) (q : Q (.bl (!decide (xs = ys))) H) : rNeD K (.ref a) (.ref b) H Q := by
  refine ⟨_, _, .tup ha (dpAll_ints xs), .tup hb (dpAll_ints ys), shaped_tints xs, shaped_tints ys, ?_⟩
  rw [eqv_ints]
  exact q
section
variable {P : Program} {w : World} {K : PySem.W.Frag} {mg : Str → Option Value} {base : Heap}
def spMul (C : Addr) : Sp := fun vs H Q _ => ∃ (a : Addr) (xs : List Int) (v : V), vs = [.ref a, v] ∧ Fo C H a xs ∧ Rw xs ∧
  ((∃ (b : Addr) (ys : List Int), v = .ref b ∧ Fo C H b ys ∧ Rw ys ∧ xs.length + ys.length ≤ 42 ∧ ∀ p H', Same H H' → Fo C H' p (ml xs ys) → Q (.ref p) H') ∨
   (∃ c : Int, v = .int c ∧ Sho c ∧ ∀ p H', Same H H' → Fo C H' p (xs.map fun x => x * c) → Q (.ref p) H'))
theorem ok_Form_mul (T : Facts K mg) : FnOk P w K mg base CX0 8 T.f_Form_mul T.fd_Form_mul ["self", "other"] (spMul T.C_Form) := by
  have G_is_whole : FnOk P w K mg base CX0 1 T.f_is_whole T.fd_is_whole ["value"] spWhole := ok_is_whole T
  have G_require_short : FnOk P w K mg base CX0 3 T.f_require_short T.fd_require_short ["value"] spReqShort := ok_require_short T
  have G_joined_entries : FnOk P w K mg base CX0 1 T.f_joined_entries T.fd_joined_entries ["one", "other"] (spJoin K) := ok_joined_entries T
  have G_Form_degree : FnOk P w K mg base CX0 1 T.f_Form_degree T.fd_Form_degree ["self"] (spDeg T.C_Form) := ok_Form_degree T
  have G_form_of : FnOk P w K mg base CX0 7 T.f_form_of T.fd_form_of ["entries"] (spMake T.C_Form) := ok_form_of T
  refine T.F_Form_mul.ok sc_Form_mul (fun vs H Q E h => ?_) (fun cdv A outer s H vs Q E hr h => ?_)
  · obtain ⟨a, xs, v, rfl, _⟩ := h
    rfl
  · obtain ⟨a, xs, v, rfl, fa, r, h⟩ := h
    obtain ⟨dx, t, ha, ht⟩ := fa.slt
    refine ⟨_, (PSs.nox (pss_cons (ps_if (pt_val (pe_callB (call_isiF T.C_Form) (by rfl) T.z_isinstance (by decide +kernel) (pa_cons (pv 1) (pa_cons (pe_glob (v := .ref T.C_Form) (by rfl) T.g_Form rfl) pa_nil))))
      (pss_cons (ps_if (pt_cmpR op_gt (pe_op op_add (pe_prp (pv 0) T.oc_Form T.pr_Form_degree G_Form_degree T.b_Form_degree (hr.mono (by decide))) (pe_prp (pv 1) T.oc_Form T.pr_Form_degree G_Form_degree T.b_Form_degree (hr.mono (by decide)))) (pe_glob (v := .int 40) (by rfl) T.c_MAX_DEGREE.choose_spec ⟨_, rfl⟩) (nomark _))
        (pss_one ps_never)
        pss_nil)
      (pss_one (ps_ret (pe_call G_form_of hr (by rfl) T.g_form_of T.F_form_of.kp T.b_form_of .nil pass0 (pa_cons (pe_call G_joined_entries (hr.mono (by decide)) (by rfl) T.g_joined_entries T.F_joined_entries.kp T.b_joined_entries .nil pass0 (pa_cons (pe_sl (pv 0)) (pa_cons (pe_sl (pv 1)) pa_nil))) pa_nil)))))
      pss_nil)
    (pss_cons (ps_if (pt_not (pt_val (pe_call G_is_whole (hr.mono (by decide)) (by rfl) T.g_is_whole T.F_is_whole.kp T.b_is_whole .nil pass0 (pa_cons (pv 1) pa_nil))))
      (pss_one ps_never)
      pss_nil)
    (pss_cons (ps_expr (pe_call G_require_short (hr.mono (by decide)) (by rfl) T.g_require_short T.F_require_short.kp T.b_require_short .nil pass0 (pa_cons (pv 1) pa_nil)))
    (pss_one (ps_ret (pe_call G_form_of hr (by rfl) T.g_form_of T.F_form_of.kp T.b_form_of .nil pass0 (pa_cons (pe_tupleOf (by rfl) T.z_tuple (pe_lc (own := [("entry", 2)]) (g := (gName 2)) (tt := tYes) (by rfl) sc_Form_mul.nd (pi_tup (pe_sl (pv 0))) (blkOk_by (N := N_Form_mul) (sc := defScope s_Form_mul) (by decide +kernel)) (fun _ _ _ _ _ => (pg_name (i := 2) sc_Form_mul.nd rfl (.inl rfl))) (fun _ _ _ _ _ => pts_nil) (fun _ _ _ _ _ => (pe_op op_mulW (pv 2) (pv 1))))) pa_nil)))))))), ?_⟩
    rcases h with ⟨b, ys, rfl, fb, r2, hl, q⟩ | ⟨c, rfl, hc, q⟩
    · obtain ⟨dy, u, hb, hu⟩ := fb.slt
      refine ⟨_, rfl, isi_form (X := (cxOf CX0 P w K mg base N_Form_mul (Str.ofString "Form.__mul__") (defScope s_Form_mul) T.f_Form_mul cdv A outer s H E).nox) T.oc_Form hb ⟨true, rfl, iteT ?_⟩⟩
      refine ⟨_, rfl, a, dx, _, rfl, ha, a, xs, rfl, fa, _, rfl, b, dy, _, rfl, hb, b, ys, rfl, fb, _, _, rfl, rfl, _, _, rfl, rfl, _, rfl, ?_⟩
      rw [decide_eq_false (show ¬ (40 : Int) < (xs.length : Int) - 1 + ((ys.length : Int) - 1) by omega)]
      refine iteF ⟨_, rfl, a, T.C_Form, dx, T.a_own_entries, _, 0, .ref t, rfl, ha, T.oc_Form.scl, T.sl_own_entries, rfl, _, rfl, b, T.C_Form, dy, T.a_own_entries, _, 0, .ref u, rfl, hb, T.oc_Form.scl, T.sl_own_entries, rfl, t, u, xs, ys, rfl, ht, hu, r.ne, r2.ne, r.len, r2.len, r.sm, r2.sm, fun p H' s _ hp => ?_⟩
      exact ⟨p, _, rfl, hp, fun p2 H2 s2 n2 f2 => q p2 H2 (s.trans s2) f2⟩
    · refine ⟨_, rfl, .inl ⟨.int c, .ref T.C_Form, .type "int", .ref T.C_Form, false, rfl, .own _, .base (.int c), T.oc_Form.kint, false, rfl, iteF ?_⟩⟩
      refine ⟨_, rfl, c, rfl, true, rfl, iteF ⟨_, rfl, c, rfl, hc, ?_⟩⟩
      have smc : sm c := Nat.lt_trans hc (by decide)
      refine ⟨_, rfl, a, T.C_Form, dx, T.a_own_entries, _, 0, .ref t, rfl, ha, T.oc_Form.scl, T.sl_own_entries, rfl, t, rfl, ⟨_, SqT.of ht⟩, fun D hD => lc_tup (xs := xs.map V.int) (fun j H' => H' = upd H D (.lst (tab j fun k => co xs k * c))) rfl (fun j H' _ hP => ?_) (fun j x H' hx hP => ?_) (fun H' hP => ?_)⟩
      · rw [hP]
        exact SqT.of (same_upd0 hD _ _ ht)
      · subst hP
        have hj : j < xs.length := by
          have := (List.getElem?_eq_some_iff.mp hx).1
          rw [List.length_map] at this
          exact this
        rw [get_int hj] at hx
        cases hx
        have := r.len
        refine ⟨rfl, ⟨_, rfl, _, rfl, _, _, rfl, rfl, sm_mul (sm_co r.sm hj) smc, _, upd_same, ?_, ?_⟩⟩
        · rw [tab_len]
          exact small1000 (by omega)
        · rw [upd_upd]
          unfold tab
          rw [List.range_succ, List.map_append]
          rfl
      · subst hP
        rw [List.length_map, tab_tb, tb_map (fun x => x * c) xs]
        refine .inl ⟨D, _, rfl, SqL.of upd_same, fun p hp2 => ?_⟩
        exact ⟨p, _, rfl, upd_same, fun p2 H2 s2 n2 f2 => q p2 H2 ((same_upd0 hD).trans ((same_upd0 hp2).trans s2)) f2⟩
/-- == : with a form, with a tuple -/
def spEqF (C : Addr) : Sp := fun vs H Q _ => ∃ (a : Addr) (xs : List Int) (b : Addr), vs = [.ref a, .ref b] ∧ Fo C H a xs ∧
  ((∃ ys, Fo C H b ys ∧ Q (.bl (decide (xs = ys))) H) ∨ (∃ ys, H b = some (tp ys) ∧ Q (.bl false) H))
theorem ok_Form_eq (T : Facts K mg) : FnOk P w K mg base CX0 1 T.f_Form_eq T.fd_Form_eq ["self", "other"] (spEqF T.C_Form) := by
  refine T.F_Form_eq.ok sc_Form_eq (fun vs H Q E h => ?_) (fun cdv A outer s H vs Q E hr h => ?_)
  · obtain ⟨a, xs, b, rfl, _⟩ := h
    rfl
  · obtain ⟨a, xs, b, rfl, fa, h⟩ := h
    obtain ⟨dx, t, ha, ht⟩ := fa.slt
    refine ⟨_, (PSs.nox (pss_one (ps_ret (pe_and (pe_callB (call_isiF T.C_Form) (by rfl) T.z_isinstance (by decide +kernel) (pa_cons (pv 1) (pa_cons (pe_glob (v := .ref T.C_Form) (by rfl) T.g_Form rfl) pa_nil))) (pe_one (pe_cmpR (op_eqD (hu64 hr)) (pe_sl (pv 0)) (pe_sl (pv 1)) (nomark _))))))), ?_⟩
    rcases h with ⟨ys, fb, q⟩ | ⟨ys, hb, q⟩
    · obtain ⟨dy, u, hb, hu⟩ := fb.slt
      refine ⟨_, rfl, isi_form (X := (cxOf CX0 P w K mg base N_Form_eq (Str.ofString "Form.__eq__") (defScope s_Form_eq) T.f_Form_eq cdv A outer s H E).nox) T.oc_Form hb ⟨true, rfl, iteT ?_⟩⟩
      exact ⟨_, rfl, a, T.C_Form, dx, T.a_own_entries, _, 0, .ref t, rfl, ha, T.oc_Form.scl, T.sl_own_entries, rfl, _, rfl, b, T.C_Form, dy, T.a_own_entries, _, 0, .ref u, rfl, hb, T.oc_Form.scl, T.sl_own_entries, rfl, eq_ints (SqT.of ht) (SqT.of hu) q⟩
    · exact ⟨_, rfl, .inl ⟨.ref b, .ref T.C_Form, .type "tuple", .ref T.C_Form, false, rfl, .own _, .base (.tup hb), T.oc_Form.ktup, false, rfl, iteF q⟩⟩
end
end K08

set_option Elab.async false
set_option linter.all false
set_option maxRecDepth 100000
set_option maxHeartbeats 4000000
namespace K08
open PySem PySem.Spec PyProof.Rows L2 StX RZ MyR SlX OwnR OwnF
abbrev dice (x y z : Int) : HO := .lst [.int x, .int y, .int z]
/-- all but the dice is as it was -/
def Sx (a : Addr) (H H' : Hp) : Prop := ∀ b o, b ≠ a → H b = some o → H' b = some o
def Dc (H : Hp) (a : Addr) : Prop := ∃ x y z, H a = some (dice x y z)
theorem Sx.refl (a : Addr) (H : Hp) : Sx a H H := fun _ _ _ h => h
theorem Sx.trans {a : Addr} {H H1 H2 : Hp} (s : Sx a H H1) (t : Sx a H1 H2) : Sx a H H2 := fun b o n h => t b o n (s b o n h)
theorem Sx.of {a : Addr} {H H' : Hp} (s : Same H H') : Sx a H H' := fun b o _ h => s b o h
theorem Sx.upd {a : Addr} {H : Hp} {o : HO} : Sx a H (upd H a o) := fun b u n h => by
  rw [upd_ne n]
  exact h
theorem Dc.same {a : Addr} {H H' : Hp} (d : Dc H a) (s : Same H H') : Dc H' a := by
  obtain ⟨x, y, z, e⟩ := d
  exact ⟨x, y, z, s _ _ e⟩
theorem Dc.ne {a p : Addr} {H : Hp} (d : Dc H a) (n : H p = none) : p ≠ a := fun e => by
  obtain ⟨x, y, z, h⟩ := d
  rw [e, h] at n
  cases n
theorem Sx.free {a p : Addr} {H H' : Hp} (s : Sx a H H') (n : H' p = none) (ne : p ≠ a) : H p = none := by
  cases q : H p with
  | none => rfl
  | some o =>
    rw [s p o ne q] at n
    cases n
section
variable {P : Program} {w : World} {K : PySem.W.Frag} {mg : Str → Option Value} {base : Heap}
theorem cp16 : CPow 10 16 := ⟨by decide, by decide, by decide⟩
theorem cp60 : CPow 10 60 := ⟨by decide, by decide, by decide⟩
theorem cw60 : CMulW (10 ^ Int.toNat 60) (10 ^ Int.toNat 60) := by
  unfold CMulW
  decide +kernel
theorem pos60 : (0 : Int) < 10 ^ Int.toNat 60 * 10 ^ Int.toNat 60 := by decide +kernel
theorem pos_m : (0 : Int) < 1152921504606846697 := by decide
theorem sz3 : 3 ≤ sizeLine := by decide
def spDice (K : PySem.W.Frag) : Sp := fun vs H Q _ => ∃ (a : Addr) (ns : List Int) (k : Nat), vs = [.ref a, .int k] ∧ SqL K H a (ns.map V.int) ∧ ∀ p x y z, H p = none → Q (.ref p) (upd H p (dice x y z))
theorem ok_law_dice (T : Facts K mg) : FnOk P w K mg base CX0 1 T.f_law_dice T.fd_law_dice ["_law_script", "_law_spot"] (spDice K) := by
  refine T.F_law_dice.ok sc_law_dice (fun vs H Q E h => ?_) (fun cdv A outer s H vs Q E hr h => ?_)
  · obtain ⟨a, ns, k, rfl, _⟩ := h
    rfl
  · obtain ⟨a, ns, k, rfl, hS, q⟩ := h
    refine ⟨_, (PSs.nox (pss_cons (ps_set (i := 2) sc_law_dice.nd rfl (.inl rfl) (pe_ifExp (pt_cmpR op_lt (pv 1) (pe_callB call_len_seq (by rfl) T.z_len (by decide +kernel) (pa_cons (pv 0) pa_nil)) (nomark _)) (pe_callTy call_int1 (by rfl) T.z_int (by decide +kernel) (pa_cons (pe_ix ix_list (pv 0) (pv 1) (fun _ _ => rfl)) pa_nil)) (pe_op op_add (pe_op op_mul pe_int (pv 1)) pe_int)))
    (pss_cons (ps_set (i := 3) sc_law_dice.nd rfl (.inl rfl) (pe_op op_mod (pe_callB (call_max2 (by rfl)) (by rfl) T.z_max (by decide +kernel) (pa_cons pe_int (pa_cons (pe_op op_sub (pe_callB call_abs (by rfl) T.z_abs (by decide +kernel) (pa_cons (pv 2) pa_nil)) (pe_op op_pow pe_int pe_int)) pa_nil))) (pe_op op_mulW (pe_op op_pow pe_int pe_int) (pe_op op_pow pe_int pe_int))))
    (pss_one (ps_ret (pe_lst (pa_cons (pv 3) (pa_cons (pe_op op_add (pe_op op_add (pe_op op_add (pe_op op_mul (pe_op op_mod (pe_callB call_abs (by rfl) T.z_abs (by decide +kernel) (pa_cons (pv 2) pa_nil)) pe_int) pe_int) (pe_op op_mul pe_int (pv 1))) (pe_op op_mul pe_int (pe_callTy call_int1 (by rfl) T.z_int (by decide +kernel) (pa_cons (pe_cmpR op_lt (pv 2) pe_int (nomark _)) pa_nil)))) pe_int) (pa_cons pe_int pa_nil))))))))), ?_⟩
    refine ⟨.int k, rfl, .ref a, rfl, a, ns.map V.int, rfl, .inl hS, k, _, rfl, rfl, _, rfl, ?_⟩
    rw [List.length_map]
    by_cases h1 : (k : Int) < (ns.length : Int)
    · rw [decide_eq_true h1]
      have hj : k < ns.length := by omega
      refine iteT ⟨.ref a, rfl, .int k, rfl, a, ns.map V.int, k, .int ns[k], rfl, rfl, hS, atI_nat (by rw [List.getElem?_map, List.getElem?_eq_getElem hj]; rfl), .inl ⟨_, rfl, ?_⟩⟩
      refine ⟨.int ns[k], rfl, _, rfl, 10, 16, rfl, rfl, cp16, _, _, rfl, rfl, 0, _, rfl, 10, 60, rfl, rfl, cp60, 10, 60, rfl, rfl, cp60, _, _, rfl, rfl, cw60, _, _, rfl, rfl, pos60, ?_⟩
      refine ⟨_, rfl, .int ns[k], rfl, _, rfl, _, _, rfl, rfl, pos_m, _, _, rfl, rfl, .inr ⟨by decide, by decide⟩, .int k, rfl, _, _, rfl, rfl, .inl ⟨by decide, by decide⟩, _, _, rfl, rfl, .int ns[k], rfl, _, _, rfl, rfl, .inr ⟨_, rfl, _, _, rfl, rfl, .inl ⟨by decide, by decide⟩, _, _, rfl, rfl, _, _, rfl, rfl, ?_⟩⟩
      exact ⟨sz3, fun p hp => q p _ _ _ hp⟩
    · rw [decide_eq_false h1]
      refine iteF ⟨.int k, rfl, _, _, rfl, rfl, .inl ⟨by decide, by decide⟩, _, _, rfl, rfl, ?_⟩
      refine ⟨_, rfl, _, rfl, 10, 16, rfl, rfl, cp16, _, _, rfl, rfl, 0, _, rfl, 10, 60, rfl, rfl, cp60, 10, 60, rfl, rfl, cp60, _, _, rfl, rfl, cw60, _, _, rfl, rfl, pos60, ?_⟩
      refine ⟨_, rfl, _, rfl, _, rfl, _, _, rfl, rfl, pos_m, _, _, rfl, rfl, .inr ⟨by decide, by decide⟩, .int k, rfl, _, _, rfl, rfl, .inl ⟨by decide, by decide⟩, _, _, rfl, rfl, _, rfl, _, _, rfl, rfl, .inr ⟨_, rfl, _, _, rfl, rfl, .inl ⟨by decide, by decide⟩, _, _, rfl, rfl, _, _, rfl, rfl, ?_⟩⟩
      exact ⟨sz3, fun p hp => q p _ _ _ hp⟩
def spRoll : Sp := fun vs H Q _ => ∃ (a : Addr) (x y z n : Int), vs = [.ref a, .int n] ∧ H a = some (dice x y z) ∧ 0 < n ∧ n.natAbs.log2 < 9000 ∧ ∀ r x' z', 0 ≤ r → r < n → Q (.int r) (upd H a (dice x' y z'))
theorem ok_law_roll (T : Facts K mg) : FnOk P w K mg base CX0 1 T.f_law_roll T.fd_law_roll ["_law_dice_here", "_law_total"] spRoll := by
  refine T.F_law_roll.ok sc_law_roll (fun vs H Q E h => ?_) (fun cdv A outer s H vs Q E hr h => ?_)
  · obtain ⟨a, x, y, z, n, rfl, _⟩ := h
    rfl
  · obtain ⟨a, x, y, z, n, rfl, hd, h0, h1, q⟩ := h
    have hS : SqL K H a [.int x, .int y, .int z] := SqL.of hd
    refine ⟨_, (PSs.nox (pss_cons (ps_if (pt_cmpR op_gt (pe_ix ix_list (pv 0) pe_int (fun _ _ => rfl)) pe_int (nomark _))
      (pss_cons (ps_set (i := 2) sc_law_roll.nd rfl (.inl rfl) (pe_op op_mod (pe_callTy call_int1 (by rfl) T.z_int (by decide +kernel) (pa_cons (pe_ix ix_list (pv 0) pe_int (fun _ _ => rfl)) pa_nil)) (pv 1)))
      (pss_cons (ps_asg (pe_op op_fdivW (pe_ix ix_list (pv 0) pe_int (fun _ _ => rfl)) (pv 1)) (pg_sub (pv 0) pe_int set_list))
      (pss_one (ps_ret (pv 2)))))
      pss_nil)
    (pss_cons (ps_asg (pe_op op_add (pe_ix ix_list (pv 0) pe_int (fun _ _ => rfl)) pe_int) (pg_sub (pv 0) pe_int set_list))
    (pss_cons (ps_set (i := 3) sc_law_roll.nd rfl (.inl rfl) (pe_op op_mod (pe_callTy call_int1 (by rfl) T.z_int (by decide +kernel) (pa_cons (pe_op op_add (pe_ix ix_list (pv 0) pe_int (fun _ _ => rfl)) (pe_op op_mul pe_int (pe_ix ix_list (pv 0) pe_int (fun _ _ => rfl)))) pa_nil)) pe_int))
    (pss_cons (ps_set (i := 4) sc_law_roll.nd rfl (.inl rfl) (pe_op op_add (pe_op op_mul (pe_op op_mod (pe_callTy call_int1 (by rfl) T.z_int (by decide +kernel) (pa_cons (pe_op op_add (pe_op op_mul (pv 3) (pv 3)) (pe_op op_mul pe_int (pe_ix ix_list (pv 0) pe_int (fun _ _ => rfl)))) pa_nil)) pe_int) pe_int) (pv 3)))
    (pss_one (ps_ret (pe_op op_mod (pe_callTy call_int1 (by rfl) T.z_int (by decide +kernel) (pa_cons (pe_op op_fdivW (pv 4) pe_int) pa_nil)) (pv 1))))))))), ?_⟩
    refine ⟨.ref a, rfl, a, _, 0, .int x, rfl, rfl, hS, atI_nat (j := 0) rfl, x, 0, rfl, rfl, decide (0 < x), rfl, ite2 (fun _ => ?_) (fun _ => ?_)⟩
    · refine ⟨.ref a, rfl, a, _, 0, .int x, rfl, rfl, hS, atI_nat (j := 0) rfl, .inl ⟨x, rfl, .int n, rfl, x, n, rfl, rfl, h0, ?_⟩⟩
      refine ⟨.ref a, rfl, a, _, 0, .int x, rfl, rfl, hS, atI_nat (j := 0) rfl, .int n, rfl, x, n, rfl, rfl, ⟨h0, h1⟩, ?_⟩
      refine ⟨.ref a, rfl, a, _, 0, 0, rfl, rfl, hd, rfl, ?_⟩
      exact ⟨_, rfl, q (x % n) (x / n) z (Int.emod_nonneg _ (by omega)) (Int.emod_lt_of_pos _ h0)⟩
    · refine ⟨.ref a, rfl, a, _, 2, .int z, rfl, rfl, hS, atI_nat (j := 2) rfl, z, 1, rfl, rfl, ?_⟩
      refine ⟨.ref a, rfl, a, _, 2, 2, rfl, rfl, hd, rfl, ?_⟩
      have hd' : (upd H a (dice x y (z + 1))) a = some (dice x y (z + 1)) := upd_same
      have hS' : SqL K (upd H a (dice x y (z + 1))) a [.int x, .int y, .int (z + 1)] := SqL.of hd'
      refine ⟨.ref a, rfl, a, _, 1, .int y, rfl, rfl, hS', atI_nat (j := 1) rfl, .ref a, rfl, a, _, 2, .int (z + 1), rfl, rfl, hS', atI_nat (j := 2) rfl, _, _, rfl, rfl, .inl ⟨by decide, by decide⟩, _, _, rfl, rfl, .inl ⟨_, rfl, _, _, rfl, rfl, (by decide : (0 : Int) < 2305843009213691579), ?_⟩⟩
      have b0 := Int.emod_nonneg (y + 92821991 * (z + 1)) (show (2305843009213691579 : Int) ≠ 0 by decide)
      have b1 := Int.emod_lt_of_pos (y + 92821991 * (z + 1)) (show (0 : Int) < 2305843009213691579 by decide)
      refine ⟨_, rfl, _, rfl, _, _, rfl, rfl, .inl ⟨Int.lt_of_lt_of_le (by decide) b0, Int.lt_trans b1 (by decide)⟩, .ref a, rfl, a, _, 2, .int (z + 1), rfl, rfl, hS', atI_nat (j := 2) rfl, _, _, rfl, rfl, .inl ⟨by decide, by decide⟩, _, _, rfl, rfl, .inl ⟨_, rfl, _, _, rfl, rfl, (by decide : (0 : Int) < 2305843009213692227), _, _, rfl, rfl, .inr ⟨by decide, by decide⟩, _, rfl, _, _, rfl, rfl, ?_⟩⟩
      refine ⟨_, rfl, _, _, rfl, rfl, ⟨by decide, by decide +kernel⟩, .inl ⟨_, rfl, .int n, rfl, _, _, rfl, rfl, h0, ?_⟩⟩
      exact q _ x (z + 1) (Int.emod_nonneg _ (by omega)) (Int.emod_lt_of_pos _ h0)
def spPick (K : PySem.W.Frag) : Sp := fun vs H Q _ => ∃ (a b : Addr) (x y z : Int) (xs : List V), vs = [.ref a, .ref b] ∧ H a = some (dice x y z) ∧ H b = some (.lst xs) ∧ a ≠ b ∧ 0 < xs.length ∧ xs.length < 1000 ∧
  ∀ (i : Nat) v x' z', xs[i]? = some v → Q v (upd H a (dice x' y z'))
theorem ok_law_pick (T : Facts K mg) : FnOk P w K mg base CX0 2 T.f_law_pick T.fd_law_pick ["_law_dice_here", "_law_items"] (spPick K) := by
  have G_law_roll : FnOk P w K mg base CX0 1 T.f_law_roll T.fd_law_roll ["_law_dice_here", "_law_total"] spRoll := ok_law_roll T
  refine T.F_law_pick.ok sc_law_pick (fun vs H Q E h => ?_) (fun cdv A outer s H vs Q E hr h => ?_)
  · obtain ⟨a, b, x, y, z, xs, rfl, _⟩ := h
    rfl
  · obtain ⟨a, b, x, y, z, xs, rfl, hd, hb, hab, l0, l1, q⟩ := h
    refine ⟨_, (PSs.nox (pss_one (ps_ret (pe_ix ix_list (pv 1) (pe_call G_law_roll hr (by rfl) T.g_law_roll T.F_law_roll.kp T.b_law_roll .nil pass0 (pa_cons (pv 0) (pa_cons (pe_callB call_len_seq (by rfl) T.z_len (by decide +kernel) (pa_cons (pv 1) pa_nil)) pa_nil))) (fun _ _ => rfl))))), ?_⟩
    refine ⟨.ref b, rfl, .ref a, rfl, .ref b, rfl, b, xs, rfl, .inl (SqL.of hb), ?_⟩
    refine ⟨a, x, y, z, _, rfl, hd, (by omega : (0 : Int) < (xs.length : Int)), Nat.lt_trans (PySem.Flt.log2_lt_of (k := 10) (by decide) (by show xs.length < 2 ^ 10; omega)) (by decide), fun r x' z' h1 h2 => ?_⟩
    obtain ⟨j, rfl⟩ := Int.eq_ofNat_of_zero_le h1
    have hj : j < xs.length := by omega
    exact ⟨b, xs, j, xs[j], rfl, rfl, SqL.of (by rw [upd_ne (Ne.symm hab)]; exact hb), atI_nat (List.getElem?_eq_getElem hj), q j _ x' z' (List.getElem?_eq_getElem hj)⟩
def spRoll2 : Sp := fun vs H Q _ => ∃ (a : Addr) (n : Int), vs = [.ref a, .int n] ∧ Dc H a ∧ 0 < n ∧ n.natAbs.log2 < 9000 ∧ ∀ (r : Nat) H', (r : Int) < n → Sx a H H' → Dc H' a → Q (.int r) H'
theorem roll2 : ∀ vs H Q E, spRoll2 vs H Q E → spRoll vs H Q E := fun vs H Q E h => by
  obtain ⟨a, n, rfl, ⟨x, y, z, e⟩, h0, h1, q⟩ := h
  refine ⟨a, x, y, z, n, rfl, e, h0, h1, fun r x' z' r0 r1 => ?_⟩
  obtain ⟨j, rfl⟩ := Int.eq_ofNat_of_zero_le r0
  exact q j _ r1 Sx.upd ⟨x', y, z', upd_same⟩
def spPick2 : Sp := fun vs H Q _ => ∃ (a b : Addr) (xs : List V), vs = [.ref a, .ref b] ∧ Dc H a ∧ H b = some (.lst xs) ∧ b ≠ a ∧ 0 < xs.length ∧ xs.length < 1000 ∧ ∀ v H', v ∈ xs → Sx a H H' → Dc H' a → Q v H'
theorem pick2 {K : PySem.W.Frag} : ∀ vs H Q E, spPick2 vs H Q E → spPick K vs H Q E := fun vs H Q E h => by
  obtain ⟨a, b, xs, rfl, ⟨x, y, z, e⟩, hb, ne, l0, l1, q⟩ := h
  exact ⟨a, b, x, y, z, xs, rfl, e, hb, Ne.symm ne, l0, l1, fun i v x' z' hv => q v _ (List.mem_of_getElem? hv) Sx.upd ⟨x', y, z', upd_same⟩⟩
def spNear : Sp := fun vs H Q _ => ∃ (a : Addr) (m : Int), vs = [.ref a, .int m] ∧ Dc H a ∧ 0 ≤ m ∧ m ≤ 10 ^ 15 ∧ ∀ r H', -m ≤ r → r ≤ m → Sx a H H' → Dc H' a → Q (.int r) H'
theorem ok_law_near (T : Facts K mg) : FnOk P w K mg base CX0 2 T.f_law_near T.fd_law_near ["_law_dice_here", "_law_most"] spNear := by
  have G_law_roll : FnOk P w K mg base CX0 1 T.f_law_roll T.fd_law_roll ["_law_dice_here", "_law_total"] spRoll2 := (ok_law_roll T).imp roll2
  refine T.F_law_near.ok sc_law_near (fun vs H Q E h => ?_) (fun cdv A outer s H vs Q E hr h => ?_)
  · obtain ⟨a, m, rfl, _⟩ := h
    rfl
  · obtain ⟨a, m, rfl, hd, h0, h1, q⟩ := h
    refine ⟨_, (PSs.nox (pss_one (ps_ret (pe_op op_sub (pe_call G_law_roll hr (by rfl) T.g_law_roll T.F_law_roll.kp T.b_law_roll .nil pass0 (pa_cons (pv 0) (pa_cons (pe_op op_add (pe_op op_mul pe_int (pv 1)) pe_int) pa_nil))) (pv 1))))), ?_⟩
    have e15 : (10 : Int) ^ 15 = 1000000000000000 := by decide
    rw [e15] at h1
    refine ⟨_, rfl, _, rfl, _, _, rfl, rfl, .inl ⟨by decide, by decide⟩, _, _, rfl, rfl, a, _, rfl, hd, (by show 0 < 2 * m + 1; omega), ?_, fun r H' hr s d => ⟨_, rfl, _, _, rfl, rfl, ?_⟩⟩
    · refine Nat.lt_trans (PySem.Flt.log2_lt_of (k := 60) (by decide) ?_) (by decide)
      show (2 * m + 1).natAbs < 2 ^ 60
      omega
    · have hr' : (r : Int) < 2 * m + 1 := hr
      exact q _ H' (by omega) (by omega) s d
/-! ### the law's own gcd -/
def spLGcd : Sp := fun vs H Q _ => ∃ t b : Int, vs = [.int t, .int b] ∧ Q (.int ((Nat.gcd t.natAbs b.natAbs : Nat) : Int)) H
def yOf : L2.St → Nat
  | [_, some (.int y)] => y.toNat
  | _ => 0
theorem abs_nat (i : Int) : (if i < 0 then -i else i) = (i.natAbs : Int) := by split <;> omega
theorem ok_law_gcd (T : Facts K mg) : FnOk P w K mg base CX0 1 T.f_law_gcd T.fd_law_gcd ["_law_one", "_law_other"] spLGcd := by
  refine T.F_law_gcd.ok sc_law_gcd (fun vs H Q E h => ?_) (fun cdv A outer s H vs Q E hr h => ?_)
  · obtain ⟨t, b, rfl, _⟩ := h
    rfl
  · obtain ⟨t, b, rfl, q⟩ := h
    refine ⟨_, (PSs.nox (pss_cons (ps_par (i := 0) (j := 1) (by rfl) sc_law_gcd.nd rfl rfl (by decide) rfl rfl (pa_cons (pe_callB call_abs (by rfl) T.z_abs (by decide +kernel) (pa_cons (pv 0) pa_nil)) (pa_cons (pe_callB call_abs (by rfl) T.z_abs (by decide +kernel) (pa_cons (pv 1) pa_nil)) pa_nil)) (by rfl))
    (pss_cons (ps_while PassesOwn.never (pt_cmpR op_gt (pv 1) pe_int (nomark _))
      (pss_one (ps_par (i := 0) (j := 1) (by rfl) sc_law_gcd.nd rfl rfl (by decide) rfl rfl (pa_cons (pv 1) (pa_cons (pe_op op_mod (pe_callTy call_int1 (by rfl) T.z_int (by decide +kernel) (pa_cons (pv 0) pa_nil)) (pv 1)) pa_nil)) (by rfl))))
    (pss_one (ps_ret (pv 0)))))), ?_⟩
    refine ⟨_, rfl, t, rfl, _, rfl, b, rfl, _, _, rfl, ?_⟩
    rw [abs_nat, abs_nat]
    refine while_by (fun σ H' => ∃ x y : Nat, σ = [some (.int x), some (.int y)] ∧ Nat.gcd x y = Nat.gcd t.natAbs b.natAbs ∧ H' = H) (fun σ _ => yOf σ) ⟨_, _, rfl, rfl, rfl⟩ (fun σ H' hP => ?_) (fun σ H' Q1 Q2 hQ h => ?_)
    · obtain ⟨x, y, rfl, hg, rfl⟩ := hP
      refine ⟨_, rfl, _, _, rfl, rfl, _, rfl, ?_⟩
      by_cases c : 0 < (y : Int)
      · rw [decide_eq_true c]
        refine iteT ⟨_, rfl, _, rfl, .inl ⟨_, rfl, _, rfl, _, _, rfl, rfl, c, _, _, rfl, ?_⟩⟩
        have e : (x : Int) % (y : Int) = ((x % y : Nat) : Int) := (Int.natCast_emod x y).symm
        refine ⟨⟨y, x % y, ?_, ?_, rfl⟩, ?_⟩
        · show [some (V.int y), some (V.int ((x : Int) % (y : Int)))] = _
          rw [e]
        · rw [← hg, Nat.gcd_comm x y, Nat.gcd_rec y x, Nat.gcd_comm]
        · show ((x : Int) % (y : Int)).toNat < (y : Int).toNat
          rw [e]
          have := Nat.mod_lt x (show y > 0 by omega)
          omega
      · rw [decide_eq_false c]
        have ey : y = 0 := by omega
        subst ey
        refine iteF ⟨_, rfl, ?_⟩
        rw [← hg, Nat.gcd_zero_right] at q
        exact q
    · obtain ⟨v, e, x1, x2, e1, e2, k, e3, h⟩ := h
      exact ⟨v, e, x1, x2, e1, e2, k, e3, hQ _ _ h⟩
def spRight : Sp := fun vs H Q _ => ∃ a : Addr, vs = [.ref a] ∧ Dc H a ∧ ∀ H', Sx a H H' → Dc H' a → Q (.bl true) H'
end
end K08

set_option Elab.async false
set_option linter.all false
set_option maxRecDepth 100000
set_option maxHeartbeats 4000000
namespace K08
open PySem PySem.Spec PyProof.Rows L2 StX RZ MyR SlX OwnR OwnF
theorem cont_snoc (x : Int) : ∀ l : List Int, cont (l ++ [x]) = Nat.gcd (cont l) x.natAbs
  | [] => by
    show Nat.gcd x.natAbs 0 = Nat.gcd 0 x.natAbs
    rw [Nat.gcd_zero_right, Nat.gcd_zero_left]
  | y :: ys => by
    show Nat.gcd y.natAbs (cont (ys ++ [x])) = Nat.gcd (Nat.gcd y.natAbs (cont ys)) x.natAbs
    rw [cont_snoc x ys, Nat.gcd_assoc]
theorem take_snoc {xs : List Int} {i : Nat} (h : i < xs.length) : xs.take (i + 1) = xs.take i ++ [co xs i] := by
  rw [List.take_add_one, List.getElem?_eq_getElem h, co_get h]
  rfl
theorem int_get {xs : List Int} {i : Nat} {x : V} (h : (xs.map V.int)[i]? = some x) : i < xs.length ∧ x = .int (co xs i) := by
  have hi : i < xs.length := by
    have := (List.getElem?_eq_some_iff.mp h).1
    rw [List.length_map] at this
    exact this
  rw [get_int hi] at h
  cases h
  exact ⟨hi, rfl⟩
theorem tab_snoc (n : Nat) (f : Nat → Int) : tab n f ++ [V.int (f n)] = tab (n + 1) f := by
  unfold tab
  rw [List.range_succ, List.map_append]
  rfl
theorem zs_tb {c : Int} {xs ys : List Int} (hl : xs.length = ys.length) : (tb xs.length fun k => co xs k + c * co ys k) = zs c xs ys := by
  refine co_inj (by rw [tb_len]; unfold zs; rw [List.length_zipWith, hl, Nat.min_self]) fun k => ?_
  rw [co_tb]
  unfold zs
  by_cases hk : k < xs.length
  · rw [if_pos hk, co_get (l := List.zipWith _ _ _) (by rw [List.length_zipWith]; omega), List.getElem_zipWith, co_get hk, co_get (by omega)]
  · rw [if_neg hk, co_far (by rw [List.length_zipWith]; omega)]
section
variable {P : Program} {w : World} {K : PySem.W.Frag} {mg : Str → Option Value} {base : Heap}
def spShared : Sp := fun vs H Q _ => ∃ (t : Addr) (ns : List Int), vs = [.ref t] ∧ H t = some (tp ns) ∧ Q (.int (cont ns : Nat)) H
theorem ok_law_shared (T : Facts K mg) : FnOk P w K mg base CX0 2 T.f_law_shared T.fd_law_shared ["_law_numbers"] spShared := by
  have G_law_gcd : FnOk P w K mg base CX0 1 T.f_law_gcd T.fd_law_gcd ["_law_one", "_law_other"] spLGcd := ok_law_gcd T
  refine T.F_law_shared.ok sc_law_shared (fun vs H Q E h => ?_) (fun cdv A outer s H vs Q E hr h => ?_)
  · obtain ⟨t, ns, rfl, _⟩ := h
    rfl
  · obtain ⟨t, ns, rfl, ht, q⟩ := h
    refine ⟨_, (PSs.nox (pss_cons (ps_set (i := 1) sc_law_shared.nd rfl (.inl rfl) pe_int)
    (pss_cons (ps_for PassesOwn.never (by rfl) (pi_tup (pv 0)) (pg_name (i := 2) sc_law_shared.nd rfl (.inl rfl))
      (pss_one (ps_set (i := 1) sc_law_shared.nd rfl (.inl rfl) (pe_call G_law_gcd hr (by rfl) T.g_law_gcd T.F_law_gcd.kp T.b_law_gcd .nil pass0 (pa_cons (pv 1) (pa_cons (pv 2) pa_nil))))))
    (pss_one (ps_ret (pv 1)))))), ?_⟩
    refine ⟨_, rfl, t, rfl, ⟨_, SqT.of ht⟩, for_tup (xs := ns.map V.int) (fun i σ H' => ∃ y, σ = [some (.ref t), some (.int ((cont (ns.take i) : Nat) : Int)), y] ∧ H' = H) ⟨none, rfl, rfl⟩ (fun i σ H' _ hP => by rw [hP.choose_spec.2]; exact SqT.of ht) (fun i x σ H' hx hP => ?_) (fun σ H' hP => ?_)⟩
    · obtain ⟨y, rfl, rfl⟩ := hP
      obtain ⟨hi, rfl⟩ := int_get hx
      refine ⟨_, rfl, _, rfl, _, _, rfl, some (.int (co ns i)), ?_, rfl⟩
      rw [take_snoc hi, cont_snoc]
      rfl
    · obtain ⟨y, rfl, rfl⟩ := hP
      rw [List.length_map, List.take_length]
      exact ⟨_, rfl, q⟩
def spPlus : Sp := fun vs H Q _ => ∃ (t u : Addr) (xs ys : List Int), vs = [.ref t, .ref u] ∧ H t = some (tp xs) ∧ H u = some (tp ys) ∧ xs.length = ys.length ∧ xs.length ≤ 100 ∧ ∀ p H', Same H H' → H p = none → H' p = some (tp (zs 1 xs ys)) → Q (.ref p) H'
theorem ok_law_plus (T : Facts K mg) : FnOk P w K mg base CX0 1 T.f_law_plus T.fd_law_plus ["_law_one", "_law_other"] spPlus := by
  refine T.F_law_plus.ok sc_law_plus (fun vs H Q E h => ?_) (fun cdv A outer s H vs Q E hr h => ?_)
  · obtain ⟨t, u, xs, ys, rfl, _⟩ := h
    rfl
  · obtain ⟨t, u, xs, ys, rfl, ht, hu, hl, hlt, q⟩ := h
    refine ⟨_, (PSs.nox (pss_one (ps_ret (pe_tupleOf (by rfl) T.z_tuple (pe_lc (own := [("_law_first", 2), ("_law_second", 3)]) (g := (gTup K 2 (gCons (gName 2) (gCons (gName 3) gNil)))) (tt := tYes) (by rfl) sc_law_plus.nd (pi_zipA (by rfl) T.z_zip (pa_cons (pv 0) (pa_cons (pv 1) pa_nil))) (blkOk_by (N := N_law_plus) (sc := defScope s_law_plus) (by decide +kernel)) (fun _ _ _ _ _ => (pg_tup (by rfl) (pgs_cons (pg_name (i := 2) sc_law_plus.nd rfl (.inl rfl)) (pgs_cons (pg_name (i := 3) sc_law_plus.nd rfl (.inl rfl)) pgs_nil)))) (fun _ _ _ _ _ => pts_nil) (fun _ _ _ _ _ => (pe_op op_add (pv 2) (pv 3)))))))), ?_⟩
    refine ⟨_, rfl, _, rfl, t, u, _, _, rfl, .inr ⟨SqT.of ht, SqT.of hu, fun D hD => ?_⟩⟩
    refine lc_zipT (xs := xs.map V.int) (ys := ys.map V.int) (by rw [List.length_map, List.length_map, hl]) (fun j H' => Same H H' ∧ H' D = some (.lst (tab j fun k => co xs k + 1 * co ys k))) ⟨same_upd0 hD, upd_same⟩ (fun j H' _ hP => ⟨SqT.of (hP.1 _ _ ht), SqT.of (hP.1 _ _ hu)⟩) (fun j x y A H' hx hy hP hA => ?_) (fun H' hP => ?_)
    · obtain ⟨sH, hD'⟩ := hP
      obtain ⟨hj, rfl⟩ := int_get hx
      obtain ⟨_, rfl⟩ := int_get hy
      have sA := same_upd0 (o := .tup [.int (co xs j), .int (co ys j)]) hA
      refine ⟨A, _, rfl, SqT.of upd_same, rfl, _, _, rfl, _, _, rfl, rfl, rfl, _, rfl, _, rfl, _, _, rfl, rfl, _, sA _ _ hD', ?_, fun b o e => ?_, ?_⟩
      · rw [tab_len]
        exact small1000 (by omega)
      · rw [upd_ne (ne_of_none e hD)]
        exact sA _ _ (sH _ _ e)
      · rw [upd_same, ← tab_snoc]
        show some (HO.lst (tab j _ ++ [V.int (co xs j + co ys j)])) = some (HO.lst (tab j _ ++ [V.int (co xs j + 1 * co ys j)]))
        rw [Int.one_mul]
    · obtain ⟨sH, hD'⟩ := hP
      rw [List.length_map] at hD'
      refine .inl ⟨D, _, rfl, SqL.of hD', fun p hp2 => ?_⟩
      refine q p _ (sH.trans (same_upd0 hp2)) (Same.free sH hp2) ?_
      rw [upd_same, tab_tb, zs_tb hl]
def spScaled : Sp := fun vs H Q _ => ∃ (t : Addr) (xs : List Int) (c : Int), vs = [.ref t, .int c] ∧ H t = some (tp xs) ∧ xs.length ≤ 100 ∧ (∀ x ∈ xs, sm x) ∧ sm c ∧ ∀ p H', Same H H' → H p = none → H' p = some (tp (xs.map fun x => c * x)) → Q (.ref p) H'
theorem ok_law_scaled (T : Facts K mg) : FnOk P w K mg base CX0 1 T.f_law_scaled T.fd_law_scaled ["_law_form_here", "_law_factor"] spScaled := by
  refine T.F_law_scaled.ok sc_law_scaled (fun vs H Q E h => ?_) (fun cdv A outer s H vs Q E hr h => ?_)
  · obtain ⟨t, xs, c, rfl, _⟩ := h
    rfl
  · obtain ⟨t, xs, c, rfl, ht, hl, hs, hc, q⟩ := h
    refine ⟨_, (PSs.nox (pss_one (ps_ret (pe_tupleOf (by rfl) T.z_tuple (pe_lc (own := [("_law_entry", 2)]) (g := (gName 2)) (tt := tYes) (by rfl) sc_law_scaled.nd (pi_tup (pv 0)) (blkOk_by (N := N_law_scaled) (sc := defScope s_law_scaled) (by decide +kernel)) (fun _ _ _ _ _ => (pg_name (i := 2) sc_law_scaled.nd rfl (.inl rfl))) (fun _ _ _ _ _ => pts_nil) (fun _ _ _ _ _ => (pe_op op_mulW (pv 1) (pv 2)))))))), ?_⟩
    refine ⟨_, rfl, t, rfl, ⟨_, SqT.of ht⟩, fun D hD => lc_tup (xs := xs.map V.int) (fun j H' => H' = upd H D (.lst (tab j fun k => c * co xs k))) rfl (fun j H' _ hP => ?_) (fun j x H' hx hP => ?_) (fun H' hP => ?_)⟩
    · rw [hP]
      exact SqT.of (same_upd0 hD _ _ ht)
    · subst hP
      obtain ⟨hj, rfl⟩ := int_get hx
      refine ⟨rfl, ⟨_, rfl, _, rfl, _, _, rfl, rfl, sm_mul hc (sm_co hs hj), _, upd_same, ?_, ?_⟩⟩
      · rw [tab_len]
        exact small1000 (by omega)
      · rw [upd_upd, ← tab_snoc]
    · subst hP
      rw [List.length_map, tab_tb, tb_map (fun x => c * x) xs]
      refine .inl ⟨D, _, rfl, SqL.of upd_same, fun p hp2 => ?_⟩
      exact q p _ ((same_upd0 hD).trans (same_upd0 hp2)) (Same.free (same_upd0 hD) hp2) upd_same
end
end K08

set_option Elab.async false
set_option linter.all false
set_option maxRecDepth 100000
set_option maxHeartbeats 4000000
namespace K08
open PySem PySem.Spec PyProof.Rows L2 StX RZ MyR SlX OwnR OwnF EnumT
section
variable {P : Program} {w : World} {K : PySem.W.Frag} {mg : Str → Option Value} {base : Heap}
def spProd : Sp := fun vs H Q _ => ∃ (a b : Addr) (xs ys : List Int), vs = [.ref a, .ref b] ∧ H a = some (tp xs) ∧ H b = some (tp ys) ∧ xs ≠ [] ∧ ys ≠ [] ∧ xs.length ≤ 100 ∧ ys.length ≤ 100 ∧ (∀ x ∈ xs, sm x) ∧ (∀ x ∈ ys, sm x) ∧ ∀ p H', Same H H' → H p = none → H' p = some (tp (ml xs ys)) → Q (.ref p) H'
theorem ok_law_product (T : Facts K mg) : FnOk P w K mg base CX0 1 T.f_law_product T.fd_law_product ["_law_one", "_law_other"] spProd := by
  refine T.F_law_product.ok sc_law_product (fun vs H Q E h => ?_) (fun cdv A outer s H vs Q E hr h => ?_)
  · obtain ⟨a, b, xs, ys, rfl, _⟩ := h
    rfl
  · obtain ⟨a, b, xs, ys, rfl, ha, hb, nx, ny, lx, ly, hx, hy, q⟩ := h
    have px : 0 < xs.length := List.length_pos_iff.mpr nx
    have py : 0 < ys.length := List.length_pos_iff.mpr ny
    refine ⟨_, (PSs.nox (pss_cons (ps_setLc (i := 2) (own := [("_law_place", 3)]) (g := (gName 3)) (tt := tYes) rfl sc_law_product.nd rfl rfl (sw_true rfl rfl rfl (by decide +kernel)) (pi_range1 (by rfl) T.z_range (pa_cons (pe_op op_sub (pe_op op_add (pe_callB call_len_seq (by rfl) T.z_len (by decide +kernel) (pa_cons (pv 0) pa_nil)) (pe_callB call_len_seq (by rfl) T.z_len (by decide +kernel) (pa_cons (pv 1) pa_nil))) pe_int) pa_nil)) (blkOk_by (N := N_law_product) (sc := defScope s_law_product) (by decide +kernel)) (fun _ _ _ _ _ => (pg_name (i := 3) sc_law_product.nd rfl (.inl rfl))) (fun _ _ _ _ _ => pts_nil) (fun _ _ _ _ _ => pe_int))
    (pss_cons (ps_for PassesOwn.never (by rfl) (pi_enumT (by rfl) T.z_enumerate (pa_cons (pv 0) pa_nil)) (pg_tup (by rfl) (pgs_cons (pg_name (i := 4) sc_law_product.nd rfl (.inl rfl)) (pgs_cons (pg_name (i := 5) sc_law_product.nd rfl (.inl rfl)) pgs_nil)))
      (pss_one (ps_for PassesOwn.never (by rfl) (pi_enumT (by rfl) T.z_enumerate (pa_cons (pv 1) pa_nil)) (pg_tup (by rfl) (pgs_cons (pg_name (i := 3) sc_law_product.nd rfl (.inl rfl)) (pgs_cons (pg_name (i := 6) sc_law_product.nd rfl (.inl rfl)) pgs_nil)))
        (pss_one (ps_asg (pe_op op_add (pe_ix ix_list (pv 2) (pe_op op_add (pv 4) (pv 3)) (fun _ _ => rfl)) (pe_op op_mulW (pv 5) (pv 6))) (pg_sub (pv 2) (pe_op op_add (pv 4) (pv 3)) set_list))))))
    (pss_one (ps_ret (pe_tupleOf (by rfl) T.z_tuple (pv 2))))))), ?_⟩
    refine ⟨_, rfl, a, _, rfl, .inr (SqT.of ha), _, rfl, b, _, rfl, .inr (SqT.of hb), ?_⟩
    rw [List.length_map, List.length_map]
    obtain ⟨N, hN⟩ : ∃ N, N = xs.length + ys.length - 1 := ⟨_, rfl⟩
    have eN : (((xs.length : Int) + (ys.length : Int) - 1)).toNat = N := by omega
    refine ⟨_, _, rfl, rfl, _, _, rfl, rfl, _, rfl, (by show -(2 ^ 62) ≤ (xs.length : Int) + (ys.length : Int) - 1; omega), (by show (xs.length : Int) + (ys.length : Int) - 1 < 2 ^ 62; omega), fun D hD => lc_range (n := _) (fun j H' => H' = upd H D (.lst (List.replicate j (V.int 0)))) rfl (fun j H' hj hP => ?_) (fun H' hP => ?_)⟩
    · subst hP
      have hj2 : j < N := by rw [← eN]; exact hj
      refine ⟨rfl, ⟨_, upd_same, ?_, ?_⟩⟩
      · rw [List.length_replicate]
        exact small1000 (by omega)
      · rw [upd_upd, List.replicate_succ']
    · subst hP
      show _
      rw [show List.replicate (((xs.length : Int) + (ys.length : Int) - 1)).toNat (V.int 0) = tab N (fun k => cv (xs.take 0) (co ys) k) by rw [eN, tab_rep]; rfl]
      have sD : ∀ o, Same H (upd H D o) := fun o => same_upd0 hD
      -- what stands in each turn: the list at D, and what stood before
      refine ⟨_, rfl, a, _, rfl, SqT.of (sD _ _ _ ha), for_enumT (xs := xs.map V.int) (fun i σ H' => ∃ y3 y4 y5 y6, σ = [some (.ref a), some (.ref b), some (.ref D), y3, y4, y5, y6] ∧ Same H H' ∧ H' D = some (.lst (tab N fun k => cv (xs.take i) (co ys) k))) ⟨none, none, none, none, rfl, sD _, upd_same⟩ (fun i σ H' hP => ?_) (fun i x B σ H' hxi hP hB => ?_) (fun σ H' hP => ?_)⟩
      · obtain ⟨y3, y4, y5, y6, _, sH, _⟩ := hP
        exact SqT.of (sH _ _ ha)
      · obtain ⟨y3, y4, y5, y6, rfl, sH, hL⟩ := hP
        obtain ⟨hi2, rfl⟩ := int_get hxi
        refine ⟨B, _, rfl, SqT.of upd_same, rfl, _, _, rfl, _, _, rfl, rfl, ?_⟩
        refine gen_upd H' B _ hB (fun H2 s2 _ => ?_)
        have sH2 := sH.trans s2
        have hL2 := s2 _ _ hL
        rw [tab_ext (g := J xs (co ys) i 0) fun k hk => J_0.symm] at hL2
        refine ⟨_, rfl, b, _, rfl, SqT.of (sH2 _ _ hb), for_enumT (xs := ys.map V.int) (fun j σ H3 => ∃ y3 y6, σ = [some (.ref a), some (.ref b), some (.ref D), y3, some (.int ((i : Nat) : Int)), some (.int (co xs i)), y6] ∧ Same H H3 ∧ H3 D = some (.lst (tab N (J xs (co ys) i j)))) ⟨y3, y6, rfl, sH2, hL2⟩ (fun j σ H3 hP => ?_) (fun j y B2 σ H3 hyj hP hB2 => ?_) (fun σ H3 hP => ?_)⟩
        · obtain ⟨y3, y6, _, sH3, _⟩ := hP
          exact SqT.of (sH3 _ _ hb)
        · obtain ⟨y3, y6, rfl, sH3, hL3⟩ := hP
          obtain ⟨hj2, rfl⟩ := int_get hyj
          refine ⟨B2, _, rfl, SqT.of upd_same, rfl, _, _, rfl, _, _, rfl, rfl, ?_⟩
          refine gen_upd H3 B2 _ hB2 (fun H4 s4 _ => ?_)
          have sH4 := sH3.trans s4
          have hL4 := s4 _ _ hL3
          have e1 : ((i : Nat) : Int) + ((j : Nat) : Int) = ((i + j : Nat) : Int) := by omega
          refine ⟨_, rfl, _, rfl, _, rfl, _, _, rfl, rfl, D, _, _, _, rfl, rfl, SqL.of hL4, at_of e1 (tab_get (by omega)), _, rfl, _, rfl, _, _, rfl, rfl, sm_mul (sm_co hx hi2) (sm_co hy hj2), _, _, rfl, rfl, ?_⟩
          refine ⟨_, rfl, _, rfl, _, rfl, _, _, rfl, rfl, D, _, _, (i + j), rfl, rfl, hL4, ?_, ?_⟩
          · rw [tab_len]
            exact ix_at e1 (by omega)
          · refine ⟨_, _, rfl, fun c o e => ?_, ?_⟩
            · rw [upd_ne (ne_of_none e hD)]
              exact sH4 _ _ e
            · rw [upd_same]
              show some (HO.lst ((tab N (J xs (co ys) i j)).set (i + j) (.int (J xs (co ys) i j (i + j) + co xs i * co ys j)))) = _
              rw [tab_set, tab_ext fun k hk => J_step]
        · obtain ⟨y3, y6, rfl, sH3, hL3⟩ := hP
          rw [List.length_map, tab_ext fun k hk => J_end hi2] at hL3
          exact ⟨_, _, _, _, rfl, sH3, hL3⟩
      · obtain ⟨y3, y4, y5, y6, rfl, sH, hL⟩ := hP
        rw [List.length_map, List.take_length, tab_tb] at hL
        refine ⟨_, rfl, .inl ⟨D, _, rfl, SqL.of hL, fun p hp => ?_⟩⟩
        refine q p _ (sH.trans (same_upd0 hp)) (Same.free sH hp) ?_
        rw [upd_same, hN]
        rfl
/-- the product of the first n -/
def pow (l : List Int) : Nat → List Int
  | 0 => [1]
  | n + 1 => ml (pow l n) l
def spPow : Sp := fun vs H Q _ => ∃ (a : Addr) (xs : List Int) (n : Nat), vs = [.ref a, .int n] ∧ H a = some (tp xs) ∧ xs ≠ [] ∧ xs.length ≤ 100 ∧ (∀ x ∈ xs, sm x) ∧ (∀ i, i < n → pow xs i ≠ [] ∧ (pow xs i).length ≤ 100 ∧ ∀ x ∈ pow xs i, sm x) ∧ n ≤ 100 ∧ ∀ p H', Same H H' → H' p = some (tp (pow xs n)) → Q (.ref p) H'
theorem ok_law_power (T : Facts K mg) : FnOk P w K mg base CX0 2 T.f_law_power T.fd_law_power ["_law_pair", "_law_times"] spPow := by
  have G_law_product : FnOk P w K mg base CX0 1 T.f_law_product T.fd_law_product ["_law_one", "_law_other"] spProd := ok_law_product T
  refine T.F_law_power.ok sc_law_power (fun vs H Q E h => ?_) (fun cdv A outer s H vs Q E hr h => ?_)
  · obtain ⟨a, xs, n, rfl, _⟩ := h
    rfl
  · obtain ⟨a, xs, n, rfl, ha, nx, lx, hx, hp, hn, q⟩ := h
    refine ⟨_, (PSs.nox (pss_cons (ps_set (i := 2) sc_law_power.nd rfl (.inl rfl) (pe_tup (pa_cons pe_int pa_nil)))
    (pss_cons (ps_for PassesOwn.never (by rfl) (pi_range1 (by rfl) T.z_range (pa_cons (pv 1) pa_nil)) (pg_name (i := 3) sc_law_power.nd rfl (.inl rfl))
      (pss_one (ps_set (i := 2) sc_law_power.nd rfl (.inl rfl) (pe_call G_law_product hr (by rfl) T.g_law_product T.F_law_product.kp T.b_law_product .nil pass0 (pa_cons (pv 2) (pa_cons (pv 0) pa_nil))))))
    (pss_one (ps_ret (pv 2)))))), ?_⟩
    refine ⟨(by show 1 ≤ sizeLine; decide), fun p0 n0 => ⟨_, rfl, n, rfl, by omega, by omega, for_range (n := (n : Int).toNat) (fun i σ H' => ∃ r y3, σ = [some (.ref a), some (.int n), some (.ref r), y3] ∧ Same H H' ∧ H' r = some (tp (pow xs i))) ⟨p0, none, rfl, same_upd0 n0, upd_same⟩ (fun i σ H' hi hP => ?_) (fun σ H' hP => ?_)⟩⟩
    · obtain ⟨r, y3, rfl, sH, hr2⟩ := hP
      obtain ⟨h1, h2, h3⟩ := hp i (by omega)
      exact ⟨_, rfl, _, rfl, r, a, _, xs, rfl, hr2, sH _ _ ha, h1, nx, h2, lx, h3, hx, fun p H2 s2 _ hp2 => ⟨p, _, rfl, sH.trans s2, hp2⟩⟩
    · obtain ⟨r, y3, rfl, sH, hr2⟩ := hP
      rw [Int.toNat_natCast] at hr2
      exact ⟨_, rfl, q r H' sH hr2⟩
end
end K08

set_option Elab.async false
set_option linter.all false
set_option maxRecDepth 100000
set_option maxHeartbeats 4000000
namespace K08
open PySem PySem.Spec PyProof.Rows L2 StX RZ MyR SlX OwnR OwnF EnumT
theorem first_of : ∀ ns : List Int, cont ns ≠ 0 → ∃ x r, ns.filter (fun x => x != 0) = x :: r ∧ sg ns = (if 0 < x then 1 else -1)
  | [], h => absurd rfl h
  | y :: ys, h => by
    by_cases c : y = 0
    · have hc : cont ys ≠ 0 := fun e => h (by
        show Nat.gcd y.natAbs (cont ys) = 0
        rw [c, e]
        rfl)
      obtain ⟨x, r, e1, e2⟩ := first_of ys hc
      refine ⟨x, r, ?_, ?_⟩
      · rw [List.filter_cons_of_neg (by rw [c]; decide)]
        exact e1
      · show (if y = 0 then sg ys else _) = _
        rw [if_pos c]
        exact e2
    · refine ⟨y, ys.filter (fun x => x != 0), ?_, ?_⟩
      · rw [List.filter_cons_of_pos (by simpa using c)]
      · show (if y = 0 then sg ys else if 0 < y then 1 else -1) = _
        rw [if_neg c]
section
variable {P : Program} {w : World} {K : PySem.W.Frag} {mg : Str → Option Value} {base : Heap}
theorem ok_law_plain (T : Facts K mg) : FnOk P w K mg base CX0 3 T.f_law_plain T.fd_law_plain ["_law_form_here"] spPrim := by
  have G_law_shared : FnOk P w K mg base CX0 2 T.f_law_shared T.fd_law_shared ["_law_numbers"] spShared := ok_law_shared T
  refine T.F_law_plain.ok sc_law_plain (fun vs H Q E h => ?_) (fun cdv A outer s H vs Q E hr h => ?_)
  · obtain ⟨t, ns, rfl, _⟩ := h
    rfl
  · obtain ⟨t, ns, rfl, ht, hl, hs, q⟩ := h
    refine ⟨_, (PSs.nox (pss_cons (ps_set (i := 1) sc_law_plain.nd rfl (.inr rfl) (pe_call G_law_shared hr (by rfl) T.g_law_shared T.F_law_shared.kp T.b_law_shared .nil pass0 (pa_cons (pv 0) pa_nil)))
    (pss_cons (ps_if (pt_cmpR op_eq (pv 1) pe_int (nomark _))
      (pss_one (ps_ret (pv 0)))
      pss_nil)
    (pss_cons (ps_set (i := 2) sc_law_plain.nd rfl (.inr rfl) (pe_ix ix_list (pe_lc (own := [("_law_entry", 3)]) (g := (gName 3)) (by rfl) sc_law_plain.nd (pi_tup (pv 0)) (blkOk_by (N := N_law_plain) (sc := defScope s_law_plain) (by decide +kernel)) (fun _ _ _ _ _ => (pg_name (i := 3) sc_law_plain.nd rfl (.inl rfl))) (fun _ _ _ _ _ => (pts_one (pt_cmpR op_ne (pv 3) pe_int (nomark _)))) (fun _ _ _ _ _ => (pv 3))) pe_int (fun _ _ => rfl)))
    (pss_one (ps_ret (pe_tupleOf (by rfl) T.z_tuple (pe_lc (own := [("_law_entry", 3)]) (g := (gName 3)) (tt := tYes) (by rfl) sc_law_plain.nd (pi_tup (pv 0)) (blkOk_by (N := N_law_plain) (sc := defScope s_law_plain) (by decide +kernel)) (fun _ _ _ _ _ => (pg_name (i := 3) sc_law_plain.nd rfl (.inl rfl))) (fun _ _ _ _ _ => pts_nil) (fun _ _ _ _ _ => (pe_op op_fdivZ (pv 3) (pe_ifExp (pt_cmpR op_gt (pv 2) pe_int (nomark _)) (pv 1) (pe_op op_sub pe_int (pv 1))))))))))))), ?_⟩
    refine ⟨_, rfl, t, ns, rfl, ht, _, rfl, rfl, _, rfl, ?_⟩
    by_cases c : cont ns = 0
    · rw [decide_eq_true (show V.int ((cont ns : Nat) : Int) = V.int 0 by rw [c]; rfl)]
      refine iteT ⟨_, rfl, q t H (Same.rf H) ?_⟩
      unfold prim
      rw [if_pos (by unfold part; rw [c]; exact Int.zero_mul _)]
      exact ht
    · rw [decide_eq_false fun z => c (Int.natCast_eq_zero.mp (V.int.inj z))]
      obtain ⟨x0, r0, e1, e2⟩ := first_of ns c
      have hpart : part ns = if 0 < x0 then ((cont ns : Nat) : Int) else 0 - ((cont ns : Nat) : Int) := by
        unfold part
        rw [e2]
        split
        · exact Int.mul_one _
        · rw [Int.mul_neg, Int.mul_one, Int.zero_sub]
      have hp0 : part ns ≠ 0 := fun e => c (by rw [← part_abs, e]; rfl)
      have hcd : CDivZ 0 (part ns) := ⟨hp0, Nat.lt_trans (PySem.Flt.log2_lt_of (k := 400) (by decide) (sm_part hs)) (by decide)⟩
      refine iteF ⟨_, rfl, t, rfl, ⟨_, SqT.of ht⟩, fun D hD => lc_tup (xs := ns.map V.int) (fun j H' => Same H H' ∧ H' D = some (.lst (((ns.take j).filter (fun x => x != 0)).map V.int))) ⟨same_upd0 hD, upd_same⟩ (fun j H' _ hP => SqT.of (hP.1 _ _ ht)) (fun j x H' hx hP => ?_) (fun H1 hP => ?_)⟩
      · obtain ⟨sH, hL⟩ := hP
        obtain ⟨hj, rfl⟩ := int_get hx
        refine ⟨rfl, _, rfl, rfl, _, rfl, ?_⟩
        rw [take_snoc hj, List.filter_append]
        by_cases d : co ns j = 0
        · rw [decide_eq_true (show V.int (co ns j) = V.int 0 by rw [d])]
          refine iteF ⟨sH, ?_⟩
          rw [hL, List.filter_cons_of_neg (by rw [d]; decide), List.filter_nil, List.append_nil]
        · rw [decide_eq_false fun z => d (V.int.inj z)]
          refine iteT ⟨_, rfl, _, hL, ?_, fun b o e => ?_, ?_⟩
          · have h1 := List.length_filter_le (fun x => x != 0) (ns.take j)
            rw [List.length_take] at h1
            rw [List.length_map]
            exact small1000 (by omega)
          · rw [upd_ne (ne_of_none e hD)]
            exact sH _ _ e
          · rw [upd_same, List.filter_cons_of_pos (by simpa using d), List.filter_nil, List.map_append]
            rfl
      · obtain ⟨s1, hL⟩ := hP
        rw [List.length_map, List.take_length, e1] at hL
        refine ⟨D, _, _, .int x0, rfl, rfl, SqL.of hL, atI_nat (j := 0) rfl, ?_⟩
        have ht1 := s1 _ _ ht
        refine ⟨_, rfl, t, rfl, ⟨_, SqT.of ht1⟩, fun D2 hD2 => lc_tup (xs := ns.map V.int) (fun j H' => H' = upd H1 D2 (.lst (tab j fun k => (co ns k).fdiv (part ns)))) rfl (fun j H' _ hP => ?_) (fun j x H' hx hP => ?_) (fun H' hP => ?_)⟩
        · rw [hP]
          exact SqT.of (same_upd0 hD2 _ _ ht1)
        · subst hP
          obtain ⟨hj, rfl⟩ := int_get hx
          refine ⟨rfl, _, rfl, _, rfl, x0, 0, rfl, rfl, _, rfl, ?_⟩
          have fin : ∀ v : Int, v = part ns → True := fun _ _ => True.intro
          by_cases d : 0 < x0
          · rw [decide_eq_true d]
            rw [if_pos d] at hpart
            rw [hpart] at hcd
            refine iteT ⟨_, rfl, _, _, rfl, rfl, hcd, _, upd_same, ?_, ?_⟩
            · rw [tab_len]
              exact small1000 (by omega)
            · rw [upd_upd, ← tab_snoc, hpart]
          · rw [decide_eq_false d]
            rw [if_neg d] at hpart
            rw [hpart] at hcd
            refine iteF ⟨_, rfl, _, _, rfl, rfl, _, _, rfl, rfl, hcd, _, upd_same, ?_, ?_⟩
            · rw [tab_len]
              exact small1000 (by omega)
            · rw [upd_upd, ← tab_snoc, hpart]
        · subst hP
          rw [List.length_map, tab_tb, tb_map (fun x => x.fdiv (part ns)) ns]
          refine .inl ⟨D2, _, rfl, SqL.of upd_same, fun p hp2 => ?_⟩
          refine q p _ (s1.trans ((same_upd0 hD2).trans (same_upd0 hp2))) ?_
          rw [upd_same]
          unfold prim
          rw [if_neg hp0]
end
end K08

set_option Elab.async false
set_option linter.all false
set_option maxRecDepth 100000
set_option maxHeartbeats 4000000
namespace K08
open PySem PySem.Spec PyProof.Rows L2 StX RZ MyR SlX OwnR OwnF EnumT
theorem prim_len (l : List Int) : (prim l).length = l.length := by
  unfold prim
  split
  · rfl
  · rw [List.length_map]
theorem prim_mem {l : List Int} {b : Nat} (h : ∀ x ∈ l, x.natAbs ≤ b) : ∀ x ∈ prim l, x.natAbs ≤ b := by
  intro x hx
  unfold prim at hx
  by_cases c : part l = 0
  · rw [if_pos c] at hx
    exact h x hx
  · rw [if_neg c] at hx
    obtain ⟨y, hy, rfl⟩ := List.mem_map.mp hx
    have hd : part l ∣ y := Int.natAbs_dvd_natAbs.mp (by rw [part_abs]; exact Int.natAbs_dvd_natAbs.mpr (cont_dvd l y hy))
    obtain ⟨k, rfl⟩ := hd
    show ((part l * k).fdiv (part l)).natAbs ≤ b
    rw [Int.mul_fdiv_cancel_left _ c]
    refine Nat.le_trans ?_ (h _ hy)
    rw [Int.natAbs_mul]
    exact Nat.le_mul_of_pos_left _ (Int.natAbs_pos.mpr c)
section
variable {P : Program} {w : World} {K : PySem.W.Frag} {mg : Str → Option Value} {base : Heap}
theorem dc_ne {H : Hp} {d p : Addr} {xs : List V} (hd : Dc H d) (hp : H p = some (.tup xs)) : p ≠ d := fun e => by
  obtain ⟨x, y, z, h⟩ := hd
  rw [e, h] at hp
  cases hp
def spLine : Sp := fun vs H Q _ => ∃ (t : Addr) (u v : Int), vs = [.ref t] ∧ H t = some (tp [u, v]) ∧ ∀ p, H p = none → Q (.ref p) (upd H p (tp [v, 0 - u]))
theorem ok_law_line (T : Facts K mg) : FnOk P w K mg base CX0 1 T.f_law_line T.fd_law_line ["_law_point_here"] spLine := by
  refine T.F_law_line.ok sc_law_line (fun vs H Q E h => ?_) (fun cdv A outer s H vs Q E hr h => ?_)
  · obtain ⟨t, u, v, rfl, _⟩ := h
    rfl
  · obtain ⟨t, u, v, rfl, ht, q⟩ := h
    refine ⟨_, (PSs.nox (pss_one (ps_ret (pe_tup (pa_cons (pe_ix ix_tup (pv 0) pe_int (fun _ _ => rfl)) (pa_cons (pe_op op_sub pe_int (pe_ix ix_tup (pv 0) pe_int (fun _ _ => rfl))) pa_nil)))))), ?_⟩
    exact ⟨_, rfl, t, _, 1, _, rfl, rfl, SqT.of ht, atI_nat (j := 1) rfl, _, rfl, t, _, 0, _, rfl, rfl, SqT.of ht, atI_nat (j := 0) rfl, _, _, rfl, rfl, (by show 2 ≤ sizeLine; decide), fun p hp => q p hp⟩
/-- a drawn point -/
def spPoint : Sp := fun vs H Q _ => ∃ (d : Addr) (m : Nat), vs = [.ref d, .int m] ∧ Dc H d ∧ 1 ≤ m ∧ m ≤ 1000 ∧ ∀ p H' u v, Sx d H H' → Dc H' d → H' p = some (tp [u, v]) → u.natAbs ≤ m → v.natAbs ≤ m → Q (.ref p) H'
theorem ok_law_point (T : Facts K mg) : FnOk P w K mg base CX0 4 T.f_law_point T.fd_law_point ["_law_dice_here", "_law_most"] spPoint := by
  have G_law_near : FnOk P w K mg base CX0 2 T.f_law_near T.fd_law_near ["_law_dice_here", "_law_most"] spNear := ok_law_near T
  have G_law_plain : FnOk P w K mg base CX0 3 T.f_law_plain T.fd_law_plain ["_law_form_here"] spPrim := ok_law_plain T
  refine T.F_law_point.ok sc_law_point (fun vs H Q E h => ?_) (fun cdv A outer s H vs Q E hr h => ?_)
  · obtain ⟨d, m, rfl, _⟩ := h
    rfl
  · obtain ⟨d, m, rfl, hd, h1, h2, q⟩ := h
    refine ⟨_, (PSs.nox (pss_cons (ps_par (i := 2) (j := 3) (by rfl) sc_law_point.nd rfl rfl (by decide) rfl rfl (pa_cons (pe_call G_law_near (hr.mono (by decide)) (by rfl) T.g_law_near T.F_law_near.kp T.b_law_near .nil pass0 (pa_cons (pv 0) (pa_cons (pv 1) pa_nil))) (pa_cons (pe_call G_law_near (hr.mono (by decide)) (by rfl) T.g_law_near T.F_law_near.kp T.b_law_near .nil pass0 (pa_cons (pv 0) (pa_cons (pv 1) pa_nil))) pa_nil)) (by rfl))
    (pss_one (ps_ret (pe_ifExp (pt_cmpR (op_neD (hu64 hr)) (pe_tup (pa_cons (pv 2) (pa_cons (pv 3) pa_nil))) (pe_tup (pa_cons pe_int (pa_cons pe_int pa_nil))) (nomark _)) (pe_call G_law_plain hr (by rfl) T.g_law_plain T.F_law_plain.kp T.b_law_plain .nil pass0 (pa_cons (pe_tup (pa_cons (pv 2) (pa_cons (pv 3) pa_nil))) pa_nil)) (pe_tup (pa_cons pe_int (pa_cons pe_int pa_nil)))))))), ?_⟩
    have e15 : (10 : Int) ^ 15 = 1000000000000000 := by decide
    have z2 : 2 ≤ sizeLine := by decide
    refine ⟨_, rfl, _, rfl, d, m, rfl, hd, by omega, by rw [e15]; omega, fun u H1 u1 u2 s1 d1 => ⟨_, rfl, _, rfl, d, m, rfl, d1, by omega, by rw [e15]; omega, fun v H2 v1 v2 s2 d2 => ⟨_, _, rfl, ?_⟩⟩⟩
    have s12 := s1.trans s2
    refine ⟨_, rfl, _, rfl, z2, fun p1 n1 => gen_upd H2 p1 (tp [u, v]) n1 fun H3 s3 f3 => ⟨z2, fun p2 n2 => gen_upd H3 p2 (tp [0, 0]) n2 fun H4 s4 f4 => ?_⟩⟩
    refine ne_ints (xs := [u, v]) (ys := [0, 0]) (SqT.of (s4 _ _ f3)) (SqT.of f4) ?_
    have d4 := d2.same (s3.trans s4)
    have s14 : Sx d H H4 := s12.trans (Sx.of (s3.trans s4))
    by_cases c : [u, v] = [0, 0]
    · rw [decide_eq_true c]
      refine ⟨_, rfl, iteF ⟨z2, fun p3 n3 => gen_upd H4 p3 (tp [1, 0]) n3 fun H5 s5 f5 => ?_⟩⟩
      exact q p3 H5 1 0 (s14.trans (Sx.of s5)) (d4.same s5) f5 (by show 1 ≤ m; omega) (by show 0 ≤ m; omega)
    · rw [decide_eq_false c]
      refine ⟨_, rfl, iteT ⟨_, rfl, _, rfl, z2, fun p3 n3 => gen_upd H4 p3 (tp [u, v]) n3 fun H5 s5 f5 => ?_⟩⟩
      have hb : ∀ x ∈ [u, v], x.natAbs ≤ m := fun x hx => by
        simp only [List.mem_cons, List.not_mem_nil, or_false] at hx
        rcases hx with e | e <;> rw [e] <;> omega
      refine ⟨p3, [u, v], rfl, f5, by show 2 ≤ 1000; omega, fun x hx => Nat.lt_of_le_of_lt (hb x hx) (Nat.lt_of_le_of_lt h2 (by decide)), fun p H6 s6 hp => ?_⟩
      have hl := prim_len [u, v]
      have hm := prim_mem hb
      generalize prim [u, v] = r at hp hl hm
      match r, hl with
      | [x, y], _ => exact q p H6 x y (s14.trans (Sx.of (s5.trans s6))) (d4.same (s5.trans s6)) hp (hm x (by simp)) (hm y (by simp))
/-- a drawn form -/
def spSmall : Sp := fun vs H Q _ => ∃ (d : Addr) (n m : Nat), vs = [.ref d, .int n, .int m] ∧ Dc H d ∧ n ≤ 40 ∧ m ≤ 1000000000000 ∧ ∀ p H' l, Sx d H H' → Dc H' d → H' p = some (tp l) → l.length = n + 1 → (∀ x ∈ l, x.natAbs ≤ m) → Q (.ref p) H'
theorem ok_law_small_form (T : Facts K mg) : FnOk P w K mg base CX0 3 T.f_law_small_form T.fd_law_small_form ["_law_dice_here", "_law_degree", "_law_most"] spSmall := by
  have G_law_near : FnOk P w K mg base CX0 2 T.f_law_near T.fd_law_near ["_law_dice_here", "_law_most"] spNear := ok_law_near T
  refine T.F_law_small_form.ok sc_law_small_form (fun vs H Q E h => ?_) (fun cdv A outer s H vs Q E hr h => ?_)
  · obtain ⟨d, n, m, rfl, _⟩ := h
    rfl
  · obtain ⟨d, n, m, rfl, hd, hn, hm, q⟩ := h
    refine ⟨_, (PSs.nox (pss_one (ps_ret (pe_tupleOf (by rfl) T.z_tuple (pe_lc (own := [("_law_place", 3)]) (g := (gName 3)) (tt := tYes) (by rfl) sc_law_small_form.nd (pi_range1 (by rfl) T.z_range (pa_cons (pe_op op_add (pv 1) pe_int) pa_nil)) (blkOk_by (N := N_law_small_form) (sc := defScope s_law_small_form) (by decide +kernel)) (fun _ _ _ _ _ => (pg_name (i := 3) sc_law_small_form.nd rfl (.inl rfl))) (fun _ _ _ _ _ => pts_nil) (fun _ _ _ _ _ => (pe_call G_law_near hr (by rfl) T.g_law_near T.F_law_near.kp T.b_law_near .nil pass0 (pa_cons (pv 0) (pa_cons (pv 2) pa_nil))))))))), ?_⟩
    have e15 : (10 : Int) ^ 15 = 1000000000000000 := by decide
    refine ⟨_, rfl, _, _, rfl, rfl, _, rfl, (by show -(2 ^ 62) ≤ (n : Int) + 1; omega), (by show (n : Int) + 1 < 2 ^ 62; omega), fun D hD => lc_range (n := ((n : Int) + 1).toNat) (fun j H' => Sx d H H' ∧ Dc H' d ∧ ∃ l : List Int, H' D = some (.lst (l.map V.int)) ∧ l.length = j ∧ ∀ x ∈ l, x.natAbs ≤ m) ⟨Sx.of (same_upd0 hD), hd.same (same_upd0 hD), [], upd_same, rfl, fun x hx => by cases hx⟩ (fun j H' hj hP => ?_) (fun H' hP => ?_)⟩
    · obtain ⟨sH, dH, l, hL, hl, hb⟩ := hP
      have nD : D ≠ d := hd.ne hD
      refine ⟨rfl, _, rfl, _, rfl, d, m, rfl, dH, by omega, by rw [e15]; omega, fun r H2 r1 r2 s2 d2 => ⟨_, s2 D _ nD hL, ?_, fun b o hb2 e => ?_, ?_, l ++ [r], ?_, ?_, fun x hx => ?_⟩⟩
      · rw [List.length_map]
        exact small1000 (by omega)
      · rw [upd_ne (ne_of_none e hD)]
        exact (sH.trans s2) b o hb2 e
      · obtain ⟨x, y, z, e⟩ := d2
        exact ⟨x, y, z, by rw [upd_ne (Ne.symm nD)]; exact e⟩
      · rw [upd_same, List.map_append]
        rfl
      · rw [List.length_append, hl]
        rfl
      · rcases List.mem_append.mp hx with e | e
        · exact hb x e
        · rw [List.mem_singleton.mp e]
          omega
    · obtain ⟨sH, dH, l, hL, hl, hb⟩ := hP
      refine .inl ⟨D, _, rfl, SqL.of hL, fun p hp2 => ?_⟩
      exact q p _ l (sH.trans (Sx.of (same_upd0 hp2))) (dH.same (same_upd0 hp2)) upd_same (by omega) hb
end
end K08

set_option Elab.async false
set_option linter.all false
set_option maxRecDepth 100000
/-! how large the entries of products are -/
namespace K08
/-- the sum of the first n absolute values -/
def sN : Nat → (Nat → Int) → Nat
  | 0, _ => 0
  | n + 1, f => sN n f + (f n).natAbs
/-- the sum of the absolute values of the entries -/
def nm (l : List Int) : Nat := (l.map Int.natAbs).sum
theorem sN_add (f g : Nat → Int) : ∀ n, sN n (fun k => f k + g k) ≤ sN n f + sN n g
  | 0 => Nat.le_refl _
  | n + 1 => by
    have h1 := sN_add f g n
    have h2 := Int.natAbs_add_le (f n) (g n)
    show sN n (fun k => f k + g k) + (f n + g n).natAbs ≤ sN n f + (f n).natAbs + (sN n g + (g n).natAbs)
    omega
theorem sN_mul (c : Int) (f : Nat → Int) : ∀ n, sN n (fun k => c * f k) = c.natAbs * sN n f
  | 0 => rfl
  | n + 1 => by
    show sN n (fun k => c * f k) + (c * f n).natAbs = c.natAbs * (sN n f + (f n).natAbs)
    rw [sN_mul c f n, Int.natAbs_mul, Nat.mul_add]
theorem sN_sh (f : Nat → Int) : ∀ n, sN n (sh f) ≤ sN n f
  | 0 => Nat.le_refl _
  | 1 => Nat.zero_le _
  | n + 2 => by
    have key : ∀ n, sN (n + 1) (sh f) = sN n f := by
      intro n
      induction n with
      | zero => rfl
      | succ n ih =>
        show sN (n + 1) (sh f) + (f n).natAbs = sN n f + (f n).natAbs
        rw [ih]
    rw [key]
    exact Nat.le_add_right _ _
theorem sN_cv (g : Nat → Int) (n : Nat) : ∀ l : List Int, sN n (cv l g) ≤ nm l * sN n g
  | [] => by
    have : sN n (cv [] g) = 0 := by
      induction n with
      | zero => rfl
      | succ n ih => show sN n (cv [] g) + (0 : Int).natAbs = 0; rw [ih]; rfl
    omega
  | x :: xs => by
    have h1 := sN_cv g n xs
    have e : sN n (cv (x :: xs) g) = sN n (fun k => x * g k + sh (cv xs g) k) := by
      rw [show cv (x :: xs) g = fun k => x * g k + sh (cv xs g) k from funext (cv_cons x xs g)]
    have h2 := sN_add (fun k => x * g k) (sh (cv xs g)) n
    have h3 := sN_sh (cv xs g) n
    rw [e]
    rw [sN_mul] at h2
    show _ ≤ (x.natAbs + nm xs) * sN n g
    rw [Nat.add_mul]
    omega
theorem nm_snoc (l : List Int) (x : Int) : nm (l ++ [x]) = nm l + x.natAbs := by
  unfold nm
  rw [List.map_append, List.sum_append]
  simp
theorem nm_tb (f : Nat → Int) : ∀ n, nm (tb n f) = sN n f
  | 0 => rfl
  | n + 1 => by
    have e : tb (n + 1) f = tb n f ++ [f n] := by
      unfold tb
      rw [List.range_succ, List.map_append]
      rfl
    rw [e, nm_snoc, nm_tb f n]
    rfl
theorem nm_mem : ∀ {l : List Int} {x : Int}, x ∈ l → x.natAbs ≤ nm l
  | y :: ys, x, h => by
    show x.natAbs ≤ y.natAbs + nm ys
    rcases List.mem_cons.mp h with e | e
    · rw [e]; omega
    · have := nm_mem e; omega
theorem sN_co (l : List Int) (n : Nat) : sN n (co l) ≤ nm l := by
  by_cases h : n ≤ l.length
  · have mono : ∀ k, sN n (co l) ≤ sN (n + k) (co l) := by
      intro k
      induction k with
      | zero => exact Nat.le_refl _
      | succ k ih => exact Nat.le_trans ih (Nat.le_add_right _ _)
    have h1 := mono (l.length - n)
    rw [show n + (l.length - n) = l.length by omega] at h1
    rw [← nm_tb (co l) l.length, tb_co] at h1
    exact h1
  · have far : ∀ k, sN (l.length + k) (co l) = sN l.length (co l) := by
      intro k
      induction k with
      | zero => rfl
      | succ k ih =>
        show sN (l.length + k) (co l) + (co l (l.length + k)).natAbs = _
        rw [ih, co_far (by omega)]
        rfl
    have h1 := far (n - l.length)
    rw [show l.length + (n - l.length) = n by omega] at h1
    rw [h1, ← nm_tb (co l) l.length, tb_co]
    exact Nat.le_refl _
theorem nm_ml (l m : List Int) : nm (ml l m) ≤ nm l * nm m := by
  unfold ml
  rw [nm_tb]
  exact Nat.le_trans (sN_cv _ _ l) (Nat.mul_le_mul (Nat.le_refl _) (sN_co m _))
theorem nm_pl : ∀ (l m : List Int), nm (pl l m) ≤ nm l + nm m
  | [], _ => Nat.zero_le _
  | _ :: _, [] => Nat.zero_le _
  | x :: xs, y :: ys => by
    have h1 := nm_pl xs ys
    have h2 := Int.natAbs_add_le x y
    show (x + y).natAbs + nm (pl xs ys) ≤ x.natAbs + nm xs + (y.natAbs + nm ys)
    omega
theorem nm_scale (c : Int) : ∀ l : List Int, nm (l.map (c * ·)) = c.natAbs * nm l
  | [] => rfl
  | x :: xs => by
    show (c * x).natAbs + nm (xs.map (c * ·)) = c.natAbs * (x.natAbs + nm xs)
    rw [nm_scale c xs, Int.natAbs_mul, Nat.mul_add]
theorem nm_le {b : Nat} : ∀ {l : List Int}, (∀ x ∈ l, x.natAbs ≤ b) → nm l ≤ l.length * b
  | [], _ => Nat.zero_le _
  | x :: xs, h => by
    have h1 := nm_le (l := xs) fun y hy => h y (List.mem_cons_of_mem _ hy)
    have h2 := h x List.mem_cons_self
    show x.natAbs + nm xs ≤ (xs.length + 1) * b
    rw [Nat.succ_mul]
    omega
end K08

set_option Elab.async false
set_option linter.all false
set_option maxRecDepth 100000
set_option maxHeartbeats 4000000
namespace K08
open PySem PySem.Spec PyProof.Rows L2 StX RZ MyR SlX OwnR OwnF EnumT
section
variable {P : Program} {w : World} {K : PySem.W.Frag} {mg : Str → Option Value} {base : Heap}
end
end K08

set_option Elab.async false
set_option linter.all false
set_option maxRecDepth 100000
set_option maxHeartbeats 4000000
namespace K08
open PySem PySem.Spec PyProof.Rows L2 StX RZ MyR SlX OwnR OwnF EnumT
/-- the product of the first i rows -/
def allP (ls : List (List Int)) (i : Nat) : List Int := (ls.take i).foldl ml [1]
theorem allP_succ {ls : List (List Int)} {i : Nat} (h : i < ls.length) : allP ls (i + 1) = ml (allP ls i) ls[i] := by
  unfold allP
  rw [List.take_add_one, List.getElem?_eq_getElem h, List.foldl_append]
  rfl
section
variable {P : Program} {w : World} {K : PySem.W.Frag} {mg : Str → Option Value} {base : Heap}
def spAll : Sp := fun vs H Q _ => ∃ (l : Addr) (rs : List Addr) (ls : List (List Int)), vs = [.ref l] ∧ H l = some (.lst (rs.map V.ref)) ∧ rs.length = ls.length ∧ (∀ i (h : i < ls.length) (h' : i < rs.length), H rs[i] = some (tp ls[i]) ∧ Rw ls[i]) ∧ (∀ i, i < ls.length → Rw (allP ls i)) ∧ ∀ p H', Same H H' → H' p = some (tp (allP ls ls.length)) → Q (.ref p) H'
theorem ok_law_all_product (T : Facts K mg) : FnOk P w K mg base CX0 2 T.f_law_all_product T.fd_law_all_product ["_law_forms"] spAll := by
  have G_law_product : FnOk P w K mg base CX0 1 T.f_law_product T.fd_law_product ["_law_one", "_law_other"] spProd := ok_law_product T
  refine T.F_law_all_product.ok sc_law_all_product (fun vs H Q E h => ?_) (fun cdv A outer s H vs Q E hr h => ?_)
  · obtain ⟨l, rs, ls, rfl, _⟩ := h
    rfl
  · obtain ⟨l, rs, ls, rfl, hl, hlen, hrow, hall, q⟩ := h
    refine ⟨_, (PSs.nox (pss_cons (ps_set (i := 1) sc_law_all_product.nd rfl (.inl rfl) (pe_tup (pa_cons pe_int pa_nil)))
    (pss_cons (ps_for PassesOwn.never (by rfl) (pi_list (pv 0)) (pg_name (i := 2) sc_law_all_product.nd rfl (.inl rfl))
      (pss_one (ps_set (i := 1) sc_law_all_product.nd rfl (.inl rfl) (pe_call G_law_product hr (by rfl) T.g_law_product T.F_law_product.kp T.b_law_product .nil pass0 (pa_cons (pv 1) (pa_cons (pv 2) pa_nil))))))
    (pss_one (ps_ret (pv 1)))))), ?_⟩
    refine ⟨(by show 1 ≤ sizeLine; decide), fun p0 n0 => ⟨_, rfl, l, rfl, ⟨_, SqL.of (same_upd0 n0 _ _ hl)⟩, for_list (xs := rs.map V.ref) (fun i σ H' => ∃ r y, σ = [some (.ref l), some (.ref r), y] ∧ Same H H' ∧ H' r = some (tp (allP ls i))) ⟨p0, none, rfl, same_upd0 n0, upd_same⟩ (fun i σ H' _ hP => ?_) (fun i x σ H' hx hP => ?_) (fun σ H' hP => ?_)⟩⟩
    · obtain ⟨r, y, _, sH, _⟩ := hP
      exact SqL.of (sH _ _ hl)
    · obtain ⟨r, y, rfl, sH, hr2⟩ := hP
      rw [List.getElem?_map] at hx
      obtain ⟨b, hb, rfl⟩ := Option.map_eq_some_iff.mp hx
      obtain ⟨h1, e1⟩ := List.getElem?_eq_some_iff.mp hb
      have h2 : i < ls.length := by omega
      obtain ⟨hb2, rb⟩ := hrow i h2 h1
      rw [e1] at hb2
      have ra := hall i h2
      exact ⟨_, rfl, _, rfl, r, b, _, ls[i], rfl, hr2, sH _ _ hb2, ra.ne, rb.ne, ra.len, rb.len, ra.sm, rb.sm, fun p H2 s2 _ hp2 => ⟨p, _, rfl, sH.trans s2, by rw [allP_succ h2]; exact hp2⟩⟩
    · obtain ⟨r, y, rfl, sH, hr2⟩ := hP
      rw [List.length_map, hlen] at hr2
      exact ⟨_, rfl, q r H' sH hr2⟩
end
end K08

set_option Elab.async false
set_option linter.all false
set_option maxRecDepth 100000
/-! the primitive row of a primitive row -/
namespace K08
end K08

set_option Elab.async false
set_option linter.all false
set_option maxRecDepth 100000
/-! sums of rows, rows of 0 -/
namespace K08
theorem zs_one : ∀ xs ys : List Int, zs 1 xs ys = pl xs ys
  | [], _ => rfl
  | _ :: _, [] => rfl
  | x :: xs, y :: ys => by
    show (x + 1 * y) :: zs 1 xs ys = (x + y) :: pl xs ys
    rw [zs_one xs ys, Int.one_mul]
theorem any_cont : ∀ l : List Int, (!l.any (· != 0)) = decide (cont l = 0)
  | [] => rfl
  | x :: xs => by
    have h := any_cont xs
    rw [List.any_cons, Bool.not_or, h]
    by_cases c : x = 0
    · have e : cont (x :: xs) = cont xs := by
        show Nat.gcd x.natAbs (cont xs) = _
        rw [c]
        exact Nat.gcd_zero_left _
      rw [e, c]
      rfl
    · have e : cont (x :: xs) ≠ 0 := fun z => c (cont_zero z x List.mem_cons_self)
      rw [decide_eq_false e]
      have : (x != 0) = true := by simpa using c
      rw [this]
      rfl
end K08

set_option Elab.async false
set_option linter.all false
set_option maxRecDepth 100000
set_option maxHeartbeats 4000000
namespace K08
open PySem PySem.Spec PyProof.Rows L2 StX RZ MyR SlX OwnR OwnF EnumT
/-! ### drawn forms -/
/-- a row of a degree, with its size -/
structure Bd (l : List Int) (n b : Nat) : Prop where
  len : l.length = n + 1
  nm : nm l ≤ b
theorem Bd.ne {l : List Int} {n b : Nat} (h : Bd l n b) : l ≠ [] := fun e => by
  have := h.len
  rw [e] at this
  cases this
theorem Bd.mono {l : List Int} {n b c : Nat} (h : Bd l n b) (k : b ≤ c) : Bd l n c := ⟨h.len, Nat.le_trans h.nm k⟩
theorem Bd.mem {l : List Int} {n b : Nat} (h : Bd l n b) : ∀ x ∈ l, x.natAbs ≤ b := fun x hx => Nat.le_trans (nm_mem hx) h.nm
theorem Bd.rw {l : List Int} {n b : Nat} (h : Bd l n b) (hn : n ≤ 99) (hb : b < 2 ^ 400) : Rw l := ⟨h.ne, by rw [h.len]; omega, fun x hx => Nat.lt_of_le_of_lt (h.mem x hx) hb⟩
theorem bd_ml {l m : List Int} {n k b c : Nat} (h : Bd l n b) (g : Bd m k c) : Bd (ml l m) (n + k) (b * c) :=
  ⟨by rw [ml_len, h.len, g.len]; omega, Nat.le_trans (nm_ml l m) (Nat.mul_le_mul h.nm g.nm)⟩
theorem bd_one : Bd [1] 0 1 := ⟨rfl, Nat.le_refl _⟩
theorem bd_line {u v : Int} {m : Nat} (hu : u.natAbs ≤ m) (hv : v.natAbs ≤ m) : Bd [v, 0 - u] 1 (2 * m) := ⟨rfl, by
  show v.natAbs + ((0 - u).natAbs + 0) ≤ _
  omega⟩
theorem bd_pair {u v : Int} {m : Nat} (hu : u.natAbs ≤ m) (hv : v.natAbs ≤ m) : Bd [u, v] 1 (2 * m) := ⟨rfl, by
  show u.natAbs + (v.natAbs + 0) ≤ _
  omega⟩
theorem bd_small {l : List Int} {n m : Nat} (hl : l.length = n + 1) (h : ∀ x ∈ l, x.natAbs ≤ m) : Bd l n ((n + 1) * m) := ⟨hl, by
  have := nm_le h
  rw [hl] at this
  exact this⟩
theorem bd_pow {l : List Int} {b : Nat} (h : Bd l 1 b) : ∀ i, Bd (pow l i) i (b ^ i)
  | 0 => bd_one
  | i + 1 => by
    rw [Nat.pow_succ]
    exact bd_ml (bd_pow h i) h
theorem bd_all {ls : List (List Int)} {b : Nat} (h : ∀ l ∈ ls, Bd l 1 b) : ∀ i, i ≤ ls.length → Bd (allP ls i) i (b ^ i)
  | 0, _ => bd_one
  | i + 1, hi => by
    rw [Nat.pow_succ, allP_succ hi]
    exact bd_ml (bd_all h i (by omega)) (h _ (List.getElem_mem hi))
theorem bd_zs {l m : List Int} {n b c : Nat} (h : Bd l n b) (g : Bd m n c) : Bd (zs 1 l m) n (b + c) := by
  rw [zs_one]
  exact ⟨by rw [pl_len (by rw [h.len, g.len]), h.len], Nat.le_trans (nm_pl l m) (Nat.add_le_add h.nm g.nm)⟩
theorem bd_scale {l : List Int} {n b d : Nat} {c : Int} (h : Bd l n b) (hc : c.natAbs ≤ d) : Bd (l.map (c * ·)) n (d * b) := ⟨by rw [List.length_map, h.len], by
  rw [nm_scale]
  exact Nat.mul_le_mul hc h.nm⟩
theorem p6 {i : Nat} (h : i ≤ 8) : 6 ^ i ≤ 1679616 := Nat.le_trans (Nat.pow_le_pow_right (by decide) h) (by decide)
theorem iteI {i j : Int} {A B : Prop} (h1 : i = j → A) (h2 : i ≠ j → B) : if decide (V.int i = V.int j) = true then A else B := by
  by_cases h : i = j
  · rw [decide_eq_true (by rw [h])]
    exact iteT (h1 h)
  · rw [decide_eq_false fun z => h (V.int.inj z)]
    exact iteF (h2 h)
section
variable {P : Program} {w : World} {K : PySem.W.Frag} {mg : Str → Option Value} {base : Heap}
def spDrawn : Sp := fun vs H Q _ => ∃ (d : Addr) (n : Nat), vs = [.ref d, .int n] ∧ Dc H d ∧ n ≤ 8 ∧ ∀ p H' l, Sx d H H' → Dc H' d → H' p = some (tp l) → Bd l n (10 ^ 14) → Q (.ref p) H'
theorem ok_law_form (T : Facts K mg) : FnOk P w K mg base CX0 5 T.f_law_form T.fd_law_form ["_law_dice_here", "_law_degree"] spDrawn := by
  have G_law_roll : FnOk P w K mg base CX0 1 T.f_law_roll T.fd_law_roll ["_law_dice_here", "_law_total"] spRoll2 := (ok_law_roll T).imp roll2
  have G_law_near : FnOk P w K mg base CX0 2 T.f_law_near T.fd_law_near ["_law_dice_here", "_law_most"] spNear := ok_law_near T
  have G_law_plus := ok_law_plus (P := P) (w := w) (base := base) T
  have G_law_scaled := ok_law_scaled (P := P) (w := w) (base := base) T
  have G_law_product := ok_law_product (P := P) (w := w) (base := base) T
  have G_law_all_product := ok_law_all_product (P := P) (w := w) (base := base) T
  have G_law_power := ok_law_power (P := P) (w := w) (base := base) T
  have G_law_line := ok_law_line (P := P) (w := w) (base := base) T
  have G_law_point := ok_law_point (P := P) (w := w) (base := base) T
  have G_law_small_form := ok_law_small_form (P := P) (w := w) (base := base) T
  refine T.F_law_form.ok sc_law_form (fun vs H Q E h => ?_) (fun cdv A outer s H vs Q E hr h => ?_)
  · obtain ⟨d, n, rfl, _⟩ := h
    rfl
  · obtain ⟨d, n, rfl, hd, hn, q⟩ := h
    have e15 : (10 : Int) ^ 15 = 1000000000000000 := by decide
    have e14 : (10 : Nat) ^ 14 = 100000000000000 := by decide
    rw [e14] at q
    have lg : ∀ i : Nat, i < 100 → (i : Int).natAbs.log2 < 9000 := fun i hi => Nat.lt_trans (PySem.Flt.log2_lt_of (k := 10) (by decide) (by show i < 2 ^ 10; omega)) (by decide)
    refine ⟨_, (PSs.nox (pss_cons (ps_set (i := 2) sc_law_form.nd rfl (.inl rfl) (pe_call G_law_roll (hr.mono (by decide)) (by rfl) T.g_law_roll T.F_law_roll.kp T.b_law_roll .nil pass0 (pa_cons (pv 0) (pa_cons pe_int pa_nil))))
    (pss_cons (ps_if (pt_cmpR op_eq (pv 2) pe_int (nomark _))
      (pss_one (ps_ret (pe_call G_law_all_product (hr.mono (by decide)) (by rfl) T.g_law_all_product T.F_law_all_product.kp T.b_law_all_product .nil pass0 (pa_cons (pe_lc (own := [("_law_turn", 3)]) (g := (gName 3)) (tt := tYes) (by rfl) sc_law_form.nd (pi_range1 (by rfl) T.z_range (pa_cons (pv 1) pa_nil)) (blkOk_by (N := N_law_form) (sc := defScope s_law_form) (by decide +kernel)) (fun _ _ _ _ _ => (pg_name (i := 3) sc_law_form.nd rfl (.inl rfl))) (fun _ _ _ _ _ => pts_nil) (fun _ _ _ _ _ => (pe_call G_law_line (hr.mono (by decide)) (by rfl) T.g_law_line T.F_law_line.kp T.b_law_line .nil pass0 (pa_cons (pe_call G_law_point hr (by rfl) T.g_law_point T.F_law_point.kp T.b_law_point .nil pass0 (pa_cons (pv 0) (pa_cons pe_int pa_nil))) pa_nil)))) pa_nil))))
      pss_nil)
    (pss_cons (ps_if (pt_cmpR op_eq (pv 2) pe_int (nomark _))
      (pss_cons (ps_par (i := 4) (j := 5) (by rfl) sc_law_form.nd rfl rfl (by decide) rfl rfl (pa_cons (pe_call G_law_line (hr.mono (by decide)) (by rfl) T.g_law_line T.F_law_line.kp T.b_law_line .nil pass0 (pa_cons (pe_call G_law_point hr (by rfl) T.g_law_point T.F_law_point.kp T.b_law_point .nil pass0 (pa_cons (pv 0) (pa_cons pe_int pa_nil))) pa_nil)) (pa_cons (pe_call G_law_roll (hr.mono (by decide)) (by rfl) T.g_law_roll T.F_law_roll.kp T.b_law_roll .nil pass0 (pa_cons (pv 0) (pa_cons (pe_op op_add (pv 1) pe_int) pa_nil))) pa_nil)) (by rfl))
      (pss_one (ps_ret (pe_call G_law_product (hr.mono (by decide)) (by rfl) T.g_law_product T.F_law_product.kp T.b_law_product .nil pass0 (pa_cons (pe_call G_law_power (hr.mono (by decide)) (by rfl) T.g_law_power T.F_law_power.kp T.b_law_power .nil pass0 (pa_cons (pv 4) (pa_cons (pv 5) pa_nil))) (pa_cons (pe_call G_law_small_form (hr.mono (by decide)) (by rfl) T.g_law_small_form T.F_law_small_form.kp T.b_law_small_form .nil pass0 (pa_cons (pv 0) (pa_cons (pe_op op_sub (pv 1) (pv 5)) (pa_cons pe_int pa_nil)))) pa_nil))))))
      pss_nil)
    (pss_cons (ps_if (pt_cmpR op_eq (pv 2) pe_int (nomark _))
      (pss_cons (ps_set (i := 6) sc_law_form.nd rfl (.inl rfl) (pe_tupleOf (by rfl) T.z_tuple (pe_lc (own := [("_law_place", 7)]) (g := (gName 7)) (tt := tYes) (by rfl) sc_law_form.nd (pi_range1 (by rfl) T.z_range (pa_cons (pe_op op_add (pv 1) pe_int) pa_nil)) (blkOk_by (N := N_law_form) (sc := defScope s_law_form) (by decide +kernel)) (fun _ _ _ _ _ => (pg_name (i := 7) sc_law_form.nd rfl (.inl rfl))) (fun _ _ _ _ _ => pts_nil) (fun _ _ _ _ _ => pe_int))))
      (pss_cons (ps_for PassesOwn.never (by rfl) (pi_range1 (by rfl) T.z_range (pa_cons (pe_op op_add pe_int (pe_call G_law_roll (hr.mono (by decide)) (by rfl) T.g_law_roll T.F_law_roll.kp T.b_law_roll .nil pass0 (pa_cons (pv 0) (pa_cons pe_int pa_nil)))) pa_nil)) (pg_name (i := 3) sc_law_form.nd rfl (.inl rfl))
        (pss_one (ps_set (i := 6) sc_law_form.nd rfl (.inl rfl) (pe_call G_law_plus (hr.mono (by decide)) (by rfl) T.g_law_plus T.F_law_plus.kp T.b_law_plus .nil pass0 (pa_cons (pv 6) (pa_cons (pe_call G_law_scaled (hr.mono (by decide)) (by rfl) T.g_law_scaled T.F_law_scaled.kp T.b_law_scaled .nil pass0 (pa_cons (pe_call G_law_power (hr.mono (by decide)) (by rfl) T.g_law_power T.F_law_power.kp T.b_law_power .nil pass0 (pa_cons (pe_call G_law_point hr (by rfl) T.g_law_point T.F_law_point.kp T.b_law_point .nil pass0 (pa_cons (pv 0) (pa_cons pe_int pa_nil))) (pa_cons (pv 1) pa_nil))) (pa_cons (pe_call G_law_near (hr.mono (by decide)) (by rfl) T.g_law_near T.F_law_near.kp T.b_law_near .nil pass0 (pa_cons (pv 0) (pa_cons pe_int pa_nil))) pa_nil))) pa_nil))))))
      (pss_one (ps_ret (pv 6)))))
      pss_nil)
    (pss_cons (ps_if (pt_cmpR op_eq (pv 2) pe_int (nomark _))
      (pss_one (ps_ret (pe_tupleOf (by rfl) T.z_tuple (pe_lc (own := [("_law_place", 7)]) (g := (gName 7)) (tt := tYes) (by rfl) sc_law_form.nd (pi_range1 (by rfl) T.z_range (pa_cons (pe_op op_add (pv 1) pe_int) pa_nil)) (blkOk_by (N := N_law_form) (sc := defScope s_law_form) (by decide +kernel)) (fun _ _ _ _ _ => (pg_name (i := 7) sc_law_form.nd rfl (.inl rfl))) (fun _ _ _ _ _ => pts_nil) (fun _ _ _ _ _ => (pe_op op_mulW (pe_call G_law_near (hr.mono (by decide)) (by rfl) T.g_law_near T.F_law_near.kp T.b_law_near .nil pass0 (pa_cons (pv 0) (pa_cons pe_int pa_nil))) (pe_call G_law_roll (hr.mono (by decide)) (by rfl) T.g_law_roll T.F_law_roll.kp T.b_law_roll .nil pass0 (pa_cons (pv 0) (pa_cons pe_int pa_nil)))))))))
      pss_nil)
    (pss_cons (ps_if (pw_and (pt_cmpR op_eq (pv 2) pe_int (nomark _)) (pw_and1 (pt_cmpR op_eq (pe_call G_law_roll (hr.mono (by decide)) (by rfl) T.g_law_roll T.F_law_roll.kp T.b_law_roll .nil pass0 (pa_cons (pv 0) (pa_cons pe_int pa_nil))) pe_int (nomark _)))).pt
      (pss_one (ps_ret (pe_tupleOf (by rfl) T.z_tuple (pe_lc (own := [("_law_place", 7)]) (g := (gName 7)) (tt := tYes) (by rfl) sc_law_form.nd (pi_range1 (by rfl) T.z_range (pa_cons (pe_op op_add (pv 1) pe_int) pa_nil)) (blkOk_by (N := N_law_form) (sc := defScope s_law_form) (by decide +kernel)) (fun _ _ _ _ _ => (pg_name (i := 7) sc_law_form.nd rfl (.inl rfl))) (fun _ _ _ _ _ => pts_nil) (fun _ _ _ _ _ => (pe_call G_law_near (hr.mono (by decide)) (by rfl) T.g_law_near T.F_law_near.kp T.b_law_near .nil pass0 (pa_cons (pv 0) (pa_cons (pe_op op_pow pe_int pe_int) pa_nil))))))))
      pss_nil)
    (pss_one (ps_ret (pe_call G_law_small_form (hr.mono (by decide)) (by rfl) T.g_law_small_form T.F_law_small_form.kp T.b_law_small_form .nil pass0 (pa_cons (pv 0) (pa_cons (pv 1) (pa_cons pe_int pa_nil))))))))))))), ?_⟩
    refine ⟨_, rfl, d, 6, rfl, hd, by decide, lg 6 (by decide), fun r H1 hr1 s1 d1 => ⟨_, rfl, rfl, _, rfl, iteI (fun _ => ?_) (fun r0 => ⟨_, rfl, rfl, _, rfl, iteI (fun _ => ?_) (fun r1 => ⟨_, rfl, rfl, _, rfl, iteI (fun _ => ?_) (fun r2 => ⟨_, rfl, rfl, _, rfl, iteI (fun _ => ?_) (fun r3 => ?_)⟩)⟩)⟩)⟩⟩
    · -- lines
      refine ⟨_, rfl, n, rfl, by omega, by omega, fun D hD => lc_range (n := (n : Int).toNat) (fun j H' => Sx d H H' ∧ Dc H' d ∧ ∃ (rs : List Addr) (ls : List (List Int)), H' D = some (.lst (rs.map V.ref)) ∧ rs.length = j ∧ ls.length = j ∧ (∀ i (h : i < ls.length) (h' : i < rs.length), H' rs[i] = some (tp ls[i])) ∧ ∀ l ∈ ls, Bd l 1 6) ⟨s1.trans (Sx.of (same_upd0 hD)), d1.same (same_upd0 hD), [], [], upd_same, rfl, rfl, fun i h _ => absurd h (Nat.not_lt_zero i), fun l h => (nomatch h)⟩ (fun j H' hj hP => ?_) (fun H' hP => ?_)⟩
      · obtain ⟨sH, dH, rs, ls, hL, hl1, hl2, hr, hb⟩ := hP
        refine ⟨rfl, _, rfl, d, 3, rfl, dH, by decide, by decide, fun p H2 u v s2 d2 hp hu hv => ⟨p, u, v, rfl, hp, fun p2 n2 => gen_upd H2 p2 _ n2 fun H3 s3 f3 => ?_⟩⟩
        have nD : D ≠ d := d1.ne hD
        have hL3 := s3 _ _ (s2 D _ nD hL)
        have dD : ∀ a l, H3 a = some (tp l) → a ≠ D := fun a l e z => by
          rw [z, hL3] at e
          cases e
        have d3 := d2.same s3
        refine ⟨_, hL3, by rw [List.length_map, hl1]; exact small1000 (by omega), fun b o hb2 e => ?_, ?_, rs ++ [p2], ls ++ [[v, 0 - u]], by rw [upd_same, List.map_append]; rfl, by rw [List.length_append, hl1]; rfl, by rw [List.length_append, hl2]; rfl, fun i h h' => ?_, fun l hl => ?_⟩
        · rw [upd_ne (ne_of_none (s1 b o hb2 e) hD)]
          exact s3 _ _ (s2 b o hb2 (sH b o hb2 e))
        · obtain ⟨x, y, z, e⟩ := d3
          exact ⟨x, y, z, by rw [upd_ne (Ne.symm nD)]; exact e⟩
        · by_cases c : i < ls.length
          · have e1 : (rs ++ [p2])[i] = rs[i]'(by omega) := List.getElem_append_left _
            have e2 : (ls ++ [[v, 0 - u]])[i] = ls[i] := List.getElem_append_left _
            rw [e1, e2]
            have e3 := s3 _ _ (s2 _ _ (dc_ne dH (hr i c (by omega))) (hr i c (by omega)))
            rw [upd_ne (dD _ _ e3)]
            exact e3
          · have ei : i = ls.length := by rw [List.length_append] at h; simp at h; omega
            subst ei
            have e1 : (rs ++ [p2])[ls.length] = p2 := by rw [List.getElem_append_right (by omega)]; simp [hl1, hl2]
            have e2 : (ls ++ [[v, 0 - u]])[ls.length] = [v, 0 - u] := by rw [List.getElem_append_right (by omega)]; simp
            rw [e1, e2, upd_ne (dD _ _ f3)]
            exact f3
        · rcases List.mem_append.mp hl with e | e
          · exact hb l e
          · rw [List.mem_singleton.mp e]
            exact bd_line hu hv
      · obtain ⟨sH, dH, rs, ls, hL, hl1, hl2, hr, hb⟩ := hP
        have hnn : ls.length = n := by omega
        refine ⟨D, rs, ls, rfl, hL, by omega, fun i h h' => ⟨hr i h h', (hb _ (List.getElem_mem h)).rw (by omega) (by decide)⟩, fun i hi => (bd_all hb i (by omega)).rw (by omega) (Nat.lt_of_le_of_lt (p6 (by omega)) (by decide)), fun p H3 s3 f3 => q p H3 _ (sH.trans (Sx.of s3)) (dH.same s3) f3 ?_⟩
        rw [hnn]
        exact (bd_all hb n (by omega)).mono (Nat.le_trans (p6 hn) (by decide))
    · -- a power of a line, times
      refine ⟨_, rfl, d, 3, rfl, d1, by decide, by decide, fun p H2 u v s2 d2 hp hu hv => ⟨p, u, v, rfl, hp, fun p2 n2 => gen_upd H2 p2 _ n2 fun H3 s3 f3 => ⟨_, rfl, _, rfl, _, _, rfl, rfl, ?_⟩⟩⟩
      have d3 := d2.same s3
      refine ⟨d, _, rfl, d3, by omega, lg (n + 1) (by omega), fun k H4 hk s4 d4 => ⟨_, _, rfl, ?_⟩⟩
      have hk' : k ≤ n := by have : (k : Int) < (n : Int) + 1 := hk; omega
      have f4 := s4 _ _ (dc_ne d3 f3) f3
      have bl : Bd [v, 0 - u] 1 6 := bd_line hu hv
      refine ⟨_, rfl, _, rfl, p2, _, k, rfl, f4, bl.ne, by show 2 ≤ 100; decide, fun x hx => (bl.rw (by decide) (Nat.lt_of_lt_of_le (show 6 < 2 ^ 4 by decide) (Nat.pow_le_pow_right (by decide) (by decide)))).sm x hx, fun i hi => ?_, by omega, fun p5 H5 s5 f5 => ?_⟩
      · have := (bd_pow bl i).rw (by omega) (Nat.lt_of_le_of_lt (p6 (by omega)) (by decide))
        exact ⟨this.ne, this.len, this.sm⟩
      · have d5 := d4.same s5
        refine ⟨_, rfl, _, rfl, _, rfl, _, _, rfl, rfl, d, n - k, 4, by show [V.ref d, V.int ((n : Int) - (k : Int)), V.int 4] = [V.ref d, V.int ((n - k : Nat) : Int), V.int 4]; rw [Int.ofNat_sub hk'], d5, by omega, by decide, fun p6' H6 l6 s6 d6 f6 hl6 hm6 => ?_⟩
        have f5' := s6 _ _ (dc_ne d5 f5) f5
        have b1 := bd_pow bl k
        have b2 := bd_small hl6 hm6
        have r1 := b1.rw (by omega) (Nat.lt_of_le_of_lt (p6 (by omega)) (by decide))
        have r2 := b2.rw (by omega) (Nat.lt_of_le_of_lt (show (n - k + 1) * 4 ≤ 36 by omega) (by decide))
        refine ⟨p5, p6', _, l6, rfl, f5', f6, r1.ne, r2.ne, r1.len, r2.len, r1.sm, r2.sm, fun p7 H7 s7 _ f7 => q p7 H7 _ ((((s1.trans s2).trans (Sx.of s3)).trans s4).trans (((Sx.of s5).trans s6).trans (Sx.of s7))) (d6.same s7) f7 ?_⟩
        have b3 := bd_ml b1 b2
        rw [show k + (n - k) = n by omega] at b3
        exact b3.mono (Nat.le_trans (Nat.mul_le_mul (p6 (by omega)) (show (n - k + 1) * 4 ≤ 36 by omega)) (by decide))
    · -- sums of powers
      refine ⟨_, rfl, _, _, rfl, rfl, _, rfl, by show -(2 ^ 62) ≤ (n : Int) + 1; omega, by show (n : Int) + 1 < 2 ^ 62; omega, fun D hD => lc_range (n := ((n : Int) + 1).toNat) (fun j H' => H' = upd H1 D (.lst (tab j fun _ => 0))) rfl (fun j H' hj hP => ?_) (fun H' hP => ?_)⟩
      · subst hP
        refine ⟨rfl, ⟨_, upd_same, by rw [tab_len]; exact small1000 (by omega), ?_⟩⟩
        rw [upd_upd, ← tab_snoc]
      · subst hP
        rw [show ((n : Int) + 1).toNat = n + 1 by omega, tab_tb]
        refine .inl ⟨D, _, rfl, SqL.of upd_same, fun p hp => gen_upd (upd H1 D _) p _ hp fun H2 s2 f2 => ?_⟩
        have s02 := (same_upd0 (o := HO.lst ((tb (n + 1) fun _ => 0).map V.int)) hD).trans s2
        have d2 := d1.same s02
        have b0 : Bd (tb (n + 1) fun _ => 0) n 0 := ⟨tb_len _ _, by
          rw [nm_tb]
          have : ∀ k, sN k (fun _ => 0) = 0 := by
            intro k
            induction k with
            | zero => rfl
            | succ k ih => show sN k (fun _ => 0) + 0 = 0; rw [ih]
          rw [this]
          exact Nat.le_refl _⟩
        refine ⟨_, rfl, d, 3, rfl, d2, by decide, lg 3 (by decide), fun k H3 hk s3 d3 => ⟨_, _, rfl, rfl, _, rfl, by omega, by omega, ?_⟩⟩
        have f3 := s3 _ _ (dc_ne d2 f2) f2
        have hk3 : (k : Int) < 3 := hk
        refine for_range (n := (1 + (k : Int)).toNat) (fun i σ H' => ∃ r y3 y4 y5 y7 l, σ = [some (.ref d), some (.int n), some (.int (r : Int)), y3, y4, y5, some (.ref y7), none] ∧ Sx d H1 H' ∧ Dc H' d ∧ H' y7 = some (tp l) ∧ Bd l n (i * 6718464)) ⟨_, _, _, _, _, _, rfl, (Sx.of s02).trans s3, d3, f3, b0.mono (Nat.zero_le _)⟩ (fun i σ H' hi hP => ?_) (fun σ H' hP => ?_)
        · obtain ⟨r', y3, y4, y5, y7, l, rfl, sH, dH, hl, bl⟩ := hP
          refine ⟨_, rfl, _, rfl, d, 3, rfl, dH, by decide, by decide, fun p4 H4 u v s4 d4 h4 hu hv => ⟨_, rfl, ?_⟩⟩
          have bp : Bd [u, v] 1 6 := bd_pair hu hv
          refine ⟨p4, _, n, rfl, h4, bp.ne, by show 2 ≤ 100; decide, fun x hx => (bp.rw (by decide) (Nat.lt_of_lt_of_le (show 6 < 2 ^ 4 by decide) (Nat.pow_le_pow_right (by decide) (by decide)))).sm x hx, fun i hi => ?_, by omega, fun p5 H5 s5 f5 => ?_⟩
          · have := (bd_pow bp i).rw (by omega) (Nat.lt_of_le_of_lt (p6 (by omega)) (by decide))
            exact ⟨this.ne, this.len, this.sm⟩
          · have d5 := d4.same s5
            have b5 := bd_pow bp n
            have r5 := b5.rw (by omega) (Nat.lt_of_le_of_lt (p6 (by omega)) (by decide))
            refine ⟨_, rfl, d, 4, rfl, d5, by decide, by rw [e15]; decide, fun c H6 c1 c2 s6 d6 => ?_⟩
            have f6 := s6 _ _ (dc_ne d5 f5) f5
            refine ⟨p5, _, c, rfl, f6, r5.len, r5.sm, Nat.lt_of_le_of_lt (show c.natAbs ≤ 4 by omega) (by decide), fun p7 H7 s7 _ f7 => ?_⟩
            have b7 := bd_scale (d := 4) b5 (show c.natAbs ≤ 4 by omega)
            have hl7 := s7 _ _ (s6 _ _ (dc_ne d5 (s5 _ _ (s4 _ _ (dc_ne dH hl) hl))) (s5 _ _ (s4 _ _ (dc_ne dH hl) hl)))
            refine ⟨_, p7, l, _, rfl, hl7, f7, by rw [bl.len, b7.len], by rw [bl.len]; omega, fun p8 H8 s8 _ f8 => ⟨_, _, _, _, p8, _, rfl, ((sH.trans s4).trans ((Sx.of s5).trans s6)).trans ((Sx.of s7).trans (Sx.of s8)), (d6.same s7).same s8, f8, (bd_zs bl b7).mono ?_⟩⟩
            have : 4 * 6 ^ n ≤ 4 * 1679616 := Nat.mul_le_mul (Nat.le_refl _) (p6 hn)
            rw [Nat.succ_mul]
            omega
        · obtain ⟨r', y3, y4, y5, y7, l, rfl, sH, dH, hl, bl⟩ := hP
          exact ⟨_, rfl, q y7 H' l (s1.trans sH) dH hl (bl.mono (by omega))⟩
    · -- some entries, some zeros
      refine ⟨_, rfl, _, _, rfl, rfl, _, rfl, by show -(2 ^ 62) ≤ (n : Int) + 1; omega, by show (n : Int) + 1 < 2 ^ 62; omega, fun D hD => lc_range (n := ((n : Int) + 1).toNat) (fun j H' => Sx d H1 H' ∧ Dc H' d ∧ ∃ l : List Int, H' D = some (.lst (l.map V.int)) ∧ l.length = j ∧ ∀ x ∈ l, x.natAbs ≤ 3) ⟨Sx.of (same_upd0 hD), d1.same (same_upd0 hD), [], upd_same, rfl, fun x hx => by cases hx⟩ (fun j H' hj hP => ?_) (fun H' hP => ?_)⟩
      · obtain ⟨sH, dH, l, hL, hl, hb⟩ := hP
        have nD : D ≠ d := d1.ne hD
        refine ⟨rfl, _, rfl, d, 3, rfl, dH, by decide, by rw [e15]; decide, fun c H2 c1 c2 s2 d2 => ⟨_, rfl, d, 2, rfl, d2, by decide, lg 2 (by decide), fun k H3 hk s3 d3 => ⟨_, _, rfl, rfl, sm_mul (Nat.lt_of_le_of_lt (show c.natAbs ≤ 3 by omega) (by decide)) (Nat.lt_of_le_of_lt (show ((k : Nat) : Int).natAbs ≤ 2 by have : (k : Int) < 2 := hk; omega) (by decide)), _, s3 D _ nD (s2 D _ nD hL), ?_, fun b o hb2 e => ?_, ?_, l ++ [c * (k : Int)], ?_, ?_, fun x hx => ?_⟩⟩⟩
        · rw [List.length_map]
          exact small1000 (by omega)
        · rw [upd_ne (ne_of_none e hD)]
          exact (sH.trans (s2.trans s3)) b o hb2 e
        · obtain ⟨x, y, z, e⟩ := d3
          exact ⟨x, y, z, by rw [upd_ne (Ne.symm nD)]; exact e⟩
        · rw [upd_same, List.map_append]
          rfl
        · rw [List.length_append, hl]
          rfl
        · rcases List.mem_append.mp hx with e | e
          · exact hb x e
          · rw [List.mem_singleton.mp e]
            have hk2 : (k : Int) < 2 := hk
            rw [Int.natAbs_mul]
            have := Nat.mul_le_mul (show c.natAbs ≤ 3 by omega) (show ((k : Nat) : Int).natAbs ≤ 1 by omega)
            omega
      · obtain ⟨sH, dH, l, hL, hl, hb⟩ := hP
        refine .inl ⟨D, _, rfl, SqL.of hL, fun p hp2 => ?_⟩
        exact q p _ l (s1.trans (sH.trans (Sx.of (same_upd0 hp2)))) (dH.same (same_upd0 hp2)) upd_same ((bd_small (n := n) (by omega) hb).mono (Nat.le_trans (Nat.mul_le_mul (show n + 1 ≤ 9 by omega) (Nat.le_refl _)) (by decide)))
    · -- great entries, or small ones
      have small : ∀ H2, Sx d H H2 → Dc H2 d → spSmall [V.ref d, V.int (n : Int), V.int 6] H2 Q E0 := fun H2 s2 d2 => ⟨d, n, 6, rfl, d2, by omega, by decide, fun p H3 l s3 d3 f3 hl hm => q p H3 l (s2.trans s3) d3 f3 ((bd_small hl hm).mono (by omega))⟩
      refine ⟨_, rfl, rfl, _, rfl, iteI (fun _ => ?_) (fun _ => ?_)⟩
      · refine ⟨_, rfl, d, 4, rfl, d1, by decide, lg 4 (by decide), fun k H2 hk s2 d2 => ⟨rfl, _, rfl, iteI (fun _ => ?_) (fun _ => ?_)⟩⟩
        · -- great entries
          refine ⟨_, rfl, _, _, rfl, rfl, _, rfl, by show -(2 ^ 62) ≤ (n : Int) + 1; omega, by show (n : Int) + 1 < 2 ^ 62; omega, fun D hD => lc_range (n := ((n : Int) + 1).toNat) (fun j H' => Sx d H2 H' ∧ Dc H' d ∧ ∃ l : List Int, H' D = some (.lst (l.map V.int)) ∧ l.length = j ∧ ∀ x ∈ l, x.natAbs ≤ 1000000000000) ⟨Sx.of (same_upd0 hD), d2.same (same_upd0 hD), [], upd_same, rfl, fun x hx => by cases hx⟩ (fun j H' hj hP => ?_) (fun H' hP => ?_)⟩
          · obtain ⟨sH, dH, l, hL, hl, hb⟩ := hP
            have nD : D ≠ d := d2.ne hD
            refine ⟨rfl, _, rfl, 10, 12, rfl, rfl, ⟨by decide, by decide, by decide⟩, d, 1000000000000, rfl, dH, by decide, by rw [e15]; decide, fun r H2 r1 r2 s2 d2 => ⟨_, s2 D _ nD hL, ?_, fun b o hb2 e => ?_, ?_, l ++ [r], ?_, ?_, fun x hx => ?_⟩⟩
            · rw [List.length_map]
              exact small1000 (by omega)
            · rw [upd_ne (ne_of_none e hD)]
              exact (sH.trans s2) b o hb2 e
            · obtain ⟨x, y, z, e⟩ := d2
              exact ⟨x, y, z, by rw [upd_ne (Ne.symm nD)]; exact e⟩
            · rw [upd_same, List.map_append]
              rfl
            · rw [List.length_append, hl]
              rfl
            · rcases List.mem_append.mp hx with e | e
              · exact hb x e
              · rw [List.mem_singleton.mp e]
                omega
          · obtain ⟨sH, dH, l, hL, hl, hb⟩ := hP
            refine .inl ⟨D, _, rfl, SqL.of hL, fun p hp2 => ?_⟩
            exact q p _ l ((s1.trans s2).trans (sH.trans (Sx.of (same_upd0 hp2)))) (dH.same (same_upd0 hp2)) upd_same ((bd_small (n := n) (by omega) hb).mono (Nat.le_trans (Nat.mul_le_mul (show n + 1 ≤ 9 by omega) (Nat.le_refl _)) (by decide)))
        · exact ⟨_, rfl, _, rfl, small H2 (s1.trans s2) d2⟩
      · exact ⟨_, rfl, _, rfl, small H1 s1 d1⟩
end
end K08

set_option Elab.async false
set_option linter.all false
set_option maxRecDepth 100000
set_option maxHeartbeats 4000000
namespace K08
open PySem PySem.Spec PyProof.Rows L2 StX RZ MyR SlX OwnR OwnF EnumT
/-! what is said of forms by those who use them (for other laws: K08u, K08v, K08y hold the same) -/
section
variable {P : Program} {w : World} {K : PySem.W.Frag} {mg : Str → Option Value} {base : Heap}
/-- what is asked of a told row -/
structure Tr (l : List Int) : Prop where
  ne : l ≠ []
  len : l.length ≤ 40
  sho : ∀ x ∈ l, Sho x
theorem Tr.rw {l : List Int} (h : Tr l) : Rw l := ⟨h.ne, by have := h.len; omega, fun x hx => Nat.lt_trans (h.sho x hx) (by decide)⟩
theorem Tr.pos {l : List Int} (h : Tr l) : 1 ≤ l.length := List.length_pos_iff.mpr h.ne
theorem shaped_lints (ns : List Int) : SeqAt.shaped (.list (ns.map PyData.int)) = true := by
  unfold SeqAt.shaped
  rw [show PyData.canLay0 (.list (ns.map PyData.int)) = PyData.canLayAll0 (ns.map PyData.int) from rfl, lay_ints]
  rw [show PyData.depth (.list (ns.map PyData.int)) = PyData.depthAll (ns.map PyData.int) + 1 from rfl, depth_ints]
  rfl
theorem notFirst_self {K : PySem.W.Frag} {C : Addr} : PySem.W.notFirst K C (.ref C) = true := by
  unfold PySem.W.notFirst
  rw [beq_self_eq_true]
  rfl
/-- Form(t) -/
theorem made_form {C x dx t : Addr} {l : List Int} {H0 H2 : Hp} (hx : H0 x = none) (hdx : H0 dx = none) (hne : dx ≠ x) (s : Same (upd (upd H0 dx (.own x)) x (.ins C dx [])) H2) (ht : H0 t = some (tp l)) : Same H0 (slH H2 x C dx [some (.ref t)]) ∧ Fo C (slH H2 x C dx [some (.ref t)]) x l := by
  have s3 := made (v := .ref t) hx hdx hne s
  refine ⟨s3, dx, t, upd_same, ?_, s3 _ _ ht⟩
  unfold slH
  rw [upd_ne hne, upd_same]
theorem eq_forms {X : Cx} {C a b : Addr} {H : Hp} {xs ys : List Int} {Q : VK} (c : OC X.K C) (fa : Fo C H a xs) (fb : Fo C H b ys) (q : Q (.bl (decide (xs = ys))) H) : rEqO X C (spEqF C) E0 (.ref a) (.ref b) H Q := by
  obtain ⟨dx, t, ha, _⟩ := fa.slt
  obtain ⟨dy, u, hb, _⟩ := fb.slt
  exact ⟨a, dx, _, .ref C, rfl, ha, .inst hb, notFirst_self, a, xs, b, rfl, fa, .inl ⟨ys, fb, q⟩⟩
theorem Fo.sx {C a d : Addr} {H H' : Hp} {ns : List Int} (h : Fo C H a ns) (hd : Dc H d) (s : Sx d H H') : Fo C H' a ns := by
  obtain ⟨dx, t, h1, h2, h3⟩ := h
  obtain ⟨x, y, z, e⟩ := hd
  refine ⟨dx, t, s _ _ (fun q => ?_) h1, s _ _ (fun q => ?_) h2, s _ _ (fun q => ?_) h3⟩
  · rw [q, e] at h1
    cases h1
  · rw [q, e] at h2
    cases h2
  · rw [q, e] at h3
    cases h3
theorem mkF {CT C x dx t : Addr} {H : Hp} {l : List Int} {R : Hp → Prop} (hx : H x = none) (hdx : H dx = none) (hne : dx ≠ x) (ht : H t = some (tp l)) (h1 : 1 ≤ l.length) (h2 : l.length ≤ 41) (hs : ∀ z ∈ l, Sho z) (q : ∀ H', Same H H' → Fo C H' x l → R H') :
    spForm CT C [.ref x, .ref t] (upd (upd H dx (.own x)) x (.ins C dx [])) (fun v H2 => v = .non ∧ R H2) E0 := by
  refine ⟨x, dx, t, t, rfl, .inl ⟨upd_same, rfl⟩, .inr ⟨l, rfl, ?_, h1, h2, hs⟩, fun H2 s2 => ⟨rfl, ?_⟩⟩
  · rw [upd_ne (ne_of_none ht hx), upd_ne (ne_of_none ht hdx)]
    exact ht
  · obtain ⟨s, f⟩ := made_form hx hdx hne s2 ht
    exact q _ s f
theorem mulI_form {C a : Addr} {H : Hp} {xs : List Int} {c : Int} {Q : VK} (fa : Fo C H a xs) (r : Rw xs) (hc : Sho c) (q : ∀ p H', Same H H' → Fo C H' p (xs.map fun x => x * c) → Q (.ref p) H') : rBinI C (spMul C) E0 (.ref a) (.int c) H Q := by
  obtain ⟨dx, t, ha, _⟩ := fa.slt
  exact ⟨a, dx, _, c, rfl, rfl, ha, a, xs, _, rfl, fa, r, .inr ⟨c, rfl, hc, q⟩⟩
theorem Bd.tr {l : List Int} {n b : Nat} (h : Bd l n b) (hn : n ≤ 39) (hb : b < 10 ^ 60) : Tr l := ⟨h.ne, by rw [h.len]; omega, fun x hx => Nat.lt_of_le_of_lt (h.mem x hx) hb⟩
/-- a pair of a form and its row -/
structure Pa (C : Addr) (H : Hp) (v : V) (l : List Int) : Prop where
  tr : Tr l
  at_ : ∃ p f t, v = .ref p ∧ H p = some (.tup [.ref f, .ref t]) ∧ Fo C H f l ∧ H t = some (tp l)
theorem Pa.same {C : Addr} {H H' : Hp} {v : V} {l : List Int} (h : Pa C H v l) (s : Same H H') : Pa C H' v l := by
  obtain ⟨p, f, t, e, h1, h2, h3⟩ := h.at_
  exact ⟨h.tr, p, f, t, e, s _ _ h1, h2.same s, s _ _ h3⟩
theorem prop_ent {C a : Addr} {H : Hp} {xs : List Int} {Q : VK} (fa : Fo C H a xs) (q : ∀ t, H t = some (tp xs) → Q (.ref t) H) : ∃ a' dx vs, V.ref a = .ref a' ∧ Slt H a' C dx vs ∧ spEnt C [.ref a'] H Q E0 := by
  obtain ⟨dx, t, ha, _⟩ := fa.slt
  exact ⟨a, dx, _, rfl, ha, a, xs, rfl, fa, q⟩
theorem prop_zero {C a : Addr} {H : Hp} {xs : List Int} {Q : VK} (fa : Fo C H a xs) (q : Q (.bl (!xs.any (· != 0))) H) : ∃ a' dx vs, V.ref a = .ref a' ∧ Slt H a' C dx vs ∧ spIsZ C [.ref a'] H Q E0 := by
  obtain ⟨dx, t, ha, _⟩ := fa.slt
  exact ⟨a, dx, _, rfl, ha, a, xs, rfl, fa, q⟩
theorem prop_deg {C a : Addr} {H : Hp} {xs : List Int} {Q : VK} (fa : Fo C H a xs) (q : Q (.int ((xs.length : Int) - 1)) H) : ∃ a' dx vs, V.ref a = .ref a' ∧ Slt H a' C dx vs ∧ spDeg C [.ref a'] H Q E0 := by
  obtain ⟨dx, t, ha, _⟩ := fa.slt
  exact ⟨a, dx, _, rfl, ha, a, xs, rfl, fa, q⟩
end
end K08

set_option Elab.async false
set_option linter.all false
set_option maxRecDepth 100000
/-! values of forms; a form is told by its values -/
namespace K08
/-- the value at x, y of the first n entries -/
def evF : Nat → (Nat → Int) → Int → Int → Int
  | 0, _, _, _ => 0
  | n + 1, g, x, y => x * evF n g x y + g n * y ^ n
def ev (l : List Int) (x y : Int) : Int := evF l.length (co l) x y
theorem evF_congr {g h : Nat → Int} {x y : Int} : ∀ n, (∀ i, i < n → g i = h i) → evF n g x y = evF n h x y
  | 0, _ => rfl
  | n + 1, e => by
    show x * evF n g x y + g n * y ^ n = x * evF n h x y + h n * y ^ n
    rw [evF_congr n fun i hi => e i (by omega), e n (by omega)]
theorem evF_add (g h : Nat → Int) (x y : Int) : ∀ n, evF n (fun i => g i + h i) x y = evF n g x y + evF n h x y
  | 0 => rfl
  | n + 1 => by
    show x * evF n (fun i => g i + h i) x y + (g n + h n) * y ^ n = (x * evF n g x y + g n * y ^ n) + (x * evF n h x y + h n * y ^ n)
    rw [evF_add g h x y n, Int.mul_add, Int.add_mul]
    omega
theorem evF_mul (c : Int) (g : Nat → Int) (x y : Int) : ∀ n, evF n (fun i => c * g i) x y = c * evF n g x y
  | 0 => by show (0 : Int) = c * 0; rw [Int.mul_zero]
  | n + 1 => by
    show x * evF n (fun i => c * g i) x y + (c * g n) * y ^ n = c * (x * evF n g x y + g n * y ^ n)
    rw [evF_mul c g x y n, Int.mul_add, Int.mul_assoc, ← Int.mul_assoc x c, Int.mul_comm x c, Int.mul_assoc]
theorem evF_sh (g : Nat → Int) (x y : Int) : ∀ n, evF (n + 1) (sh g) x y = y * evF n g x y
  | 0 => by
    show x * 0 + (0 : Int) * y ^ 0 = y * 0
    rw [Int.mul_zero, Int.zero_mul, Int.mul_zero]
    rfl
  | n + 1 => by
    show x * evF (n + 1) (sh g) x y + g n * y ^ (n + 1) = y * (x * evF n g x y + g n * y ^ n)
    rw [evF_sh g x y n, Int.mul_add, Int.pow_succ, ← Int.mul_assoc, Int.mul_comm x y, Int.mul_assoc, Int.mul_comm (y ^ n) y, ← Int.mul_assoc (g n), Int.mul_comm (g n) y, Int.mul_assoc y (g n)]
theorem evF_far {g : Nat → Int} (x y : Int) {n : Nat} (h : ∀ i, n ≤ i → g i = 0) : ∀ k, evF (n + k) g x y = x ^ k * evF n g x y
  | 0 => by rw [Nat.add_zero, Int.pow_zero, Int.one_mul]
  | k + 1 => by
    show x * evF (n + k) g x y + g (n + k) * y ^ (n + k) = _
    rw [evF_far x y h k, h _ (by omega), Int.zero_mul, Int.add_zero, Int.pow_succ, ← Int.mul_assoc, Int.mul_comm x]
theorem evF_zero (x y : Int) : ∀ n, evF n (fun _ => 0) x y = 0
  | 0 => rfl
  | n + 1 => by
    show x * evF n (fun _ => 0) x y + 0 * y ^ n = 0
    rw [evF_zero x y n, Int.mul_zero, Int.zero_mul]
    rfl
theorem ev_ml : ∀ {l m : List Int}, l ≠ [] → m ≠ [] → ∀ x y, ev (ml l m) x y = ev l x y * ev m x y := by
  intro l
  induction l with
  | nil => intro m h; exact absurd rfl h
  | cons a l ih =>
    intro m hl hm x y
    have hM : 0 < m.length := List.length_pos_iff.mpr hm
    have e0 : ev (ml (a :: l) m) x y = evF (l.length + m.length) (cv (a :: l) (co m)) x y := by
      unfold ev
      rw [ml_len, show (a :: l).length + m.length - 1 = l.length + m.length by rw [List.length_cons]; omega]
      exact evF_congr _ fun i _ => co_ml hm i
    rw [e0]
    have e1 : evF (l.length + m.length) (cv (a :: l) (co m)) x y = a * evF (l.length + m.length) (co m) x y + evF (l.length + m.length) (sh (cv l (co m))) x y := by
      rw [← evF_mul, ← evF_add]
      exact evF_congr _ fun i _ => cv_cons a l (co m) i
    rw [e1, show l.length + m.length = m.length + l.length by omega, evF_far x y (fun i hi => co_far hi) l.length]
    have e2 : ev (a :: l) x y = a * x ^ l.length + y * evF l.length (co l) x y := by
      unfold ev
      rw [List.length_cons]
      rw [show evF (l.length + 1) (co (a :: l)) x y = evF (l.length + 1) (fun i => a * (if i = 0 then 1 else 0) + sh (co l) i) x y from evF_congr _ fun i _ => by
        rw [co_cons]
        by_cases h : i = 0
        · rw [if_pos h, if_pos h, Int.mul_one]
        · rw [if_neg h, if_neg h, Int.mul_zero], evF_add, evF_mul, evF_sh]
      congr 1
      congr 1
      have h1 : evF (1 + l.length) (fun i => if i = 0 then (1 : Int) else 0) x y = x ^ l.length * evF 1 (fun i => if i = 0 then (1 : Int) else 0) x y := evF_far x y (n := 1) (fun i hi => if_neg (by omega)) l.length
      rw [show l.length + 1 = 1 + l.length by omega, h1]
      show x ^ l.length * (x * 0 + (if 0 = 0 then 1 else 0) * y ^ 0) = _
      rw [if_pos rfl, Int.mul_zero, Int.pow_zero, Int.mul_one, Int.zero_add, Int.mul_one]
    rw [e2]
    by_cases c : l = []
    · subst c
      show a * (x ^ 0 * evF m.length (co m) x y) + evF (m.length + 0) (sh (cv [] (co m))) x y = (a * x ^ 0 + y * 0) * ev m x y
      rw [show evF (m.length + 0) (sh (cv [] (co m))) x y = evF m.length (fun _ => 0) x y from evF_congr _ fun i _ => by cases i <;> rfl, evF_zero, Int.pow_zero, Int.one_mul, Int.mul_one, Int.mul_zero, Int.add_zero, Int.add_zero]
      rfl
    · have hL : 0 < l.length := List.length_pos_iff.mpr c
      have e3 : evF (m.length + l.length) (sh (cv l (co m))) x y = y * (ev l x y * ev m x y) := by
        rw [show m.length + l.length = (l.length + m.length - 1) + 1 by omega, evF_sh, ← ih c hm x y]
        congr 1
        unfold ev
        rw [ml_len]
        exact evF_congr _ fun i _ => (co_ml hm i).symm
      rw [e3]
      show a * (x ^ l.length * ev m x y) + y * (ev l x y * ev m x y) = (a * x ^ l.length + y * ev l x y) * ev m x y
      rw [Int.add_mul, Int.mul_assoc, Int.mul_assoc]
theorem ev_cons (a : Int) (l : List Int) (x y : Int) : ev (a :: l) x y = a * x ^ l.length + y * ev l x y := by
  unfold ev
  rw [List.length_cons]
  rw [show evF (l.length + 1) (co (a :: l)) x y = evF (l.length + 1) (fun i => a * (if i = 0 then 1 else 0) + sh (co l) i) x y from evF_congr _ fun i _ => by
    rw [co_cons]
    by_cases h : i = 0
    · rw [if_pos h, if_pos h, Int.mul_one]
    · rw [if_neg h, if_neg h, Int.mul_zero], evF_add, evF_mul, evF_sh]
  congr 1
  congr 1
  have h1 : evF (1 + l.length) (fun i => if i = 0 then (1 : Int) else 0) x y = x ^ l.length * evF 1 (fun i => if i = 0 then (1 : Int) else 0) x y := evF_far x y (n := 1) (fun i hi => if_neg (by omega)) l.length
  rw [show l.length + 1 = 1 + l.length by omega, h1]
  show x ^ l.length * (x * 0 + (if 0 = 0 then 1 else 0) * y ^ 0) = _
  rw [if_pos rfl, Int.mul_zero, Int.pow_zero, Int.mul_one, Int.zero_add, Int.mul_one]
/-- only the form with zeros has the value 0 everywhere -/
theorem evF_inj {g : Nat → Int} {M : Int} : ∀ n, (∀ i, i < n → (g i).natAbs < M.natAbs) → evF n g M 1 = 0 → ∀ i, i < n → g i = 0
  | 0, _, _, i, hi => absurd hi (Nat.not_lt_zero i)
  | n + 1, hb, e, i, hi => by
    have e' : M * evF n g M 1 + g n * 1 ^ n = 0 := e
    rw [Int.one_pow, Int.mul_one] at e'
    have hd : M ∣ g n := ⟨-evF n g M 1, by rw [Int.mul_neg]; omega⟩
    have hn : g n = 0 := Int.natAbs_eq_zero.mp (Nat.eq_zero_of_dvd_of_lt (Int.natAbs_dvd_natAbs.mpr hd) (hb n (by omega)))
    have hM : M ≠ 0 := fun z => by
      have := hb n (by omega)
      rw [z] at this
      exact absurd this (by simp)
    rw [hn, Int.add_zero] at e'
    have e2 : evF n g M 1 = 0 := (Int.mul_eq_zero.mp e').resolve_left hM
    by_cases c : i = n
    · rw [c]; exact hn
    · exact evF_inj n (fun j hj => hb j (by omega)) e2 i (by omega)
theorem ev_inj {l m : List Int} (hl : l.length = m.length) (h : ∀ x y, ev l x y = ev m x y) : l = m := by
  refine co_inj hl fun i => ?_
  by_cases c : i < l.length
  · have key := evF_inj (g := fun i => co l i + -1 * co m i) (M := ((nm l + nm m + 1 : Nat) : Int)) l.length (fun i _ => by
      rw [Int.natAbs_natCast]
      have h1 : (co l i).natAbs ≤ nm l := by
        rcases co_mem (l := l) (k := i) with e | e
        · rw [e]; exact Nat.zero_le _
        · exact nm_mem e
      have h2 : (co m i).natAbs ≤ nm m := by
        rcases co_mem (l := m) (k := i) with e | e
        · rw [e]; exact Nat.zero_le _
        · exact nm_mem e
      show (co l i + -1 * co m i).natAbs < _
      omega) (by
      rw [evF_add, evF_mul]
      have := h ((nm l + nm m + 1 : Nat) : Int) 1
      unfold ev at this
      rw [← hl] at this
      rw [this]
      omega) i c
    have key' : co l i + -1 * co m i = 0 := key
    omega
  · rw [co_far (by omega), co_far (by omega)]
end K08

set_option Elab.async false
set_option linter.all false
set_option maxRecDepth 100000
/-! changed forms, derived forms: the plain law -/
namespace K08
theorem ev_zs (c : Int) {l m : List Int} (h : l.length = m.length) (x y : Int) : ev (zs c l m) x y = ev l x y + c * ev m x y := by
  have hz : (zs c l m).length = l.length := by unfold zs; rw [List.length_zipWith, h, Nat.min_self]
  have co_zs : ∀ k, co (zs c l m) k = co l k + c * co m k := fun k => by
    unfold zs
    by_cases hk : k < l.length
    · rw [co_get (by rw [List.length_zipWith]; omega), co_get hk, co_get (by omega), List.getElem_zipWith]
    · rw [co_far (by rw [List.length_zipWith]; omega), co_far (by omega), co_far (by omega), Int.mul_zero]
      rfl
  unfold ev
  rw [hz, ← h, ← evF_mul, ← evF_add]
  exact evF_congr _ fun i _ => co_zs i
theorem ev_map (c : Int) (l : List Int) (x y : Int) : ev (l.map (c * ·)) x y = c * ev l x y := by
  unfold ev
  rw [List.length_map, ← evF_mul]
  exact evF_congr _ fun i _ => co_map c l i
theorem ev_one (x y : Int) : ev [1] x y = 1 := by
  rw [ev_cons]
  show 1 * x ^ 0 + y * 0 = 1
  rw [Int.pow_zero, Int.mul_zero]
  rfl
theorem ev_nil (x y : Int) : ev [] x y = 0 := rfl
theorem pow_ne {l : List Int} (h : l ≠ []) : ∀ n, pow l n ≠ []
  | 0 => by show [1] ≠ []; simp
  | n + 1 => ml_ne (pow_ne h n) h
theorem pow_len {l : List Int} (h : l.length = 2) : ∀ n, (pow l n).length = n + 1
  | 0 => rfl
  | n + 1 => by
    show (ml (pow l n) l).length = _
    rw [ml_len, pow_len h n, h]
    omega
theorem ev_pow {l : List Int} (h : l ≠ []) (x y : Int) : ∀ n, ev (pow l n) x y = ev l x y ^ n
  | 0 => by rw [Int.pow_zero]; exact ev_one x y
  | n + 1 => by
    show ev (ml (pow l n) l) x y = _
    rw [ev_ml (pow_ne h n) h, ev_pow h x y n, Int.pow_succ]
theorem zs_len {c : Int} {l m : List Int} (h : l.length = m.length) : (zs c l m).length = l.length := by unfold zs; rw [List.length_zipWith, h, Nat.min_self]
/-- how the program changes: the entries that are left, what is found, the power of the second row -/
def chg (X Y : List Int) : List Int → List Int → List Int → List Int
  | [], f, _ => f
  | e :: r, f, p => chg X Y r (zs e (ml f X) (ml p Y)) (ml p Y)
theorem chg_len {X Y : List Int} (hX : X.length = 2) (hY : Y.length = 2) : ∀ (r f p : List Int), f ≠ [] → f.length = p.length → (chg X Y r f p).length = f.length + r.length
  | [], f, p, _, _ => rfl
  | e :: r, f, p, nf, h => by
    have pf : 0 < f.length := List.length_pos_iff.mpr nf
    have l1 : (ml f X).length = f.length + 1 := by rw [ml_len, hX]; omega
    have l2 : (ml p Y).length = f.length + 1 := by rw [ml_len, hY, ← h]; omega
    have l3 : (zs e (ml f X) (ml p Y)).length = f.length + 1 := by rw [zs_len (by rw [l1, l2]), l1]
    show (chg X Y r (zs e (ml f X) (ml p Y)) (ml p Y)).length = _
    rw [chg_len hX hY r _ _ (fun z => by rw [z] at l3; cases l3) (by rw [l3, l2]), l3, List.length_cons]
    omega
theorem ev_chg {X Y : List Int} (hX : X.length = 2) (hY : Y.length = 2) (x y : Int) : ∀ (r f p : List Int), f ≠ [] → f.length = p.length →
    ev (chg X Y r f p) x y = ev f x y * ev X x y ^ r.length + ev p x y * ev Y x y * ev r (ev X x y) (ev Y x y)
  | [], f, p, _, _ => by
    show ev f x y = ev f x y * ev X x y ^ 0 + ev p x y * ev Y x y * 0
    rw [Int.pow_zero, Int.mul_one, Int.mul_zero, Int.add_zero]
  | e :: r, f, p, nf, h => by
    have pf : 0 < f.length := List.length_pos_iff.mpr nf
    have np : p ≠ [] := fun z => by rw [z] at h; simp at h; exact nf h
    have nX : X ≠ [] := fun z => by rw [z] at hX; cases hX
    have nY : Y ≠ [] := fun z => by rw [z] at hY; cases hY
    have l1 : (ml f X).length = f.length + 1 := by rw [ml_len, hX]; omega
    have l2 : (ml p Y).length = f.length + 1 := by rw [ml_len, hY, ← h]; omega
    have l3 : (zs e (ml f X) (ml p Y)).length = f.length + 1 := by rw [zs_len (by rw [l1, l2]), l1]
    show ev (chg X Y r (zs e (ml f X) (ml p Y)) (ml p Y)) x y = _
    rw [ev_chg hX hY x y r _ _ (fun z => by rw [z] at l3; cases l3) (by rw [l3, l2]), ev_zs e (by rw [l1, l2]), ev_ml nf nX, ev_ml np nY, ev_cons, List.length_cons, Int.pow_succ]
    generalize ev f x y = a
    generalize ev p x y = b
    generalize ev X x y = u
    generalize ev Y x y = v
    generalize ev r u v = w
    generalize u ^ r.length = z
    grind
/-- the changed form -/
def changed (X Y l : List Int) : List Int := chg X Y l.tail [co l 0] [1]
theorem changed_len {X Y l : List Int} (hX : X.length = 2) (hY : Y.length = 2) (h : l ≠ []) : (changed X Y l).length = l.length := by
  match l, h with
  | a :: r, _ =>
    show (chg X Y r [a] [1]).length = _
    rw [chg_len hX hY r [a] [1] (by simp) rfl]
    show 1 + r.length = r.length + 1
    omega
theorem ev_changed {X Y l : List Int} (hX : X.length = 2) (hY : Y.length = 2) (h : l ≠ []) (x y : Int) : ev (changed X Y l) x y = ev l (ev X x y) (ev Y x y) := by
  match l, h with
  | a :: r, _ =>
    show ev (chg X Y r [a] [1]) x y = _
    rw [ev_chg hX hY x y r [a] [1] (by simp) rfl, ev_one, ev_cons a r, Int.one_mul, ev_cons a []]
    show (a * x ^ 0 + y * 0) * _ + _ = _
    rw [Int.pow_zero, Int.mul_one, Int.mul_zero, Int.add_zero]
theorem ev_rep (n : Nat) (x y : Int) : ev (List.replicate n 0) x y = 0 := by
  unfold ev
  rw [show evF (List.replicate n (0 : Int)).length (co (List.replicate n 0)) x y = evF (List.replicate n (0 : Int)).length (fun _ => 0) x y from evF_congr _ fun i hi => by
    rw [co_get hi, List.getElem_replicate], evF_zero]
theorem ev2 (a b x y : Int) : ev [a, b] x y = a * x + b * y := by
  rw [ev_cons, ev_cons, ev_nil]
  show a * x ^ 1 + y * (b * x ^ 0 + y * 0) = _
  rw [Int.pow_zero, Int.pow_succ, Int.pow_zero]
  grind
theorem pow_zero {c : Int} : ∀ {n : Nat}, c ^ n = 0 → c = 0
  | 0, h => by rw [Int.pow_zero] at h; cases h
  | n + 1, h => by
    rw [Int.pow_succ] at h
    rcases Int.mul_eq_zero.mp h with e | e
    · exact pow_zero e
    · exact e
/-- a form of a degree, at multiples -/
theorem evF_hom (c : Int) (g : Nat → Int) (x y : Int) : ∀ n, c * evF n g (c * x) (c * y) = c ^ n * evF n g x y
  | 0 => by show c * 0 = _ * 0; rw [Int.mul_zero, Int.mul_zero]
  | n + 1 => by
    have ih := evF_hom c g x y n
    show c * (c * x * evF n g (c * x) (c * y) + g n * (c * y) ^ n) = c ^ (n + 1) * (x * evF n g x y + g n * y ^ n)
    rw [Int.mul_pow, Int.pow_succ]
    generalize evF n g (c * x) (c * y) = w at *
    generalize evF n g x y = z at *
    generalize c ^ n = A at *
    generalize y ^ n = B
    grind
theorem zero_of_ev {l : List Int} (h : ∀ x y, ev l x y = 0) : ∀ z ∈ l, z = 0 := by
  have e : l = List.replicate l.length 0 := ev_inj (by rw [List.length_replicate]) fun x y => by rw [h, ev_rep]
  intro z hz
  rw [e] at hz
  exact (List.mem_replicate.mp hz).2
theorem ev_zero {l : List Int} (h : ∀ z ∈ l, z = 0) (x y : Int) : ev l x y = 0 := by
  have e : l = List.replicate l.length 0 := List.eq_replicate_iff.mpr ⟨rfl, h⟩
  rw [e, ev_rep]
/-- no form other than zero becomes zero -/
theorem changed_zero {a b c d : Int} {l : List Int} (hd : a * d - b * c ≠ 0) (nl : l ≠ []) : ((changed [a, b] [c, d] l).any (· != 0)) = l.any (· != 0) := by
  have key : (∀ z ∈ changed [a, b] [c, d] l, z = 0) ↔ ∀ z ∈ l, z = 0 := by
    constructor
    · intro h
      refine zero_of_ev fun x y => ?_
      have h1 : ∀ u v, ev l (a * u + b * v) (c * u + d * v) = 0 := fun u v => by
        rw [← ev2, ← ev2 c d, ← ev_changed rfl rfl nl, ev_zero h]
      have h2 := h1 (d * x - b * y) (a * y - c * x)
      rw [show a * (d * x - b * y) + b * (a * y - c * x) = (a * d - b * c) * x by grind, show c * (d * x - b * y) + d * (a * y - c * x) = (a * d - b * c) * y by grind] at h2
      have h3 := evF_hom (a * d - b * c) (co l) x y l.length
      rw [show evF l.length (co l) ((a * d - b * c) * x) ((a * d - b * c) * y) = 0 from h2, Int.mul_zero] at h3
      rcases Int.mul_eq_zero.mp h3.symm with e | e
      · exact absurd (pow_zero e) hd
      · exact e
    · intro h
      refine zero_of_ev fun x y => ?_
      rw [ev_changed rfl rfl nl, ev_zero h]
  by_cases c1 : ∀ z ∈ l, z = 0
  · have c2 := key.mpr c1
    have f : ∀ m : List Int, (∀ z ∈ m, z = 0) → m.any (· != 0) = false := fun m hm => by
      rw [List.any_eq_false]
      intro z hz
      rw [hm z hz]
      decide
    rw [f _ c1, f _ c2]
  · have c2 : ¬ ∀ z ∈ changed [a, b] [c, d] l, z = 0 := fun z => c1 (key.mp z)
    have f : ∀ m : List Int, (¬ ∀ z ∈ m, z = 0) → m.any (· != 0) = true := fun m hm => by
      refine Classical.byContradiction fun q => hm fun z hz => ?_
      have := List.any_eq_false.mp (Bool.not_eq_true _ ▸ q) z hz
      simpa using this
    rw [f _ c1, f _ c2]
/-! ### derivatives -/
/-- derived by x, by y -/
def dX (l : List Int) : List Int := tb (l.length - 1) fun k => co l k * ((l.length : Int) - 1 - k)
def dY (l : List Int) : List Int := tb (l.length - 1) fun k => co l (k + 1) * ((k : Int) + 1)
theorem co_zs' (c : Int) {l m : List Int} (h : l.length = m.length) (k : Nat) : co (zs c l m) k = co l k + c * co m k := by
  unfold zs
  by_cases hk : k < l.length
  · rw [co_get (by rw [List.length_zipWith]; omega), co_get hk, co_get (by omega), List.getElem_zipWith]
  · rw [co_far (by rw [List.length_zipWith]; omega), co_far (by omega), co_far (by omega), Int.mul_zero]
    rfl
def it (f : List Int → List Int) : Nat → List Int → List Int
  | 0, l => l
  | n + 1, l => f (it f n l)
/-- derived i times by x, j times by y -/
def dd (i j : Nat) (l : List Int) : List Int := it dY j (it dX i l)
end K08

set_option Elab.async false
set_option linter.all false
set_option maxRecDepth 100000
set_option maxHeartbeats 4000000
namespace K08
open PySem PySem.Spec PyProof.Rows L2 StX RZ MyR SlX OwnR OwnF EnumT
/-- a comprehension over enumerate of a tuple -/
theorem lc_enumT {K : PySem.W.Frag} {a : Addr} {xs : List V} {g : TG} {tt : TT} {te : TE} {vs : List Nat} {σ : L2.St} {H1 : Hp} {D : Addr} {Qd : Hp → Prop} (Pv : Nat → Hp → Prop) (h0 : Pv 0 (upd H1 D (.lst []))) (hq : ∀ i H, i ≤ xs.length → Pv i H → SqT K H a xs)
    (hs : ∀ (i : Nat) (x : V) (T : Addr) (H : Hp), xs[i]? = some x → Pv i H → H T = none → g (.ref T) (wipe σ vs) (upd H T (.tup [.int (i : Nat), x])) fun σ2 H2 => wipe σ2 vs = wipe σ vs ∧ tt σ2 H2 fun b H3 =>
      if b = true then te σ2 H3 fun y H4 => ∃ acc, H4 D = some (.lst acc) ∧ acc.length < sizeLine ∧ Pv (i + 1) (upd H4 D (.lst (acc ++ [y]))) else Pv (i + 1) H3) (hd : ∀ H, Pv xs.length H → Qd H) :
    ∃ W : Nat → Nat → Hp → Prop, (∃ m, W 0 m (upd H1 D (.lst []))) ∧ ∀ i m H, W i m H →
      ((IteT K a).stop i H ∧ Qd H) ∨ ((IteT K a).go i H ∧ ∃ Nx : Hp → Prop, (∀ H', Nx H' → ∃ m', m' < m ∧ W (i + 1) m' H') ∧ ∀ x H', (IteT K a).yld i H x H' → g x (wipe σ vs) H' fun σ2 H2 => wipe σ2 vs = wipe σ vs ∧ tt σ2 H2 fun b H3 =>
        if b = true then te σ2 H3 fun y H4 => ∃ acc, H4 D = some (.lst acc) ∧ acc.length < sizeLine ∧ Nx (upd H4 D (.lst (acc ++ [y]))) else Nx H3) := by
  refine ⟨fun i m H => m = xs.length - i ∧ i ≤ xs.length ∧ Pv i H, ⟨xs.length, by simp, Nat.zero_le _, h0⟩, ?_⟩
  rintro i m H ⟨rfl, hi, p⟩
  have qx := hq i H hi p
  by_cases hlt : i < xs.length
  · have hx : xs[i]? = some xs[i] := List.getElem?_eq_getElem hlt
    refine .inr ⟨⟨xs, _, qx, hx⟩, Pv (i + 1), fun H' p' => ⟨xs.length - (i + 1), by omega, rfl, hlt, p'⟩, fun v H' y => ?_⟩
    obtain ⟨T, x', rfl, hT, rfl, f1⟩ := y
    exact hs i x' T H (f1 xs qx) p hT
  · have e : i = xs.length := by omega
    subst e
    exact .inl ⟨⟨xs, qx, rfl⟩, hd H p⟩
section
variable {P : Program} {w : World} {K : PySem.W.Frag} {mg : Str → Option Value} {base : Heap}
theorem ok_product_in (T : Facts K mg) : FnOk P w K mg base CX0 2 T.f_product_in T.fd_product_in ["one", "other"] (spJoin K) := by
  have G_joined_entries : FnOk P w K mg base CX0 1 T.f_joined_entries T.fd_joined_entries ["one", "other"] (spJoin K) := ok_joined_entries T
  refine T.F_product_in.ok sc_product_in (fun vs H Q E h => ?_) (fun cdv A outer s H vs Q E hr h => ?_)
  · obtain ⟨a, b, xs, ys, rfl, _⟩ := h
    rfl
  · obtain ⟨a, b, xs, ys, rfl, h⟩ := h
    refine ⟨_, (PSs.nox (pss_one (ps_ret (pe_call G_joined_entries hr (by rfl) T.g_joined_entries T.F_joined_entries.kp T.b_joined_entries .nil pass0 (pa_cons (pv 0) (pa_cons (pv 1) pa_nil)))))), ?_⟩
    exact ⟨_, rfl, _, rfl, a, b, xs, ys, rfl, h⟩
def spFrom : Sp := fun vs H Q _ => ∃ i lo hi : Int, vs = [.int i, .int lo, .int hi] ∧ lo ≤ i ∧ i ≤ hi ∧ Q (.bl true) H
theorem ok_is_from (T : Facts K mg) : FnOk P w K mg base CX0 2 T.f_is_from T.fd_is_from ["value", "least", "most"] spFrom := by
  have G_is_whole : FnOk P w K mg base CX0 1 T.f_is_whole T.fd_is_whole ["value"] spWhole := ok_is_whole T
  refine T.F_is_from.ok sc_is_from (fun vs H Q E h => ?_) (fun cdv A outer s H vs Q E hr h => ?_)
  · obtain ⟨i, lo, hi, rfl, _⟩ := h
    rfl
  · obtain ⟨i, lo, hi, rfl, h1, h2, q⟩ := h
    refine ⟨_, (PSs.nox (pss_one (ps_ret (pe_and (pe_call G_is_whole hr (by rfl) T.g_is_whole T.F_is_whole.kp T.b_is_whole .nil pass0 (pa_cons (pv 0) pa_nil)) (pe_one (pe_chain op_le op_le (pv 1) (pv 0) (pv 2))))))), ?_⟩
    refine ⟨_, rfl, i, rfl, true, rfl, iteT ⟨_, rfl, _, rfl, _, _, rfl, rfl, true, ?_, iteT ⟨_, rfl, _, _, rfl, rfl, ?_⟩⟩⟩
    · show V.bl (decide (lo ≤ i)) = _
      rw [decide_eq_true h1]
    · show Q (V.bl (decide (i ≤ hi))) H
      rw [decide_eq_true h2]
      exact q
def spReqFrom : Sp := fun vs H Q _ => ∃ i lo hi : Int, vs = [.int i, .int lo, .int hi] ∧ lo ≤ i ∧ i ≤ hi ∧ Q .non H
theorem ok_require_from (T : Facts K mg) : FnOk P w K mg base CX0 3 T.f_require_from T.fd_require_from ["value", "least", "most"] spReqFrom := by
  have G_is_from := ok_is_from (P := P) (w := w) (base := base) T
  refine T.F_require_from.ok sc_require_from (fun vs H Q E h => ?_) (fun cdv A outer s H vs Q E hr h => ?_)
  · obtain ⟨i, lo, hi, rfl, _⟩ := h
    rfl
  · obtain ⟨i, lo, hi, rfl, h1, h2, q⟩ := h
    refine ⟨_, (PSs.nox (pss_one (ps_if (pt_not (pt_val (pe_call G_is_from hr (by rfl) T.g_is_from T.F_is_from.kp T.b_is_from .nil pass0 (pa_cons (pv 0) (pa_cons (pv 1) (pa_cons (pv 2) pa_nil))))))
      (pss_one ps_never)
      pss_nil))), ?_⟩
    exact ⟨_, rfl, _, rfl, _, rfl, i, lo, hi, rfl, h1, h2, true, rfl, iteF q⟩
/-! ### values -/
/-- what is asked of a value's letters -/
structure Vb (l : List Int) (x y : Int) (M : Nat) : Prop where
  x : x.natAbs ≤ M
  y : y.natAbs ≤ M
  one : 1 ≤ M
  big : nm l * M ^ l.length < 2 ^ 400
  pw : M ^ (l.length + 1) < 2 ^ 400
/-! ### changes -/
/-- a table of two rows of two -/
def Tb (H : Hp) (t : Addr) (X Y : List Int) : Prop := ∃ r0 r1, H t = some (.tup [.ref r0, .ref r1]) ∧ H r0 = some (tp X) ∧ H r1 = some (tp Y)
theorem Tb.same {H H' : Hp} {t : Addr} {X Y : List Int} (h : Tb H t X Y) (s : Same H H') : Tb H' t X Y := by
  obtain ⟨r0, r1, h1, h2, h3⟩ := h
  exact ⟨r0, r1, s _ _ h1, s _ _ h2, s _ _ h3⟩
theorem Tb.sx {H H' : Hp} {t d : Addr} {X Y : List Int} (h : Tb H t X Y) (hd : Dc H d) (s : Sx d H H') : Tb H' t X Y := by
  obtain ⟨r0, r1, h1, h2, h3⟩ := h
  exact ⟨r0, r1, s _ _ (dc_ne hd h1) h1, s _ _ (dc_ne hd h2) h2, s _ _ (dc_ne hd h3) h3⟩
/-- short pairs -/
structure Pr2 (X : List Int) : Prop where
  len : X.length = 2
  sho : ∀ x ∈ X, Sho x
def spIsChange : Sp := fun vs H Q _ => ∃ (t : Addr) (X Y : List Int), vs = [.ref t] ∧ Tb H t X Y ∧ Pr2 X ∧ Pr2 Y ∧ ∀ H', Same H H' → Q (.bl true) H'
theorem ok_is_change (T : Facts K mg) : FnOk P w K mg base CX0 4 T.f_is_change T.fd_is_change ["value"] spIsChange := by
  have G_are_short : FnOk P w K mg base CX0 3 T.f_are_short T.fd_are_short ["value"] spAreShort := ok_are_short T
  refine T.F_is_change.ok sc_is_change (fun vs H Q E h => ?_) (fun cdv A outer s H vs Q E hr h => ?_)
  · obtain ⟨t, X, Y, rfl, _⟩ := h
    rfl
  · obtain ⟨t, X, Y, rfl, ⟨r0, r1, h1, h2, h3⟩, hX, hY, q⟩ := h
    refine ⟨_, (PSs.nox (pss_cons (ps_if (pw_or (pt_not (pt_val (pe_callB call_isi (by rfl) T.z_isinstance (by decide +kernel) (pa_cons (pv 0) (pa_cons (pe_bltn (v := .ty "tuple") (by rfl) T.z_tuple (by decide +kernel) rfl) pa_nil))))) (pw_or1 (pt_cmpR op_ne (pe_callB call_len_seq (by rfl) T.z_len (by decide +kernel) (pa_cons (pv 0) pa_nil)) pe_int (nomark _)))).pt
      (pss_one (ps_ret pe_bl))
      pss_nil)
    (pss_one (ps_ret (pe_callB (cr_all (by rfl)) (by rfl) T.z_all (by decide +kernel) (pa_cons (pe_lc (own := [("row", 1)]) (g := (gName 1)) (tt := tYes) (by rfl) sc_is_change.nd (pi_tup (pv 0)) (blkOk_by (N := N_is_change) (sc := defScope s_is_change) (by decide +kernel)) (fun _ _ _ _ _ => (pg_name (i := 1) sc_is_change.nd rfl (.inl rfl))) (fun _ _ _ _ _ => pts_nil) (fun _ _ _ _ _ => (pe_and (pe_call G_are_short hr (by rfl) T.g_are_short T.F_are_short.kp T.b_are_short .nil pass0 (pa_cons (pv 1) pa_nil)) (pe_one (pe_cmpR op_eq (pe_callB (call_len_seq : CallR _ _ (Evl.rLenS K)) (by rfl) T.z_len (by decide +kernel) (pa_cons (pv 1) pa_nil)) pe_int (nomark _)))))) pa_nil)))))), ?_⟩
    refine ⟨_, rfl, .ref t, .ty "tuple", .type "tuple", .type "tuple", true, rfl, .ty "tuple", .base (.tup h1), kit_ty (show kitB "tuple" "tuple" = some true by decide +kernel), true, rfl, iteF ?_⟩
    refine ⟨_, rfl, t, _, rfl, .inr (SqT.of h1), rfl, _, rfl, iteF ?_⟩
    refine ⟨_, rfl, t, rfl, ⟨_, SqT.of h1⟩, fun D hD => lc_tup (xs := [.ref r0, .ref r1]) (fun i H' => Same H H' ∧ H' D = some (.lst (List.replicate i (V.bl true)))) ⟨same_upd0 hD, upd_same⟩ (fun i H' _ hP => SqT.of (hP.1 _ _ h1)) (fun i x H' hx hP => ?_) (fun H' hP => ?_)⟩
    · obtain ⟨sH, hL⟩ := hP
      obtain ⟨r, Z, rfl, hr2, hZ⟩ : ∃ r Z, x = .ref r ∧ H r = some (tp Z) ∧ Pr2 Z := by
        have hm := List.mem_of_getElem? hx
        simp only [List.mem_cons, List.not_mem_nil, or_false] at hm
        rcases hm with e | e <;> rw [e]
        · exact ⟨_, _, rfl, h2, hX⟩
        · exact ⟨_, _, rfl, h3, hY⟩
      have hi2 : i < 2 := (List.getElem?_eq_some_iff.mp hx).1
      refine ⟨rfl, _, rfl, r, Z, rfl, sH _ _ hr2, by rw [hZ.len]; decide, hZ.sho, fun H2 s2 => ⟨true, rfl, iteT ⟨_, rfl, r, _, rfl, .inr (SqT.of (s2 _ _ (sH _ _ hr2))), rfl, _, s2 _ _ hL, ?_, fun b o e => ?_, ?_⟩⟩⟩
      · rw [List.length_replicate]
        exact small1000 (by omega)
      · rw [upd_ne (ne_of_none e hD)]
        exact s2 _ _ (sH _ _ e)
      · rw [upd_same, List.length_map, hZ.len, List.replicate_succ']
        rfl
    · obtain ⟨sH, hL⟩ := hP
      exact ⟨D, [true, true], rfl, SqL.of hL, q _ sH⟩
def spReqChange : Sp := fun vs H Q _ => ∃ (t : Addr) (X Y : List Int), vs = [.ref t] ∧ Tb H t X Y ∧ Pr2 X ∧ Pr2 Y ∧ ∀ H', Same H H' → Q .non H'
theorem ok_require_change (T : Facts K mg) : FnOk P w K mg base CX0 5 T.f_require_change T.fd_require_change ["value"] spReqChange := by
  have G_is_change := ok_is_change (P := P) (w := w) (base := base) T
  refine T.F_require_change.ok sc_require_change (fun vs H Q E h => ?_) (fun cdv A outer s H vs Q E hr h => ?_)
  · obtain ⟨t, X, Y, rfl, _⟩ := h
    rfl
  · obtain ⟨t, X, Y, rfl, ht, hX, hY, q⟩ := h
    refine ⟨_, (PSs.nox (pss_one (ps_if (pt_not (pt_val (pe_call G_is_change hr (by rfl) T.g_is_change T.F_is_change.kp T.b_is_change .nil pass0 (pa_cons (pv 0) pa_nil))))
      (pss_one ps_never)
      pss_nil))), ?_⟩
    exact ⟨_, rfl, t, X, Y, rfl, ht, hX, hY, fun H' s => ⟨true, rfl, iteF (q H' s)⟩⟩
theorem cut_tail (xs : List V) (h : 1 ≤ xs.length) : cutV xs (some 1) none = xs.drop 1 := by
  unfold cutV
  have e1 : HT.sIx xs.length 0 (some 1) = 1 := by
    unfold HT.sIx
    simp only []
    split <;> omega
  have e2 : HT.sIx xs.length xs.length none = xs.length := rfl
  rw [e1, e2]
  exact List.take_of_length_le (by rw [List.length_drop]; omega)
/-- all that is made on the way is let -/
def ChOk (X Y : List Int) : List Int → List Int → List Int → Prop
  | [], _, _ => True
  | e :: r, f, p => Rw f ∧ Rw p ∧ sm e ∧ Rw (ml p Y) ∧ Rw (ml f X) ∧ ChOk X Y r (zs e (ml f X) (ml p Y)) (ml p Y)
def spChanged : Sp := fun vs H Q _ => ∃ (a t : Addr) (l X Y : List Int), vs = [.ref a, .ref t] ∧ H a = some (tp l) ∧ Tb H t X Y ∧ l ≠ [] ∧ l.length ≤ 100 ∧ X.length = 2 ∧ Y.length = 2 ∧ Rw X ∧ Rw Y ∧ ChOk X Y l.tail [co l 0] [1] ∧ ∀ p H', Same H H' → H' p = some (tp (changed X Y l)) → Q (.ref p) H'
theorem ok_changed_in (T : Facts K mg) : FnOk P w K mg base CX0 3 T.f_changed_in T.fd_changed_in ["entries", "table"] spChanged := by
  have G_product_in := ok_product_in (P := P) (w := w) (base := base) T
  refine T.F_changed_in.ok sc_changed_in (fun vs H Q E h => ?_) (fun cdv A outer s H vs Q E hr h => ?_)
  · obtain ⟨a, t, l, X, Y, rfl, _⟩ := h
    rfl
  · obtain ⟨a, t, l, X, Y, rfl, ha, ht, nl, hl, lX, lY, rX, rY, ok, q⟩ := h
    obtain ⟨r0, r1, h1, h2, h3⟩ := ht
    have pl : 0 < l.length := List.length_pos_iff.mpr nl
    refine ⟨_, (PSs.nox (pss_cons (ps_par (i := 2) (j := 3) (by rfl) sc_changed_in.nd rfl rfl (by decide) rfl rfl (pa_cons (pe_tup (pa_cons (pe_ix ix_tup (pv 0) pe_int (fun _ _ => rfl)) pa_nil)) (pa_cons (pe_tup (pa_cons pe_int pa_nil)) pa_nil)) (by rfl))
    (pss_cons (ps_for PassesOwn.never (by rfl) (pi_tup (pe_slice sl_tupA (pv 0) (po_some pe_int) po_none)) (pg_name (i := 4) sc_changed_in.nd rfl (.inr rfl))
      (pss_cons (ps_set (i := 3) sc_changed_in.nd rfl (.inl rfl) (pe_call G_product_in hr (by rfl) T.g_product_in T.F_product_in.kp T.b_product_in .nil pass0 (pa_cons (pv 3) (pa_cons (pe_ix ix_tup (pv 1) pe_int (fun _ _ => rfl)) pa_nil))))
      (pss_cons (ps_set (i := 5) sc_changed_in.nd rfl (.inl rfl) (pe_call G_product_in hr (by rfl) T.g_product_in T.F_product_in.kp T.b_product_in .nil pass0 (pa_cons (pv 2) (pa_cons (pe_ix ix_tup (pv 1) pe_int (fun _ _ => rfl)) pa_nil))))
      (pss_one (ps_set (i := 2) sc_changed_in.nd rfl (.inl rfl) (pe_tupleOf (by rfl) T.z_tuple (pe_lc (own := [("first", 6), ("second", 7)]) (g := (gTup K 2 (gCons (gName 6) (gCons (gName 7) gNil)))) (tt := tYes) (by rfl) sc_changed_in.nd (pi_zipA (by rfl) T.z_zip (pa_cons (pv 5) (pa_cons (pv 3) pa_nil))) (blkOk_by (N := N_changed_in) (sc := defScope s_changed_in) (by decide +kernel)) (fun _ _ _ _ _ => (pg_tup (by rfl) (pgs_cons (pg_name (i := 6) sc_changed_in.nd rfl (.inl rfl)) (pgs_cons (pg_name (i := 7) sc_changed_in.nd rfl (.inl rfl)) pgs_nil)))) (fun _ _ _ _ _ => pts_nil) (fun _ _ _ _ _ => (pe_op op_add (pv 6) (pe_op op_mulW (pv 4) (pv 7)))))))))))
    (pss_one (ps_ret (pv 2)))))), ?_⟩
    refine ⟨_, rfl, a, _, 0, _, rfl, rfl, SqT.of ha, atI_nat (get_int pl), by show 1 ≤ sizeLine; decide, fun p0 n0 => gen_upd H p0 (tp [co l 0]) n0 fun H1 s1 f1 => ⟨by show 1 ≤ sizeLine; decide, fun p1 n1 => gen_upd H1 p1 (tp [1]) n1 fun H2 s2 f2 => ⟨_, _, rfl, ?_⟩⟩⟩
    have s02 := s1.trans s2
    have e1 : HT.sIx l.length 0 (some 1) = 1 := by
      unfold HT.sIx
      simp only []
      split <;> omega
    have ecut : HO.tup (cutV (l.map V.int) (some 1) none) = tp l.tail := by
      rw [cut_tail _ (by rw [List.length_map]; exact pl), ← List.map_drop, List.drop_one]
    refine ⟨_, rfl, 1, rfl, a, _, rfl, SqT.of (s02 _ _ ha), fun z => absurd z.1 (by rw [List.length_map, e1]; decide), fun _ p2 n2 => ?_⟩
    rw [ecut]
    refine gen_upd H2 p2 (tp l.tail) n2 fun H3 s3 f3 => ?_
    have s03 := s02.trans s3
    have ltail : l.tail.length = l.length - 1 := List.length_tail
    refine ⟨p2, rfl, ⟨_, SqT.of f3⟩, for_tup (xs := l.tail.map V.int) (fun i σ H' => ∃ (f p : List Int) (fa pa : Addr) (y4 y5 : Option V), σ = [some (.ref a), some (.ref t), some (.ref fa), some (.ref pa), y4, y5, none, none] ∧ Same H3 H' ∧ H' fa = some (tp f) ∧ H' pa = some (tp p) ∧ f.length = i + 1 ∧ p.length = i + 1 ∧ ChOk X Y (l.tail.drop i) f p ∧ chg X Y (l.tail.drop i) f p = changed X Y l) ⟨_, _, p0, p1, none, none, rfl, Same.rf _, (s2.trans s3) _ _ f1, s3 _ _ f2, rfl, rfl, ok, rfl⟩ (fun i σ H' _ hP => ?_) (fun i z σ H' hz hP => ?_) (fun σ H' hP => ?_)⟩
    · obtain ⟨f, p, fa, pa, y4, y5, _, sH, _⟩ := hP
      exact SqT.of (sH _ _ f3)
    · obtain ⟨f, p, fa, pa, y4, y5, rfl, sH, hf, hp, lf, lp, okI, eI⟩ := hP
      obtain ⟨hi, rfl⟩ := int_get hz
      have ed : l.tail.drop i = co l.tail i :: l.tail.drop (i + 1) := by
        rw [co_get hi]
        exact List.drop_eq_getElem_cons hi
      rw [ed] at okI eI
      obtain ⟨rf, rp, se, rpY, rfX, okN⟩ := okI
      have tH := s03.trans sH
      refine ⟨_, rfl, _, rfl, t, _, 1, _, rfl, rfl, SqT.of (tH _ _ h1), atI_nat (j := 1) rfl, pa, r1, p, Y, rfl, hp, tH _ _ h3, rp.ne, rY.ne, rp.len, rY.len, rp.sm, rY.sm, fun q1 J1 g1 _ k1 => ?_⟩
      have tJ1 := tH.trans g1
      refine ⟨_, rfl, _, rfl, t, _, 0, _, rfl, rfl, SqT.of (tJ1 _ _ h1), atI_nat (j := 0) rfl, fa, r0, f, X, rfl, g1 _ _ hf, tJ1 _ _ h2, rf.ne, rX.ne, rf.len, rX.len, rf.sm, rX.sm, fun q2 J2 g2 _ k2 => ?_⟩
      have k1' := g2 _ _ k1
      have l1 : (ml p Y).length = i + 2 := by rw [ml_len, lp, lY]; omega
      have l2 : (ml f X).length = i + 2 := by rw [ml_len, lf, lX]; omega
      refine ⟨_, rfl, _, rfl, q2, q1, _, _, rfl, .inr ⟨SqT.of k2, SqT.of k1', fun D hD => ?_⟩⟩
      refine lc_zipT (xs := (ml f X).map V.int) (ys := (ml p Y).map V.int) (by rw [List.length_map, List.length_map, l1, l2]) (fun j H' => Same J2 H' ∧ H' D = some (.lst (tab j fun k => co (ml f X) k + co l.tail i * co (ml p Y) k))) ⟨same_upd0 hD, upd_same⟩ (fun j H' _ hP => ⟨SqT.of (hP.1 _ _ k2), SqT.of (hP.1 _ _ k1')⟩) (fun j x y T H' hx hy hP hT => ?_) (fun H4 hP => ?_)
      · obtain ⟨sH4, hD'⟩ := hP
        obtain ⟨hj, rfl⟩ := int_get hx
        obtain ⟨hj2, rfl⟩ := int_get hy
        have sT := same_upd0 (o := .tup [.int (co (ml f X) j), .int (co (ml p Y) j)]) hT
        refine ⟨T, _, rfl, SqT.of upd_same, rfl, _, _, rfl, _, _, rfl, rfl, rfl, _, rfl, _, rfl, _, rfl, _, _, rfl, rfl, sm_mul se (sm_co rpY.sm hj2), _, _, rfl, rfl, _, sT _ _ hD', ?_, fun b o e => ?_, ?_⟩
        · rw [tab_len]
          exact small1000 (by omega)
        · rw [upd_ne (ne_of_none e hD)]
          exact sT _ _ (sH4 _ _ e)
        · rw [upd_same, ← tab_snoc]
      · obtain ⟨sH4, hD'⟩ := hP
        rw [List.length_map] at hD'
        refine .inl ⟨D, _, rfl, SqL.of hD', fun p5 n5 => ?_⟩
        rw [tab_tb, zs_tb (by rw [l1, l2])]
        refine gen_upd H4 p5 _ n5 fun H5 s5 f5 => ⟨_, _, p5, q1, _, _, rfl, ((sH.trans (g1.trans g2)).trans sH4).trans s5, f5, (sH4.trans s5) _ _ k1', by rw [zs_len (by rw [l1, l2]), l2], l1, okN, eI⟩
    · obtain ⟨f, p, fa, pa, y4, y5, rfl, sH, hf, hp, lf, lp, okI, eI⟩ := hP
      rw [List.length_map, List.drop_length] at eI
      refine ⟨_, rfl, q fa H' (s03.trans sH) ?_⟩
      rw [← eI]
      exact hf
end
end K08

set_option Elab.async false
set_option linter.all false
set_option maxRecDepth 100000
set_option maxHeartbeats 4000000
namespace K08
open PySem PySem.Spec PyProof.Rows L2 StX RZ MyR SlX OwnR OwnF EnumT
section
variable {P : Program} {w : World} {K : PySem.W.Frag} {mg : Str → Option Value} {base : Heap}
/-- all that is derived on the way is let -/
structure DdOk (i j : Nat) (l : List Int) : Prop where
  len : i + j + 1 ≤ l.length
  le : l.length ≤ 100
  sx : ∀ u, u ≤ i → ∀ z ∈ it dX u l, sm z
  sy : ∀ u, u ≤ j → ∀ z ∈ it dY u (it dX i l), sm z
def spChangedM (C : Addr) : Sp := fun vs H Q _ => ∃ (a t : Addr) (l X Y : List Int), vs = [.ref a, .ref t] ∧ Fo C H a l ∧ Tb H t X Y ∧ l ≠ [] ∧ l.length ≤ 100 ∧ Pr2 X ∧ Pr2 Y ∧ ChOk X Y l.tail [co l 0] [1] ∧ ∀ p H', Same H H' → Fo C H' p (changed X Y l) → Q (.ref p) H'
theorem Pr2.rw {X : List Int} (h : Pr2 X) : Rw X := ⟨fun z => (by have := h.len; rw [z] at this; cases this), (by rw [h.len]; decide), fun x hx => Nat.lt_trans (h.sho x hx) (by decide)⟩
theorem ok_Form_changed (T : Facts K mg) : FnOk P w K mg base CX0 8 T.f_Form_changed T.fd_Form_changed ["self", "table"] (spChangedM T.C_Form) := by
  have G_require_change := ok_require_change (P := P) (w := w) (base := base) T
  have G_changed_in := ok_changed_in (P := P) (w := w) (base := base) T
  have G_form_of : FnOk P w K mg base CX0 7 T.f_form_of T.fd_form_of ["entries"] (spMake T.C_Form) := ok_form_of T
  refine T.F_Form_changed.ok sc_Form_changed (fun vs H Q E h => ?_) (fun cdv A outer s H vs Q E hr h => ?_)
  · obtain ⟨a, t, l, X, Y, rfl, _⟩ := h
    rfl
  · obtain ⟨a, t, l, X, Y, rfl, fa, tb, nl, hl, pX, pY, ok, q⟩ := h
    refine ⟨_, (PSs.nox (pss_cons (ps_expr (pe_call G_require_change (hr.mono (by decide)) (by rfl) T.g_require_change T.F_require_change.kp T.b_require_change .nil pass0 (pa_cons (pv 1) pa_nil)))
    (pss_one (ps_ret (pe_call G_form_of hr (by rfl) T.g_form_of T.F_form_of.kp T.b_form_of .nil pass0 (pa_cons (pe_call G_changed_in (hr.mono (by decide)) (by rfl) T.g_changed_in T.F_changed_in.kp T.b_changed_in .nil pass0 (pa_cons (pe_sl (pv 0)) (pa_cons (pv 1) pa_nil))) pa_nil)))))), ?_⟩
    refine ⟨_, rfl, t, X, Y, rfl, tb, pX, pY, fun H1 s1 => ?_⟩
    obtain ⟨dx, u, ha, hu⟩ := (fa.same s1).slt
    exact ⟨_, rfl, a, T.C_Form, dx, T.a_own_entries, _, 0, .ref u, rfl, ha, T.oc_Form.scl, T.sl_own_entries, rfl, _, rfl, u, t, l, X, Y, rfl, hu, tb.same s1, nl, hl, pX.len, pY.len, pX.rw, pY.rw, ok, fun p H2 s2 hp => ⟨p, _, rfl, hp, fun p2 H3 s3 n3 f3 => q p2 H3 ((s1.trans s2).trans s3) f3⟩⟩
end
end K08

set_option Elab.async false
set_option linter.all false
set_option maxRecDepth 100000
set_option maxHeartbeats 4000000
namespace K08
open PySem PySem.Spec PyProof.Rows L2 StX RZ MyR SlX OwnR OwnF EnumT
/-! ### how large changed and derived forms are -/
theorem bd_zs' {l m : List Int} {n b c : Nat} (e : Int) (h : Bd l n b) (g : Bd m n c) : Bd (zs e l m) n (b + e.natAbs * c) := by
  have hz : zs e l m = zs 1 l (m.map (e * ·)) := by
    refine co_inj (by rw [zs_len (by rw [h.len, g.len]), zs_len (by rw [List.length_map, h.len, g.len])]) fun k => ?_
    rw [co_zs' e (by rw [h.len, g.len]), co_zs' 1 (by rw [List.length_map, h.len, g.len]), co_map, Int.one_mul]
  rw [hz]
  exact bd_zs h (bd_scale g (Nat.le_refl _))
theorem nm_cons (x : Int) (xs : List Int) : nm (x :: xs) = x.natAbs + nm xs := rfl
theorem chg_bd {X Y : List Int} {b : Nat} (hX : Bd X 1 b) (hY : Bd Y 1 b) : ∀ (r f p : List Int) (k S : Nat), Bd f k (S * b ^ k) → Bd p k (b ^ k) → Bd (chg X Y r f p) (k + r.length) ((S + nm r) * b ^ (k + r.length))
  | [], f, p, k, S, hf, hp => hf
  | e :: r, f, p, k, S, hf, hp => by
    have h1 := bd_ml hf hX
    have h2 := bd_ml hp hY
    have h3 := bd_zs' e h1 h2
    have h4 : Bd (zs e (ml f X) (ml p Y)) (k + 1) ((S + e.natAbs) * b ^ (k + 1)) := by
      refine h3.mono (Nat.le_of_eq ?_)
      rw [Nat.add_mul, Nat.pow_succ, Nat.mul_assoc]
    have h5 := chg_bd hX hY r _ _ (k + 1) (S + e.natAbs) h4 (by rw [Nat.pow_succ]; exact h2)
    rw [List.length_cons, nm_cons, show k + (r.length + 1) = k + 1 + r.length by omega, show S + (e.natAbs + nm r) = S + e.natAbs + nm r by omega]
    exact h5
theorem chOk_of {X Y : List Int} {b : Nat} (hb : 1 ≤ b) (hX : Bd X 1 b) (hY : Bd Y 1 b) : ∀ (r f p : List Int) (k S : Nat), Bd f k (S * b ^ k) → Bd p k (b ^ k) → k + r.length ≤ 90 → (S + nm r + 1) * b ^ (k + r.length) < 2 ^ 400 → ChOk X Y r f p
  | [], _, _, _, _, _, _, _, _ => True.intro
  | e :: r, f, p, k, S, hf, hp, hk, hB => by
    have h1 := bd_ml hf hX
    have h2 := bd_ml hp hY
    have h3 := bd_zs' e h1 h2
    have h4 : Bd (zs e (ml f X) (ml p Y)) (k + 1) ((S + e.natAbs) * b ^ (k + 1)) := by
      refine h3.mono (Nat.le_of_eq ?_)
      rw [Nat.add_mul, Nat.pow_succ, Nat.mul_assoc]
    rw [List.length_cons] at hk hB
    rw [nm_cons] at hB
    have pk : b ^ k ≤ b ^ (k + (r.length + 1)) := Nat.pow_le_pow_right hb (by omega)
    have pk1 : b ^ (k + 1) ≤ b ^ (k + (r.length + 1)) := Nat.pow_le_pow_right hb (by omega)
    have fin : ∀ c d : Nat, c ≤ S + (e.natAbs + nm r) + 1 → d ≤ b ^ (k + (r.length + 1)) → c * d < 2 ^ 400 := fun c d hc hd => Nat.lt_of_le_of_lt (Nat.mul_le_mul hc hd) hB
    have f1 := fin S _ (by omega) pk
    have f2 := fin 1 _ (by omega) pk
    have f3 := fin e.natAbs 1 (by omega) (Nat.pow_pos hb)
    have f4 := fin 1 _ (by omega) pk1
    have f5 := fin S _ (by omega) pk1
    rw [Nat.one_mul] at f2 f4
    rw [Nat.mul_one] at f3
    refine ⟨hf.rw (by omega) f1, hp.rw (by omega) f2, f3, h2.rw (by omega) (by rw [← Nat.pow_succ]; exact f4), h1.rw (by omega) (by rw [Nat.mul_assoc, ← Nat.pow_succ]; exact f5), ?_⟩
    refine chOk_of hb hX hY r _ _ (k + 1) (S + e.natAbs) h4 (by rw [Nat.pow_succ]; exact h2) (by omega) ?_
    rw [show k + 1 + r.length = k + (r.length + 1) by omega]
    exact Nat.lt_of_le_of_lt (Nat.mul_le_mul (by omega) (Nat.le_refl _)) hB
theorem changed_bd {X Y l : List Int} {n b B : Nat} (hX : Bd X 1 b) (hY : Bd Y 1 b) (hl : Bd l n B) : Bd (changed X Y l) n (B * b ^ n) := by
  match l, hl with
  | a :: r, hl =>
    have hr : r.length = n := by have := hl.len; rw [List.length_cons] at this; omega
    have h0 : Bd [a] 0 (a.natAbs * b ^ 0) := ⟨rfl, by show a.natAbs + 0 ≤ _; rw [Nat.pow_zero]; omega⟩
    have := chg_bd hX hY r [a] [1] 0 a.natAbs h0 bd_one
    rw [Nat.zero_add, hr] at this
    exact this.mono (Nat.mul_le_mul (by have := hl.nm; rw [nm_cons] at this; exact this) (Nat.le_refl _))
theorem changed_ok {X Y l : List Int} {n b B : Nat} (hb : 1 ≤ b) (hX : Bd X 1 b) (hY : Bd Y 1 b) (hl : Bd l n B) (hn : n ≤ 90) (hB : (B + 1) * b ^ n < 2 ^ 400) : ChOk X Y l.tail [co l 0] [1] := by
  match l, hl with
  | a :: r, hl =>
    have hr : r.length = n := by have := hl.len; rw [List.length_cons] at this; omega
    have h0 : Bd [a] 0 (a.natAbs * b ^ 0) := ⟨rfl, by show a.natAbs + 0 ≤ _; rw [Nat.pow_zero]; omega⟩
    refine chOk_of hb hX hY r [a] [1] 0 a.natAbs h0 bd_one (by omega) ?_
    rw [Nat.zero_add, hr]
    exact Nat.lt_of_le_of_lt (Nat.mul_le_mul (by have := hl.nm; rw [nm_cons] at this; omega) (Nat.le_refl _)) hB
end K08

set_option Elab.async false
set_option linter.all false
set_option maxRecDepth 100000
set_option maxHeartbeats 4000000
namespace K08
open PySem PySem.Spec PyProof.Rows L2 StX RZ MyR SlX OwnR OwnF EnumT
section
variable {P : Program} {w : World} {K : PySem.W.Frag} {mg : Str → Option Value} {base : Heap}
/-- all that the law makes on its way is let -/
structure LchOk (X Y l : List Int) : Prop where
  ne : l ≠ []
  len : l.length ≤ 90
  lX : X.length = 2
  lY : Y.length = 2
  pX : ∀ i, i ≤ l.length → Rw (pow X i)
  pY : ∀ i, i ≤ l.length → Rw (pow Y i)
  pm : ∀ i, i < l.length → Rw (ml (pow X (l.length - 1 - i)) (pow Y i))
  sl : ∀ z ∈ l, sm z
end
end K08

set_option Elab.async false
set_option linter.all false
set_option maxRecDepth 100000
set_option maxHeartbeats 4000000
namespace K08
open PySem PySem.Spec PyProof.Rows L2 StX RZ MyR SlX OwnR OwnF EnumT
section
variable {P : Program} {w : World} {K : PySem.W.Frag} {mg : Str → Option Value} {base : Heap}
theorem sm_le {x : Int} {n : Nat} (h : x.natAbs ≤ n) (hn : n < 2 ^ 60) : sm x := Nat.lt_of_le_of_lt h (Nat.lt_of_lt_of_le hn (Nat.pow_le_pow_right (by decide) (by decide)))
def spTable : Sp := fun vs H Q _ => ∃ (d : Addr) (m : Nat), vs = [.ref d, .int m] ∧ Dc H d ∧ 1 ≤ m ∧ m ≤ 1000 ∧ ∀ p H' a b c e, Sx d H H' → Dc H' d → Tb H' p [a, b] [c, e] → a.natAbs ≤ m → b.natAbs ≤ m → c.natAbs ≤ m → e.natAbs ≤ m → a * e - b * c ≠ 0 → Q (.ref p) H'
theorem ok_law_table (T : Facts K mg) : FnOk P w K mg base CX0 3 T.f_law_table T.fd_law_table ["_law_dice_here", "_law_most"] spTable := by
  have G_law_near : FnOk P w K mg base CX0 2 T.f_law_near T.fd_law_near ["_law_dice_here", "_law_most"] spNear := ok_law_near T
  refine T.F_law_table.ok sc_law_table (fun vs H Q E h => ?_) (fun cdv A outer s H vs Q E hr h => ?_)
  · obtain ⟨d, m, rfl, _⟩ := h
    rfl
  · obtain ⟨d, m, rfl, hd, h1, h2, q⟩ := h
    have e15 : (10 : Int) ^ 15 = 1000000000000000 := by decide
    have z2 : 2 ≤ sizeLine := by decide
    refine ⟨_, (PSs.nox (pss_cons (ps_set (i := 2) sc_law_table.nd rfl (.inl rfl) (pe_tupleOf (by rfl) T.z_tuple (pe_lc (own := [("_law_row", 3)]) (g := (gName 3)) (tt := tYes) (by rfl) sc_law_table.nd (pi_range1 (by rfl) T.z_range (pa_cons pe_int pa_nil)) (blkOk_by (N := N_law_table) (sc := defScope s_law_table) (by decide +kernel)) (fun _ _ _ _ _ => (pg_name (i := 3) sc_law_table.nd rfl (.inl rfl))) (fun _ _ _ _ _ => pts_nil) (fun _ _ _ _ _ => (pe_tup (pa_cons (pe_call G_law_near hr (by rfl) T.g_law_near T.F_law_near.kp T.b_law_near .nil pass0 (pa_cons (pv 0) (pa_cons (pv 1) pa_nil))) (pa_cons (pe_call G_law_near hr (by rfl) T.g_law_near T.F_law_near.kp T.b_law_near .nil pass0 (pa_cons (pv 0) (pa_cons (pv 1) pa_nil))) pa_nil)))))))
    (pss_one (ps_ret (pe_ifExp (pt_cmpR op_ne (pe_op op_mulW (pe_ix ix_tup (pe_ix ix_tup (pv 2) pe_int (fun _ _ => rfl)) pe_int (fun _ _ => rfl)) (pe_ix ix_tup (pe_ix ix_tup (pv 2) pe_int (fun _ _ => rfl)) pe_int (fun _ _ => rfl))) (pe_op op_mulW (pe_ix ix_tup (pe_ix ix_tup (pv 2) pe_int (fun _ _ => rfl)) pe_int (fun _ _ => rfl)) (pe_ix ix_tup (pe_ix ix_tup (pv 2) pe_int (fun _ _ => rfl)) pe_int (fun _ _ => rfl))) (nomark _)) (pv 2) (pe_tup (pa_cons (pe_tup (pa_cons pe_int (pa_cons pe_int pa_nil))) (pa_cons (pe_tup (pa_cons pe_int (pa_cons pe_int pa_nil))) pa_nil)))))))), ?_⟩
    refine ⟨2, rfl, by decide, by decide, fun D hD => lc_range (n := (2 : Int).toNat) (fun j H' => Sx d H H' ∧ Dc H' d ∧ ∃ (rs : List Addr) (ls : List (List Int)), H' D = some (.lst (rs.map V.ref)) ∧ rs.length = j ∧ ls.length = j ∧ (∀ i (h : i < ls.length) (h' : i < rs.length), H' rs[i] = some (tp ls[i])) ∧ ∀ l ∈ ls, l.length = 2 ∧ ∀ x ∈ l, x.natAbs ≤ m) ⟨Sx.of (same_upd0 hD), hd.same (same_upd0 hD), [], [], upd_same, rfl, rfl, fun i h _ => absurd h (Nat.not_lt_zero i), fun l h => (nomatch h)⟩ (fun j H' hj hP => ?_) (fun H' hP => ?_)⟩
    · obtain ⟨sH, dH, rs, ls, hL, hl1, hl2, hr, hb⟩ := hP
      have nD : D ≠ d := hd.ne hD
      refine ⟨rfl, _, rfl, _, rfl, d, m, rfl, dH, by omega, by rw [e15]; omega, fun u H2 u1 u2 s2 d2 => ⟨_, rfl, _, rfl, d, m, rfl, d2, by omega, by rw [e15]; omega, fun v H3 v1 v2 s3 d3 => ⟨z2, fun p2 n2 => gen_upd H3 p2 (tp [u, v]) n2 fun H4 s4 f4 => ?_⟩⟩⟩
      have hL4 := s4 _ _ (s3 D _ nD (s2 D _ nD hL))
      have dD : ∀ a l, H4 a = some (tp l) → a ≠ D := fun a l e z => by
        rw [z, hL4] at e
        cases e
      have d4 := d3.same s4
      have hj2 : j < 2 := hj
      refine ⟨_, hL4, by rw [List.length_map, hl1]; exact small1000 (by omega), fun b o hb2 e => ?_, ?_, rs ++ [p2], ls ++ [[u, v]], by rw [upd_same, List.map_append]; rfl, by rw [List.length_append, hl1]; rfl, by rw [List.length_append, hl2]; rfl, fun i h h' => ?_, fun l hl => ?_⟩
      · rw [upd_ne (ne_of_none e hD)]
        exact s4 _ _ (s3 b o hb2 (s2 b o hb2 (sH b o hb2 e)))
      · obtain ⟨x, y, z, e⟩ := d4
        exact ⟨x, y, z, by rw [upd_ne (Ne.symm nD)]; exact e⟩
      · by_cases c : i < ls.length
        · have e1 : (rs ++ [p2])[i] = rs[i]'(by omega) := List.getElem_append_left _
          have e2 : (ls ++ [[u, v]])[i] = ls[i] := List.getElem_append_left _
          rw [e1, e2]
          have e3 := s3 _ _ (dc_ne d2 (s2 _ _ (dc_ne dH (hr i c (by omega))) (hr i c (by omega)))) (s2 _ _ (dc_ne dH (hr i c (by omega))) (hr i c (by omega)))
          rw [upd_ne (dD _ _ (s4 _ _ e3))]
          exact s4 _ _ e3
        · have ei : i = ls.length := by rw [List.length_append] at h; simp at h; omega
          subst ei
          have e1 : (rs ++ [p2])[ls.length] = p2 := by rw [List.getElem_append_right (by omega)]; simp [hl1, hl2]
          have e2 : (ls ++ [[u, v]])[ls.length] = [u, v] := by rw [List.getElem_append_right (by omega)]; simp
          rw [e1, e2, upd_ne (dD _ _ f4)]
          exact f4
      · rcases List.mem_append.mp hl with e | e
        · exact hb l e
        · rw [List.mem_singleton.mp e]
          refine ⟨rfl, fun x hx => ?_⟩
          simp only [List.mem_cons, List.not_mem_nil, or_false] at hx
          rcases hx with e | e <;> rw [e] <;> omega
    · obtain ⟨sH, dH, rs, ls, hL, hl1, hl2, hr, hb⟩ := hP
      match rs, hl1, ls, hl2, hL, hr, hb with
      | [r0, r1], _, [l0, l1], _, hL, hr, hb =>
        have k0 : H' r0 = some (tp l0) := hr 0 (by simp) (by simp)
        have k1 : H' r1 = some (tp l1) := hr 1 (by simp) (by simp)
        obtain ⟨b0, c0⟩ := hb l0 (by simp)
        obtain ⟨b1, c1⟩ := hb l1 (by simp)
        match l0, b0, l1, b1, k0, k1, c0, c1 with
        | [a, b], _, [c, e], _, k0, k1, c0, c1 =>
          have ba := c0 a (by simp)
          have bb := c0 b (by simp)
          have bc := c1 c (by simp)
          have be := c1 e (by simp)
          refine .inl ⟨D, _, rfl, SqL.of hL, fun p np => ?_⟩
          refine gen_upd H' p (.tup [.ref r0, .ref r1]) np fun H2 s2 f2 => ?_
          have k0' := s2 _ _ k0
          have k1' := s2 _ _ k1
          have sa := sm_le (n := 1000) (show a.natAbs ≤ 1000 by omega) (by decide)
          have sb := sm_le (n := 1000) (show b.natAbs ≤ 1000 by omega) (by decide)
          have sc := sm_le (n := 1000) (show c.natAbs ≤ 1000 by omega) (by decide)
          have se := sm_le (n := 1000) (show e.natAbs ≤ 1000 by omega) (by decide)
          refine ⟨_, rfl, p, _, 0, _, rfl, rfl, SqT.of f2, atI_nat (j := 0) rfl, r0, _, 0, _, rfl, rfl, SqT.of k0', atI_nat (j := 0) rfl, _, rfl, p, _, 1, _, rfl, rfl, SqT.of f2, atI_nat (j := 1) rfl, r1, _, 1, _, rfl, rfl, SqT.of k1', atI_nat (j := 1) rfl, _, _, rfl, rfl, sm_mul sa se, ?_⟩
          refine ⟨_, rfl, p, _, 0, _, rfl, rfl, SqT.of f2, atI_nat (j := 0) rfl, r0, _, 1, _, rfl, rfl, SqT.of k0', atI_nat (j := 1) rfl, _, rfl, p, _, 1, _, rfl, rfl, SqT.of f2, atI_nat (j := 1) rfl, r1, _, 0, _, rfl, rfl, SqT.of k1', atI_nat (j := 0) rfl, _, _, rfl, rfl, sm_mul sb sc, rfl, _, rfl, ?_⟩
          by_cases z : a * e = b * c
          · rw [decide_eq_true (show V.int (a * e) = V.int (b * c) by rw [z])]
            refine iteF ⟨z2, fun q0 m0 => gen_upd H2 q0 (tp [1, 1]) m0 fun H3 s3 f3 => ⟨z2, fun q1 m1 => gen_upd H3 q1 (tp [0, 1]) m1 fun H4 s4 f4 => ⟨z2, fun q2 m2 => gen_upd H4 q2 (.tup [.ref q0, .ref q1]) m2 fun H5 s5 f5 => ?_⟩⟩⟩
            have s25 := (s3.trans s4).trans s5
            exact q q2 H5 1 1 0 1 (sH.trans (Sx.of (s2.trans s25))) (dH.same (s2.trans s25)) ⟨q0, q1, f5, s5 _ _ (s4 _ _ f3), s5 _ _ f4⟩ (by show 1 ≤ m; omega) (by show 1 ≤ m; omega) (by show 0 ≤ m; omega) (by show 1 ≤ m; omega) (by decide)
          · rw [decide_eq_false fun y => z (V.int.inj y)]
            refine iteT ⟨_, rfl, q p H2 a b c e (sH.trans (Sx.of s2)) (dH.same s2) ⟨r0, r1, f2, k0', k1'⟩ ba bb bc be (by omega)⟩
end
end K08

set_option Elab.async false
set_option linter.all false
set_option maxRecDepth 100000
set_option maxHeartbeats 4000000
namespace K08
open PySem PySem.Spec PyProof.Rows L2 StX RZ MyR SlX OwnR OwnF EnumT
/-! ### lowest terms -/
def dn (t b : Int) : Int := if 0 < b then ((Nat.gcd t.natAbs b.natAbs : Nat) : Int) else -((Nat.gcd t.natAbs b.natAbs : Nat) : Int)
def low (t b : Int) : Int × Int := (t.fdiv (dn t b), b.fdiv (dn t b))
theorem dn_ne {t b : Int} (h : b ≠ 0) : dn t b ≠ 0 := fun e => by
  have hg : Nat.gcd t.natAbs b.natAbs = 0 := by
    unfold dn at e
    split at e <;> omega
  exact h (Int.natAbs_eq_zero.mp (Nat.gcd_eq_zero_iff.mp hg).2)
theorem dn_abs (t b : Int) : (dn t b).natAbs = Nat.gcd t.natAbs b.natAbs := by
  unfold dn
  split <;> omega
theorem dn_dvd (t b : Int) : dn t b ∣ t ∧ dn t b ∣ b := by
  refine ⟨Int.natAbs_dvd_natAbs.mp ?_, Int.natAbs_dvd_natAbs.mp ?_⟩ <;> rw [dn_abs]
  · exact Nat.gcd_dvd_left _ _
  · exact Nat.gcd_dvd_right _ _
theorem low_spec {t b : Int} (h : b ≠ 0) : t = (low t b).1 * dn t b ∧ b = (low t b).2 * dn t b := by
  obtain ⟨⟨p, hp⟩, ⟨q, hq⟩⟩ := dn_dvd t b
  have hd := dn_ne (t := t) h
  have e1 : t.fdiv (dn t b) = p := by
    conv => lhs; arg 1; rw [hp]
    exact Int.mul_fdiv_cancel_left p hd
  have e2 : b.fdiv (dn t b) = q := by
    conv => lhs; arg 1; rw [hq]
    exact Int.mul_fdiv_cancel_left q hd
  unfold low
  rw [e1, e2]
  exact ⟨by rw [Int.mul_comm]; exact hp, by rw [Int.mul_comm]; exact hq⟩
theorem dn_mul {t b x : Int} (hx : x ≠ 0) (hb : b ≠ 0) : dn (t * x) (b * x) = dn t b * x := by
  unfold dn
  rw [Int.natAbs_mul, Int.natAbs_mul, Nat.gcd_mul_right]
  rcases Int.lt_or_gt_of_ne hx with h | h
  · have ex : ((x.natAbs : Nat) : Int) = -x := by omega
    rcases Int.lt_or_gt_of_ne hb with k | k
    · have : 0 < b * x := Int.mul_pos_of_neg_of_neg k h
      rw [if_pos this, if_neg (by omega), Int.natCast_mul, ex]
      grind
    · have : b * x < 0 := Int.mul_neg_of_pos_of_neg k h
      rw [if_neg (by omega), if_pos k, Int.natCast_mul, ex]
      grind
  · have ex : ((x.natAbs : Nat) : Int) = x := by omega
    rcases Int.lt_or_gt_of_ne hb with k | k
    · have : b * x < 0 := Int.mul_neg_of_neg_of_pos k h
      rw [if_neg (by omega), if_neg (by omega), Int.natCast_mul, ex]
      grind
    · have : 0 < b * x := Int.mul_pos k h
      rw [if_pos this, if_pos k, Int.natCast_mul, ex]
theorem low_mul {t b x : Int} (hx : x ≠ 0) (hb : b ≠ 0) : low (t * x) (b * x) = low t b := by
  obtain ⟨e1, e2⟩ := low_spec (t := t) hb
  have hd : dn t b * x ≠ 0 := Int.mul_ne_zero (dn_ne hb) hx
  show ((t * x).fdiv (dn (t * x) (b * x)), (b * x).fdiv (dn (t * x) (b * x))) = low t b
  rw [dn_mul hx hb]
  have f1 : (t * x).fdiv (dn t b * x) = (low t b).1 := by
    conv => lhs; arg 1; rw [e1, Int.mul_assoc]
    exact Int.mul_fdiv_cancel _ hd
  have f2 : (b * x).fdiv (dn t b * x) = (low t b).2 := by
    conv => lhs; arg 1; rw [e2, Int.mul_assoc]
    exact Int.mul_fdiv_cancel _ hd
  rw [f1, f2]
theorem low_cross {t b x y : Int} (h : b ≠ 0) : x * (low t b).1 = y * (low t b).2 ↔ x * t = y * b := by
  obtain ⟨e1, e2⟩ := low_spec (t := t) h
  have hd := dn_ne (t := t) h
  constructor
  · intro e
    rw [e1, e2]
    have : x * (low t b).1 * dn t b = y * (low t b).2 * dn t b := by rw [e]
    grind
  · intro e
    rw [e1, e2] at e
    have : x * (low t b).1 * dn t b = y * (low t b).2 * dn t b := by grind
    exact Int.eq_of_mul_eq_mul_right hd this
theorem low_two {t b : Int} (ht : t ≠ 0) (h : b ≠ 0) : low (t * 2) b ≠ low t b := fun e => by
  have h1 := (low_cross (t := t * 2) (x := b) (y := t) h).mp (by rw [e]; exact (low_cross h).mpr (Int.mul_comm b t))
  have h2 : t * 2 = t := Int.eq_of_mul_eq_mul_left h (by rw [h1, Int.mul_comm])
  omega
/-! ### the factor between two rows -/
def nzr (l : List Int) : Bool := l.any (· != 0)
def fi (l : List Int) : Nat := l.findIdx (· != 0)
theorem fi_lt {l : List Int} (h : nzr l = true) : fi l < l.length := by
  unfold fi
  refine List.findIdx_lt_length_of_exists ?_
  obtain ⟨x, h1, h2⟩ := List.any_eq_true.mp h
  exact ⟨x, h1, h2⟩
theorem fi_ne {l : List Int} (h : nzr l = true) : co l (fi l) ≠ 0 := by
  have := List.findIdx_getElem (p := (· != 0)) (w := fi_lt h)
  rw [co_get (fi_lt h)]
  have h2 : (l[fi l]'(fi_lt h) != 0) = true := this
  simpa using h2
theorem fi_first {l : List Int} {i : Nat} {z : Int} (h1 : l[i]? = some z) (h2 : (z != 0) = true) (h3 : ∀ (j : Nat) (y : Int), j < i → l[j]? = some y → (y != 0) = false) : fi l = i := by
  obtain ⟨hi, e⟩ := List.getElem?_eq_some_iff.mp h1
  unfold fi
  refine (List.findIdx_eq hi).mpr ⟨by rw [e]; exact h2, fun j hj => ?_⟩
  exact h3 j _ hj (List.getElem?_eq_getElem (by omega))
theorem nzr_of {l : List Int} {i : Nat} {z : Int} (h1 : l[i]? = some z) (h2 : (z != 0) = true) : nzr l = true := List.any_eq_true.mpr ⟨z, List.mem_of_getElem? h1, h2⟩
theorem nzr_no {l : List Int} (h : ∀ (j : Nat) (z : Int), l[j]? = some z → (z != 0) = false) : nzr l = false := by
  cases e : nzr l with
  | false => rfl
  | true =>
    obtain ⟨x, h1, h2⟩ := List.any_eq_true.mp e
    obtain ⟨j, hj, ej⟩ := List.getElem_of_mem h1
    rw [h j x (by rw [← ej]; exact List.getElem?_eq_getElem hj)] at h2
    cases h2
/-- the rows are multiples by t / b -/
def Like (xs ys : List Int) (t b : Int) : Prop := ∀ j, j < xs.length → co xs j * t = co ys j * b
noncomputable def RB (xs ys : List Int) : Option (Int × Int) := open Classical in
  if xs.length ≠ ys.length ∨ nzr xs ≠ nzr ys then none else if nzr xs = false then some (1, 1) else if co ys (fi xs) = 0 ∨ ¬ Like xs ys (co ys (fi xs)) (co xs (fi xs)) then none else some (low (co ys (fi xs)) (co xs (fi xs)))
theorem nzr_map {c : Int} (hc : c ≠ 0) (l : List Int) : nzr (l.map (c * ·)) = nzr l := by
  unfold nzr
  rw [List.any_map]
  congr 1
  funext z
  show (c * z != 0) = (z != 0)
  by_cases h : z = 0
  · rw [h, Int.mul_zero]
  · have a1 : (c * z != 0) = true := by simpa using ⟨hc, h⟩
    have a2 : (z != 0) = true := by simpa using h
    rw [a1, a2]
theorem fi_map {c : Int} (hc : c ≠ 0) (l : List Int) : fi (l.map (c * ·)) = fi l := by
  unfold fi
  rw [List.findIdx_map]
  congr 1
  funext z
  show (c * z != 0) = (z != 0)
  by_cases h : z = 0
  · rw [h, Int.mul_zero]
  · have a1 : (c * z != 0) = true := by simpa using ⟨hc, h⟩
    have a2 : (z != 0) = true := by simpa using h
    rw [a1, a2]
theorem RB_scaled {c d : Int} (hc : c ≠ 0) (hd : d ≠ 0) (l : List Int) : RB (l.map (c * ·)) (l.map (d * ·)) = if nzr l = true then some (low d c) else some (1, 1) := by
  unfold RB
  rw [nzr_map hc, nzr_map hd, fi_map hc, co_map, co_map, List.length_map, List.length_map]
  rw [if_neg (by simp)]
  cases e : nzr l with
  | false => rw [if_pos rfl, if_neg (by simp)]
  | true =>
    have hx := fi_ne e
    rw [if_neg (by simp), if_pos rfl, if_neg, low_mul hx hc]
    rintro (h | h)
    · exact Int.mul_ne_zero hd hx h
    · refine h fun j _ => ?_
      rw [co_map, co_map]
      grind
theorem changed_map {X Y : List Int} (hX : X.length = 2) (hY : Y.length = 2) {c : Int} {l : List Int} (nl : l ≠ []) : changed X Y (l.map (c * ·)) = (changed X Y l).map (c * ·) := by
  have nm' : l.map (c * ·) ≠ [] := fun e => nl (List.map_eq_nil_iff.mp e)
  refine ev_inj (by rw [changed_len hX hY nm', List.length_map, List.length_map, changed_len hX hY nl]) fun x y => ?_
  rw [ev_changed hX hY nm', ev_map, ev_map, ev_changed hX hY nl]
/-! ### powers -/
theorem changed_pow {u v a b c d : Int} (n : Nat) : changed [a, b] [c, d] (pow [u, v] n) = pow [u * a + v * c, u * b + v * d] n := by
  have n1 : pow [u, v] n ≠ [] := pow_ne (by simp) n
  refine ev_inj (by rw [changed_len rfl rfl n1, pow_len rfl, pow_len rfl]) fun x y => ?_
  rw [ev_changed rfl rfl n1, ev_pow (by simp), ev_pow (by simp), ev2, ev2, ev2, ev2]
  congr 1
  grind
end K08

set_option Elab.async false
set_option linter.all false
set_option maxRecDepth 100000
set_option maxHeartbeats 4000000
namespace K08
open PySem PySem.Spec PyProof.Rows L2 StX RZ MyR SlX OwnR OwnF EnumT GxR
theorem Tabbed.sx {P : Addr} {H H' : Hp} (t : Tabbed P H H') : Sx P H H' := fun b o nb e => (t.2 b nb).trans e
theorem tgS {P : Addr} {H H' : Hp} (t : TabG H P) (s : Same H H') : TabG H' P := by
  obtain ⟨ps, h, k⟩ := t
  exact ⟨ps, s _ _ h, k⟩
theorem tgT {P a : Addr} {H : Hp} {xs : List V} (t : TabG H P) (h : H a = some (.tup xs)) : a ≠ P := fun z => by
  obtain ⟨ps, e, _⟩ := t
  rw [z, e] at h
  cases h
theorem dn_div {t b : Int} (x : Int) (h : b ≠ 0) (hs : sm b) : CDivZ x (dn t b) := by
  refine ⟨dn_ne h, ?_⟩
  have h1 : (dn t b).natAbs ≤ b.natAbs := by
    rw [dn_abs]
    exact Nat.le_of_dvd (by omega) (Nat.gcd_dvd_right _ _)
  exact Nat.lt_trans (PySem.Flt.log2_lt_of (k := 400) (by decide) (Nat.lt_of_le_of_lt h1 hs)) (by decide)
/-- a ratio, or none -/
def RV (H : Hp) (v : V) : Option (Int × Int) → Prop
  | none => v = .non
  | some (p, q) => ∃ t, v = .ref t ∧ H t = some (tp [p, q])
section
variable {P : Program} {w : World} {K : PySem.W.Frag} {mg : Str → Option Value} {base : Heap}
def spReqForm (C : Addr) : Sp := fun vs H Q _ => ∃ (a : Addr) (l : List Int), vs = [.ref a] ∧ Fo C H a l ∧ Q .non H
theorem ok_require_form (T : Facts K mg) : FnOk P w K mg base CX0 1 T.f_require_form T.fd_require_form ["value"] (spReqForm T.C_Form) := by
  refine T.F_require_form.ok sc_require_form (fun vs H Q E h => ?_) (fun cdv A outer s H vs Q E hr h => ?_)
  · obtain ⟨a, l, rfl, _⟩ := h
    rfl
  · obtain ⟨a, l, rfl, fa, q⟩ := h
    obtain ⟨dx, t, ha, ht⟩ := fa.slt
    refine ⟨_, (PSs.nox (pss_one (ps_if (pt_not (pt_val (pe_callB (call_isiF T.C_Form) (by rfl) T.z_isinstance (by decide +kernel) (pa_cons (pv 0) (pa_cons (pe_glob (v := .ref T.C_Form) (by rfl) T.g_Form rfl) pa_nil)))))
      (pss_one ps_never)
      pss_nil))), ?_⟩
    exact ⟨_, rfl, isi_form (X := (cxOf CX0 P w K mg base N_require_form (Str.ofString "require_form") (defScope s_require_form) T.f_require_form cdv A outer s H E).nox) T.oc_Form ha ⟨true, rfl, iteF q⟩⟩
def spFirst (P : Addr) : Sp := fun vs H Q _ => ∃ (t : Addr) (l : List Int), vs = [.ref t] ∧ H t = some (tp l) ∧ TabG H P ∧ ∀ H', Sx P H H' → TabG H' P → Q (.int (if nzr l = true then (fi l : Int) else 0)) H'
theorem ok_first_index (T : Facts K mg) (TB_first_index : TabB base mg T.c_first_index T.P_first_index) : FnOk P w K mg base CX0 1 T.f_first_index T.fd_first_index ["entries"] (spFirst T.P_first_index) := by
  refine HookT.okC T.F_first_index sc_first_index (fun vs H Q E h => ?_) (fun A outer s H vs Q E hr h => ?_)
  · obtain ⟨t, l, rfl, _⟩ := h
    rfl
  · obtain ⟨t, l, rfl, ht, hP, q⟩ := h
    refine ⟨_, (PSs.nox (pss_one (ps_ret (GenNx.pe_nextE hr (by rfl) T.z_next TB_first_index T.code_first_index (GenNx.GenS2.of rfl rfl (by decide +kernel) rfl rfl rfl (by decide)) (by rfl) T.z_enumerate (pa_cons (pv 0) pa_nil) (GenNx.test_ne0 rfl rfl))))), ?_⟩
    refine ⟨_, rfl, t, l, rfl, SqT.of ht, hP, fun r H2 hr2 hT => ?_⟩
    have q2 := q H2 (Tabbed.sx hT) hT.1
    rcases hr2 with ⟨h1, rfl⟩ | ⟨i, z, h1, h2, h3, rfl⟩
    · rw [nzr_no h1] at q2
      exact q2
    · rw [nzr_of h1 h2, if_pos rfl, fi_first h1 h2 h3] at q2
      exact q2
def spRatio (P : Addr) : Sp := fun vs H Q _ => ∃ (t u : Addr) (xs ys : List Int), vs = [.ref t, .ref u] ∧ H t = some (tp xs) ∧ H u = some (tp ys) ∧ TabG H P ∧ xs.length ≤ 100 ∧ ys.length ≤ 100 ∧ (∀ z ∈ xs, sm z) ∧ (∀ z ∈ ys, sm z) ∧ ∀ v H', Sx P H H' → TabG H' P → RV H' v (RB xs ys) → Q v H'
theorem RB_none1 {xs ys : List Int} (h : xs.length ≠ ys.length ∨ nzr xs ≠ nzr ys) : RB xs ys = none := by unfold RB; rw [if_pos h]
theorem RB_bad {xs ys : List Int} (hl : xs.length = ys.length) (hn : nzr xs = nzr ys) (hz : nzr xs = true) (h : co ys (fi xs) = 0 ∨ ¬ Like xs ys (co ys (fi xs)) (co xs (fi xs))) : RB xs ys = none := by
  unfold RB
  rw [if_neg (fun z => z.elim (fun k => k hl) fun k => k hn), if_neg (by rw [hz]; simp), if_pos h]
theorem RB_good {xs ys : List Int} (hl : xs.length = ys.length) (hn : nzr xs = nzr ys) (hz : nzr xs = true) (h0 : co ys (fi xs) ≠ 0) (h : Like xs ys (co ys (fi xs)) (co xs (fi xs))) : RB xs ys = some (low (co ys (fi xs)) (co xs (fi xs))) := by
  unfold RB
  rw [if_neg (fun z => z.elim (fun k => k hl) fun k => k hn), if_neg (by rw [hz]; simp), if_neg (fun z => z.elim h0 fun k => k h)]
theorem RB_zero {xs ys : List Int} (hl : xs.length = ys.length) (hn : nzr xs = nzr ys) (hz : nzr xs = false) : RB xs ys = some (1, 1) := by
  unfold RB
  rw [if_neg (fun z => z.elim (fun k => k hl) fun k => k hn), if_pos hz]
theorem ok_ratio_between (T : Facts K mg) (TB_first_index : TabB base mg T.c_first_index T.P_first_index) : FnOk P w K mg base CX0 2 T.f_ratio_between T.fd_ratio_between ["one", "other"] (spRatio T.P_first_index) := by
  have G_is_zero_in := ok_is_zero_in (P := P) (w := w) (base := base) T
  have G_first_index := ok_first_index (P := P) (w := w) (base := base) T TB_first_index
  refine T.F_ratio_between.ok sc_ratio_between (fun vs H Q E h => ?_) (fun cdv A outer s H vs Q E hr h => ?_)
  · obtain ⟨t, u, xs, ys, rfl, _⟩ := h
    rfl
  · obtain ⟨t, u, xs, ys, rfl, ht, hu, hP, lx, ly, sx, sy, q⟩ := h
    refine ⟨_, (PSs.nox (pss_cons (ps_if (pw_or (pt_cmpR op_ne (pe_callB call_len_seq (by rfl) T.z_len (by decide +kernel) (pa_cons (pv 0) pa_nil)) (pe_callB call_len_seq (by rfl) T.z_len (by decide +kernel) (pa_cons (pv 1) pa_nil)) (nomark _)) (pw_or1 (pt_cmpR op_ne (pe_call G_is_zero_in hr (by rfl) T.g_is_zero_in T.F_is_zero_in.kp T.b_is_zero_in .nil pass0 (pa_cons (pv 0) pa_nil)) (pe_call G_is_zero_in hr (by rfl) T.g_is_zero_in T.F_is_zero_in.kp T.b_is_zero_in .nil pass0 (pa_cons (pv 1) pa_nil)) (nomark _)))).pt
      (pss_one (ps_ret pe_non))
      pss_nil)
    (pss_cons (ps_if (pt_val (pe_call G_is_zero_in hr (by rfl) T.g_is_zero_in T.F_is_zero_in.kp T.b_is_zero_in .nil pass0 (pa_cons (pv 0) pa_nil)))
      (pss_one (ps_ret (pe_tup (pa_cons pe_int (pa_cons pe_int pa_nil)))))
      pss_nil)
    (pss_cons (ps_asg (pe_tup (pa_cons (pe_ix ix_tup (pv 1) (pe_call G_first_index hr (by rfl) T.g_first_index T.F_first_index.kp T.b_first_index .nil pass0 (pa_cons (pv 0) pa_nil)) (fun _ _ => rfl)) (pa_cons (pe_ix ix_tup (pv 0) (pe_call G_first_index hr (by rfl) T.g_first_index T.F_first_index.kp T.b_first_index .nil pass0 (pa_cons (pv 0) pa_nil)) (fun _ _ => rfl)) pa_nil))) (pg_tup (by rfl) (pgs_cons (pg_name (i := 2) sc_ratio_between.nd rfl (.inr rfl)) (pgs_cons (pg_name (i := 3) sc_ratio_between.nd rfl (.inr rfl)) pgs_nil))))
    (pss_cons (ps_if (pw_or (pt_cmpR op_eq (pv 2) pe_int (nomark _)) (pw_or1 (pt_val (pe_callB (cr_any (by rfl)) (by rfl) T.z_any (by decide +kernel) (pa_cons (pe_lc (own := [("first", 4), ("second", 5)]) (g := (gTup K 2 (gCons (gName 4) (gCons (gName 5) gNil)))) (tt := tYes) (by rfl) sc_ratio_between.nd (pi_zipA (by rfl) T.z_zip (pa_cons (pv 0) (pa_cons (pv 1) pa_nil))) (blkOk_by (N := N_ratio_between) (sc := defScope s_ratio_between) (by decide +kernel)) (fun _ _ _ _ _ => (pg_tup (by rfl) (pgs_cons (pg_name (i := 4) sc_ratio_between.nd rfl (.inl rfl)) (pgs_cons (pg_name (i := 5) sc_ratio_between.nd rfl (.inl rfl)) pgs_nil)))) (fun _ _ _ _ _ => pts_nil) (fun _ _ _ _ _ => (pe_cmpR op_ne (pe_op op_mulW (pv 4) (pv 2)) (pe_op op_mulW (pv 5) (pv 3)) (nomark _)))) pa_nil))))).pt
      (pss_one (ps_ret pe_non))
      pss_nil)
    (pss_cons (ps_set (i := 6) sc_ratio_between.nd rfl (.inl rfl) (pe_ifExp (pt_cmpR op_gt (pv 3) pe_int (nomark _)) (pe_callBfun cr_gcd (by rfl) T.m_gcd (pa_cons (pv 2) (pa_cons (pv 3) pa_nil))) (pe_un un_neg (pe_callBfun cr_gcd (by rfl) T.m_gcd (pa_cons (pv 2) (pa_cons (pv 3) pa_nil))))))
    (pss_one (ps_ret (pe_tup (pa_cons (pe_op op_fdivZ (pv 2) (pv 6)) (pa_cons (pe_op op_fdivZ (pv 3) (pv 6)) pa_nil))))))))))), ?_⟩
    refine ⟨_, rfl, t, _, rfl, .inr (SqT.of ht), _, rfl, u, _, rfl, .inr (SqT.of hu), rfl, _, rfl, ?_⟩
    rw [List.length_map, List.length_map]
    by_cases hl : xs.length = ys.length
    rotate_left
    · rw [decide_eq_false (fun y => hl (by have := V.int.inj y; omega))]
      exact iteT (q _ _ (Sx.refl _ _) hP (by rw [RB_none1 (.inl hl)]; rfl))
    rw [decide_eq_true (by rw [hl])]
    refine iteF ⟨_, rfl, t, xs, rfl, ht, _, rfl, u, ys, rfl, hu, rfl, _, rfl, ?_⟩
    by_cases hn : nzr xs = nzr ys
    rotate_left
    · rw [decide_eq_false (fun y => hn (by have := V.bl.inj y; unfold nzr; simpa using this))]
      exact iteT (q _ _ (Sx.refl _ _) hP (by rw [RB_none1 (.inr hn)]; rfl))
    rw [decide_eq_true (by unfold nzr at hn; rw [hn])]
    refine iteF ⟨_, rfl, t, xs, rfl, ht, _, rfl, ?_⟩
    cases hz : nzr xs with
    | false =>
      rw [show xs.any (· != 0) = false from hz]
      refine iteT ⟨by show 2 ≤ sizeLine; decide, fun p n => q _ _ (Sx.of (same_upd0 n)) (tgS hP (same_upd0 n)) ?_⟩
      rw [RB_zero hl hn hz]
      exact ⟨p, rfl, upd_same⟩
    | true =>
      rw [show xs.any (· != 0) = true from hz]
      have hi := fi_lt hz
      have hb0 := fi_ne hz
      refine iteF ⟨_, rfl, _, rfl, t, xs, rfl, ht, hP, fun H1 s1 p1 => ?_⟩
      rw [hz, if_pos rfl]
      have ht1 := s1 _ _ (tgT hP ht) ht
      have hu1 := s1 _ _ (tgT hP hu) hu
      refine ⟨u, _, _, _, rfl, rfl, SqT.of hu1, at_of rfl (get_int (xs := ys) (by omega)), _, rfl, _, rfl, t, xs, rfl, ht1, p1, fun H2 s2 p2 => ?_⟩
      rw [hz, if_pos rfl]
      have ht2 := s2 _ _ (tgT p1 ht1) ht1
      have hu2 := s2 _ _ (tgT p1 hu1) hu1
      have s12 := s1.trans s2
      generalize hbt : co ys (fi xs) = tp'
      generalize hbb : co xs (fi xs) = bt at hb0
      have smt : sm tp' := by rw [← hbt]; exact sm_co sy (by omega)
      have smb : sm bt := by rw [← hbb]; exact sm_co sx hi
      refine ⟨t, _, _, _, rfl, rfl, SqT.of ht2, at_of rfl (by rw [get_int (xs := xs) hi, hbb]), by show 2 ≤ sizeLine; decide, fun p0 n0 => gen_upd H2 p0 (tp [tp', bt]) n0 fun H3 s3 f3 => ⟨p0, _, rfl, SqT.of f3, rfl, _, _, rfl, _, _, rfl, rfl, ?_⟩⟩
      have ht3 := s3 _ _ ht2
      have hu3 := s3 _ _ hu2
      have p3 := tgS p2 s3
      have s13 := s12.trans (Sx.of s3)
      refine ⟨_, rfl, rfl, _, rfl, ?_⟩
      have eR1 : (tp' = 0 ∨ ¬ Like xs ys tp' bt) → RB xs ys = none := fun h => RB_bad hl hn hz (by rw [hbt, hbb]; exact h)
      have eR2 : tp' ≠ 0 → Like xs ys tp' bt → RB xs ys = some (low tp' bt) := fun h0 h => by rw [RB_good hl hn hz (by rw [hbt]; exact h0) (by rw [hbt, hbb]; exact h), hbt, hbb]
      by_cases h0 : tp' = 0
      · rw [decide_eq_true (by rw [h0])]
        exact iteT (q _ _ s13 p3 (by rw [eR1 (.inl h0)]; rfl))
      rw [decide_eq_false (fun y => h0 (V.int.inj y))]
      refine iteF ⟨_, rfl, _, rfl, t, u, _, _, rfl, .inr ⟨SqT.of ht3, SqT.of hu3, fun D hD => ?_⟩⟩
      refine lc_zipT (xs := xs.map V.int) (ys := ys.map V.int) (by rw [List.length_map, List.length_map, hl]) (fun j H' => Same H3 H' ∧ H' D = some (.lst (((List.range j).map fun k => !decide (V.int (co xs k * tp') = V.int (co ys k * bt))).map V.bl))) ⟨same_upd0 hD, upd_same⟩ (fun j H' _ hP => ⟨SqT.of (hP.1 _ _ ht3), SqT.of (hP.1 _ _ hu3)⟩) (fun j x y A H' hx hy hP hA => ?_) (fun H' hP => ?_)
      · obtain ⟨sH, hD'⟩ := hP
        obtain ⟨hj, rfl⟩ := int_get hx
        obtain ⟨hj2, rfl⟩ := int_get hy
        have sA := same_upd0 (o := .tup [.int (co xs j), .int (co ys j)]) hA
        refine ⟨A, _, rfl, SqT.of upd_same, rfl, _, _, rfl, _, _, rfl, rfl, rfl, _, rfl, _, rfl, _, _, rfl, rfl, sm_mul (sm_co sx hj) smt, _, rfl, _, rfl, _, _, rfl, rfl, sm_mul (sm_co sy hj2) smb, rfl, _, sA _ _ hD', ?_, fun b o e => ?_, ?_⟩
        · rw [List.length_map, List.length_map, List.length_range]
          exact small1000 (by omega)
        · rw [upd_ne (ne_of_none e hD)]
          exact sA _ _ (sH _ _ e)
        · rw [upd_same, List.range_succ, List.map_append, List.map_append]
          rfl
      · obtain ⟨sH, hD'⟩ := hP
        rw [List.length_map] at hD'
        have ea : (((List.range xs.length).map fun k => !decide (V.int (co xs k * tp') = V.int (co ys k * bt))).any id = true) ↔ ¬ Like xs ys tp' bt := by
          rw [List.any_map, List.any_eq_true]
          constructor
          · rintro ⟨k, hk, e⟩ hL
            have := hL k (List.mem_range.mp hk)
            simp [this] at e
          · intro hL
            unfold Like at hL
            simp only [Classical.not_forall] at hL
            obtain ⟨k, hk, e⟩ := hL
            exact ⟨k, List.mem_range.mpr hk, by simpa using e⟩
        have s14 := s13.trans (Sx.of sH)
        have p4 := tgS p3 sH
        refine ⟨D, _, rfl, SqL.of hD', _, rfl, ?_⟩
        by_cases hL : Like xs ys tp' bt
        · rw [show ((List.range xs.length).map fun k => !decide (V.int (co xs k * tp') = V.int (co ys k * bt))).any id = false from Bool.eq_false_iff.mpr fun z => ea.mp z hL]
          rw [eR2 h0 hL] at q
          refine iteF ⟨_, rfl, _, _, rfl, rfl, _, rfl, ?_⟩
          by_cases c : 0 < bt
          · rw [decide_eq_true c]
            have ed : ((Nat.gcd tp'.natAbs bt.natAbs : Nat) : Int) = dn tp' bt := by unfold dn; rw [if_pos c]
            refine iteT ⟨_, rfl, _, rfl, _, _, rfl, ?_⟩
            rw [ed]
            refine ⟨_, rfl, _, rfl, _, _, rfl, rfl, dn_div _ hb0 smb, _, rfl, _, rfl, _, _, rfl, rfl, dn_div _ hb0 smb, (by show 2 ≤ sizeLine; decide), fun p hp => q _ _ (s14.trans (Sx.of (same_upd0 hp))) (tgS p4 (same_upd0 hp)) ⟨p, rfl, upd_same⟩⟩
          · rw [decide_eq_false c]
            have ed : -((Nat.gcd tp'.natAbs bt.natAbs : Nat) : Int) = dn tp' bt := by unfold dn; rw [if_neg c]
            refine iteF ⟨_, rfl, _, rfl, _, _, rfl, _, rfl, ?_⟩
            dsimp only []
            rw [ed]
            refine ⟨_, rfl, _, rfl, _, _, rfl, rfl, dn_div _ hb0 smb, _, rfl, _, rfl, _, _, rfl, rfl, dn_div _ hb0 smb, (by show 2 ≤ sizeLine; decide), fun p hp => q _ _ (s14.trans (Sx.of (same_upd0 hp))) (tgS p4 (same_upd0 hp)) ⟨p, rfl, upd_same⟩⟩
        · rw [ea.mpr hL]
          exact iteT (q _ _ s14 p4 (by rw [eR1 (.inr hL)]; rfl))
def spFactor (CF P : Addr) : Sp := fun vs H Q _ => ∃ (a b : Addr) (xs ys : List Int), vs = [.ref a, .ref b] ∧ Fo CF H a xs ∧ Fo CF H b ys ∧ TabG H P ∧ xs.length ≤ 100 ∧ ys.length ≤ 100 ∧ (∀ z ∈ xs, sm z) ∧ (∀ z ∈ ys, sm z) ∧ ∀ v H', Sx P H H' → TabG H' P → RV H' v (RB xs ys) → Q v H'
theorem ok_factor_between (T : Facts K mg) (TB_first_index : TabB base mg T.c_first_index T.P_first_index) : FnOk P w K mg base CX0 3 T.f_factor_between T.fd_factor_between ["one", "other"] (spFactor T.C_Form T.P_first_index) := by
  have G_require_form := ok_require_form (P := P) (w := w) (base := base) T
  have G_ratio_between := ok_ratio_between (P := P) (w := w) (base := base) T TB_first_index
  refine T.F_factor_between.ok sc_factor_between (fun vs H Q E h => ?_) (fun cdv A outer s H vs Q E hr h => ?_)
  · obtain ⟨a, b, xs, ys, rfl, _⟩ := h
    rfl
  · obtain ⟨a, b, xs, ys, rfl, fa, fb, hP, lx, ly, sx, sy, q⟩ := h
    refine ⟨_, (PSs.nox (pss_cons (ps_expr (pe_call G_require_form (hr.mono (by decide)) (by rfl) T.g_require_form T.F_require_form.kp T.b_require_form .nil pass0 (pa_cons (pv 0) pa_nil)))
    (pss_cons (ps_expr (pe_call G_require_form (hr.mono (by decide)) (by rfl) T.g_require_form T.F_require_form.kp T.b_require_form .nil pass0 (pa_cons (pv 1) pa_nil)))
    (pss_one (ps_ret (pe_call G_ratio_between hr (by rfl) T.g_ratio_between T.F_ratio_between.kp T.b_ratio_between .nil pass0 (pa_cons (pe_sl (pv 0)) (pa_cons (pe_sl (pv 1)) pa_nil)))))))), ?_⟩
    obtain ⟨dx, t, ha, ht⟩ := fa.slt
    obtain ⟨dy, u, hb, hu⟩ := fb.slt
    exact ⟨_, rfl, a, xs, rfl, fa, _, rfl, b, ys, rfl, fb, _, rfl, a, T.C_Form, dx, T.a_own_entries, _, 0, .ref t, rfl, ha, T.oc_Form.scl, T.sl_own_entries, rfl, _, rfl, b, T.C_Form, dy, T.a_own_entries, _, 0, .ref u, rfl, hb, T.oc_Form.scl, T.sl_own_entries, rfl, t, u, xs, ys, rfl, ht, hu, hP, lx, ly, sx, sy, q⟩
def spLow : Sp := fun vs H Q _ => ∃ t b : Int, vs = [.int t, .int b] ∧ b ≠ 0 ∧ sm b ∧ ∀ p H', Same H H' → H' p = some (tp [(low t b).1, (low t b).2]) → Q (.ref p) H'
theorem ok_law_lowest (T : Facts K mg) : FnOk P w K mg base CX0 2 T.f_law_lowest T.fd_law_lowest ["_law_top", "_law_bottom"] spLow := by
  have G_law_gcd : FnOk P w K mg base CX0 1 T.f_law_gcd T.fd_law_gcd ["_law_one", "_law_other"] spLGcd := ok_law_gcd T
  refine T.F_law_lowest.ok sc_law_lowest (fun vs H Q E h => ?_) (fun cdv A outer s H vs Q E hr h => ?_)
  · obtain ⟨t, b, rfl, _⟩ := h
    rfl
  · obtain ⟨t, b, rfl, hb, hs, q⟩ := h
    refine ⟨_, (PSs.nox (pss_cons (ps_set (i := 2) sc_law_lowest.nd rfl (.inl rfl) (pe_call G_law_gcd hr (by rfl) T.g_law_gcd T.F_law_gcd.kp T.b_law_gcd .nil pass0 (pa_cons (pv 0) (pa_cons (pv 1) pa_nil))))
    (pss_cons (ps_set (i := 2) sc_law_lowest.nd rfl (.inl rfl) (pe_ifExp (pt_cmpR op_gt (pv 1) pe_int (nomark _)) (pv 2) (pe_op op_sub pe_int (pv 2))))
    (pss_one (ps_ret (pe_tup (pa_cons (pe_op op_fdivZ (pv 0) (pv 2)) (pa_cons (pe_op op_fdivZ (pv 1) (pv 2)) pa_nil)))))))), ?_⟩
    refine ⟨_, rfl, _, rfl, t, b, rfl, ?_⟩
    refine ⟨_, rfl, _, _, rfl, rfl, _, rfl, ?_⟩
    by_cases c : 0 < b
    · rw [decide_eq_true c]
      have ed : ((Nat.gcd t.natAbs b.natAbs : Nat) : Int) = dn t b := by unfold dn; rw [if_pos c]
      rw [ed]
      exact iteT ⟨_, rfl, _, rfl, _, rfl, _, _, rfl, rfl, dn_div _ hb hs, _, rfl, _, rfl, _, _, rfl, rfl, dn_div _ hb hs, (by show 2 ≤ sizeLine; decide), fun p hp => q p _ (same_upd0 hp) upd_same⟩
    · rw [decide_eq_false c]
      have ed : 0 - ((Nat.gcd t.natAbs b.natAbs : Nat) : Int) = dn t b := by unfold dn; rw [if_neg c, Int.zero_sub]
      refine iteF ⟨_, rfl, _, _, rfl, rfl, ?_⟩
      dsimp only []
      rw [ed]
      exact ⟨_, rfl, _, rfl, _, _, rfl, rfl, dn_div _ hb hs, _, rfl, _, rfl, _, _, rfl, rfl, dn_div _ hb hs, (by show 2 ≤ sizeLine; decide), fun p hp => q p _ (same_upd0 hp) upd_same⟩
end
end K08

set_option Elab.async false
set_option linter.all false
set_option maxRecDepth 100000
set_option maxHeartbeats 4000000
namespace K08
open PySem PySem.Spec PyProof.Rows L2 StX RZ MyR SlX OwnR OwnF EnumT GxR
def ch : Nat → Nat → Nat
  | _, 0 => 1
  | 0, _ + 1 => 0
  | n + 1, k + 1 => ch n k + ch n (k + 1)
theorem ch_zero (n : Nat) : ch n 0 = 1 := by cases n <;> rfl
theorem ch_far : ∀ n k : Nat, n < k → ch n k = 0
  | n, 0, h => absurd h (Nat.not_lt_zero n)
  | 0, k + 1, _ => rfl
  | n + 1, k + 1, h => by
    show ch n k + ch n (k + 1) = 0
    rw [ch_far n k (by omega), ch_far n (k + 1) (by omega)]
theorem ch_mul : ∀ n k : Nat, (ch n (k + 1) : Int) * ((k : Int) + 1) = ch n k * ((n : Int) - k)
  | 0, k => by
    show ((0 : Nat) : Int) * _ = _
    cases k with
    | zero => show (0 : Int) * _ = 1 * ((0 : Int) - 0); grind
    | succ k => show (0 : Int) * _ = (0 : Int) * _; grind
  | n + 1, 0 => by
    have h := ch_mul n 0
    rw [ch_zero] at h
    show ((ch n 0 + ch n (0 + 1) : Nat) : Int) * _ = ((ch (n + 1) 0 : Nat) : Int) * _
    rw [ch_zero, ch_zero, Int.natCast_add]
    have e : ((0 : Nat) : Int) = 0 := rfl
    rw [e] at h ⊢
    rw [show ((n + 1 : Nat) : Int) = (n : Int) + 1 by omega]
    grind
  | n + 1, k + 1 => by
    have h1 := ch_mul n (k + 1)
    have h2 := ch_mul n k
    show ((ch n (k + 1) + ch n (k + 1 + 1) : Nat) : Int) * _ = ((ch n k + ch n (k + 1) : Nat) : Int) * _
    rw [Int.natCast_add (ch n (k + 1)), Int.natCast_add (ch n k)]
    rw [show ((k + 1 : Nat) : Int) = (k : Int) + 1 by omega] at h1 ⊢
    rw [show ((n + 1 : Nat) : Int) = (n : Int) + 1 by omega]
    grind
theorem ch_le : ∀ n k : Nat, ch n k ≤ 2 ^ n
  | n, 0 => by rw [ch_zero]; exact Nat.one_le_two_pow
  | 0, k + 1 => Nat.zero_le _
  | n + 1, k + 1 => by
    show ch n k + ch n (k + 1) ≤ _
    have h1 := ch_le n k
    have h2 := ch_le n (k + 1)
    rw [Nat.pow_succ]
    omega
theorem filt_head {l : List Int} (h : nzr l = true) : ((List.range l.length).filter fun k => co l k != 0)[0]? = some (fi l) := by
  rw [← List.head?_eq_getElem?, List.head?_filter]
  refine List.find?_eq_some_iff_getElem.mpr ⟨by simpa using fi_ne h, fi l, by rw [List.length_range]; exact fi_lt h, List.getElem_range _, fun j hj => ?_⟩
  rw [List.getElem_range]
  have hj2 : j < l.findIdx (· != 0) := hj
  have := List.not_of_lt_findIdx hj2
  have hl : j < l.length := Nat.lt_trans hj (fi_lt h)
  rw [co_get hl]
  simpa using this
theorem low_le {t b : Int} (hb : b ≠ 0) : (low t b).1.natAbs ≤ t.natAbs ∧ (low t b).2.natAbs ≤ b.natAbs := by
  obtain ⟨e1, e2⟩ := low_spec (t := t) hb
  have hd : 1 ≤ (dn t b).natAbs := by have := dn_ne (t := t) hb; omega
  constructor
  · conv => rhs; rw [e1, Int.natAbs_mul]
    exact Nat.le_mul_of_pos_right _ hd
  · conv => rhs; rw [e2, Int.natAbs_mul]
    exact Nat.le_mul_of_pos_right _ hd
theorem cont_nzr (l : List Int) : cont l = 0 ↔ nzr l = false := by
  have h := any_cont l
  unfold nzr
  constructor
  · intro e
    rw [decide_eq_true e] at h
    simpa using h
  · intro e
    rw [e] at h
    exact of_decide_eq_true h.symm
theorem eq_lints {K : PySem.W.Frag} {H : Hp} {a b : Addr} {xs ys : List Int} {Q : VK} (ha : SqL K H a (xs.map V.int)) (hb : SqL K H b (ys.map V.int)) (q : Q (.bl (decide (xs = ys))) H) : rEqD K (.ref a) (.ref b) H Q := by
  refine ⟨.list (xs.map PyData.int), .list (ys.map PyData.int), .lst ha (dpAll_ints xs), .lst hb (dpAll_ints ys), shaped_lints xs, shaped_lints ys, ?_⟩
  rw [show PyData.eqv (.list (xs.map PyData.int)) (.list (ys.map PyData.int)) = decide (xs = ys) from eqvAll_ints xs ys]
  exact q
theorem sm_of_le {x y : Int} (h : sm y) (k : x.natAbs ≤ y.natAbs) : sm x := Nat.lt_of_le_of_lt k h
section
variable {P : Program} {w : World} {K : PySem.W.Frag} {mg : Str → Option Value} {base : Heap}
def spLots : Sp := fun vs H Q _ => ∃ n k : Nat, vs = [.int n, .int k] ∧ k ≤ n ∧ n ≤ 50 ∧ Q (.int (ch n k)) H
theorem sm_ch {n k : Nat} (h : n ≤ 50) : sm ((ch n k : Nat) : Int) := by
  show ((ch n k : Nat) : Int).natAbs < _
  rw [Int.natAbs_natCast]
  exact Nat.lt_of_le_of_lt (ch_le n k) (Nat.pow_lt_pow_right (by decide) (by omega))
theorem ok_law_choose (T : Facts K mg) : FnOk P w K mg base CX0 1 T.f_law_choose T.fd_law_choose ["_law_many", "_law_few"] spLots := by
  refine T.F_law_choose.ok sc_law_choose (fun vs H Q E h => ?_) (fun cdv A outer s H vs Q E hr h => ?_)
  · obtain ⟨n, k, rfl, _⟩ := h
    rfl
  · obtain ⟨n, k, rfl, hk, hn, q⟩ := h
    refine ⟨_, (PSs.nox (pss_cons (ps_set (i := 2) sc_law_choose.nd rfl (.inl rfl) pe_int)
    (pss_cons (ps_for PassesOwn.never (by rfl) (pi_range1 (by rfl) T.z_range (pa_cons (pv 1) pa_nil)) (pg_name (i := 3) sc_law_choose.nd rfl (.inl rfl))
      (pss_one (ps_set (i := 2) sc_law_choose.nd rfl (.inl rfl) (pe_op op_fdivZ (pe_op op_mulW (pv 2) (pe_op op_sub (pv 0) (pv 3))) (pe_op op_add (pv 3) pe_int)))))
    (pss_one (ps_ret (pv 2)))))), ?_⟩
    refine ⟨_, rfl, k, rfl, by omega, by omega, for_range (n := (k : Int).toNat) (fun i σ H' => ∃ y3, σ = [some (.int n), some (.int k), some (.int (ch n i)), y3] ∧ H' = H) ⟨none, by rw [ch_zero]; rfl, rfl⟩ (fun i σ H' hi hP => ?_) (fun σ H' hP => ?_)⟩
    · obtain ⟨y3, rfl, rfl⟩ := hP
      have e := ch_mul n i
      have hi1 : (0 : Int) + (i : Int) + 1 ≠ 0 := by omega
      refine ⟨_, rfl, _, rfl, _, rfl, _, _, rfl, rfl, _, _, rfl, rfl, sm_mul (sm_ch hn) (Nat.lt_of_le_of_lt (show ((n : Int) - (0 + (i : Int))).natAbs ≤ 50 by omega) (Nat.lt_of_lt_of_le (show 50 < 2 ^ 7 by decide) (Nat.pow_le_pow_right (by decide) (by decide)))), _, rfl, _, _, rfl, rfl, _, _, rfl, rfl, ⟨hi1, Nat.lt_trans (PySem.Flt.log2_lt_of (k := 10) (by decide) (by show ((0 : Int) + (i : Int) + 1).natAbs < 2 ^ 10; omega)) (by decide)⟩, some (.int (0 + (i : Int))), ?_, rfl⟩
      have e2 : (((ch n i : Nat) : Int) * ((n : Int) - (0 + (i : Int)))).fdiv (0 + (i : Int) + 1) = ((ch n (i + 1) : Nat) : Int) := by
        rw [Int.zero_add, ← e, Int.mul_fdiv_cancel _ (by omega)]
      show [some (V.int n), some (V.int k), some (V.int ((((ch n i : Nat) : Int) * ((n : Int) - (0 + (i : Int)))).fdiv (0 + (i : Int) + 1))), _] = _
      rw [e2]
    · obtain ⟨y3, rfl, rfl⟩ := hP
      rw [Int.toNat_natCast]
      exact ⟨_, rfl, q⟩
def spRaised : Sp := fun vs H Q _ => ∃ (c : Int) (n : Nat), vs = [.int c, .int n] ∧ (∀ i, i ≤ n → sm (c ^ i)) ∧ sm c ∧ n ≤ 100 ∧ Q (.int (c ^ n)) H
theorem ok_law_raised (T : Facts K mg) : FnOk P w K mg base CX0 1 T.f_law_raised T.fd_law_raised ["_law_number", "_law_times"] spRaised := by
  refine T.F_law_raised.ok sc_law_raised (fun vs H Q E h => ?_) (fun cdv A outer s H vs Q E hr h => ?_)
  · obtain ⟨c, n, rfl, _⟩ := h
    rfl
  · obtain ⟨c, n, rfl, hs, hc, hn, q⟩ := h
    refine ⟨_, (PSs.nox (pss_cons (ps_set (i := 2) sc_law_raised.nd rfl (.inl rfl) pe_int)
    (pss_cons (ps_for PassesOwn.never (by rfl) (pi_range1 (by rfl) T.z_range (pa_cons (pv 1) pa_nil)) (pg_name (i := 3) sc_law_raised.nd rfl (.inl rfl))
      (pss_one (ps_set (i := 2) sc_law_raised.nd rfl (.inl rfl) (pe_op op_mulW (pv 2) (pv 0)))))
    (pss_one (ps_ret (pv 2)))))), ?_⟩
    refine ⟨_, rfl, n, rfl, by omega, by omega, for_range (n := (n : Int).toNat) (fun i σ H' => ∃ y3, σ = [some (.int c), some (.int n), some (.int (c ^ i)), y3] ∧ H' = H) ⟨none, by rw [Int.pow_zero]; rfl, rfl⟩ (fun i σ H' hi hP => ?_) (fun σ H' hP => ?_)⟩
    · obtain ⟨y3, rfl, rfl⟩ := hP
      refine ⟨_, rfl, _, rfl, _, _, rfl, rfl, sm_mul (hs i (by omega)) hc, some (.int (0 + (i : Int))), ?_, rfl⟩
      rw [Int.pow_succ]
      rfl
    · obtain ⟨y3, rfl, rfl⟩ := hP
      rw [Int.toNat_natCast]
      exact ⟨_, rfl, q⟩
def spPowIn : Sp := fun vs H Q _ => ∃ (a : Addr) (xs : List Int) (n : Nat), vs = [.ref a, .int n] ∧ H a = some (tp xs) ∧ xs ≠ [] ∧ xs.length ≤ 100 ∧ (∀ x ∈ xs, sm x) ∧ (∀ i, i < n → pow xs i ≠ [] ∧ (pow xs i).length ≤ 100 ∧ ∀ x ∈ pow xs i, sm x) ∧ n ≤ 100 ∧ ∀ p H', Same H H' → H' p = some (tp (pow xs n)) → Q (.ref p) H'
theorem ok_power_in (T : Facts K mg) : FnOk P w K mg base CX0 3 T.f_power_in T.fd_power_in ["pair", "degree"] spPowIn := by
  have G_product_in := ok_product_in (P := P) (w := w) (base := base) T
  refine T.F_power_in.ok sc_power_in (fun vs H Q E h => ?_) (fun cdv A outer s H vs Q E hr h => ?_)
  · obtain ⟨a, xs, n, rfl, _⟩ := h
    rfl
  · obtain ⟨a, xs, n, rfl, ha, nx, lx, hx, hp, hn, q⟩ := h
    refine ⟨_, (PSs.nox (pss_cons (ps_set (i := 2) sc_power_in.nd rfl (.inl rfl) (pe_tup (pa_cons pe_int pa_nil)))
    (pss_cons (ps_for PassesOwn.never (by rfl) (pi_range1 (by rfl) T.z_range (pa_cons (pv 1) pa_nil)) (pg_name (i := 3) sc_power_in.nd rfl (.inl rfl))
      (pss_one (ps_set (i := 2) sc_power_in.nd rfl (.inl rfl) (pe_call G_product_in hr (by rfl) T.g_product_in T.F_product_in.kp T.b_product_in .nil pass0 (pa_cons (pv 2) (pa_cons (pv 0) pa_nil))))))
    (pss_one (ps_ret (pv 2)))))), ?_⟩
    refine ⟨(by show 1 ≤ sizeLine; decide), fun p0 n0 => ⟨_, rfl, n, rfl, by omega, by omega, for_range (n := (n : Int).toNat) (fun i σ H' => ∃ r y3, σ = [some (.ref a), some (.int n), some (.ref r), y3] ∧ Same H H' ∧ H' r = some (tp (pow xs i))) ⟨p0, none, rfl, same_upd0 n0, upd_same⟩ (fun i σ H' hi hP => ?_) (fun σ H' hP => ?_)⟩⟩
    · obtain ⟨r, y3, rfl, sH, hr2⟩ := hP
      obtain ⟨h1, h2, h3⟩ := hp i (by omega)
      exact ⟨_, rfl, _, rfl, r, a, _, xs, rfl, hr2, sH _ _ ha, h1, nx, h2, lx, h3, hx, fun p H2 s2 _ hp2 => ⟨p, _, rfl, sH.trans s2, hp2⟩⟩
    · obtain ⟨r, y3, rfl, sH, hr2⟩ := hP
      rw [Int.toNat_natCast] at hr2
      exact ⟨_, rfl, q r H' sH hr2⟩
def spPowerM (C : Addr) : Sp := fun vs H Q _ => ∃ (t : Addr) (u v : Int) (n : Nat), vs = [.ref C, .ref t, .int n] ∧ H t = some (tp [u, v]) ∧ Sho u ∧ Sho v ∧ n ≤ 40 ∧ (∀ i, i ≤ n → Rw (pow [u, v] i)) ∧ ∀ p H', Same H H' → Fo C H' p (pow [u, v] n) → Q (.ref p) H'
theorem ok_Form_power (T : Facts K mg) : FnOk P w K mg base CX0 7 T.f_Form_power T.fd_Form_power ["cls", "pair", "degree"] (spPowerM T.C_Form) := by
  have G_are_short : FnOk P w K mg base CX0 3 T.f_are_short T.fd_are_short ["value"] spAreShort := ok_are_short T
  have G_require_from := ok_require_from (P := P) (w := w) (base := base) T
  have G_power_in := ok_power_in (P := P) (w := w) (base := base) T
  have G_Told_init : FnOk P w K mg base CX0 1 T.f_Told_init T.fd_Told_init ["self", "row"] (spTold T.C_Told) := ok_Told_init T
  have G_Form_init : FnOk P w K mg base CX0 5 T.f_Form_init T.fd_Form_init ["self", "entries"] (spForm T.C_Told T.C_Form) := ok_Form_init T
  refine T.F_Form_power.ok sc_Form_power (fun vs H Q E h => ?_) (fun cdv A outer s H vs Q E hr h => ?_)
  · obtain ⟨t, u, v, n, rfl, _⟩ := h
    rfl
  · obtain ⟨t, u, v, n, rfl, ht, hu, hv, hn, hp, q⟩ := h
    refine ⟨_, (PSs.nox (pss_cons (ps_if (pw_or (pt_not (pt_val (pe_call G_are_short (hr.mono (by decide)) (by rfl) T.g_are_short T.F_are_short.kp T.b_are_short .nil pass0 (pa_cons (pv 1) pa_nil)))) (pw_or1 (pt_cmpR op_ne (pe_callB call_len_seq (by rfl) T.z_len (by decide +kernel) (pa_cons (pv 1) pa_nil)) pe_int (nomark _)))).pt
      (pss_one ps_never)
      pss_nil)
    (pss_cons (ps_expr (pe_call G_require_from (hr.mono (by decide)) (by rfl) T.g_require_from T.F_require_from.kp T.b_require_from .nil pass0 (pa_cons (pv 2) (pa_cons pe_int (pa_cons (pe_glob (v := .int 40) (by rfl) T.c_MAX_DEGREE.choose_spec ⟨_, rfl⟩) pa_nil)))))
    (pss_one (ps_ret (OwnC.pe_makeV (i := 0) T.mk_Form G_Form_init (hr.mono (by decide)) T.b_Form_init rfl (by first | exact Or.inl rfl | exact Or.inr (Or.inl rfl) | exact Or.inr (Or.inr rfl)) (pa_cons (pe_make T.mk_Told G_Told_init (hr.mono (by decide)) (by rfl) T.g_Told T.b_Told_init .nil pass0 (pa_cons (pe_call G_power_in (hr.mono (by decide)) (by rfl) T.g_power_in T.F_power_in.kp T.b_power_in .nil pass0 (pa_cons (pv 1) (pa_cons (pv 2) pa_nil))) pa_nil)) pa_nil))))))), ?_⟩
    refine ⟨_, rfl, t, [u, v], rfl, ht, by show 2 ≤ 1000; decide, fun z hz => ?_, fun H1 s1 => ⟨true, rfl, iteF ⟨_, rfl, t, _, rfl, .inr (SqT.of (s1 _ _ ht)), rfl, _, rfl, iteF ⟨_, rfl, n, 0, 40, rfl, by omega, by omega, ?_⟩⟩⟩⟩
    · simp only [List.mem_cons, List.not_mem_nil, or_false] at hz
      rcases hz with e | e <;> rw [e] <;> assumption
    · have r1 := hp n (Nat.le_refl _)
      have su : ∀ z ∈ [u, v], sm z := fun z hz => by
        simp only [List.mem_cons, List.not_mem_nil, or_false] at hz
        rcases hz with e | e <;> rw [e]
        · exact Nat.lt_trans hu (by decide)
        · exact Nat.lt_trans hv (by decide)
      refine ⟨rfl, _, rfl, _, rfl, t, [u, v], n, rfl, s1 _ _ ht, by simp, by show 2 ≤ 100; decide, su, fun i hi => ⟨(hp i (by omega)).ne, (hp i (by omega)).len, (hp i (by omega)).sm⟩, by omega, fun p2 H2 s2 h2 => ?_⟩
      refine fun x dx hx hdx hne => ⟨x, dx, .ref p2, rfl, .inl ⟨upd_same, rfl⟩, rfl, ?_⟩
      have sA : Same H2 (slH (upd (upd H2 dx (.own x)) x (.ins T.C_Told dx [])) x T.C_Told dx [some (.ref p2)]) := made hx hdx hne (Same.rf _)
      have y1 : Slt (slH (upd (upd H2 dx (.own x)) x (.ins T.C_Told dx [])) x T.C_Told dx [some (.ref p2)]) x T.C_Told dx [some (.ref p2)] := slH_slt hne
      generalize slH (upd (upd H2 dx (.own x)) x (.ins T.C_Told dx [])) x T.C_Told dx [some (.ref p2)] = H3 at sA y1 ⊢
      refine fun x2 dx2 hx2 hdx2 hne2 => ⟨x2, dx2, x, p2, rfl, .inl ⟨upd_same, rfl⟩, .inl ⟨dx, ?_⟩, fun H4 s4 => ⟨rfl, ?_⟩⟩
      · exact slt_upd (slt_upd y1 hdx2) (by rw [upd_ne (Ne.symm hne2)]; exact hx2)
      · have s5 : Same H3 (slH H4 x2 T.C_Form dx2 [some (.ref p2)]) := made hx2 hdx2 hne2 s4
        refine q x2 _ ((s1.trans s2).trans (sA.trans s5)) ⟨dx2, p2, upd_same, ?_, s5 _ _ (sA _ _ h2)⟩
        unfold slH
        rw [upd_ne hne2, upd_same]
def spDue : Sp := fun vs H Q _ => ∃ (t u : Addr) (xs ys : List Int), vs = [.ref t, .ref u] ∧ H t = some (tp xs) ∧ H u = some (tp ys) ∧ xs.length ≤ 100 ∧ ys.length ≤ 100 ∧ (∀ z ∈ xs, sm z) ∧ (∀ z ∈ ys, sm z) ∧ ∀ v H', Same H H' → RV H' v (RB xs ys) → Q v H'
theorem ok_law_factor_due (T : Facts K mg) : FnOk P w K mg base CX0 3 T.f_law_factor_due T.fd_law_factor_due ["_law_one", "_law_other"] spDue := by
  have G_law_shared : FnOk P w K mg base CX0 2 T.f_law_shared T.fd_law_shared ["_law_numbers"] spShared := ok_law_shared T
  have G_law_lowest := ok_law_lowest (P := P) (w := w) (base := base) T
  refine T.F_law_factor_due.ok sc_law_factor_due (fun vs H Q E h => ?_) (fun cdv A outer s H vs Q E hr h => ?_)
  · obtain ⟨t, u, xs, ys, rfl, _⟩ := h
    rfl
  · obtain ⟨t, u, xs, ys, rfl, ht, hu, lx, ly, sx, sy, q⟩ := h
    refine ⟨_, (PSs.nox (pss_cons (ps_if (pt_cmpR op_ne (pe_callB call_len_seq (by rfl) T.z_len (by decide +kernel) (pa_cons (pv 0) pa_nil)) (pe_callB call_len_seq (by rfl) T.z_len (by decide +kernel) (pa_cons (pv 1) pa_nil)) (nomark _))
      (pss_one (ps_ret pe_non))
      pss_nil)
    (pss_cons (ps_if (pw_or (pt_cmpR op_eq (pe_call G_law_shared hr (by rfl) T.g_law_shared T.F_law_shared.kp T.b_law_shared .nil pass0 (pa_cons (pv 0) pa_nil)) pe_int (nomark _)) (pw_or1 (pt_cmpR op_eq (pe_call G_law_shared hr (by rfl) T.g_law_shared T.F_law_shared.kp T.b_law_shared .nil pass0 (pa_cons (pv 1) pa_nil)) pe_int (nomark _)))).pt
      (pss_one (ps_ret (pe_ifExp (pt_cmpR op_eq (pe_call G_law_shared hr (by rfl) T.g_law_shared T.F_law_shared.kp T.b_law_shared .nil pass0 (pa_cons (pv 0) pa_nil)) (pe_call G_law_shared hr (by rfl) T.g_law_shared T.F_law_shared.kp T.b_law_shared .nil pass0 (pa_cons (pv 1) pa_nil)) (nomark _)) (pe_tup (pa_cons pe_int (pa_cons pe_int pa_nil))) pe_non)))
      pss_nil)
    (pss_cons (ps_set (i := 2) sc_law_factor_due.nd rfl (.inl rfl) (pe_ix ix_list (pe_lc (own := [("_law_place", 3), ("_law_entry", 4)]) (g := (gTup K 2 (gCons (gName 3) (gCons (gName 4) gNil)))) (by rfl) sc_law_factor_due.nd (pi_enumT (by rfl) T.z_enumerate (pa_cons (pv 0) pa_nil)) (blkOk_by (N := N_law_factor_due) (sc := defScope s_law_factor_due) (by decide +kernel)) (fun _ _ _ _ _ => (pg_tup (by rfl) (pgs_cons (pg_name (i := 3) sc_law_factor_due.nd rfl (.inl rfl)) (pgs_cons (pg_name (i := 4) sc_law_factor_due.nd rfl (.inl rfl)) pgs_nil)))) (fun _ _ _ _ _ => (pts_one (pt_cmpR op_ne (pv 4) pe_int (nomark _)))) (fun _ _ _ _ _ => (pv 3))) pe_int (fun _ _ => rfl)))
    (pss_cons (ps_if (pt_cmpR op_eq (pe_ix ix_tup (pv 1) (pv 2) (fun _ _ => rfl)) pe_int (nomark _))
      (pss_one (ps_ret pe_non))
      pss_nil)
    (pss_cons (ps_set (i := 5) sc_law_factor_due.nd rfl (.inr rfl) (pe_call G_law_lowest hr (by rfl) T.g_law_lowest T.F_law_lowest.kp T.b_law_lowest .nil pass0 (pa_cons (pe_ix ix_tup (pv 1) (pv 2) (fun _ _ => rfl)) (pa_cons (pe_ix ix_tup (pv 0) (pv 2) (fun _ _ => rfl)) pa_nil))))
    (pss_cons (ps_setLc (i := 6) (own := [("_law_a", 7), ("_law_b", 8)]) (g := (gTup K 2 (gCons (gName 7) (gCons (gName 8) gNil)))) rfl sc_law_factor_due.nd rfl rfl (sw_true rfl rfl rfl (by decide +kernel)) (pi_zipA (by rfl) T.z_zip (pa_cons (pv 0) (pa_cons (pv 1) pa_nil))) (blkOk_by (N := N_law_factor_due) (sc := defScope s_law_factor_due) (by decide +kernel)) (fun _ _ _ _ _ => (pg_tup (by rfl) (pgs_cons (pg_name (i := 7) sc_law_factor_due.nd rfl (.inl rfl)) (pgs_cons (pg_name (i := 8) sc_law_factor_due.nd rfl (.inl rfl)) pgs_nil)))) (fun _ _ _ _ _ => (pts_one (pt_cmpR op_ne (pe_op op_mulW (pv 7) (pe_ix (ix_tup : IxR _ (rIxT K)) (pv 5) pe_int (fun _ _ => rfl))) (pe_op op_mulW (pv 8) (pe_ix (ix_tup : IxR _ (rIxT K)) (pv 5) pe_int (fun _ _ => rfl))) (nomark _)))) (fun _ _ _ _ _ => pe_int))
    (pss_one (ps_ret (pe_ifExp (pt_cmpR (op_eqD (hu64 hr)) (pv 6) (pe_lst pa_nil) (nomark _)) (pv 5) pe_non)))))))))), ?_⟩
    have ec : ∀ l : List Int, decide (V.int ((cont l : Nat) : Int) = V.int 0) = !nzr l := fun l => by
      unfold nzr
      rw [any_cont]
      exact decide_eq_decide.mpr ⟨fun h => Int.natCast_eq_zero.mp (V.int.inj h), fun h => by rw [h]; rfl⟩
    refine ⟨_, rfl, t, _, rfl, .inr (SqT.of ht), _, rfl, u, _, rfl, .inr (SqT.of hu), rfl, _, rfl, ?_⟩
    rw [List.length_map, List.length_map]
    by_cases hl : xs.length = ys.length
    rotate_left
    · rw [decide_eq_false (fun y => hl (by have := V.int.inj y; omega))]
      exact iteT (q _ _ (Same.rf H) (by rw [RB_none1 (.inl hl)]; rfl))
    rw [decide_eq_true (by rw [hl])]
    refine iteF ⟨_, rfl, t, xs, rfl, ht, rfl, _, rfl, ?_⟩
    rw [ec]
    have none2 : nzr xs ≠ nzr ys → ∀ H', Same H H' → Q .non H' := fun h H' s => q .non H' s (by rw [RB_none1 (.inr h)]; rfl)
    cases hz : nzr xs with
    | false =>
      refine iteT ⟨_, rfl, t, xs, rfl, ht, _, rfl, u, ys, rfl, hu, rfl, _, rfl, ?_⟩
      have cx := (cont_nzr xs).mpr hz
      cases hy : nzr ys with
      | false =>
        have cy := (cont_nzr ys).mpr hy
        rw [cx, cy, decide_eq_true rfl]
        exact iteT ⟨by show 2 ≤ sizeLine; decide, fun p n => q (.ref p) _ (same_upd0 n) (by rw [RB_zero hl (by rw [hz, hy]) hz]; exact ⟨p, rfl, upd_same⟩)⟩
      | true =>
        rw [decide_eq_false (fun y => by
          have e : cont xs = cont ys := Int.ofNat.inj (V.int.inj y)
          rw [cx] at e
          have := (cont_nzr ys).mp e.symm
          rw [hy] at this
          cases this)]
        exact iteF (none2 (by rw [hz, hy]; decide) _ (Same.rf H))
    | true =>
      refine iteF ⟨_, rfl, u, ys, rfl, hu, rfl, _, rfl, ?_⟩
      rw [ec]
      cases hy : nzr ys with
      | false =>
        refine iteT ⟨_, rfl, t, xs, rfl, ht, _, rfl, u, ys, rfl, hu, rfl, _, rfl, ?_⟩
        have cy := (cont_nzr ys).mpr hy
        rw [decide_eq_false (fun y => by
          have e : cont xs = cont ys := Int.ofNat.inj (V.int.inj y)
          rw [cy] at e
          have := (cont_nzr xs).mp e
          rw [hz] at this
          cases this)]
        exact iteF (none2 (by rw [hz, hy]; decide) _ (Same.rf H))
      | true =>
        have hn : nzr xs = nzr ys := by rw [hz, hy]
        have hi := fi_lt hz
        have hb0 := fi_ne hz
        refine iteF ⟨_, rfl, t, _, rfl, SqT.of ht, fun D hD => lc_enumT (xs := xs.map V.int) (fun j H' => Same H H' ∧ H' D = some (.lst ((((List.range j).filter fun k => co xs k != 0).map fun k : Nat => ((k : Nat) : Int)).map V.int))) ⟨same_upd0 hD, upd_same⟩ (fun j H' _ hP => SqT.of (hP.1 _ _ ht)) (fun j x B H' hx hP hB => ?_) (fun H1 hP => ?_)⟩
        · obtain ⟨sH, hL⟩ := hP
          obtain ⟨hj, rfl⟩ := int_get hx
          refine gen_upd H' B _ hB fun H4 s4 f4 => ⟨B, _, rfl, SqT.of f4, rfl, _, _, rfl, _, _, rfl, rfl, rfl, _, rfl, rfl, _, rfl, ?_⟩
          have hL4 := s4 _ _ hL
          rw [List.range_succ, List.filter_append]
          by_cases d : co xs j = 0
          · rw [decide_eq_true (show V.int (co xs j) = V.int 0 by rw [d])]
            refine iteF ⟨sH.trans s4, ?_⟩
            rw [hL4, List.filter_cons_of_neg (by rw [d]; decide), List.filter_nil, List.append_nil]
          · rw [decide_eq_false fun z => d (V.int.inj z)]
            refine iteT ⟨_, rfl, _, hL4, ?_, fun b o e => ?_, ?_⟩
            · have h1 := List.length_filter_le (fun k => co xs k != 0) (List.range j)
              rw [List.length_range] at h1
              rw [List.length_map, List.length_map]
              exact small1000 (by omega)
            · rw [upd_ne (ne_of_none e hD)]
              exact s4 _ _ (sH _ _ e)
            · rw [upd_same, List.filter_cons_of_pos (by simpa using d), List.filter_nil, List.map_append, List.map_append]
              rfl
        · obtain ⟨s1, hL⟩ := hP
          rw [List.length_map] at hL
          have hfi := filt_head hz
          refine ⟨D, _, _, .int (fi xs : Int), rfl, rfl, SqL.of hL, atI_nat (j := 0) (by rw [List.getElem?_map, List.getElem?_map, hfi]; rfl), ?_⟩
          have ht1 := s1 _ _ ht
          have hu1 := s1 _ _ hu
          generalize hbt : co ys (fi xs) = tp'
          generalize hbb : co xs (fi xs) = bt at hb0
          have smt : sm tp' := by rw [← hbt]; exact sm_co sy (by omega)
          have smb : sm bt := by rw [← hbb]; exact sm_co sx hi
          have eR1 : (tp' = 0 ∨ ¬ Like xs ys tp' bt) → RB xs ys = none := fun h => RB_bad hl hn hz (by rw [hbt, hbb]; exact h)
          have eR2 : tp' ≠ 0 → Like xs ys tp' bt → RB xs ys = some (low tp' bt) := fun h0 h => by rw [RB_good hl hn hz (by rw [hbt]; exact h0) (by rw [hbt, hbb]; exact h), hbt, hbb]
          have gy : (ys.map V.int)[fi xs]? = some (.int tp') := by rw [get_int (xs := ys) (by omega), hbt]
          have gx : (xs.map V.int)[fi xs]? = some (.int bt) := by rw [get_int hi, hbb]
          refine ⟨_, rfl, _, rfl, u, _, _, _, rfl, rfl, SqT.of hu1, at_of rfl gy, rfl, _, rfl, ?_⟩
          by_cases h0 : tp' = 0
          · rw [decide_eq_true (by rw [h0])]
            exact iteT (q _ _ s1 (by rw [eR1 (.inl h0)]; rfl))
          rw [decide_eq_false (fun y => h0 (V.int.inj y))]
          refine iteF ⟨_, rfl, _, rfl, u, _, _, _, rfl, rfl, SqT.of hu1, at_of rfl gy, _, rfl, _, rfl, t, _, _, _, rfl, rfl, SqT.of ht1, at_of rfl gx, tp', bt, rfl, hb0, smb, fun r H2 s2 k2 => ?_⟩
          obtain ⟨l1, l2⟩ := low_le (t := tp') hb0
          have cross := fun (x y : Int) => low_cross (t := tp') (x := x) (y := y) hb0
          generalize low tp' bt = r01 at l1 l2 cross k2 eR2
          obtain ⟨r0, r1⟩ := r01
          have sr0 : sm r0 := sm_of_le smt l1
          have sr1 : sm r1 := sm_of_le smb l2
          have ht2 := s2 _ _ ht1
          have hu2 := s2 _ _ hu1
          have k2 : H2 r = some (tp [r0, r1]) := k2
          refine ⟨_, rfl, _, rfl, t, u, _, _, rfl, .inr ⟨SqT.of ht2, SqT.of hu2, fun D2 hD2 => ?_⟩⟩
          refine lc_zipT (xs := xs.map V.int) (ys := ys.map V.int) (by rw [List.length_map, List.length_map, hl]) (fun j H' => Same H2 H' ∧ H' D2 = some (.lst ((((List.range j).filter fun k => co xs k * r0 != co ys k * r1).map fun _ => (1 : Int)).map V.int))) ⟨same_upd0 hD2, upd_same⟩ (fun j H' _ hP => ⟨SqT.of (hP.1 _ _ ht2), SqT.of (hP.1 _ _ hu2)⟩) (fun j x y A H' hx hy hP hA => ?_) (fun H3 hP => ?_)
          · obtain ⟨sH, hL2⟩ := hP
            obtain ⟨hj, rfl⟩ := int_get hx
            obtain ⟨hj2, rfl⟩ := int_get hy
            have sA := same_upd0 (o := .tup [.int (co xs j), .int (co ys j)]) hA
            have kA := sA _ _ (sH _ _ k2)
            refine ⟨A, _, rfl, SqT.of upd_same, rfl, _, _, rfl, _, _, rfl, rfl, rfl, _, rfl, _, rfl, r, _, 0, _, rfl, rfl, SqT.of kA, atI_nat (j := 0) rfl, _, _, rfl, rfl, sm_mul (sm_co sx hj) sr0, _, rfl, _, rfl, r, _, 1, _, rfl, rfl, SqT.of kA, atI_nat (j := 1) rfl, _, _, rfl, rfl, sm_mul (sm_co sy hj2) sr1, rfl, _, rfl, ?_⟩
            rw [List.range_succ, List.filter_append]
            by_cases d : co xs j * r0 = co ys j * r1
            · rw [decide_eq_true (show V.int (co xs j * r0) = V.int (co ys j * r1) by rw [d])]
              refine iteF ⟨sH.trans sA, ?_⟩
              rw [sA _ _ hL2, List.filter_cons_of_neg (by rw [d]; simp), List.filter_nil, List.append_nil]
            · rw [decide_eq_false fun z => d (V.int.inj z)]
              refine iteT ⟨_, sA _ _ hL2, ?_, fun b o e => ?_, ?_⟩
              · have h1 := List.length_filter_le (fun k => co xs k * r0 != co ys k * r1) (List.range j)
                rw [List.length_range] at h1
                rw [List.length_map, List.length_map]
                exact small1000 (by omega)
              · rw [upd_ne (ne_of_none e hD2)]
                exact sA _ _ (sH _ _ e)
              · rw [upd_same, List.filter_cons_of_pos (by simpa using d), List.filter_nil, List.map_append, List.map_append]
                rfl
          · obtain ⟨sH, hL2⟩ := hP
            rw [List.length_map] at hL2
            have s3 := s1.trans (s2.trans sH)
            refine ⟨_, rfl, by show 0 ≤ sizeLine; exact Nat.zero_le _, fun E0 nE => gen_upd H3 E0 (.lst []) nE fun H4 s4 f4 => eq_lints (ys := []) (SqL.of (s4 _ _ hL2)) (SqL.of f4) ?_⟩
            by_cases hL : Like xs ys tp' bt
            · rw [decide_eq_true (by
                rw [List.map_eq_nil_iff, List.filter_eq_nil_iff]
                intro k hk
                have := (cross (co xs k) (co ys k)).mpr (hL k (List.mem_range.mp hk))
                simpa using this)]
              rw [eR2 h0 hL] at q
              exact ⟨true, rfl, iteT ⟨_, rfl, q _ _ (s3.trans s4) ⟨r, rfl, s4 _ _ (sH _ _ k2)⟩⟩⟩
            · rw [decide_eq_false (fun z => by
                rw [List.map_eq_nil_iff, List.filter_eq_nil_iff] at z
                refine hL fun k hk => (cross (co xs k) (co ys k)).mp ?_
                have := z k (List.mem_range.mpr hk)
                simpa using this)]
              exact ⟨false, rfl, iteF (q _ _ (s3.trans s4) (by rw [eR1 (.inr hL)]; rfl))⟩
end
end K08

set_option Elab.async false
set_option linter.all false
set_option maxRecDepth 100000
set_option maxHeartbeats 4000000
namespace K08
open PySem PySem.Spec PyProof.Rows L2 StX RZ MyR SlX OwnR OwnF EnumT GxR
theorem cv_single (v : Int) (g : Nat → Int) (k : Nat) : cv [v] g k = v * g k := by
  cases k with
  | zero => exact cv_zero v [] g
  | succ k => rw [cv_succ, cv_nil, Int.add_zero]
/-- the entries of a power, by binomials -/
theorem co_pow2 (u v : Int) : ∀ n k, co (pow [u, v] n) k = if k ≤ n then ((ch n k : Nat) : Int) * u ^ (n - k) * v ^ k else 0
  | 0, 0 => by
    show (1 : Int) = _
    rw [if_pos (Nat.le_refl 0), ch_zero, Nat.sub_zero, Int.pow_zero, Int.pow_zero]
    rfl
  | 0, k + 1 => by
    rw [if_neg (by omega)]
    rfl
  | n + 1, 0 => by
    show co (ml (pow [u, v] n) [u, v]) 0 = _
    rw [co_ml (by simp), cv_comm, cv_zero, co_pow2 u v n 0, if_pos (Nat.zero_le _), if_pos (Nat.zero_le _), ch_zero, ch_zero, Nat.sub_zero, Nat.sub_zero, Int.pow_succ]
    grind
  | n + 1, k + 1 => by
    show co (ml (pow [u, v] n) [u, v]) (k + 1) = _
    rw [co_ml (by simp), cv_comm, cv_succ, cv_single, co_pow2 u v n (k + 1), co_pow2 u v n k]
    show _ = if k + 1 ≤ n + 1 then ((ch n k + ch n (k + 1) : Nat) : Int) * u ^ (n + 1 - (k + 1)) * v ^ (k + 1) else 0
    rw [Nat.add_sub_add_right, Int.natCast_add]
    by_cases h : k + 1 ≤ n
    · rw [if_pos h, if_pos (by omega), if_pos (by omega), show n - k = (n - (k + 1)) + 1 by omega, Int.pow_succ, Int.pow_succ]
      grind
    · by_cases h2 : k = n
      · rw [if_neg h, if_pos (by omega), if_pos (by omega), ch_far n (k + 1) (by omega), Int.pow_succ]
        grind
      · rw [if_neg h, if_neg (by omega), if_neg (by omega)]
        grind
theorem rd_sx {d : Addr} {H H' : Hp} {t : Addr} {xs : List V} (s : Sx d H H') (hd : Dc H d) (h : H t = some (.tup xs)) : H' t = some (.tup xs) := s _ _ (dc_ne hd h) h
theorem rd_tab {P : Addr} {H H' : Hp} {t : Addr} {xs : List V} (s : Sx P H H') (hd : TabG H P) (h : H t = some (.tup xs)) : H' t = some (.tup xs) := s _ _ (tgT hd h) h
theorem Fo.back {C a : Addr} {H H' : Hp} {l : List Int} (s : Same H H') (h : Fo C H a l) : Fo C H' a l := h.same s
theorem Dc.back {d : Addr} {H H' : Hp} (s : Same H H') (h : Dc H d) : Dc H' d := h.same s
theorem Tb.back {t : Addr} {H H' : Hp} {X Y : List Int} (s : Same H H') (h : Tb H t X Y) : Tb H' t X Y := h.same s
theorem tg_sx {P d : Addr} {H H' : Hp} (s : Sx d H H') (hd : Dc H d) (t : TabG H P) : TabG H' P := by
  obtain ⟨ps, h, k⟩ := t
  obtain ⟨x, y, z, e⟩ := hd
  refine ⟨ps, s _ _ (fun q => ?_) h, k⟩
  rw [q, e] at h
  cases h
/-! ### dice and a table of code objects -/
def Sy (d P : Addr) (H H' : Hp) : Prop := ∀ b o, b ≠ d → b ≠ P → H b = some o → H' b = some o
theorem Sy.of {d P : Addr} {H H' : Hp} (s : Same H H') : Sy d P H H' := fun b o _ _ h => s b o h
theorem Sy.ofD {d P : Addr} {H H' : Hp} (s : Sx d H H') : Sy d P H H' := fun b o n _ h => s b o n h
theorem Sy.ofP {d P : Addr} {H H' : Hp} (s : Sx P H H') : Sy d P H H' := fun b o _ n h => s b o n h
theorem Sy.trans {d P : Addr} {H H1 H2 : Hp} (s : Sy d P H H1) (t : Sy d P H1 H2) : Sy d P H H2 := fun b o n m h => t b o n m (s b o n m h)
theorem rd_y {d P : Addr} {H H' : Hp} {t : Addr} {xs : List V} (s : Sy d P H H') (hd : Dc H d) (hP : TabG H P) (h : H t = some (.tup xs)) : H' t = some (.tup xs) := s _ _ (dc_ne hd h) (tgT hP h) h
theorem dc_tab {d P : Addr} {H H' : Hp} (s : Sx P H H') (hP : TabG H P) (h : Dc H d) : Dc H' d := by
  obtain ⟨x, y, z, e⟩ := h
  refine ⟨x, y, z, s _ _ (fun q => ?_) e⟩
  obtain ⟨ps, k, _⟩ := hP
  rw [q, k] at e
  cases e
/-- a pair of rows -/
def Pq (H : Hp) (x : V) : Prop := ∃ p a b l m, x = .ref p ∧ H p = some (.tup [.ref a, .ref b]) ∧ H a = some (tp l) ∧ H b = some (tp m) ∧ Tr l ∧ Tr m
theorem Pq.y {d P : Addr} {H H' : Hp} {x : V} (h : Pq H x) (s : Sy d P H H') (hd : Dc H d) (hP : TabG H P) : Pq H' x := by
  obtain ⟨p, a, b, l, m, rfl, h1, h2, h3, t1, t2⟩ := h
  exact ⟨p, a, b, l, m, rfl, rd_y s hd hP h1, rd_y s hd hP h2, rd_y s hd hP h3, t1, t2⟩
theorem ne_rv {K : PySem.W.Frag} {H : Hp} {v w : V} {r1 r2 : Option (Int × Int)} {Q : VK} (h1 : RV H v r1) (h2 : RV H w r2) (q : Q (.bl (!decide (r1 = r2))) H) : rNeD K v w H Q := by
  cases r1 with
  | none =>
    cases h1
    cases r2 with
    | none =>
      cases h2
      rw [decide_eq_true rfl] at q
      exact ⟨.none, .none, .non, .non, by decide +kernel, by decide +kernel, q⟩
    | some r =>
      obtain ⟨b1, b2⟩ := r
      obtain ⟨t, rfl, h2⟩ := h2
      rw [decide_eq_false (fun z => by cases z)] at q
      exact ⟨.none, .tuple ([b1, b2].map PyData.int), .non, .tup (SqT.of h2) (dpAll_ints _), by decide +kernel, shaped_tints _, q⟩
  | some r =>
    obtain ⟨a1, a2⟩ := r
    obtain ⟨t, rfl, h1⟩ := h1
    cases r2 with
    | none =>
      cases h2
      rw [decide_eq_false (fun z => by cases z)] at q
      exact ⟨.tuple ([a1, a2].map PyData.int), .none, .tup (SqT.of h1) (dpAll_ints _), .non, shaped_tints _, by decide +kernel, q⟩
    | some r =>
      obtain ⟨b1, b2⟩ := r
      obtain ⟨u, rfl, h2⟩ := h2
      refine ne_ints (SqT.of h1) (SqT.of h2) ?_
      rw [decide_eq_decide.mpr (show [a1, a2] = [b1, b2] ↔ some (a1, a2) = some (b1, b2) by simp)]
      exact q
theorem tr_near {l : List Int} {n b : Nat} (h : Bd l n b) (hn : n ≤ 30) (hb : b + 1 < 10 ^ 60) (i : Nat) : Tr (l.take i ++ [co l i + 1] ++ l.drop (i + 1)) := by
  have hl := h.len
  refine ⟨by simp, ?_, fun z hz => ?_⟩
  · rw [List.length_append, List.length_append, List.length_take, List.length_drop, List.length_cons, List.length_nil]
    omega
  · simp only [List.mem_append, List.mem_cons, List.not_mem_nil, or_false] at hz
    rcases hz with (e | e) | e
    · exact Nat.lt_of_le_of_lt (h.mem z (List.mem_of_mem_take e)) (by omega)
    · show z.natAbs < _
      rcases co_mem (l := l) (k := i) with c | c
      · rw [e, c]; show 1 < _; omega
      · have := h.mem _ c
        rw [e]
        omega
    · exact Nat.lt_of_le_of_lt (h.mem z (List.mem_of_mem_drop e)) (by omega)
end K08

set_option Elab.async false
set_option linter.all false
set_option maxRecDepth 100000
set_option maxHeartbeats 4000000
namespace K08
open PySem PySem.Spec PyProof.Rows L2 StX RZ MyR SlX OwnR OwnF EnumT GxR
theorem pw_nm {u v : Int} {m : Nat} (hu : u.natAbs ≤ m) (hv : v.natAbs ≤ m) (n : Nat) : Bd (pow [u, v] n) n ((2 * m) ^ n) := bd_pow (bd_pair hu hv) n
theorem pow_mem {u : Int} {m i n : Nat} (hm : 1 ≤ m) (hu : u.natAbs ≤ m) (hi : i ≤ n) : (u ^ i).natAbs ≤ m ^ n := by
  rw [Int.natAbs_pow]
  exact Nat.le_trans (Nat.pow_le_pow_left hu i) (Nat.pow_le_pow_right hm hi)
theorem two400 {a b : Nat} (h : a ≤ 2 ^ b) (hb : b < 400) : a < 2 ^ 400 := Nat.lt_of_le_of_lt h (Nat.pow_lt_pow_right (by decide) hb)
theorem pw_b {u v : Int} {m b i n : Nat} (hm : 2 * m ≤ 2 ^ b) (hu : u.natAbs ≤ m) (hv : v.natAbs ≤ m) (hi : i ≤ n) (hb : b * n < 199) : Bd (pow [u, v] i) i (2 ^ 198) := by
  refine (pw_nm hu hv i).mono (Nat.le_trans (Nat.pow_le_pow_left hm i) ?_)
  rw [← Nat.pow_mul]
  exact Nat.pow_le_pow_right (by decide) (Nat.le_trans (Nat.mul_le_mul_left b hi) (by omega))
theorem Fo.sl {C a : Addr} {H : Hp} {ns : List Int} (h : Fo C H a ns) : Slt H a C h.slt.choose [some (.ref h.slt.choose_spec.choose)] := h.slt.choose_spec.choose_spec.1
theorem pr2_of {a b : Int} {m : Nat} (ha : a.natAbs ≤ m) (hb : b.natAbs ≤ m) (hm : m < 10 ^ 60) : Pr2 [a, b] := ⟨rfl, fun x hx => by
  simp only [List.mem_cons, List.not_mem_nil, or_false] at hx
  rcases hx with e | e <;> rw [e]
  · exact Nat.lt_of_le_of_lt ha hm
  · exact Nat.lt_of_le_of_lt hb hm⟩
theorem p6b {i : Nat} (h : i ≤ 12) : 6 ^ i ≤ 2 ^ 36 := Nat.le_trans (Nat.pow_le_pow_right (by decide) h) (by decide)
/-- a small table, as what changes a form of a degree to 12 -/
structure T3 (a b c e : Int) : Prop where
  ha : a.natAbs ≤ 3
  hb : b.natAbs ≤ 3
  hc : c.natAbs ≤ 3
  he : e.natAbs ≤ 3
theorem T3.pX {a b c e : Int} (t : T3 a b c e) : Pr2 [a, b] := pr2_of t.ha t.hb (by decide)
theorem T3.pY {a b c e : Int} (t : T3 a b c e) : Pr2 [c, e] := pr2_of t.hc t.he (by decide)
theorem T3.ok {a b c e : Int} (t : T3 a b c e) {f : List Int} {j A : Nat} (h : Bd f j A) (hA : A ≤ 2 ^ 198) (hj : j ≤ 12) : ChOk [a, b] [c, e] f.tail [co f 0] [1] :=
  changed_ok (b := 6) (by decide) (bd_pair t.ha t.hb) (bd_pair t.hc t.he) h (by omega) (Nat.lt_of_le_of_lt (Nat.mul_le_mul (Nat.succ_le_succ hA) (p6b hj)) (two400 (show (2 ^ 198 + 1) * 2 ^ 36 ≤ 2 ^ 235 by decide) (by decide)))
theorem T3.bd {a b c e : Int} (t : T3 a b c e) {f : List Int} {j A : Nat} (h : Bd f j A) (hj : j ≤ 12) : Bd (changed [a, b] [c, e] f) j (A * 2 ^ 36) :=
  (changed_bd (bd_pair t.ha t.hb) (bd_pair t.hc t.he) h).mono (Nat.mul_le_mul_left _ (p6b hj))
theorem T3.sm {a b c e : Int} (t : T3 a b c e) : sm a ∧ sm b ∧ sm c ∧ sm e := ⟨sm_le t.ha (by decide), sm_le t.hb (by decide), sm_le t.hc (by decide), sm_le t.he (by decide)⟩
theorem mul3 {x y : Int} {m : Nat} (hx : x.natAbs ≤ m) (hy : y.natAbs ≤ 3) : (x * y).natAbs ≤ 3 * m := by
  rw [Int.natAbs_mul, Nat.mul_comm 3]
  exact Nat.mul_le_mul hx hy
section
variable {P : Program} {w : World} {K : PySem.W.Frag} {mg : Str → Option Value} {base : Heap}
theorem ok_law_are_powers_right (T : Facts K mg) : FnOk P w K mg base CX0 9 T.f_law_are_powers_right T.fd_law_are_powers_right ["_law_dice_here"] spRight := by
  have G_law_roll : FnOk P w K mg base CX0 1 T.f_law_roll T.fd_law_roll ["_law_dice_here", "_law_total"] spRoll2 := (ok_law_roll T).imp roll2
  have G_law_near : FnOk P w K mg base CX0 2 T.f_law_near T.fd_law_near ["_law_dice_here", "_law_most"] spNear := ok_law_near T
  have G_law_power := ok_law_power (P := P) (w := w) (base := base) T
  have G_law_choose := ok_law_choose (P := P) (w := w) (base := base) T
  have G_law_raised := ok_law_raised (P := P) (w := w) (base := base) T
  have G_law_table := ok_law_table (P := P) (w := w) (base := base) T
  have G_Form_power := ok_Form_power (P := P) (w := w) (base := base) T
  have G_Form_eq := ok_Form_eq (P := P) (w := w) (base := base) T
  have G_Form_entries := ok_Form_entries (P := P) (w := w) (base := base) T
  have G_Form_degree := ok_Form_degree (P := P) (w := w) (base := base) T
  have G_Form_changed := ok_Form_changed (P := P) (w := w) (base := base) T
  refine T.F_law_are_powers_right.ok sc_law_are_powers_right (fun vs H Q E h => ?_) (fun cdv A outer s H vs Q E hr h => ?_)
  · obtain ⟨d, rfl, _⟩ := h
    rfl
  · obtain ⟨d, rfl, hd, q⟩ := h
    have z2 : 2 ≤ sizeLine := by decide
    refine ⟨_, (PSs.nox (pss_cons (ps_par (i := 1) (j := 2) (by rfl) sc_law_are_powers_right.nd rfl rfl (by decide) rfl rfl (pa_cons (pe_tup (pa_cons (pe_call G_law_near (hr.mono (by decide)) (by rfl) T.g_law_near T.F_law_near.kp T.b_law_near .nil pass0 (pa_cons (pv 0) (pa_cons pe_int pa_nil))) (pa_cons (pe_call G_law_near (hr.mono (by decide)) (by rfl) T.g_law_near T.F_law_near.kp T.b_law_near .nil pass0 (pa_cons (pv 0) (pa_cons (pe_op op_pow pe_int pe_int) pa_nil))) pa_nil))) (pa_cons (pe_call G_law_roll (hr.mono (by decide)) (by rfl) T.g_law_roll T.F_law_roll.kp T.b_law_roll .nil pass0 (pa_cons (pv 0) (pa_cons pe_int pa_nil))) pa_nil)) (by rfl))
    (pss_cons (ps_set (i := 3) sc_law_are_powers_right.nd rfl (.inl rfl) (OwnC.pe_cmF (pe_glob (v := .ref T.C_Form) (by rfl) T.g_Form rfl) T.cm_Form_power G_Form_power T.b_Form_power (hr.mono (by decide)) (pa_cons (pv 1) (pa_cons (pv 2) pa_nil))))
    (pss_cons (ps_if (pw_or (pt_cmpR (op_neD (hu64 hr)) (pe_prp (pv 3) T.oc_Form T.pr_Form_entries G_Form_entries T.b_Form_entries (hr.mono (by decide))) (pe_call G_law_power (hr.mono (by decide)) (by rfl) T.g_law_power T.F_law_power.kp T.b_law_power .nil pass0 (pa_cons (pv 1) (pa_cons (pv 2) pa_nil))) (nomark _)) (pw_or1 (pt_cmpR op_ne (pe_prp (pv 3) T.oc_Form T.pr_Form_degree G_Form_degree T.b_Form_degree (hr.mono (by decide))) (pv 2) (nomark _)))).pt
      (pss_one (ps_ret pe_bl))
      pss_nil)
    (pss_cons (ps_for PassesOwn.never (by rfl) (pi_enumT (by rfl) T.z_enumerate (pa_cons (pe_prp (pv 3) T.oc_Form T.pr_Form_entries G_Form_entries T.b_Form_entries (hr.mono (by decide))) pa_nil)) (pg_tup (by rfl) (pgs_cons (pg_name (i := 4) sc_law_are_powers_right.nd rfl (.inl rfl)) (pgs_cons (pg_name (i := 5) sc_law_are_powers_right.nd rfl (.inl rfl)) pgs_nil)))
      (pss_one (ps_if (pt_cmpR op_ne (pv 5) (pe_op op_mulW (pe_op op_mulW (pe_call G_law_choose (hr.mono (by decide)) (by rfl) T.g_law_choose T.F_law_choose.kp T.b_law_choose .nil pass0 (pa_cons (pv 2) (pa_cons (pv 4) pa_nil))) (pe_call G_law_raised (hr.mono (by decide)) (by rfl) T.g_law_raised T.F_law_raised.kp T.b_law_raised .nil pass0 (pa_cons (pe_ix ix_tup (pv 1) pe_int (fun _ _ => rfl)) (pa_cons (pe_op op_sub (pv 2) (pv 4)) pa_nil)))) (pe_call G_law_raised (hr.mono (by decide)) (by rfl) T.g_law_raised T.F_law_raised.kp T.b_law_raised .nil pass0 (pa_cons (pe_ix ix_tup (pv 1) pe_int (fun _ _ => rfl)) (pa_cons (pv 4) pa_nil)))) (nomark _))
        (pss_one (ps_ret pe_bl))
        pss_nil)))
    (pss_cons (ps_set (i := 6) sc_law_are_powers_right.nd rfl (.inl rfl) (pe_call G_law_table (hr.mono (by decide)) (by rfl) T.g_law_table T.F_law_table.kp T.b_law_table .nil pass0 (pa_cons (pv 0) (pa_cons pe_int pa_nil))))
    (pss_cons (ps_set (i := 7) sc_law_are_powers_right.nd rfl (.inl rfl) (pe_tup (pa_cons (pe_op op_add (pe_op op_mulW (pe_ix ix_tup (pv 1) pe_int (fun _ _ => rfl)) (pe_ix ix_tup (pe_ix ix_tup (pv 6) pe_int (fun _ _ => rfl)) pe_int (fun _ _ => rfl))) (pe_op op_mulW (pe_ix ix_tup (pv 1) pe_int (fun _ _ => rfl)) (pe_ix ix_tup (pe_ix ix_tup (pv 6) pe_int (fun _ _ => rfl)) pe_int (fun _ _ => rfl)))) (pa_cons (pe_op op_add (pe_op op_mulW (pe_ix ix_tup (pv 1) pe_int (fun _ _ => rfl)) (pe_ix ix_tup (pe_ix ix_tup (pv 6) pe_int (fun _ _ => rfl)) pe_int (fun _ _ => rfl))) (pe_op op_mulW (pe_ix ix_tup (pv 1) pe_int (fun _ _ => rfl)) (pe_ix ix_tup (pe_ix ix_tup (pv 6) pe_int (fun _ _ => rfl)) pe_int (fun _ _ => rfl)))) pa_nil))))
    (pss_one (ps_ret (pe_cmpR (op_eqF T.mt_Form_eq G_Form_eq T.b_Form_eq (hr.mono (by decide))) (pe_mSl (pv 3) T.oc_Form T.mt_Form_changed T.F_Form_changed.kp G_Form_changed T.b_Form_changed hr (pa_cons (pv 6) pa_nil)) (OwnC.pe_cmF (pe_glob (v := .ref T.C_Form) (by rfl) T.g_Form rfl) T.cm_Form_power G_Form_power T.b_Form_power (hr.mono (by decide)) (pa_cons (pv 7) (pa_cons (pv 2) pa_nil))) (nomark _))))))))))), ?_⟩
    refine ⟨_, rfl, d, 5, rfl, hd, by decide, by decide, fun u H1 u0 u1 s1 d1 => ⟨_, rfl, 10, 3, rfl, rfl, ⟨by decide, by decide, by decide⟩, d, _, rfl, d1, by decide, by decide, fun v H2 v0 v1 s2 d2 => ⟨z2, fun p n => gen_upd H2 p (tp [u, v]) n fun H3 s3 k3 => ?_⟩⟩⟩
    have d3 := d2.same s3
    refine ⟨_, rfl, d, 13, rfl, d3, by decide, Nat.lt_trans (PySem.Flt.log2_lt_of (k := 10) (by decide) (by decide)) (by decide), fun n H4 hn s4 d4 => ⟨_, _, rfl, ?_⟩⟩
    have hn : (n : Int) < 13 := hn
    have v0 : -(1000 : Int) ≤ v := v0
    have v1 : v ≤ (1000 : Int) := v1
    have sI := ((s1.trans s2).trans (Sx.of s3)).trans s4
    have K := s4 _ _ (dc_ne d3 k3) k3
    clear s1 s2 s3 s4 d1 d2 d3 k3 hd
    have bu : u.natAbs ≤ 1000 := by omega
    have bv : v.natAbs ≤ 1000 := by omega
    have bp : ∀ i, i ≤ n → Bd (pow [u, v] i) i (2 ^ 198) := fun i hi => pw_b (b := 11) (by decide) bu bv hi (by omega)
    have rp : ∀ i, i ≤ n → Rw (pow [u, v] i) := fun i hi => (bp i hi).rw (by omega) (by decide)
    have shu : Sho u := Nat.lt_of_le_of_lt bu (by decide)
    have shv : Sho v := Nat.lt_of_le_of_lt bv (by decide)
    refine ⟨rfl, _, rfl, _, rfl, p, u, v, n, rfl, K, shu, shv, by omega, rp, fun a H5 s5 F5 => ?_⟩
    have K := s5 _ _ K
    have d5 := d4.same s5
    have smp : ∀ z ∈ [u, v], sm z := fun z hz => Nat.lt_of_le_of_lt ((bd_pair bu bv).mem z hz) (by decide)
    refine ⟨_, rfl, prop_ent F5 fun t5 k5 => ⟨_, rfl, _, rfl, p, [u, v], n, rfl, K, by simp, by show 2 ≤ 100; decide, smp, fun i hi => ⟨(rp i (by omega)).ne, (rp i (by omega)).len, (rp i (by omega)).sm⟩, by omega, fun p6 H6 s6 k6 => ?_⟩⟩
    refine ne_ints (SqT.of (s6 _ _ k5)) (SqT.of k6) ?_
    rw [decide_eq_true rfl]
    have F6 := F5.same s6
    have lp : (pow [u, v] n).length = n + 1 := pow_len rfl n
    refine ⟨_, rfl, iteF ⟨_, rfl, prop_deg F6 ⟨_, rfl, rfl, _, rfl, ?_⟩⟩⟩
    rw [lp, decide_eq_true (show V.int (((n + 1 : Nat) : Int) - 1) = V.int n by congr 1; omega)]
    refine iteF ?_
    refine ⟨_, rfl, prop_ent F6 fun t7 k7 => ⟨t7, _, rfl, SqT.of k7, for_enumT (xs := (pow [u, v] n).map V.int) (fun i σ H' => ∃ y4 y5, σ = [some (.ref d), some (.ref p), some (.int n), some (.ref a), y4, y5, none, none] ∧ Same H6 H') ⟨none, none, rfl, Same.rf _⟩ (fun i σ H' hP => ?_) (fun i x B σ H' hxi hP hB => ?_) (fun σ H' hP => ?_)⟩⟩
    · obtain ⟨y4, y5, _, sH⟩ := hP
      exact SqT.of (sH _ _ k7)
    · obtain ⟨y4, y5, rfl, sH⟩ := hP
      obtain ⟨hi2, rfl⟩ := int_get hxi
      rw [lp] at hi2
      refine ⟨B, _, rfl, SqT.of upd_same, rfl, _, _, rfl, _, _, rfl, rfl, ?_⟩
      refine gen_upd H' B _ hB (fun H8 s8 _ => ?_)
      have K8 := s8 _ _ (sH _ _ (s6 _ _ K))
      have eni : (n : Int) - ((i : Nat) : Int) = ((n - i : Nat) : Int) := by omega
      have pu : ∀ j, j ≤ n → (u ^ j).natAbs ≤ 2 ^ 120 := fun j hj => Nat.le_trans (pow_mem (m := 1000) (n := n) (by decide) bu hj) (Nat.le_trans (Nat.pow_le_pow_right (by decide) (show n ≤ 12 by omega)) (by decide))
      have pv : ∀ j, j ≤ n → (v ^ j).natAbs ≤ 2 ^ 120 := fun j hj => Nat.le_trans (pow_mem (m := 1000) (n := n) (by decide) bv hj) (Nat.le_trans (Nat.pow_le_pow_right (by decide) (show n ≤ 12 by omega)) (by decide))
      have pc : (((ch n i : Nat) : Int) * u ^ (n - i)).natAbs ≤ 2 ^ 132 := by
        rw [Int.natAbs_mul, Int.natAbs_natCast]
        exact Nat.le_trans (Nat.mul_le_mul (Nat.le_trans (ch_le n i) (Nat.pow_le_pow_right (by decide) (show n ≤ 12 by omega))) (pu _ (by omega))) (by decide)
      have s120 : ∀ {z : Int}, z.natAbs ≤ 2 ^ 120 → sm z := fun h => two400 h (by decide)
      refine ⟨_, rfl, _, rfl, _, rfl, n, i, rfl, by omega, by omega, _, rfl, p, _, 0, _, rfl, rfl, SqT.of K8, atI_nat (j := 0) rfl, _, rfl, _, rfl, _, _, rfl, rfl, u, n - i, by rw [← eni]; rfl, fun j hj => s120 (pu j (by omega)), sm_le bu (by decide), by omega, _, _, rfl, rfl, sm_mul (sm_ch (by omega)) (s120 (pu _ (by omega))), ?_⟩
      refine ⟨_, rfl, p, _, 1, _, rfl, rfl, SqT.of K8, atI_nat (j := 1) rfl, _, rfl, v, i, rfl, fun j hj => s120 (pv j (by omega)), sm_le bv (by decide), by omega, _, _, rfl, rfl, sm_mul (two400 pc (by decide)) (s120 (pv _ (by omega))), rfl, _, rfl, ?_⟩
      rw [decide_eq_true (show V.int (co (pow [u, v] n) i) = V.int (((ch n i : Nat) : Int) * u ^ (n - i) * v ^ i) by rw [co_pow2, if_pos (by omega)])]
      exact iteF ⟨_, _, rfl, sH.trans s8⟩
    · obtain ⟨y4, y5, rfl, sH⟩ := hP
      have d8 := (d5.same s6).same sH
      have F8 := F6.same sH
      have K8 := sH _ _ (s6 _ _ K)
      have sI := sI.trans (Sx.of (s5.trans (s6.trans sH)))
      clear s5 s6 sH F5 F6 K d4 d5 k5 k6 k7
      refine ⟨_, rfl, d, 3, rfl, d8, by decide, by decide, fun t9 H9 a' b' c' e' s9 d9 tb ha hb hc he _ => ?_⟩
      have t3 : T3 a' b' c' e' := ⟨ha, hb, hc, he⟩
      have F9 := F8.sx d8 s9
      have K9 := s9 _ _ (dc_ne d8 K8) K8
      obtain ⟨r0, r1, f2, k0, k1⟩ := tb
      obtain ⟨sa, sb, sc, se⟩ := t3.sm
      have su : sm u := sm_le bu (by decide)
      have sv : sm v := sm_le bv (by decide)
      have i0 := @atI_nat
      refine ⟨_, rfl, p, _, 0, _, rfl, rfl, SqT.of K9, atI_nat (j := 0) rfl, _, rfl, t9, _, 0, _, rfl, rfl, SqT.of f2, atI_nat (j := 0) rfl, r0, _, 0, _, rfl, rfl, SqT.of k0, atI_nat (j := 0) rfl, _, _, rfl, rfl, sm_mul su sa, ?_⟩
      refine ⟨_, rfl, p, _, 1, _, rfl, rfl, SqT.of K9, atI_nat (j := 1) rfl, _, rfl, t9, _, 1, _, rfl, rfl, SqT.of f2, atI_nat (j := 1) rfl, r1, _, 0, _, rfl, rfl, SqT.of k1, atI_nat (j := 0) rfl, _, _, rfl, rfl, sm_mul sv sc, _, _, rfl, rfl, ?_⟩
      refine ⟨_, rfl, p, _, 0, _, rfl, rfl, SqT.of K9, atI_nat (j := 0) rfl, _, rfl, t9, _, 0, _, rfl, rfl, SqT.of f2, atI_nat (j := 0) rfl, r0, _, 1, _, rfl, rfl, SqT.of k0, atI_nat (j := 1) rfl, _, _, rfl, rfl, sm_mul su sb, ?_⟩
      refine ⟨_, rfl, p, _, 1, _, rfl, rfl, SqT.of K9, atI_nat (j := 1) rfl, _, rfl, t9, _, 1, _, rfl, rfl, SqT.of f2, atI_nat (j := 1) rfl, r1, _, 1, _, rfl, rfl, SqT.of k1, atI_nat (j := 1) rfl, _, _, rfl, rfl, sm_mul sv se, _, _, rfl, rfl, ?_⟩
      refine ⟨z2, fun p10 n10 => gen_upd H9 p10 (tp [u * a' + v * c', u * b' + v * e']) n10 fun H10 s10 k10 => ?_⟩
      have F10 := F9.same s10
      have bl := bp n (Nat.le_refl _)
      refine ⟨_, rfl, a, _, _, rfl, F10.sl, _, rfl, a, t9, pow [u, v] n, _, _, rfl, F10, (Tb.same ⟨r0, r1, f2, k0, k1⟩ s10), bl.ne, by omega, t3.pX, t3.pY, t3.ok bl (Nat.le_refl _) (by omega), fun a11 H11 s11 F11 => ?_⟩
      have b6 : ∀ {x y : Int}, x.natAbs ≤ 3 → y.natAbs ≤ 3 → (u * x + v * y).natAbs ≤ 6000 := fun hx hy => by
        have h1 := mul3 bu hx
        have h2 := mul3 bv hy
        omega
      have c1 := b6 ha hc
      have c2 := b6 hb he
      have bq : ∀ i, i ≤ n → Bd (pow [u * a' + v * c', u * b' + v * e'] i) i (2 ^ 198) := fun i hi => pw_b (b := 14) (by decide) c1 c2 hi (by omega)
      refine ⟨rfl, _, rfl, _, rfl, p10, _, _, n, rfl, s11 _ _ k10, Nat.lt_of_le_of_lt c1 (by decide), Nat.lt_of_le_of_lt c2 (by decide), by omega, fun i hi => (bq i hi).rw (by omega) (by decide), fun a12 H12 s12 F12 => eq_forms T.oc_Form (F11.same s12) F12 ?_⟩
      rw [decide_eq_true (changed_pow n)]
      exact q _ ((sI.trans s9).trans (Sx.of (s10.trans (s11.trans s12)))) ((d9.same s10).same (s11.trans s12))
end
end K08

set_option Elab.async false
set_option linter.all false
set_option maxRecDepth 100000
set_option maxHeartbeats 4000000
namespace K08
open PySem PySem.Spec PyProof.Rows L2 StX RZ MyR SlX OwnR OwnF EnumT GxR
/-- t + u, rows of ints -/
theorem cat_rows {K : PySem.W.Frag} {a b : Addr} {H : Hp} {xs ys : List Int} {Q : VK} (ha : H a = some (tp xs)) (hb : H b = some (tp ys)) (hl : xs.length + ys.length ≤ 1000) (q : ∀ p H', Same H H' → H' p = some (tp (xs ++ ys)) → Q (.ref p) H') : rCatA K (.ref a) (.ref b) H Q := by
  refine ⟨a, b, _, _, rfl, rfl, SqT.of ha, SqT.of hb, ?_, fun e => ?_, fun _ e => ?_, fun _ _ p hp => ?_⟩
  · rw [List.length_map, List.length_map]
    have : 1000 ≤ sizeLine := by decide
    omega
  · have e := List.map_eq_nil_iff.mp e
    subst e
    exact q b H (Same.rf _) hb
  · have e := List.map_eq_nil_iff.mp e
    subst e
    exact q a H (Same.rf _) (by rw [List.append_nil]; exact ha)
  · refine q p _ (same_upd0 hp) ?_
    rw [upd_same]
    exact congrArg (fun z => some (HO.tup z)) List.map_append.symm
theorem cutV_map (xs : List Int) (lo hi : Option Int) : cutV (xs.map V.int) lo hi = ((xs.drop (HT.sIx xs.length 0 lo)).take (HT.sIx xs.length xs.length hi - HT.sIx xs.length 0 lo)).map V.int := by
  unfold cutV
  rw [List.length_map, List.map_take, List.map_drop]
/-- t[lo:hi], rows of ints -/
theorem cut_row {K : PySem.W.Frag} {a : Addr} {H : Hp} {xs : List Int} {lo hi : Option Int} {Q : VK} (ha : H a = some (tp xs)) (q : ∀ p H', Same H H' → H' p = some (tp ((xs.drop (HT.sIx xs.length 0 lo)).take (HT.sIx xs.length xs.length hi - HT.sIx xs.length 0 lo))) → Q (.ref p) H') : rSlA K (.ref a) lo hi H Q := by
  refine ⟨a, _, rfl, SqT.of ha, fun e => ?_, fun _ p hp => ?_⟩
  · rw [List.length_map] at e
    refine q a H (Same.rf _) ?_
    rw [e.1, e.2, List.drop_zero, Nat.sub_zero, List.take_length]
    exact ha
  · refine q p _ (same_upd0 hp) ?_
    rw [upd_same, cutV_map]
theorem take_row {K : PySem.W.Frag} {a : Addr} {H : Hp} {xs : List Int} {i : Nat} {Q : VK} (ha : H a = some (tp xs)) (hi : i ≤ xs.length) (q : ∀ p H', Same H H' → H' p = some (tp (xs.take i)) → Q (.ref p) H') : rSlA K (.ref a) none (some (i : Int)) H Q := by
  refine cut_row ha fun p H' s k => q p H' s ?_
  rw [HT.sIx_none, HT.sIx_nat, Nat.sub_zero, List.drop_zero, Nat.min_eq_left hi] at k
  exact k
theorem drop_row {K : PySem.W.Frag} {a : Addr} {H : Hp} {xs : List Int} {i : Nat} {z : Int} {Q : VK} (ha : H a = some (tp xs)) (hi : i ≤ xs.length) (hz : z = (i : Int)) (q : ∀ p H', Same H H' → H' p = some (tp (xs.drop i)) → Q (.ref p) H') : rSlA K (.ref a) (some z) none H Q := by
  subst hz
  refine cut_row ha fun p H' s k => q p H' s ?_
  rw [HT.sIx_none, HT.sIx_nat, Nat.min_eq_left hi] at k
  rw [k]
  congr 3
  exact List.take_of_length_le (by rw [List.length_drop]; omega)
def spFcR (P : Addr) : Sp := fun vs H Q _ => ∃ (d : Addr), vs = [.ref d] ∧ Dc H d ∧ TabG H P ∧ ∀ H', Sy d P H H' → Dc H' d → TabG H' P → Q (.bl true) H'
/-- dice and code table -/
structure Dp (d P : Addr) (H : Hp) : Prop where
  dd : Dc H d
  tt : TabG H P
theorem Dp.same {d P : Addr} {H H' : Hp} (D : Dp d P H) (s : Same H H') : Dp d P H' := ⟨D.dd.same s, tgS D.tt s⟩
theorem Dp.sx {d P : Addr} {H H' : Hp} (D : Dp d P H) (s : Sx d H H') (h : Dc H' d) : Dp d P H' := ⟨h, tg_sx s D.dd D.tt⟩
theorem Dp.sp {d P : Addr} {H H' : Hp} (D : Dp d P H) (s : Sx P H H') (h : TabG H' P) : Dp d P H' := ⟨dc_tab s D.tt D.dd, h⟩
theorem Dp.rd {d P : Addr} {H H' : Hp} {t : Addr} {xs : List V} (D : Dp d P H) (s : Sy d P H H') (h : H t = some (.tup xs)) : H' t = some (.tup xs) := rd_y s D.dd D.tt h
theorem RV.same {H H' : Hp} {v : V} {r : Option (Int × Int)} (h : RV H v r) (s : Same H H') : RV H' v r := by
  cases r with
  | none => exact h
  | some r =>
    obtain ⟨p, q⟩ := r
    obtain ⟨t, e, k⟩ := h
    exact ⟨t, e, s _ _ k⟩
theorem RV.sx {d : Addr} {H H' : Hp} {v : V} {r : Option (Int × Int)} (h : RV H v r) (s : Sx d H H') (hd : Dc H d) : RV H' v r := by
  cases r with
  | none => exact h
  | some r =>
    obtain ⟨p, q⟩ := r
    obtain ⟨t, e, k⟩ := h
    exact ⟨t, e, rd_sx s hd k⟩
theorem RV.sp {P : Addr} {H H' : Hp} {v : V} {r : Option (Int × Int)} (h : RV H v r) (s : Sx P H H') (hd : TabG H P) : RV H' v r := by
  cases r with
  | none => exact h
  | some r =>
    obtain ⟨p, q⟩ := r
    obtain ⟨t, e, k⟩ := h
    exact ⟨t, e, rd_tab s hd k⟩
/-- the rows of the law -/
structure Rf (H : Hp) (t1 t4 t5 t7 t8 : Addr) (f g h f7 f8 : List Int) : Prop where
  k1 : H t1 = some (tp f)
  k4 : H t4 = some (tp g)
  k5 : H t5 = some (tp h)
  k7 : H t7 = some (tp f7)
  k8 : H t8 = some (tp f8)
theorem Rf.same {H H' : Hp} {t1 t4 t5 t7 t8 : Addr} {f g h f7 f8 : List Int} (R : Rf H t1 t4 t5 t7 t8 f g h f7 f8) (s : Same H H') : Rf H' t1 t4 t5 t7 t8 f g h f7 f8 := ⟨s _ _ R.k1, s _ _ R.k4, s _ _ R.k5, s _ _ R.k7, s _ _ R.k8⟩
theorem Rf.y {d P : Addr} {H H' : Hp} {t1 t4 t5 t7 t8 : Addr} {f g h f7 f8 : List Int} (R : Rf H t1 t4 t5 t7 t8 f g h f7 f8) (D : Dp d P H) (s : Sy d P H H') : Rf H' t1 t4 t5 t7 t8 f g h f7 f8 := ⟨D.rd s R.k1, D.rd s R.k4, D.rd s R.k5, D.rd s R.k7, D.rd s R.k8⟩
theorem tr_nought {n : Nat} (h1 : 1 ≤ n) (h2 : n ≤ 40) : Tr (List.replicate n 0) := ⟨fun e => by
  have := congrArg List.length e
  rw [List.length_replicate] at this
  rw [List.length_nil] at this
  omega, by rw [List.length_replicate]; exact h2, fun z hz => by
  rw [List.eq_of_mem_replicate hz]
  show 0 < _
  decide⟩
theorem tr_more {l : List Int} {n b : Nat} (h : Bd l n b) (hn : n ≤ 30) (hb : b < 10 ^ 60) : Tr (l ++ [0]) := ⟨by simp, by rw [List.length_append, h.len]; show n + 1 + 1 ≤ 40; omega, fun z hz => by
  rcases List.mem_append.mp hz with e | e
  · exact Nat.lt_of_le_of_lt (h.mem z e) hb
  · rw [List.mem_singleton.mp e]
    show 0 < _
    decide⟩
theorem Pq.same {H H' : Hp} {x : V} (h : Pq H x) (s : Same H H') : Pq H' x := by
  obtain ⟨p, a, b, l, m, rfl, h1, h2, h3, t1, t2⟩ := h
  exact ⟨p, a, b, l, m, rfl, s _ _ h1, s _ _ h2, s _ _ h3, t1, t2⟩
section
variable {P : Program} {w : World} {K : PySem.W.Frag} {mg : Str → Option Value} {base : Heap}
theorem ok_law_are_factors_right (T : Facts K mg) (TB_first_index : TabB base mg T.c_first_index T.P_first_index) : FnOk P w K mg base CX0 9 T.f_law_are_factors_right T.fd_law_are_factors_right ["_law_dice_here"] (spFcR T.P_first_index) := by
  have G_law_roll : FnOk P w K mg base CX0 1 T.f_law_roll T.fd_law_roll ["_law_dice_here", "_law_total"] spRoll2 := (ok_law_roll T).imp roll2
  have G_law_pick : FnOk P w K mg base CX0 2 T.f_law_pick T.fd_law_pick ["_law_dice_here", "_law_items"] spPick2 := (ok_law_pick T).imp pick2
  have G_law_form := ok_law_form (P := P) (w := w) (base := base) T
  have G_law_scaled := ok_law_scaled (P := P) (w := w) (base := base) T
  have G_law_table := ok_law_table (P := P) (w := w) (base := base) T
  have G_law_factor_due := ok_law_factor_due (P := P) (w := w) (base := base) T
  have G_factor_between := ok_factor_between (P := P) (w := w) (base := base) T TB_first_index
  have G_Form_init := ok_Form_init (P := P) (w := w) (base := base) T
  have G_Form_mul := ok_Form_mul (P := P) (w := w) (base := base) T
  have G_Form_is_zero := ok_Form_is_zero (P := P) (w := w) (base := base) T
  have G_Form_changed := ok_Form_changed (P := P) (w := w) (base := base) T
  refine T.F_law_are_factors_right.ok sc_law_are_factors_right (fun vs H Q E h => ?_) (fun cdv A outer s H vs Q E hr h => ?_)
  · obtain ⟨d, rfl, _⟩ := h
    rfl
  · obtain ⟨d, rfl, hd, hP, q⟩ := h
    have z2 : 2 ≤ sizeLine := by decide
    have lg : ∀ i : Nat, i < 100 → (i : Int).natAbs.log2 < 9000 := fun i hi => Nat.lt_trans (PySem.Flt.log2_lt_of (k := 10) (by decide) (by show i < 2 ^ 10; omega)) (by decide)
    refine ⟨_, (PSs.nox (pss_cons (ps_set (i := 1) sc_law_are_factors_right.nd rfl (.inl rfl) (pe_call G_law_form (hr.mono (by decide)) (by rfl) T.g_law_form T.F_law_form.kp T.b_law_form .nil pass0 (pa_cons (pv 0) (pa_cons (pe_call G_law_roll (hr.mono (by decide)) (by rfl) T.g_law_roll T.F_law_roll.kp T.b_law_roll .nil pass0 (pa_cons (pv 0) (pa_cons pe_int pa_nil))) pa_nil))))
    (pss_cons (ps_par (i := 2) (j := 3) (by rfl) sc_law_are_factors_right.nd rfl rfl (by decide) rfl rfl (pa_cons (pe_call G_law_pick (hr.mono (by decide)) (by rfl) T.g_law_pick T.F_law_pick.kp T.b_law_pick .nil pass0 (pa_cons (pv 0) (pa_cons (pe_lst (pa_cons pe_int (pa_cons pe_int (pa_cons pe_int (pa_cons (pe_un un_neg pe_int) pa_nil))))) pa_nil))) (pa_cons (pe_call G_law_pick (hr.mono (by decide)) (by rfl) T.g_law_pick T.F_law_pick.kp T.b_law_pick .nil pass0 (pa_cons (pv 0) (pa_cons (pe_lst (pa_cons pe_int (pa_cons pe_int (pa_cons (pe_un un_neg pe_int) pa_nil)))) pa_nil))) pa_nil)) (by rfl))
    (pss_cons (ps_par (i := 4) (j := 5) (by rfl) sc_law_are_factors_right.nd rfl rfl (by decide) rfl rfl (pa_cons (pe_call G_law_scaled (hr.mono (by decide)) (by rfl) T.g_law_scaled T.F_law_scaled.kp T.b_law_scaled .nil pass0 (pa_cons (pv 1) (pa_cons (pv 3) pa_nil))) (pa_cons (pe_call G_law_scaled (hr.mono (by decide)) (by rfl) T.g_law_scaled T.F_law_scaled.kp T.b_law_scaled .nil pass0 (pa_cons (pv 1) (pa_cons (pv 2) pa_nil))) pa_nil)) (by rfl))
    (pss_cons (ps_set (i := 6) sc_law_are_factors_right.nd rfl (.inl rfl) (pe_call G_law_roll (hr.mono (by decide)) (by rfl) T.g_law_roll T.F_law_roll.kp T.b_law_roll .nil pass0 (pa_cons (pv 0) (pa_cons (pe_callB call_len_seq (by rfl) T.z_len (by decide +kernel) (pa_cons (pv 1) pa_nil)) pa_nil))))
    (pss_cons (ps_set (i := 7) sc_law_are_factors_right.nd rfl (.inl rfl) (pe_op op_catA (pe_op op_catA (pe_slice sl_tupA (pv 5) po_none (po_some (pv 6))) (pe_tup (pa_cons (pe_op op_add (pe_ix ix_tup (pv 5) (pv 6) (fun _ _ => rfl)) pe_int) pa_nil))) (pe_slice sl_tupA (pv 5) (po_some (pe_op op_add (pv 6) pe_int)) po_none)))
    (pss_cons (ps_set (i := 8) sc_law_are_factors_right.nd rfl (.inl rfl) (pe_tupleOf (by rfl) T.z_tuple (pe_lc (own := [("_law_entry", 9)]) (g := (gName 9)) (tt := tYes) (by rfl) sc_law_are_factors_right.nd (pi_tup (pv 1)) (blkOk_by (N := N_law_are_factors_right) (sc := defScope s_law_are_factors_right) (by decide +kernel)) (fun _ _ _ _ _ => (pg_name (i := 9) sc_law_are_factors_right.nd rfl (.inl rfl))) (fun _ _ _ _ _ => pts_nil) (fun _ _ _ _ _ => pe_int))))
    (pss_cons (ps_for PassesOwn.never (by rfl) (pi_tup (pe_tup (pa_cons (pe_tup (pa_cons (pv 4) (pa_cons (pv 5) pa_nil))) (pa_cons (pe_tup (pa_cons (pv 5) (pa_cons (pv 4) pa_nil))) (pa_cons (pe_tup (pa_cons (pv 4) (pa_cons (pv 7) pa_nil))) (pa_cons (pe_tup (pa_cons (pv 4) (pa_cons (pv 8) pa_nil))) (pa_cons (pe_tup (pa_cons (pv 8) (pa_cons (pv 7) pa_nil))) (pa_cons (pe_tup (pa_cons (pv 1) (pa_cons (pe_op op_catA (pv 1) (pe_tup (pa_cons pe_int pa_nil))) pa_nil))) (pa_cons (pe_tup (pa_cons (pv 8) (pa_cons (pv 8) pa_nil))) pa_nil))))))))) (pg_name (i := 10) sc_law_are_factors_right.nd rfl (.inl rfl))
      (pss_one (ps_if (pt_cmpR (op_neD (hu64 hr)) (pe_call G_factor_between (hr.mono (by decide)) (by rfl) T.g_factor_between T.F_factor_between.kp T.b_factor_between .nil pass0 (pa_cons (pe_make T.mk_Form G_Form_init (hr.mono (by decide)) (by rfl) T.g_Form T.b_Form_init .nil pass0 (pa_cons (pe_ix ix_tup (pv 10) pe_int (fun _ _ => rfl)) pa_nil)) (pa_cons (pe_make T.mk_Form G_Form_init (hr.mono (by decide)) (by rfl) T.g_Form T.b_Form_init .nil pass0 (pa_cons (pe_ix ix_tup (pv 10) pe_int (fun _ _ => rfl)) pa_nil)) pa_nil))) (pe_call G_law_factor_due (hr.mono (by decide)) (by rfl) T.g_law_factor_due T.F_law_factor_due.kp T.b_law_factor_due .nil pass0 (pa_cons (pe_ix ix_tup (pv 10) pe_int (fun _ _ => rfl)) (pa_cons (pe_ix ix_tup (pv 10) pe_int (fun _ _ => rfl)) pa_nil))) (nomark _))
        (pss_one (ps_ret pe_bl))
        pss_nil)))
    (pss_cons (ps_par (i := 11) (j := 12) (by rfl) sc_law_are_factors_right.nd rfl rfl (by decide) rfl rfl (pa_cons (pe_call G_factor_between (hr.mono (by decide)) (by rfl) T.g_factor_between T.F_factor_between.kp T.b_factor_between .nil pass0 (pa_cons (pe_make T.mk_Form G_Form_init (hr.mono (by decide)) (by rfl) T.g_Form T.b_Form_init .nil pass0 (pa_cons (pv 4) pa_nil)) (pa_cons (pe_make T.mk_Form G_Form_init (hr.mono (by decide)) (by rfl) T.g_Form T.b_Form_init .nil pass0 (pa_cons (pv 5) pa_nil)) pa_nil))) (pa_cons (pe_call G_law_table (hr.mono (by decide)) (by rfl) T.g_law_table T.F_law_table.kp T.b_law_table .nil pass0 (pa_cons (pv 0) (pa_cons pe_int pa_nil))) pa_nil)) (by rfl))
    (pss_cons (ps_if (pt_cmpR (op_neD (hu64 hr)) (pv 11) (pe_call G_factor_between (hr.mono (by decide)) (by rfl) T.g_factor_between T.F_factor_between.kp T.b_factor_between .nil pass0 (pa_cons (pe_mSl (pe_make T.mk_Form G_Form_init (hr.mono (by decide)) (by rfl) T.g_Form T.b_Form_init .nil pass0 (pa_cons (pv 4) pa_nil)) T.oc_Form T.mt_Form_changed T.F_Form_changed.kp G_Form_changed T.b_Form_changed hr (pa_cons (pv 12) pa_nil)) (pa_cons (pe_mSl (pe_make T.mk_Form G_Form_init (hr.mono (by decide)) (by rfl) T.g_Form T.b_Form_init .nil pass0 (pa_cons (pv 5) pa_nil)) T.oc_Form T.mt_Form_changed T.F_Form_changed.kp G_Form_changed T.b_Form_changed hr (pa_cons (pv 12) pa_nil)) pa_nil))) (nomark _))
      (pss_one (ps_ret pe_bl))
      pss_nil)
    (pss_one (ps_ret (pe_or (pe_cmpR (op_neD (hu64 hr)) (pv 11) (pe_call G_factor_between (hr.mono (by decide)) (by rfl) T.g_factor_between T.F_factor_between.kp T.b_factor_between .nil pass0 (pa_cons (pe_make T.mk_Form G_Form_init (hr.mono (by decide)) (by rfl) T.g_Form T.b_Form_init .nil pass0 (pa_cons (pv 4) pa_nil)) (pa_cons (pe_op (op_mulOI T.oc_Form T.mt_Form_mul G_Form_mul T.b_Form_mul (hr.mono (by decide))) (pe_make T.mk_Form G_Form_init (hr.mono (by decide)) (by rfl) T.g_Form T.b_Form_init .nil pass0 (pa_cons (pv 5) pa_nil)) pe_int) pa_nil))) (nomark _)) (pe_one (pe_prp (pe_make T.mk_Form G_Form_init (hr.mono (by decide)) (by rfl) T.g_Form T.b_Form_init .nil pass0 (pa_cons (pv 1) pa_nil)) T.oc_Form T.pr_Form_is_zero G_Form_is_zero T.b_Form_is_zero (hr.mono (by decide))))))))))))))))), ?_⟩
    have D0 : Dp d T.P_first_index H := ⟨hd, hP⟩
    refine ⟨_, rfl, _, rfl, d, 7, rfl, hd, by decide, lg 7 (by decide), fun n H1 hn s1 d1 => ?_⟩
    have hn : (n : Int) < 7 := hn
    have D1 := D0.sx s1 d1
    refine ⟨d, n, rfl, d1, by omega, fun t1 H2 f s2 d2 k1 bf => ?_⟩
    have D2 := D1.sx s2 d2
    have bf : Bd f n (2 ^ 47) := bf.mono (by decide)
    have lf := bf.len
    refine ⟨_, rfl, _, rfl, by show 4 ≤ sizeLine; decide, fun L3 m3 => gen_upd H2 L3 (.lst [.int 1, .int 2, .int 6, .int (-4)]) m3 fun H3 s3 k3 => ?_⟩
    have ne3 : L3 ≠ d := fun z => by rw [z] at m3; obtain ⟨x, y, z', e⟩ := d2; rw [m3] at e; cases e
    refine ⟨d, L3, _, rfl, d2.same s3, k3, ne3, by decide, by decide, fun v4 H4 hv4 s4 d4 => ?_⟩
    have D4 := (D2.same s3).sx s4 d4
    obtain ⟨up, rfl, up0, upb⟩ : ∃ c : Int, v4 = .int c ∧ c ≠ 0 ∧ c.natAbs ≤ 6 := by
      simp only [List.mem_cons, List.not_mem_nil, or_false] at hv4
      rcases hv4 with e | e | e | e <;> rw [e] <;> exact ⟨_, rfl, by decide, by decide⟩
    refine ⟨_, rfl, _, rfl, by show 3 ≤ sizeLine; decide, fun L5 m5 => gen_upd H4 L5 (.lst [.int 1, .int 3, .int (-5)]) m5 fun H5 s5 k5 => ?_⟩
    have ne5 : L5 ≠ d := fun z => by rw [z] at m5; obtain ⟨x, y, z', e⟩ := d4; rw [m5] at e; cases e
    refine ⟨d, L5, _, rfl, d4.same s5, k5, ne5, by decide, by decide, fun v6 H6 hv6 s6 d6 => ?_⟩
    have D6 := (D4.same s5).sx s6 d6
    obtain ⟨dw, rfl, dw0, dwb⟩ : ∃ c : Int, v6 = .int c ∧ c ≠ 0 ∧ c.natAbs ≤ 6 := by
      simp only [List.mem_cons, List.not_mem_nil, or_false] at hv6
      rcases hv6 with e | e | e <;> rw [e] <;> exact ⟨_, rfl, by decide, by decide⟩
    refine ⟨_, _, rfl, ?_⟩
    have K1 := D2.rd (((Sy.of s3).trans (Sy.ofD s4)).trans ((Sy.of s5).trans (Sy.ofD s6))) k1
    have sI : Sy d T.P_first_index H H6 := (((Sy.ofD s1).trans (Sy.ofD s2)).trans ((Sy.of s3).trans (Sy.ofD s4))).trans ((Sy.of s5).trans (Sy.ofD s6))
    clear D0 D1 D2 D4 s1 s2 s3 s4 s5 s6 k1 k3 k5 hv4 hv6 d1 d2 d4 hd hP
    have smf : ∀ z ∈ f, sm z := fun z hz => Nat.lt_of_le_of_lt (bf.mem z hz) (by decide)
    refine ⟨_, rfl, _, rfl, t1, f, dw, rfl, K1, by omega, smf, sm_le dwb (by decide), fun t4 H7 s7 _ k4 => ⟨_, rfl, _, rfl, t1, f, up, rfl, s7 _ _ K1, by omega, smf, sm_le upb (by decide), fun t5 H8 s8 _ k5 => ⟨_, _, rfl, ?_⟩⟩⟩
    have b4 : Bd (f.map (dw * ·)) n (2 ^ 50) := (bd_scale bf dwb).mono (by decide)
    have b5 : Bd (f.map (up * ·)) n (2 ^ 50) := (bd_scale bf upb).mono (by decide)
    have l4 := b4.len
    have l5 := b5.len
    have s78 := s7.trans s8
    have D8 := D6.same s78
    have K1 := s78 _ _ K1
    have K4 := s8 _ _ k4
    have sI := sI.trans (Sy.of s78)
    clear s7 s8 s78 k4 D6 d6
    refine ⟨_, rfl, _, rfl, t1, _, rfl, .inr (SqT.of K1), d, _, rfl, D8.dd, by rw [List.length_map]; omega, by rw [List.length_map]; exact lg _ (by omega), fun i H9 hi s9 d9 => ?_⟩
    rw [List.length_map] at hi
    have D9 := D8.sx s9 d9
    have K1 := D8.rd (Sy.ofD s9) K1
    have K4 := D8.rd (Sy.ofD s9) K4
    have K5 := D8.rd (Sy.ofD s9) k5
    have sI := sI.trans (Sy.ofD s9)
    clear s9 D8 k5 d9
    have hi5 : i < (f.map (up * ·)).length := by omega
    have hi : i < n + 1 := by omega
    refine ⟨_, rfl, _, rfl, _, rfl, take_row K5 (by omega) fun p10 H10 s10 k10 => ?_⟩
    refine ⟨_, rfl, _, rfl, t5, _, _, _, rfl, rfl, SqT.of (s10 _ _ K5), at_of rfl (get_int hi5), _, _, rfl, rfl, by show 1 ≤ sizeLine; decide, fun p11 m11 => gen_upd H10 p11 (tp [co (f.map (up * ·)) i + 1]) m11 fun H11 s11 k11 => ?_⟩
    refine cat_rows (s11 _ _ k10) k11 (by rw [List.length_take]; show _ + 1 ≤ 1000; omega) fun p12 H12 s12 k12 => ?_
    refine ⟨_, rfl, _, rfl, _, _, rfl, rfl, _, rfl, ?_⟩
    dsimp only [tNoPart]
    refine drop_row (i := i + 1) ((s10.trans (s11.trans s12)) _ _ K5) (by omega) rfl fun p13 H13 s13 k13 => ?_
    refine cat_rows (s13 _ _ k12) k13 (by rw [List.length_append, List.length_take, List.length_drop]; show _ + 1 + _ ≤ 1000; omega) fun t7 H14 s14 k7 => ?_
    have tr7 := tr_near b5 (by omega) (by decide) i
    generalize (f.map (up * ·)).take i ++ [co (f.map (up * ·)) i + 1] ++ (f.map (up * ·)).drop (i + 1) = f7 at k7 tr7
    have s914 := s10.trans (s11.trans (s12.trans (s13.trans s14)))
    have D14 := D9.same s914
    have K1 := s914 _ _ K1
    have K4 := s914 _ _ K4
    have K5 := s914 _ _ K5
    have sI := sI.trans (Sy.of s914)
    clear s10 s11 s12 s13 s14 s914 k10 k11 k12 k13 D9
    -- nothing
    refine ⟨_, rfl, t1, rfl, ⟨_, SqT.of K1⟩, fun D hD => lc_tup (xs := f.map V.int) (fun j H' => H' = upd H14 D (.lst ((List.replicate j 0).map V.int))) rfl (fun j H' _ hP => ?_) (fun j x H' hx hP => ?_) (fun H' hP => ?_)⟩
    · rw [hP]
      exact SqT.of (same_upd0 hD _ _ K1)
    · subst hP
      obtain ⟨hj, rfl⟩ := int_get hx
      refine ⟨rfl, _, upd_same, ?_, ?_⟩
      · rw [List.length_map, List.length_replicate]
        exact small1000 (by omega)
      · rw [upd_upd, List.replicate_succ', List.map_append]
        rfl
    subst hP
    rw [List.length_map]
    refine .inl ⟨D, _, rfl, SqL.of upd_same, fun t8 m8 => gen_upd _ t8 (tp (List.replicate f.length 0)) m8 fun H16 s16 k8 => ?_⟩
    have s1416 := (same_upd0 hD).trans s16
    have D16 := D14.same s1416
    have K1 := s1416 _ _ K1
    have K4 := s1416 _ _ K4
    have K5 := s1416 _ _ K5
    have K7 := s1416 _ _ k7
    have sI := sI.trans (Sy.of s1416)
    clear s16 s1416 hD D14 k7
    have R : Rf H16 t1 t4 t5 t7 t8 f _ _ f7 _ := ⟨K1, K4, K5, K7, k8⟩
    have tr4 : Tr (f.map (dw * ·)) := b4.tr (by omega) (by decide)
    have tr5 : Tr (f.map (up * ·)) := b5.tr (by omega) (by decide)
    have tr1 : Tr f := bf.tr (by omega) (by decide)
    have tr8 : Tr (List.replicate f.length 0) := tr_nought (by omega) (by omega)
    have trm : Tr (f ++ [0]) := tr_more bf (by omega) (by decide)
    clear K1 K4 K5 K7 k8
    refine ⟨_, rfl, _, rfl, z2, fun P1 m1 => gen_upd _ P1 (.tup [.ref t4, .ref t5]) m1 fun H17 s17 j1 => ⟨_, rfl, _, rfl, z2, fun P2 m2 => gen_upd _ P2 (.tup [.ref t5, .ref t4]) m2 fun H18 s18 j2 => ⟨_, rfl, _, rfl, z2, fun P3 m3 => gen_upd _ P3 (.tup [.ref t4, .ref t7]) m3 fun H19 s19 j3 => ⟨_, rfl, _, rfl, z2, fun P4 m4 => gen_upd _ P4 (.tup [.ref t4, .ref t8]) m4 fun H20 s20 j4 => ⟨_, rfl, _, rfl, z2, fun P5 m5 => gen_upd _ P5 (.tup [.ref t8, .ref t7]) m5 fun H21 s21 j5 => ?_⟩⟩⟩⟩⟩
    refine ⟨_, rfl, _, rfl, by show 1 ≤ sizeLine; decide, fun o1 n1 => gen_upd _ o1 (tp [0]) n1 fun H22 s22 j6 => cat_rows ((s17.trans (s18.trans (s19.trans (s20.trans (s21.trans s22))))) _ _ R.k1) j6 (by show _ + 1 ≤ 1000; omega) fun t9 H23 s23 j9 => ⟨z2, fun P6 m6 => gen_upd _ P6 (.tup [.ref t1, .ref t9]) m6 fun H24 s24 j10 => ⟨_, rfl, _, rfl, z2, fun P7 m7 => gen_upd _ P7 (.tup [.ref t8, .ref t8]) m7 fun H25 s25 j11 => ⟨by show 7 ≤ sizeLine; decide, fun P8 m8 => gen_upd _ P8 (.tup [.ref P1, .ref P2, .ref P3, .ref P4, .ref P5, .ref P6, .ref P7]) m8 fun H26 s26 j12 => ?_⟩⟩⟩⟩
    have v25 := s25.trans s26
    have v24 := s24.trans v25
    have v23 := s23.trans v24
    have v22 := s22.trans v23
    have v21 := s21.trans v22
    have v20 := s20.trans v21
    have v19 := s19.trans v20
    have v18 := s18.trans v19
    have v17 := s17.trans v18
    have R := R.same v17
    have D26 := D16.same v17
    have sI := sI.trans (Sy.of v17)
    have all : ∀ x ∈ [V.ref P1, .ref P2, .ref P3, .ref P4, .ref P5, .ref P6, .ref P7], Pq H26 x := fun x hx => by
      simp only [List.mem_cons, List.not_mem_nil, or_false] at hx
      rcases hx with e | e | e | e | e | e | e <;> subst e
      · exact ⟨_, _, _, _, _, rfl, v18 _ _ j1, R.k4, R.k5, tr4, tr5⟩
      · exact ⟨_, _, _, _, _, rfl, v19 _ _ j2, R.k5, R.k4, tr5, tr4⟩
      · exact ⟨_, _, _, _, _, rfl, v20 _ _ j3, R.k4, R.k7, tr4, tr7⟩
      · exact ⟨_, _, _, _, _, rfl, v21 _ _ j4, R.k4, R.k8, tr4, tr8⟩
      · exact ⟨_, _, _, _, _, rfl, v22 _ _ j5, R.k8, R.k7, tr8, tr7⟩
      · exact ⟨_, _, _, _, _, rfl, v25 _ _ j10, R.k1, v24 _ _ j9, tr1, trm⟩
      · exact ⟨_, _, _, _, _, rfl, s26 _ _ j11, R.k8, R.k8, tr8, tr8⟩
    clear s17 s18 s19 s20 s21 s22 s23 s24 s25 s26 v17 v18 v19 v20 v21 v22 v23 v24 v25 j1 j2 j3 j4 j5 j6 j9 j10 j11 D16
    refine ⟨P8, rfl, ⟨_, SqT.of j12⟩, for_tup (xs := [V.ref P1, .ref P2, .ref P3, .ref P4, .ref P5, .ref P6, .ref P7]) (fun j σ H' => ∃ y10, σ = [some (.ref d), some (.ref t1), some (.int up), some (.int dw), some (.ref t4), some (.ref t5), some (.int i), some (.ref t7), some (.ref t8), none, y10, none, none] ∧ Sy d T.P_first_index H26 H' ∧ Dp d T.P_first_index H') ⟨none, rfl, Sy.of (Same.rf _), D26⟩ (fun j σ H' _ hP => ?_) (fun j x σ H' hx hP => ?_) (fun σ H' hP => ?_)⟩
    · obtain ⟨y10, _, sH, _⟩ := hP
      exact SqT.of (D26.rd sH j12)
    · obtain ⟨y10, rfl, sH, D⟩ := hP
      obtain ⟨p, a, b, l, m, rfl, h1, h2, h3, tl, tm⟩ := (all x (List.mem_of_getElem? hx)).y sH D26.dd D26.tt
      have ll := tl.len
      have lm := tm.len
      refine ⟨_, rfl, p, _, 0, _, rfl, rfl, SqT.of h1, atI_nat (j := 0) rfl, fun a1 dx x1 x2 x3 => mkF x1 x2 x3 h2 tl.pos (by omega) tl.sho fun H3 s3 F3 => ?_⟩
      refine ⟨_, rfl, p, _, 1, _, rfl, rfl, SqT.of (s3 _ _ h1), atI_nat (j := 1) rfl, fun a2 dx x1 x2 x3 => mkF x1 x2 x3 (s3 _ _ h3) tm.pos (by omega) tm.sho fun H4 s4 F4 => ?_⟩
      have s34 := s3.trans s4
      have D4 := D.same s34
      refine ⟨a1, a2, l, m, rfl, F3.same s4, F4, D4.tt, by omega, by omega, tl.rw.sm, tm.rw.sm, fun v5 H5 s5 t5 r5 => ?_⟩
      have D5 := D4.sp s5 t5
      have h15 := rd_tab s5 D4.tt (s34 _ _ h1)
      have h25 := rd_tab s5 D4.tt (s34 _ _ h2)
      have h35 := rd_tab s5 D4.tt (s34 _ _ h3)
      refine ⟨_, rfl, p, _, 0, _, rfl, rfl, SqT.of h15, atI_nat (j := 0) rfl, _, rfl, p, _, 1, _, rfl, rfl, SqT.of h15, atI_nat (j := 1) rfl, a, b, l, m, rfl, h25, h35, by omega, by omega, tl.rw.sm, tm.rw.sm, fun v6 H6 s6 r6 => ne_rv (r5.same s6) r6 ?_⟩
      rw [decide_eq_true rfl]
      exact ⟨_, rfl, iteF ⟨_, rfl, sH.trans ((Sy.of s34).trans ((Sy.ofP s5).trans (Sy.of s6))), D5.same s6⟩⟩
    obtain ⟨y10, rfl, sH, D⟩ := hP
    have R := R.y D26 sH
    have sI := sI.trans sH
    clear all j12 sH D26
    have sm4 := tr4.rw.sm
    have sm5 := tr5.rw.sm
    refine ⟨_, rfl, fun a1 dx x1 x2 x3 => mkF x1 x2 x3 R.k4 tr4.pos (by omega) tr4.sho fun H1 s1 F1 => ⟨_, rfl, fun a2 dx x1 x2 x3 => mkF x1 x2 x3 (s1 _ _ R.k5) tr5.pos (by omega) tr5.sho fun H2 s2 F2 => ?_⟩⟩
    have D2 := D.same (s1.trans s2)
    refine ⟨a1, a2, _, _, rfl, F1.same s2, F2, D2.tt, by omega, by omega, sm4, sm5, fun v3 H3 s3 t3 r3 => ?_⟩
    have D3 := D2.sp s3 t3
    refine ⟨_, rfl, d, 3, rfl, D3.dd, by decide, by decide, fun tb H4 a b c e s4 d4 tb4 ha hb hc he hz => ⟨_, _, rfl, ?_⟩⟩
    have D4 := D3.sx s4 d4
    have v4 := ((Sy.of (s1.trans s2)).trans (Sy.ofP s3)).trans (Sy.ofD s4)
    have R := R.y D v4
    have sI := sI.trans v4
    have r4 := r3.sx s4 D3.dd
    have k3 : T3 a b c e := ⟨ha, hb, hc, he⟩
    clear s1 s2 s3 s4 v4 F1 F2 D2 D3 d4 r3 t3
    have nf : f ≠ [] := bf.ne
    have c4 := k3.bd b4 (by omega)
    have c5 := k3.bd b5 (by omega)
    have lc4 := c4.len
    have lc5 := c5.len
    refine ⟨_, rfl, _, rfl, fun a5 dx x1 x2 x3 => mkF x1 x2 x3 R.k4 tr4.pos (by omega) tr4.sho fun H5 s5 F5 => ⟨a5, _, _, rfl, F5.sl, _, rfl, a5, tb, _, _, _, rfl, F5, tb4.same s5, tr4.ne, by omega, k3.pX, k3.pY, k3.ok b4 (by decide) (by omega), fun a6 H6 s6 F6 => ?_⟩⟩
    refine ⟨_, rfl, fun a7 dx x1 x2 x3 => mkF x1 x2 x3 ((s5.trans s6) _ _ R.k5) tr5.pos (by omega) tr5.sho fun H7 s7 F7 => ⟨a7, _, _, rfl, F7.sl, _, rfl, a7, tb, _, _, _, rfl, F7, (tb4.same (s5.trans s6)).same s7, tr5.ne, by omega, k3.pX, k3.pY, k3.ok b5 (by decide) (by omega), fun a8 H8 s8 F8 => ?_⟩⟩
    have v8 := (s5.trans s6).trans (s7.trans s8)
    have D8 := D4.same v8
    refine ⟨a6, a8, _, _, rfl, F6.same (s7.trans s8), F8, D8.tt, by omega, by omega, (c4.rw (by omega) (by decide)).sm, (c5.rw (by omega) (by decide)).sm, fun v9 H9 s9 t9 r9 => ?_⟩
    rw [changed_map rfl rfl nf, changed_map rfl rfl nf, RB_scaled dw0 up0, show nzr (changed [a, b] [c, e] f) = nzr f from changed_zero hz nf] at r9
    have r8 := (r4.same v8).sp s9 D8.tt
    have r8' := r8
    rw [RB_scaled dw0 up0] at r8'
    refine ne_rv r8' r9 ?_
    rw [decide_eq_true rfl]
    have D9 := D8.sp s9 t9
    have w9 := (Sy.of (d := d) (P := T.P_first_index) v8).trans (Sy.ofP s9)
    have R := R.y D4 w9
    have sI := sI.trans w9
    clear w9 v8 s5 s6 s7 s8 s9 r4 r8 r9 t9 F5 F6 F7 F8 D8 tb4
    refine ⟨_, rfl, iteF ?_⟩
    refine ⟨_, rfl, _, rfl, fun a1 dx x1 x2 x3 => mkF x1 x2 x3 R.k4 tr4.pos (by omega) tr4.sho fun H1 s1 F1 => ⟨_, rfl, fun a2 dx x1 x2 x3 => mkF x1 x2 x3 (s1 _ _ R.k5) tr5.pos (by omega) tr5.sho fun H2 s2 F2 => mulI_form F2 tr5.rw (by show (2 : Int).natAbs < _; decide) fun a3 H3 s3 F3 => ?_⟩⟩
    have eup : (f.map (up * ·)).map (fun x => x * 2) = f.map ((up * 2) * ·) := by
      rw [List.map_map]
      congr 1
      funext x
      show up * x * 2 = up * 2 * x
      grind
    rw [eup] at F3
    have b6 : Bd (f.map ((up * 2) * ·)) n (2 ^ 51) := (bd_scale (d := 12) bf (by omega)).mono (by decide)
    have l6 := b6.len
    have v3 := s1.trans (s2.trans s3)
    have D3 := D9.same v3
    refine ⟨a1, a3, _, _, rfl, F1.same (s2.trans s3), F3, D3.tt, by omega, by omega, sm4, (b6.rw (by omega) (by decide)).sm, fun v4 H4' s4 t4' r4 => ?_⟩
    have D4 := D3.sp s4 t4'
    have w4 := (Sy.of (d := d) (P := T.P_first_index) v3).trans (Sy.ofP s4)
    have up2 : up * 2 ≠ 0 := by omega
    rw [RB_scaled dw0 up2] at r4
    refine ne_rv ((r8'.same v3).sp s4 D3.tt) r4 ?_
    cases hz0 : nzr f with
    | true =>
      rw [if_pos rfl, if_pos rfl, decide_eq_false (fun e => low_two up0 dw0 (Option.some.inj e).symm)]
      exact ⟨_, rfl, iteT (q _ (sI.trans w4) D4.dd D4.tt)⟩
    | false =>
      rw [if_neg (by decide), if_neg (by decide), decide_eq_true rfl]
      have R := R.y D9 w4
      refine ⟨_, rfl, iteF ⟨_, rfl, fun a5 dx x1 x2 x3 => mkF x1 x2 x3 R.k1 tr1.pos (by omega) tr1.sho fun H5 s5 F5 => prop_zero F5 ?_⟩⟩
      rw [show f.any (· != 0) = false from hz0]
      exact q _ ((sI.trans w4).trans (Sy.of s5)) (D4.dd.same s5) (tgS D4.tt s5)
end
end K08

set_option Elab.async false
set_option linter.all false
set_option maxRecDepth 100000
set_option maxHeartbeats 4000000
namespace K08
open PySem PySem.Spec PyProof.Rows L2 StX RZ MyR SlX OwnR OwnF EnumT GxR
def spLawT (K : PySem.W.Frag) (P : Addr) : Sp := fun vs H Q _ => ∃ (a : Addr) (ns : List Int), vs = [.ref a] ∧ SqL K H a (ns.map V.int) ∧ ns.length ≤ 63 ∧ TabG H P ∧ ∀ H', Q (.bl true) H'
theorem tg_dice {P d : Addr} {H : Hp} {o : HO} (n : H d = none) (t : TabG H P) : TabG (upd H d o) P := tgS t (same_upd0 n)
theorem script_Sy {K : PySem.W.Frag} {d a P : Addr} {H H' : Hp} {o : HO} {xs : List V} (s : Sy d P (upd H d o) H') (n : H d = none) (t : TabG H P) (h : SqL K H a xs) : SqL K H' a xs := by
  have neP : ∀ {b o'}, H b = some o' → (∀ ps, o' ≠ .tbl ps) → b ≠ P := fun e h z => by
    obtain ⟨ps, k, _⟩ := t
    rw [z, k] at e
    exact h ps (Option.some.inj e).symm
  rcases h with (h | ⟨u, h⟩) | h
  · have ne : a ≠ d := ne_of_none h n
    exact .inl (.inl (s a _ ne (neP h (fun _ e => by cases e)) (by rw [upd_ne ne]; exact h)))
  · have ne : a ≠ d := ne_of_none h n
    exact .inl (.inr ⟨u, s a _ ne (neP h (fun _ e => by cases e)) (by rw [upd_ne ne]; exact h)⟩)
  · exact .inr h
theorem tr_of {l : List Int} (h1 : l ≠ []) (h2 : l.length ≤ 40) (h : (l.all fun z => decide (z.natAbs ≤ 1000)) = true) : Tr l := ⟨h1, h2, fun z hz => Nat.lt_of_le_of_lt (of_decide_eq_true (List.all_eq_true.mp h z hz)) (by decide)⟩
theorem gen_app (H : Hp) (F : Addr) (o : HO) {R : Hp → Prop} (h : ∀ H' : Hp, H' F = some o → (∀ b, b ≠ F → H' b = H b) → R H') : R (upd H F o) := h _ upd_same fun _ hb => upd_ne hb
theorem rb1 : RB [2, 4] [3, 6] = some (3, 2) := by
  rw [RB_good (xs := [2, 4]) (ys := [3, 6]) (by decide) (by decide) (by decide) (by decide) (fun j hj => by
    match j, hj with
    | 0, _ => decide
    | 1, _ => decide)]
  decide +kernel
theorem rb2 : RB [1, 0, -2] [1, 0, -3, 1] = none := RB_none1 (.inl (by decide))
theorem rb3 : RB [0, 0] [0, 0] = some (1, 1) := RB_zero rfl rfl (by decide)
theorem rw11 {i : Nat} (h : i ≤ 40) : Rw (pow [1, 1] i) := (pw_b (m := 1) (b := 1) (n := 40) (by decide) (by decide) (by decide) h (by decide)).rw (by omega) (by decide)
theorem rw00 {i : Nat} (h : i ≤ 2) : Rw (pow [0, 0] i) := (pw_b (m := 1) (b := 1) (n := 2) (by decide) (by decide) (by decide) h (by decide)).rw (by omega) (by decide)
theorem rw12 {i : Nat} (h : i ≤ 3) : Rw (pow [1, -2] i) := (pw_b (m := 2) (b := 2) (n := 3) (by decide) (by decide) (by decide) h (by decide)).rw (by omega) (by decide)
theorem sho_s {z : Int} (h : z.natAbs ≤ 10) : Sho z := Nat.lt_of_le_of_lt h (by decide)
section
variable {P : Program} {w : World} {K : PySem.W.Frag} {mg : Str → Option Value} {base : Heap}
theorem ok_law (T : Facts K mg) (TB_first_index : TabB base mg T.c_first_index T.P_first_index) : FnOk P w K mg base CX0 10 T.f_law T.fd_law ["_law_script"] (spLawT K T.P_first_index) := by
  have G_law_dice : FnOk P w K mg base CX0 1 T.f_law_dice T.fd_law_dice ["_law_script", "_law_spot"] (spDice K) := ok_law_dice T
  have G_law_are_powers_right := ok_law_are_powers_right (P := P) (w := w) (base := base) T
  have G_law_are_factors_right := ok_law_are_factors_right (P := P) (w := w) (base := base) T TB_first_index
  have G_factor_between := ok_factor_between (P := P) (w := w) (base := base) T TB_first_index
  have G_law_choose := ok_law_choose (P := P) (w := w) (base := base) T
  have G_Form_init := ok_Form_init (P := P) (w := w) (base := base) T
  have G_Form_power := ok_Form_power (P := P) (w := w) (base := base) T
  have G_Form_entries := ok_Form_entries (P := P) (w := w) (base := base) T
  have G_Form_is_zero := ok_Form_is_zero (P := P) (w := w) (base := base) T
  refine T.F_law.ok sc_law (fun vs H Q E h => ?_) (fun cdv A outer s H vs Q E hr h => ?_)
  · obtain ⟨a, ns, rfl, _⟩ := h
    rfl
  · obtain ⟨a, ns, rfl, hS, hlen, hP, q⟩ := h
    refine ⟨_, (PSs.nox (pss_cons (ps_for PassesOwn.never (by rfl) (pi_range1 (by rfl) T.z_range (pa_cons (pe_callB (call_max2 (by rfl)) (by rfl) T.z_max (by decide +kernel) (pa_cons pe_int (pa_cons (pe_callB (call_min2 (by rfl)) (by rfl) T.z_min (by decide +kernel) (pa_cons pe_int (pa_cons (pe_callB call_len_seq (by rfl) T.z_len (by decide +kernel) (pa_cons (pv 0) pa_nil)) pa_nil))) pa_nil))) pa_nil)) (pg_name (i := 1) sc_law.nd rfl (.inl rfl))
      (pss_cons (ps_set (i := 2) sc_law.nd rfl (.inl rfl) (pe_call G_law_dice (hr.mono (by decide)) (by rfl) T.g_law_dice T.F_law_dice.kp T.b_law_dice .nil pass0 (pa_cons (pv 0) (pa_cons (pv 1) pa_nil))))
      (pss_one (ps_if (pw_or (pt_not (pt_val (pe_call G_law_are_powers_right hr (by rfl) T.g_law_are_powers_right T.F_law_are_powers_right.kp T.b_law_are_powers_right .nil pass0 (pa_cons (pv 2) pa_nil)))) (pw_or1 (pt_not (pt_val (pe_call G_law_are_factors_right hr (by rfl) T.g_law_are_factors_right T.F_law_are_factors_right.kp T.b_law_are_factors_right .nil pass0 (pa_cons (pv 2) pa_nil)))))).pt
        (pss_one (ps_ret pe_bl))
        pss_nil))))
    (pss_cons (ps_set (i := 3) sc_law.nd rfl (.inl rfl) (pe_lst (pa_cons (pe_call G_factor_between (hr.mono (by decide)) (by rfl) T.g_factor_between T.F_factor_between.kp T.b_factor_between .nil pass0 (pa_cons (pe_make T.mk_Form G_Form_init (hr.mono (by decide)) (by rfl) T.g_Form T.b_Form_init .nil pass0 (pa_cons (pe_tup (pa_cons pe_int (pa_cons pe_int pa_nil))) pa_nil)) (pa_cons (pe_make T.mk_Form G_Form_init (hr.mono (by decide)) (by rfl) T.g_Form T.b_Form_init .nil pass0 (pa_cons (pe_tup (pa_cons pe_int (pa_cons pe_int pa_nil))) pa_nil)) pa_nil))) (pa_cons (pe_call G_factor_between (hr.mono (by decide)) (by rfl) T.g_factor_between T.F_factor_between.kp T.b_factor_between .nil pass0 (pa_cons (pe_make T.mk_Form G_Form_init (hr.mono (by decide)) (by rfl) T.g_Form T.b_Form_init .nil pass0 (pa_cons (pe_tup (pa_cons pe_int (pa_cons pe_int (pa_cons (pe_un un_neg pe_int) pa_nil)))) pa_nil)) (pa_cons (pe_make T.mk_Form G_Form_init (hr.mono (by decide)) (by rfl) T.g_Form T.b_Form_init .nil pass0 (pa_cons (pe_tup (pa_cons pe_int (pa_cons pe_int (pa_cons (pe_un un_neg pe_int) (pa_cons pe_int pa_nil))))) pa_nil)) pa_nil))) pa_nil))))
    (pss_cons (ps_expr (pe_bm PySem.F.plainAttrs_list PySem.F.slot_list_append PySem.F.type_list_append mt_append (pv 3) (pa_cons (pe_call G_factor_between (hr.mono (by decide)) (by rfl) T.g_factor_between T.F_factor_between.kp T.b_factor_between .nil pass0 (pa_cons (pe_make T.mk_Form G_Form_init (hr.mono (by decide)) (by rfl) T.g_Form T.b_Form_init .nil pass0 (pa_cons (pe_tup (pa_cons pe_int (pa_cons pe_int pa_nil))) pa_nil)) (pa_cons (pe_make T.mk_Form G_Form_init (hr.mono (by decide)) (by rfl) T.g_Form T.b_Form_init .nil pass0 (pa_cons (pe_tup (pa_cons pe_int (pa_cons pe_int pa_nil))) pa_nil)) pa_nil))) pa_nil)))
    (pss_cons (ps_if (pw_or (pt_cmpR (op_neD (hu64 hr)) (pv 3) (pe_lst (pa_cons (pe_tup (pa_cons pe_int (pa_cons pe_int pa_nil))) (pa_cons pe_non (pa_cons (pe_tup (pa_cons pe_int (pa_cons pe_int pa_nil))) pa_nil)))) (nomark _)) (pw_or1 (pt_cmpR (op_neD (hu64 hr)) (pe_prp (OwnC.pe_cmF (pe_glob (v := .ref T.C_Form) (by rfl) T.g_Form rfl) T.cm_Form_power G_Form_power T.b_Form_power (hr.mono (by decide)) (pa_cons (pe_tup (pa_cons pe_int (pa_cons (pe_un un_neg pe_int) pa_nil))) (pa_cons pe_int pa_nil))) T.oc_Form T.pr_Form_entries G_Form_entries T.b_Form_entries (hr.mono (by decide))) (pe_tup (pa_cons pe_int (pa_cons (pe_un un_neg pe_int) (pa_cons pe_int (pa_cons (pe_un un_neg pe_int) pa_nil))))) (nomark _)))).pt
      (pss_one (ps_ret pe_bl))
      pss_nil)
    (pss_one (ps_ret (pe_and (pe_cmpR (op_eqD (hu64 hr)) (pe_prp (OwnC.pe_cmF (pe_glob (v := .ref T.C_Form) (by rfl) T.g_Form rfl) T.cm_Form_power G_Form_power T.b_Form_power (hr.mono (by decide)) (pa_cons (pe_tup (pa_cons pe_int (pa_cons pe_int pa_nil))) (pa_cons pe_int pa_nil))) T.oc_Form T.pr_Form_entries G_Form_entries T.b_Form_entries (hr.mono (by decide))) (pe_tup (pa_cons pe_int pa_nil)) (nomark _)) (pe_and (pe_prp (OwnC.pe_cmF (pe_glob (v := .ref T.C_Form) (by rfl) T.g_Form rfl) T.cm_Form_power G_Form_power T.b_Form_power (hr.mono (by decide)) (pa_cons (pe_tup (pa_cons pe_int (pa_cons pe_int pa_nil))) (pa_cons pe_int pa_nil))) T.oc_Form T.pr_Form_is_zero G_Form_is_zero T.b_Form_is_zero (hr.mono (by decide))) (pe_one (pe_cmpR op_eq (pe_ix ix_tup (pe_prp (OwnC.pe_cmF (pe_glob (v := .ref T.C_Form) (by rfl) T.g_Form rfl) T.cm_Form_power G_Form_power T.b_Form_power (hr.mono (by decide)) (pa_cons (pe_tup (pa_cons pe_int (pa_cons pe_int pa_nil))) (pa_cons pe_int pa_nil))) T.oc_Form T.pr_Form_entries G_Form_entries T.b_Form_entries (hr.mono (by decide))) pe_int (fun _ _ => rfl)) (pe_call G_law_choose (hr.mono (by decide)) (by rfl) T.g_law_choose T.F_law_choose.kp T.b_law_choose .nil pass0 (pa_cons pe_int (pa_cons pe_int pa_nil))) (nomark _)))))))))))), ?_⟩
    refine ⟨.ref a, rfl, a, _, rfl, .inl hS, 4, _, rfl, 1, _, rfl, _, rfl, ?_⟩
    rw [List.length_map]
    obtain ⟨n, hn, hn0⟩ : ∃ n : Int, (if (if ((ns.length : Nat) : Int) < 4 then ((ns.length : Nat) : Int) else 4) > 1 then (if ((ns.length : Nat) : Int) < 4 then ((ns.length : Nat) : Int) else 4) else 1) = n ∧ 0 ≤ n ∧ n ≤ 4 := ⟨_, rfl, by split <;> split <;> omega, by split <;> split <;> omega⟩
    rw [hn]
    refine ⟨by omega, by omega, for_range (n := n.toNat) (fun i σ H' => ∃ y1 y2, σ = [some (.ref a), y1, y2, none] ∧ SqL K H' a (ns.map V.int) ∧ TabG H' T.P_first_index) ⟨none, none, rfl, hS, hP⟩ (fun i σ H1 hi hP => ?_) (fun σ H1 hP => ?_)⟩
    · obtain ⟨y1, y2, rfl, h1, p1⟩ := hP
      refine ⟨.ref a, rfl, _, rfl, a, ns, i, ?_, h1, fun d x y z nd => ?_⟩
      · show [V.ref a, V.int (0 + (i : Int))] ++ [] = _
        rw [Int.zero_add]
        rfl
      have d1 : Dc (upd H1 d (dice x y z)) d := ⟨x, y, z, upd_same⟩
      refine ⟨_, rfl, d, rfl, d1, fun H2 s2 d2 => ⟨true, rfl, iteF ⟨_, rfl, d, rfl, d2, tg_sx s2 d1 (tg_dice nd p1), fun H3 s3 d3 p3 => ⟨true, rfl, iteF ?_⟩⟩⟩⟩
      exact ⟨_, _, rfl, script_Sy ((Sy.ofD s2).trans s3) nd p1 h1, p3⟩
    · obtain ⟨y1, y2, rfl, h1, p1⟩ := hP
      have z2 : 2 ≤ sizeLine := by decide
      have z3 : 3 ≤ sizeLine := by decide
      have z4 : 4 ≤ sizeLine := by decide
      have tA : Tr [2, 4] := tr_of (by decide) (by decide) (by decide)
      have tB : Tr [3, 6] := tr_of (by decide) (by decide) (by decide)
      have tC : Tr [1, 0, -2] := tr_of (by decide) (by decide) (by decide)
      have tD : Tr [1, 0, -3, 1] := tr_of (by decide) (by decide) (by decide)
      have tE : Tr [0, 0] := tr_of (by decide) (by decide) (by decide)
      have fb : ∀ {H : Hp} {a b : Addr} {xs ys : List Int} {Q : VK}, Fo T.C_Form H a xs → Fo T.C_Form H b ys → Tr xs → Tr ys → TabG H T.P_first_index → (∀ v H', Sx T.P_first_index H H' → TabG H' T.P_first_index → RV H' v (RB xs ys) → Q v H') → spFactor T.C_Form T.P_first_index [.ref a, .ref b] H Q E0 :=
        fun f g tx ty p q => ⟨_, _, _, _, rfl, f, g, p, by have := tx.len; omega, by have := ty.len; omega, tx.rw.sm, ty.rw.sm, q⟩
      refine ⟨z2, fun p2 m2 => gen_upd H1 p2 (tp [2, 4]) m2 fun H2 s2 k2 => fun a2 dx x1 x2 x3 => mkF x1 x2 x3 k2 tA.pos (by decide) tA.sho fun H3 s3 F3 => ⟨z2, fun p4 m4 => gen_upd H3 p4 (tp [3, 6]) m4 fun H4 s4 k4 => fun a4 dx x1 x2 x3 => mkF x1 x2 x3 k4 tB.pos (by decide) tB.sho fun H5 s5 F5 => ?_⟩⟩
      refine fb (F3.same (s4.trans s5)) F5 tA tB (tgS p1 (s2.trans (s3.trans (s4.trans s5)))) fun v5 H6 s6 t6 r5 => ?_
      rw [rb1] at r5
      obtain ⟨u5, rfl, k5⟩ := r5
      refine ⟨_, rfl, z3, fun p7 m7 => gen_upd H6 p7 (tp [1, 0, -2]) m7 fun H7 s7 k7 => fun a7 dx x1 x2 x3 => mkF x1 x2 x3 k7 tC.pos (by decide) tC.sho fun H8 s8 F8 => ⟨_, rfl, z4, fun p9 m9 => gen_upd H8 p9 (tp [1, 0, -3, 1]) m9 fun H9 s9 k9 => fun a9 dx x1 x2 x3 => mkF x1 x2 x3 k9 tD.pos (by decide) tD.sho fun H10 s10 F10 => ?_⟩⟩
      have v10 := (s7.trans s8).trans (s9.trans s10)
      have p10 := tgS t6 v10
      refine fb (F8.same (s9.trans s10)) F10 tC tD p10 fun v11 H11 s11 t11 r11 => ?_
      rw [rb2] at r11
      have r11 : v11 = .non := r11
      subst r11
      have k5 := rd_tab s11 p10 (v10 _ _ k5)
      refine ⟨z2, fun L mL => gen_upd H11 L (.lst [.ref u5, .non]) mL fun H12 s12 k12 => ?_⟩
      have k5 := s12 _ _ k5
      have t12 := tgS t11 s12
      refine ⟨_, rfl, .inl ⟨rfl, _, SqL.of k12⟩, z2, fun p13 m13 => gen_upd H12 p13 (tp [0, 0]) m13 fun H13 s13 k13 => fun a13 dx x1 x2 x3 => mkF x1 x2 x3 k13 tE.pos (by decide) tE.sho fun H14 s14 F14 => ⟨z2, fun p15 m15 => gen_upd H14 p15 (tp [0, 0]) m15 fun H15 s15 k15 => fun a15 dx x1 x2 x3 => mkF x1 x2 x3 k15 tE.pos (by decide) tE.sho fun H16 s16 F16 => ?_⟩⟩
      have v16 := (s13.trans s14).trans (s15.trans s16)
      have p16 := tgS t12 v16
      refine fb (F14.same (s15.trans s16)) F16 tE tE p16 fun v17 H17 s17 t17 r17 => ?_
      rw [rb3] at r17
      obtain ⟨u17, rfl, k17⟩ := r17
      have k5 := rd_tab s17 p16 (v16 _ _ k5)
      have kL := s17 _ _ (fun z => by
        obtain ⟨ps, e, _⟩ := p16
        rw [← z, v16 _ _ k12] at e
        cases e) (v16 _ _ k12)
      refine ⟨L, _, _, rfl, rfl, kL, small1000 (show 2 ≤ _ by decide), gen_app H17 L _ fun H18 e18 n18 => ?_⟩
      have k5 : H18 u5 = some (tp [3, 2]) := by rw [n18 _ (fun z => by rw [z, kL] at k5; cases k5)]; exact k5
      have k17 : H18 u17 = some (tp [1, 1]) := by rw [n18 _ (fun z => by rw [z, kL] at k17; cases k17)]; exact k17
      refine ⟨_, rfl, z2, fun p19 m19 => gen_upd H18 p19 (tp [3, 2]) m19 fun H19 s19 k19 => ⟨z2, fun p20 m20 => gen_upd H19 p20 (tp [1, 1]) m20 fun H20 s20 k20 => ⟨z3, fun L2 mL2 => gen_upd H20 L2 _ mL2 fun H21 s21 k21 => ?_⟩⟩⟩
      have v21 := s19.trans (s20.trans s21)
      refine ⟨.list [.tuple ([3, 2].map PyData.int), .none, .tuple ([1, 1].map PyData.int)], .list [.tuple ([3, 2].map PyData.int), .none, .tuple ([1, 1].map PyData.int)], .lst (SqL.of (v21 _ _ e18)) ?_, .lst (SqL.of k21) ?_, by decide +kernel, by decide +kernel, ?_⟩
      · exact .cons (.tup (SqT.of (v21 _ _ k5)) (dpAll_ints _)) (.cons .non (.cons (.tup (SqT.of (v21 _ _ k17)) (dpAll_ints _)) .nil))
      · exact .cons (.tup (SqT.of ((s20.trans s21) _ _ k19)) (dpAll_ints _)) (.cons .non (.cons (.tup (SqT.of (s21 _ _ k20)) (dpAll_ints _)) .nil))
      rw [show PyData.eqv (.list [.tuple ([3, 2].map PyData.int), .none, .tuple ([1, 1].map PyData.int)]) (.list [.tuple ([3, 2].map PyData.int), .none, .tuple ([1, 1].map PyData.int)]) = true from SeqAt.eqv_refl _ (by decide +kernel)]
      refine ⟨false, rfl, iteF ?_⟩
      refine ⟨rfl, _, rfl, z2, fun p22 m22 => gen_upd H21 p22 (tp [1, -2]) m22 fun H22 s22 k22 => ⟨p22, 1, -2, 3, rfl, k22, sho_s (by decide), sho_s (by decide), by decide, fun i hi => rw12 hi, fun a23 H23 s23 F23 => prop_ent F23 fun u23 k23 => ?_⟩⟩
      refine ⟨_, rfl, _, rfl, z4, fun p24 m24 => gen_upd H23 p24 (tp [1, -6, 12, -8]) m24 fun H24 s24 k24 => ne_ints (SqT.of (s24 _ _ k23)) (SqT.of k24) ?_⟩
      rw [decide_eq_true (show pow [1, -2] 3 = [1, -6, 12, -8] by decide +kernel)]
      refine ⟨false, rfl, iteF ?_⟩
      refine ⟨rfl, z2, fun p25 m25 => gen_upd H24 p25 (tp [0, 0]) m25 fun H25 s25 k25 => ⟨p25, 0, 0, 0, rfl, k25, sho_s (by decide), sho_s (by decide), by decide, fun i hi => rw00 (by omega), fun a26 H26 s26 F26 => prop_ent F26 fun u26 k26 => ?_⟩⟩
      refine ⟨by show 1 ≤ sizeLine; decide, fun p27 m27 => gen_upd H26 p27 (tp [1]) m27 fun H27 s27 k27 => eq_ints (SqT.of (s27 _ _ k26)) (SqT.of k27) ?_⟩
      rw [decide_eq_true (show pow [0, 0] 0 = [1] by decide +kernel)]
      refine ⟨true, rfl, iteT ?_⟩
      refine ⟨rfl, z2, fun p28 m28 => gen_upd H27 p28 (tp [0, 0]) m28 fun H28 s28 k28 => ⟨p28, 0, 0, 2, rfl, k28, sho_s (by decide), sho_s (by decide), by decide, fun i hi => rw00 hi, fun a29 H29 s29 F29 => prop_zero F29 ?_⟩⟩
      rw [show (pow [0, 0] 2).any (· != 0) = false by decide +kernel]
      refine ⟨true, rfl, iteT ?_⟩
      refine ⟨rfl, z2, fun p30 m30 => gen_upd H29 p30 (tp [1, 1]) m30 fun H30 s30 k30 => ⟨p30, 1, 1, 40, rfl, k30, sho_s (by decide), sho_s (by decide), by decide, fun i hi => rw11 hi, fun a31 H31 s31 F31 => prop_ent F31 fun u31 k31 => ?_⟩⟩
      refine ⟨u31, _, 20, _, rfl, rfl, SqT.of k31, atI_nat (j := 20) (get_int (by rw [pow_len rfl]; decide)), 40, 20, rfl, by decide, by decide, rfl, ?_⟩
      rw [co_pow2, if_pos (by decide), Int.one_pow, Int.mul_one, Int.mul_one, decide_eq_true rfl]
      exact q _
end
end K08

set_option Elab.async false
set_option linter.all false
set_option maxRecDepth 100000
set_option maxHeartbeats 0
namespace K08
open PySem PySem.Spec PyProof.Rows L2
theorem facts {l : PySem.W.OpenLaw} {w : World} {K : PySem.W.Frag} {h : Heap} {mg : Str → Option Value} {f : Addr} (X : K.In h) (G : h.Ns mainGlobals mg) (hfa : mg ("law" : Str) = some (.ref f)) (c : HookT.SaysGT faL fnL tfL exL h K) :
    LamX.LawAtS l w K CX0 10 63 "_law_script" mg f h := by
  obtain ⟨T⟩ := facts_of X G c.g
  have e := hfa.symm.trans T.g_law
  cases e
  have b := FunD.bindsA (ps := ["_law_script"]) T.F_law fun _ _ _ _ _ _ us hl => match us, hl with | [_], _ => rfl
  have key : ∀ p ∈ ([(T.c_first_index, T.P_first_index)] : List (Addr × Addr)), ∃ q ∈ tfL, p = HookT.cTA K q := fun p hp => by
    simp only [List.mem_cons, List.not_mem_nil, or_false] at hp
    rcases hp with rfl
    · exact ⟨(HookG.At.glo "first_index"), by unfold tfL; simp, T.tab_first_index⟩
  refine ⟨T.fd_law, [(T.c_first_index, T.P_first_index)], spLawT K T.P_first_index, fun p hp => ?_, fun p hp => ?_, fun p hp => ?_, fun s v => b s [v] rfl, fun H a ns hl _ hH hS => ⟨a, ns, rfl, hS, hl, HookT.tabG0 (hH (T.c_first_index, T.P_first_index) (by simp)), fun _ => rfl⟩, fun base _ _ TB => ok_law T (have t := TB (T.c_first_index, T.P_first_index) (by simp); ⟨t.code, t.bm, t.gP⟩)⟩
  · obtain ⟨q, hq, rfl⟩ := key p hp
    exact c.empty q hq
  · obtain ⟨q, hq, rfl⟩ := key p hp
    exact c.out q hq
  · obtain ⟨q, hq, rfl⟩ := key p hp
    exact PySem.W.codeHd_of_K X (c.hd q hq)
end K08
open PySem PySem.W PySem.Calls PyProof.Rows
theorem PySem.Challenge.cw_sourceforms_k08_whole_powers_and_factors_holds : PySem.Challenge.rw_sourceforms_k08_whole_powers_and_factors.Holds := by
  w_on; o_law
  refine HandSHeadRun.head_imp (r := OpenLaw.row PySem.Challenge.rw_sourceforms_k08_whole_powers_and_factors) (q := view (OpenLaw.row PySem.Challenge.rw_sourceforms_k08_whole_powers_and_factors).prog [0, 61]) (H := K08.hk) (ob := K08.ob) (M := 9000) (loose := K08.loose) (d := HandSHeadRun.topDef (OpenLaw.row PySem.Challenge.rw_sourceforms_k08_whole_powers_and_factors).prog 61) (kwd := []) K08.ob_eq K08.run (by kernel_rfl) (by kernel_rfl) (by kernel_rfl) (by rfl) (by first | assumption | decide +kernel) (by decide +kernel) ⟨rfl, rfl, rfl, rfl, rfl, by decide +kernel⟩ ?hw ?hc
  case hw => w_witness2
  case hc =>
    refine LamX.walk_ofTsE (l := PySem.Challenge.rw_sourceforms_k08_whole_powers_and_factors) (n := 63) (k := 10) (x := "_law_script") (CX := fun _ => L2.CX0) rfl (by decide) (by kernel_rfl) ⟨rfl, by decide, by decide⟩ ?F (fun _ _ _ _ _ z => z)
    intro w mg fa h Y G hmg0
    obtain ⟨K, KX, c⟩ := Y
    have hmg : mg ("law" : PySem.Str) = some (.ref fa) := by
      have e : (HandSHeadRun.topDef (OpenLaw.row PySem.Challenge.rw_sourceforms_k08_whole_powers_and_factors).prog 61).name = ("law" : PySem.Str) := by kernel_rfl
      rw [← e]
      exact hmg0
    exact ⟨K, KX, K08.facts KX G hmg c⟩
