import PyProof.Rows.All
import Wide.All
import OpenK.AllK
import Wide.FinOn
import KE.KTupSum
import HandS.ForMost
import HandS.Wide
import HandS.Style
import HandS.Gcd
import KE.KMathG
import Flt.RightSqrt
import HandS.SlotsOwn
import HandS.IsInst
import KE.KOpsOwn
import KE.KCallOwn
import KE.KOwnIter
import OpenK.KMeth
import OpenK.KOps
import PyProof.InstNe
import HandS.OwnIter
import HandS.IterNext
import HandS.Defaults
import HandS.HeadHook2
import HandS.HeadNt
import HandS.Iter
import KE.GoesMore
import HandS.Codes
import HandS.Words
import HandS.Slots
import HandS.ClsMeth
import PyProof.ListIndex
import HandS.List
import HandS.AnyAll
import HandS.ExcOwn
import KE.KDictIter
import PyProof.GenCompT
import HandS.HeadHook4
import HandS.HeadWalk
import HandS.Deep
import HandS.TupSets
import HandS.Sort
import KE.DataFind
import HandS.Conv
import HandS.Star
import HandS.TupAny
import HandS.Zip
import HandS.Evl
import HandS.WordsExc
import HandS.Head0
import HandS.Head1
import HandS.Head2
import HandS.Head3
import HandS.HeadEnd
import HandS.HeadHook1
import HandS.HeadHook3
import HandS.FStr
import KE.KEqSeq
import HandS.TupMul
import PySem.Challenge.RW_sourceforms_k06_whole_roots_and_lines

set_option Elab.async false
set_option linter.all false
set_option maxRecDepth 100000
set_option maxHeartbeats 4000000
/-! rules of mine: a tuple turned round by a slice, the sum of a tuple -/
namespace MyR
open PySem PySem.Spec PyProof.Rows L2 HT
section
variable {prog : Program} {w : World} {A : Around} {E : Value → Shared → Prop} {s : Shared}
end
section
variable {X : Cx}
/-- // by any int other than 0 -/
def CDivZ (_ j : Int) : Prop := j ≠ 0 ∧ j.natAbs.log2 < 9000
theorem op_fdivZ : OpR X (binaryOp .FloorDiv) (rI CDivZ fun i j => .int (i.fdiv j)) := opI fun i j _ _ _ _ _ hc q =>
  floordiv_int hc.1 q (.inl (PyProof.noPylong_of_log2 hc.2))
end
end MyR

set_option Elab.async false
set_option linter.all false
set_option maxRecDepth 100000
set_option maxHeartbeats 2000000
/-! rules for instances with slots: own +, -, *, unary -, ==, !=, len, str -/
namespace OwnR
open PySem PySem.Spec PyProof.Rows L2 SlX
section
variable {X : Cx} {CX : CXT} {C g : Addr} {n : Nat} {sp : Sp} {E : XK}
/-- x op y, both instances of the class at C -/
def rBin (C : Addr) (sp : Sp) (E : XK) : R2 := fun x y H Q => ∃ a dx vs b dy ws, x = .ref a ∧ y = .ref b ∧ Slt H a C dx vs ∧ Slt H b C dy ws ∧ sp [x, y] H Q E
theorem op_bin {op : Operator} (hc : PySem.W.selfFirst X.K C = true) (hs : PySem.W.findIn X.K (.ref C) (PySem.dunder op.info.2) = some (some (.ref g))) (hf : PySem.W.isFn X.K (.ref g) = true) (F : FnR X.prog X.w X.K X.mg X.base CX n g sp)
    (hr : Room n X.A) (hx : Passes CX X E) : OpR X (binaryOp op) (rBin C sp E) := by
  intro pins s σ H x y v u Q I rx ry h
  obtain ⟨a, dx, vs, b, dy, ws, rfl, rfl, ha, hb, q⟩ := h
  cases (show v = Value.ref a from rx)
  cases (show u = Value.ref b from ry)
  obtain ⟨sl, od, _, J, _⟩ := slt_inst I ha
  obtain ⟨sl', od', _, J', _⟩ := slt_inst I hb
  obtain ⟨m, hF⟩ := I.fr
  refine PySem.W.binop_K hF I.ok.mod.kin J J'.type hc hs hf ?_
  refine wpAny_mono (wpAny_call (run_fnR (us := [.ref a, .ref b]) (vs := [.ref a, .ref b]) F hr hx I (.cons rfl (.cons rfl .nil)) q)) (fun w s' z => ?_) fun _ _ x => x
  obtain ⟨z', H', I', rz, qz⟩ := z
  exact cmpback rz ⟨z', H', I', rz, qz⟩
end
end OwnR

set_option Elab.async false
set_option linter.all false
set_option maxRecDepth 100000
set_option maxHeartbeats 2000000
/-! list(x) of an instance with own __iter__ (an iterator over a tuple) and own __len__; iter of a tuple -/
namespace OwnR
open PySem PySem.Spec PyProof.Rows L2 SlX
/-- at it an iterator over the tuple at t, the next place is i -/
def ItT (t it : Addr) (i : Nat) : HO := .ext fun h => IsTupIter h it t i
section
variable {X : Cx} {CX : CXT} {pins : List (Addr × Obj)} {σ : L2.St} {H : Hp} {s : Shared} {C g gl t it q : Addr} {n i : Nat} {sp spl : Sp} {E : XK}
/-- what stands while the iterator's items are taken -/
structure Tk (K : PySem.W.Frag) (H0 H : Hp) (t it q : Addr) (ys : List V) (i : Nat) : Prop where
  at_ : H it = some (ItT t it i)
  tu : SqT K H t ys
  li : H q = some (.lst (ys.take i))
  st : ∀ b o, b ≠ it → b ≠ q → H0 b = some o → H b = some o
theorem slt_upd {a dx q : Addr} {vs : List (Option V)} {o : HO} (h : Slt H a C dx vs) (n : H q = none) : Slt (upd H q o) a C dx vs := by
  rcases h with ⟨h1, h2⟩ | ⟨h1, h2⟩
  · exact .inl ⟨by rw [upd_ne (ne_of_none h1 n)]; exact h1, h2⟩
  · exact .inr ⟨by rw [upd_ne (ne_of_none h1 n)]; exact h1, by rw [upd_ne (ne_of_none h2 n)]; exact h2⟩
end
end OwnR

set_option Elab.async false
set_option linter.all false
set_option maxRecDepth 100000
set_option maxHeartbeats 2000000
/-! a Hook that tells of defs found anywhere (a global, a class's method, a property's getter), and of classes with slots -/
namespace HookG
open PySem PySem.Spec PyProof.Rows L2 He
/-- the property f of the class at C -/
def prA (K : PySem.W.Frag) (C : Addr) (f : Str) : Addr := match PySem.W.recIn K (ma K C f) "property" with
  | some (.ref g :: _) => g
  | _ => 0
/-- where a def stands: a global; a method; a property's getter; a classmethod -/
inductive At where
  | glo (x : Str)
  | met (C m : Str)
  | prp (C f : Str)
  | cms (C m : Str)
def At.adr (K : PySem.W.Frag) : At → Addr
  | .glo x => ga K x
  | .met C m => ma K (ga K C) m
  | .prp C f => prA K (ga K C) f
  | .cms C m => He5.wf K (ga K C) "classmethod" m
structure GD where
  at_ : At
  name : Str
  qual : Str
  params : Arguments
  body : List Stmt
  scope : Scope
def fnA (K : PySem.W.Frag) (a : Addr) : FnW := match K.lookup a with
  | some ⟨_, _, .func fd, _⟩ => some (fd.name, fd.qualname, fd.params, fd.body, fd.scope, fd.globals, fd.closure, fd.builtins)
  | _ => none
def GD.val (d : GD) : FnW := some (d.name, d.qual, d.params, .stmts d.body, d.scope, mainGlobals, [], builtinsNs)
def GD.ok (K : PySem.W.Frag) (d : GD) : Bool := PySem.W.keepIn K (.ref (d.at_.adr K)) && (match K.lookup (d.at_.adr K) with
  | some ⟨_, _, .func fd, _⟩ => PySem.W.codeIn K fd.code d.qual && (dflB K fd.defaults [] && kwdB K fd.kwdefaults [])
  | _ => false)
theorem GD.funD {K : PySem.W.Frag} {d : GD} (e : fnA K (d.at_.adr K) = d.val) (c : d.ok K = true) : ∃ fd, FunD K d.name d.qual d.params d.body d.scope [] [] (d.at_.adr K) fd := by
  obtain ⟨kp, c2⟩ := ba c
  unfold fnA at e
  cases q : K.lookup (d.at_.adr K) with
  | none => rw [q] at c2; cases c2
  | some o =>
    obtain ⟨oc, od, dt, osl⟩ := o
    rw [q] at c2 e
    cases dt with
    | func fd =>
      obtain ⟨n1, n2, n3, n4, n5, n6, n7, n8, n9, n10, n11, n12, n13, n14, n15⟩ := fd
      have e2 : (some (n1, n2, n3, n4, n5, n6, n7, n15) : FnW) = some (d.name, d.qual, d.params, .stmts d.body, d.scope, mainGlobals, [], builtinsNs) := e
      simp only [Option.some.injEq, Prod.mk.injEq] at e2
      obtain ⟨h1, h2, h3, h4, h5, h6, h7, h8⟩ := e2
      subst h1 h2 h3 h4 h5 h6 h7 h8
      have c3 : (PySem.W.codeIn K n13 d.qual && (dflB K n8 [] && kwdB K n9 [])) = true := c2
      obtain ⟨k1, k2⟩ := ba c3
      obtain ⟨k3, k4⟩ := ba k2
      exact ⟨_, ⟨oc, od, n8, n9, n10, n11, n12, n13, n14, osl, rfl, q, k1, dflB_ok k3, kwdB_ok k4⟩, kp⟩
    | _ => cases c2
/-! ### facts of classes with slots -/
def dO {α : Type} [DecidableEq α] (a b : Option α) : Bool := decide (a = b)
theorem dO_ok {α : Type} [DecidableEq α] {a b : Option α} (h : dO a b = true) : a = b := of_decide_eq_true h
/-- the class at the module's name x: plain, with slots -/
def sclB (K : PySem.W.Frag) (x : Str) : Bool := PySem.W.plainGet K (ga K x) Str.empty && (PySem.W.isClsIn K (ga K x) && (PySem.W.plainOver K (ga K x) && eqO (PySem.W.findIn K (.ref (ga K x)) "__setattr__") (some (some (.builtin "object.__setattr__")))))
theorem sclB_ok {K : PySem.W.Frag} {x : Str} (h : sclB K x = true) : SlX.SCls K (ga K x) := by
  obtain ⟨c1, c⟩ := ba h
  obtain ⟨c2, c⟩ := ba c
  obtain ⟨c3, c4⟩ := ba c
  exact ⟨c1, c2, c3, eqO_ok c4⟩
def slotB (K : PySem.W.Frag) (x f : Str) (i : Nat) : Bool := eqO (PySem.W.findIn K (.ref (ga K x)) f) (some (some (.ref (ma K (ga K x) f)))) && (eqO (PySem.W.specialIn K (.ref (ma K (ga K x) f)) "__get__") (some (some (.builtin "member_descriptor.__get__"))) && (dO (PySem.W.takesIn K (.ref (ma K (ga K x) f))) (some true) && (dO (PySem.W.typeIn K (.ref (ma K (ga K x) f))) (some (.type "member_descriptor")) && dO (PySem.W.slotIn K (ma K (ga K x) f) (ga K x)) (some i))))
theorem slotB_ok {K : PySem.W.Frag} {x f : Str} {i : Nat} (h : slotB K x f i = true) (hi : i < 1000) : SlX.Slot1 K (ga K x) f (ma K (ga K x) f) i := by
  obtain ⟨c1, c⟩ := ba h
  obtain ⟨c2, c⟩ := ba c
  obtain ⟨c3, c⟩ := ba c
  obtain ⟨c4, c5⟩ := ba c
  exact ⟨eqO_ok c1, eqO_ok c2, dO_ok c3, dO_ok c4, dO_ok c5, hi⟩
def sisB (K : PySem.W.Frag) (x : Str) : Bool := eqO (PySem.W.findIn K (.ref (ga K x)) "__class__") (some (some (.builtin "object.__class__"))) && (eqO (PySem.W.specialIn K (.builtin "object.__class__") "__get__") (some (some (.builtin "getset_descriptor.__get__"))) && (dO (PySem.W.takesIn K (.builtin "object.__class__")) (some true) && dO (PySem.W.mroIn K (ga K x) (.type "object")) (some true)))
theorem sisB_ok {K : PySem.W.Frag} {x : Str} (h : sisB K x = true) : SlX.SIsi K (ga K x) := by
  obtain ⟨c1, c⟩ := ba h
  obtain ⟨c2, c⟩ := ba c
  obtain ⟨c3, c4⟩ := ba c
  exact ⟨eqO_ok c1, eqO_ok c2, dO_ok c3, dO_ok c4⟩
/-- a method: found in the class, a function -/
structure Mt (K : PySem.W.Frag) (C : Addr) (m : Str) (g : Addr) : Prop where
  at_ : PySem.W.findIn K (.ref C) m = some (some (.ref g))
  fn : PySem.W.isFn K (.ref g) = true
def mtB (K : PySem.W.Frag) (x m : Str) : Bool := eqO (PySem.W.findIn K (.ref (ga K x)) m) (some (some (.ref (ma K (ga K x) m)))) && PySem.W.isFn K (.ref (ma K (ga K x) m))
theorem mtB_ok {K : PySem.W.Frag} {x m : Str} (h : mtB K x m = true) : Mt K (ga K x) m (ma K (ga K x) m) := by
  obtain ⟨c1, c2⟩ := ba h
  exact ⟨eqO_ok c1, c2⟩
/-- a property, its getter at g -/
structure Pr (K : PySem.W.Frag) (C : Addr) (f : Str) (p g : Addr) : Prop where
  at_ : PySem.W.findIn K (.ref C) f = some (some (.ref p))
  get : PySem.W.specialIn K (.ref p) "__get__" = some (some (.builtin "property.__get__"))
  tk : PySem.W.takesIn K (.ref p) = some true
  rc : ∃ rest, PySem.W.recIn K p "property" = some (.ref g :: rest)
def recB (K : PySem.W.Frag) (p g : Addr) : Bool := match PySem.W.recIn K p "property" with
  | some (.ref a :: _) => decide (a = g)
  | _ => false
def prB (K : PySem.W.Frag) (x f : Str) : Bool := eqO (PySem.W.findIn K (.ref (ga K x)) f) (some (some (.ref (ma K (ga K x) f)))) && (eqO (PySem.W.specialIn K (.ref (ma K (ga K x) f)) "__get__") (some (some (.builtin "property.__get__"))) && (dO (PySem.W.takesIn K (.ref (ma K (ga K x) f))) (some true) && recB K (ma K (ga K x) f) (prA K (ga K x) f)))
theorem prB_ok {K : PySem.W.Frag} {x f : Str} (h : prB K x f = true) : Pr K (ga K x) f (ma K (ga K x) f) (prA K (ga K x) f) := by
  obtain ⟨c1, c⟩ := ba h
  obtain ⟨c2, c⟩ := ba c
  obtain ⟨c3, c4⟩ := ba c
  refine ⟨eqO_ok c1, eqO_ok c2, dO_ok c3, ?_⟩
  unfold recB at c4
  cases q : PySem.W.recIn K (ma K (ga K x) f) "property" with
  | none => rw [q] at c4; cases c4
  | some l =>
    rw [q] at c4
    cases l with
    | nil => cases c4
    | cons a r =>
      cases a with
      | ref b =>
        have e : b = prA K (ga K x) f := of_decide_eq_true c4
        rw [← e]
        exact ⟨r, rfl⟩
      | _ => cases c4
/-! ### the Hook -/
abbrev AlG : Type := Bool × List FnW
def obsG (fa : List Fa) (fn : List GD) (ex : PySem.W.Frag → Bool) (K : PySem.W.Frag) : AlG := ((fa.all fun f => f.ok K) && ((fn.all fun d => d.ok K) && ex K), fn.map fun d => fnA K (d.at_.adr K))
def valG (fn : List GD) : AlG := (true, fn.map GD.val)
def SaysG (fa : List Fa) (fn : List GD) (ex : PySem.W.Frag → Bool) (K : PySem.W.Frag) : Prop := obsG fa fn ex K = valG fn
section
variable {fa : List Fa} {fn : List GD} {ex : PySem.W.Frag → Bool} {K : PySem.W.Frag}
theorem SaysG.all (c : SaysG fa fn ex K) : ((fa.all fun f => f.ok K) && ((fn.all fun d => d.ok K) && ex K)) = true := congrArg (fun z : AlG => z.1) c
theorem SaysG.fact (c : SaysG fa fn ex K) (i : Nat) {f : Fa} (h : fa[i]? = some f := by rfl) : f.ok K = true := List.all_eq_true.mp (ba c.all).1 f (List.mem_of_getElem? h)
theorem SaysG.more (c : SaysG fa fn ex K) : ex K = true := (ba (ba c.all).2).2
theorem SaysG.def_ (c : SaysG fa fn ex K) (i : Nat) {d : GD} (h : fn[i]? = some d := by rfl) : ∃ fd, FunD K d.name d.qual d.params d.body d.scope [] [] (d.at_.adr K) fd := by
  have c2 := (ba (ba c.all).2).1
  have e : fn.map (fun d => fnA K (d.at_.adr K)) = fn.map GD.val := congrArg (fun z : AlG => z.2) c
  have e2 : (fn.map fun d => fnA K (d.at_.adr K))[i]? = (fn.map GD.val)[i]? := by rw [e]
  rw [List.getElem?_map, List.getElem?_map, h] at e2
  exact GD.funD (Option.some.inj e2) (List.all_eq_true.mp c2 d (List.mem_of_getElem? h))
end
end HookG

set_option Elab.async false
set_option linter.all false
set_option maxRecDepth 100000
set_option maxHeartbeats 2000000
/-! HookG's Hook over a lesser fragment: what the globals name, what is named by that, and so on; a function names its code and its defaults only -/
namespace HookG
open PySem PySem.Spec PyProof.Rows L2 He
def refsW (o : Obj) : List Addr := match o.data with
  | .func fd => refV fd.code ++ refV fd.defaults ++ refV fd.kwdefaults
  | _ => refsD o
def nxtW (g : Addr → Option Obj) (as : List Addr) : List Addr := as.flatMap fun a => match g a with
  | some o => refsW o
  | none => []
def levW (g : Addr → Option Obj) : Nat → List Addr → List Addr
  | 0, as => as
  | n + 1, as => as ++ levW g n (nxtW g as)
def asW (g : Addr → Option Obj) (n : Nat) : List Addr := levW g n [mainGlobals] ++ [cStatics]
end HookG

set_option Elab.async false
set_option linter.all false
set_option maxRecDepth 100000
set_option maxHeartbeats 2000000
/-! enumerate(t), t a tuple -/
namespace EnumT
open PySem PySem.Spec PyProof.Rows L2
open AutoSeq1 (wpAny_loadPart')
theorem meets_newT (l : Addr) (items : Array Value) (n : Nat) (dct : Option Addr) (sl : Array (Option Value)) :
    Meets (Builtin.«enumerate.__new__» ⟨[.type "enumerate", .ref l], []⟩) (fun _ R s => s.heap.get? l = some { cls := .type "tuple", dict := dct, data := .seq items n, slots := sl } ∧
      R (.ok (.ret (.ref (s.heap.push { cls := .type "tuple_iterator", data := .fields #[.ref l, .int 0 0] }).objs.size)))
        { s with heap := (s.heap.push { cls := .type "tuple_iterator", data := .fields #[.ref l, .int 0 0] }).push { cls := .type "enumerate", data := .fields #[.none, .bool false, .ref s.heap.objs.size, rawInt 0, .none, .none] } }) :=
  .of_wp fun prog w A R s h => by
    obtain ⟨hp, g, d, tk, os⟩ := s; obtain ⟨hl, h⟩ := h
    have hsub := sub_enumerate
    have hL : Heap.IsTuple (Shared.heap ⟨hp, g, d, tk, os⟩) l items := ⟨_, hl, rfl, n, rfl⟩
    wp_walk using wpAny_loadPart' hl
    refine wpAny_stack_any fun st => wpAny_pure ?_
    split
    · rename_i c _ _ _ _ _
      cases (c == Value.type "enumerate")
      · wp_walk using wpAny_loadPart' hl, wpAny_pyIter_tuple hL
        exact ⟨_, rfl, h⟩
      · wp_walk using wpAny_loadPart' hl, wpAny_pyIter_tuple hL
        exact ⟨_, rfl, h⟩
    · wp_walk using wpAny_loadPart' hl, wpAny_pyIter_tuple hL
      exact ⟨_, rfl, h⟩
section
variable {prog : Program} {w : World} {A : Around} {E : Value → Shared → Prop} {s : Shared}
theorem call_enumT {l : Addr} {items : Array Value} {Q : Value → Shared → Prop} (hL : s.heap.IsTuple l items)
    (h : ∀ h', IsEnum h' (s.heap.objs.size + 1) s.heap.objs.size 0 .none → h'.IsTupleIter s.heap.objs.size l 0 → h'.objs.size = s.heap.objs.size + 2 →
      (∀ b o, s.heap.get? b = some o → h'.get? b = some o) → Q (.ref (s.heap.objs.size + 1)) { s with heap := h' }) :
    wpAny (model prog w) A (call (.type "enumerate") [.ref l]) Q E s := by
  obtain ⟨⟨c, dct, dt, sl⟩, hl, hc, n, hd⟩ := hL
  replace hc : c = .type "tuple" := hc
  replace hd : dt = .seq items n := hd
  subst hc hd
  refine callType_new F.called_enumerate (by decide) (F.typeCall_enumerate_1 _) (F.newCall_enumerate_1 _) (fun obj => F.args_object_init_2 obj _) F.entry_enumerate_new
    (meets_newT l items n dct sl) ⟨hl, ?_⟩
  have hz : (s.heap.push { cls := .type "tuple_iterator", data := .fields #[.ref l, .int 0 0] }).objs.size = s.heap.objs.size + 1 := Heap.size_push ..
  show _ ∧ _
  rw [hz]
  have he : IsEnum ((s.heap.push { cls := .type "tuple_iterator", data := .fields #[.ref l, .int 0 0] }).push
      { cls := .type "enumerate", data := .fields #[.none, .bool false, .ref s.heap.objs.size, rawInt 0, .none, .none] }) (s.heap.objs.size + 1) s.heap.objs.size 0 .none := by
    have := Heap.get?_push_size (s.heap.push { cls := .type "tuple_iterator", data := .fields #[.ref l, .int 0 0] })
      (o := { cls := .type "enumerate", data := .fields #[.none, .bool false, .ref s.heap.objs.size, rawInt 0, .none, .none] }) rfl
    rw [hz] at this; exact this
  refine ⟨⟨_, he, rfl⟩, h _ he ⟨_, Heap.get?_push_of_some _ (Heap.get?_push_size _ rfl), rfl, rfl⟩ (by rw [Heap.size_push, hz]) fun b o x => Heap.get?_push_of_some _ (Heap.get?_push_of_some _ x)⟩
end
/-- the tuple at a, each item in a new pair -/
def IteT (K : PySem.W.Frag) (a : Addr) : It :=
  ⟨fun i H => ∃ (xs : List V) (x : V), SqT K H a xs ∧ xs[i]? = some x, fun i H v H' => ∃ T x, v = .ref T ∧ H T = none ∧ H' = upd H T (.tup [.int (i : Nat), x]) ∧ ∀ xs, SqT K H a xs → xs[i]? = some x, fun i H => ∃ xs : List V, SqT K H a xs ∧ xs.length = i⟩
theorem turn_enumT {P : Program} {w : World} {K : PySem.W.Frag} {elts : List Expr} {kk : Nat} {tpos : Pos} (a e it : Addr) (hait : a ≠ it) (hae : a ≠ e) :
    Turn P w K (.Tuple elts kk tpos) (IteT K a) [e, it] e (fun i h => (∃ old, IsEnum h e it ((i : Nat) : Int) old) ∧ h.IsTupleIter it a i ∧ e ≠ it) where
  mem := by simp
  obj := fun i h st b hb => by
    obtain ⟨⟨old, he⟩, ⟨o, ho, hc, hd⟩, _⟩ := st
    have e' : b = e ∨ b = it := by simpa using hb
    rcases e' with z | z
    · rw [z]; exact ⟨_, he, fun v q => nomatch q⟩
    · rw [z]; exact ⟨o, ho, fun v q => by rw [hd] at q; cases q⟩
  keep := fun i h h' st k => let ⟨⟨old, he⟩, hi, hne⟩ := st; ⟨⟨old, k e (by simp) _ he⟩, hi.at fun o q => k it (by simp) o q, hne⟩
  item := by
    intro X hP hw hK hc i pins s σ H E I hf st hg
    subst hP hw hK
    obtain ⟨⟨old, he⟩, hit, hne⟩ := st
    obtain ⟨xs, x, hq, hx⟩ := hg
    obtain ⟨its, rv, p, hz⟩ := I.tuple hq
    obtain ⟨u, hu, ru⟩ := rv.get hx
    have hel : e < s.heap.objs.size := Heap.lt_size he
    have hil : it < s.heap.objs.size := by obtain ⟨_, q, _⟩ := hit; exact Heap.lt_size q
    have pT : s.heap.IsTuple a its.toArray := p
    have hlt : i < its.toArray.size := by
      have := (List.getElem?_eq_some_iff.mp hu).1
      simpa using this
    refine wpAny_pyNext_enum_itemD (Draws.tuple (A := X.A.in1) (I.ok.hd hc) it a hait its.toArray) he ⟨hit, pT⟩ hlt hne (by simp [Ne.symm hae, hne]) fun x' h' tk hx' ho hit' hT hsz hk => ?_
    have hux : x' = u := by
      have h1 : its[i]? = some x' := by simpa using hx'
      rw [hu] at h1
      exact (Option.some.inj h1).symm
    subst hux
    refine ⟨_, rfl, wpAny_letOwnedTupleGo_enum (s := { s with heap := h', toks := tk + 1 }) ho fun h'' he' sb => ?_⟩
    have hT2 : h''.get? s.heap.objs.size = some { cls := .type "tuple", data := .seq #[.int i tk, x'] } := (sb.2 _ (Nat.ne_of_gt hel)).trans hT
    have new : ObjOk X.prog X.w (upd H s.heap.objs.size (.tup [.int (i : Nat), x])) h'' s.heap.objs.size (.tup [.int (i : Nat), x]) :=
      ⟨by show 2 ≤ sizeLine; decide, [.int i tk, x'], .cons ⟨_, rfl⟩ (.cons ru .nil), ⟨_, hT2, rfl, _, rfl⟩⟩
    have I1 : Inv X pins σ (upd H s.heap.objs.size (.tup [.int (i : Nat), x])) { s with heap := h'', toks := tk + 1 } :=
      I.turnedNew (ch := [e, it]) (fun b ob hb q => (sb.2 b (fun z => hb (by simp [z]))).trans (hk b ob (fun z => hb (by simp [z])) (fun z => hb (by simp [z])) q)) hf (Nat.le_refl _) new
    refine ⟨.ref s.heap.objs.size, _, I1, rfl, ⟨_, x, rfl, I.hok.fresh (Nat.le_refl _), rfl, fun ys hy => ?_⟩, ⟨⟨x', ?_⟩, hit'.1.at fun o q => (sb.2 it (Ne.symm hne)).trans q, hne⟩, fun b hb => ?_⟩
    · rw [show ys = xs from I.tuple_inj hy hq]
      exact hx
    · have e1 : ((i + 1 : Nat) : Int) = (i : Int) + 1 := by omega
      rw [e1]; exact he'
    · have hb' : b < s.heap.objs.size := by
        have e' : b = e ∨ b = it := by simpa using hb
        rcases e' with z | z
        · rw [z]; exact hel
        · rw [z]; exact hil
      rw [upd_ne (Nat.ne_of_lt hb')]
      exact (hf b hb).1
  done := by
    intro X hP hw hK hc i pins s σ H E I hf st hg
    subst hP hw hK
    obtain ⟨⟨old, he⟩, hit, hne⟩ := st
    obtain ⟨xs, hq, hx⟩ := hg
    obtain ⟨its, rv, p, hz⟩ := I.tuple hq
    obtain ⟨f0, f1, f2, f3, f4, f5⟩ := hf it (by simp)
    have hl := rv.length
    have hz2 : i = its.toArray.size := by rw [List.size_toArray]; omega
    subst hz2
    exact wpAny_pyNext_enum_endD (Draws.tuple (A := X.A.in1) (I.ok.hd hc) it a hait its.toArray) he ⟨hit, show s.heap.IsTuple a its.toArray from p⟩ fun h' eb => ⟨rfl, I.turned (t' := s.toks) (fun b o hb q => eb b o hb q) f0 f1 f3 f4 f5⟩
  self := fun A i s Q E st h => let ⟨⟨_, he⟩, _⟩ := st; wpAny_pyIter_enum he h
def iEnumT (K : PySem.W.Frag) (ta : TA) : TI := fun σ H R => ta σ H fun vs H1 => ∃ a xs, vs = [.ref a] ∧ SqT K H1 a xs ∧ R (IteT K a) H1
theorem pi_enumT {X : Cx} {e : Expr} {ta : TA} {p pos tpos : Pos} {elts : List Expr} {kk : Nat} (hg : Gl X "enumerate") (hm : X.mg "enumerate" = none) (ha : PA X [e] ta) (hs : starEach [e] X.env = [(false, eval e X.env)] := by rfl) :
    PI X (.Tuple elts kk tpos) (.Call (.Name "enumerate" p) [e] [] pos) (iEnumT X.K ta) := by
  refine ⟨fun pins s σ H R I h => ?_⟩
  refine Call_ (ld_blt I hg hm boot_enumerate (PyProof.Rows.callWith_type1 (thn (ha.run pos pins s σ H _ I h) fun us s1 ⟨vs, H1, I1, r1, q1⟩ => ?_) hs rfl))
  obtain ⟨a, xs, ex, hq, q⟩ := q1
  subst ex
  cases r1 with
  | cons r rr =>
    cases rr
    cases r
    obtain ⟨its, rv, p', hz⟩ := I1.tuple hq
    have hlt : a < s1.heap.objs.size := by obtain ⟨_, ho, _⟩ := p'; exact Heap.lt_size ho
    refine call_enumT (show s1.heap.IsTuple a its.toArray from p') fun h' he hit hsz hk => wpAny_pyIter_enum he ?_
    have I2 : Inv X pins σ H1 { s1 with heap := h' } := I1.kept (t' := s1.toks) hk
    refine ⟨s1.heap.objs.size + 1, [s1.heap.objs.size + 1, s1.heap.objs.size], _, _, H1, rfl, I2, turn_enumT a (s1.heap.objs.size + 1) s1.heap.objs.size (Nat.ne_of_lt hlt) (Nat.ne_of_lt (Nat.lt_succ_of_lt hlt)), ⟨⟨.none, he⟩, hit, Nat.succ_ne_self _⟩, fun b hb => ?_, q⟩
    have e' : b = s1.heap.objs.size + 1 ∨ b = s1.heap.objs.size := by simpa using hb
    have hle : s1.heap.objs.size ≤ b := by
      rcases e' with z | z
      · rw [z]; exact Nat.le_add_right _ _
      · rw [z]; exact Nat.le_refl _
    exact I1.fpOk hle (I1.hok.fresh hle)
/-- a loop over enumerate of a tuple -/
theorem for_enumT {K : PySem.W.Frag} {a : Addr} {xs : List V} {g : TG} {tb : TS} {D : Ends} {σ : L2.St} {H : Hp} (Pv : Nat → L2.St → Hp → Prop) (h0 : Pv 0 σ H) (hq : ∀ i σ H, Pv i σ H → SqT K H a xs)
    (hs : ∀ (i : Nat) (x : V) (T : Addr) (σ : L2.St) (H : Hp), xs[i]? = some x → Pv i σ H → H T = none → g (.ref T) σ (upd H T (.tup [.int (i : Nat), x])) fun σ2 H2 => tb { D with nx := Pv (i + 1), ct := Pv (i + 1), bk := D.nx } σ2 H2) (hd : ∀ σ H, Pv xs.length σ H → D.nx σ H) :
    ∃ W : Nat → Nat → L2.St → Hp → Prop, (∃ m, W 0 m σ H) ∧ ∀ i m σ H, W i m σ H →
      ((IteT K a).stop i H ∧ D.nx σ H) ∨ ((IteT K a).go i H ∧ ∃ N : L2.St → Hp → Prop, (∀ σ' H', N σ' H' → ∃ m', m' < m ∧ W (i + 1) m' σ' H') ∧ ∀ v H', (IteT K a).yld i H v H' → g v σ H' fun σ2 H2 => tb { D with nx := N, ct := N, bk := D.nx } σ2 H2) := by
  refine ⟨fun i m σ H => m = xs.length - i ∧ i ≤ xs.length ∧ Pv i σ H, ⟨xs.length, rfl, Nat.zero_le _, h0⟩, ?_⟩
  rintro i m σ H ⟨rfl, hi, p⟩
  have qx := hq i σ H p
  by_cases hlt : i < xs.length
  · have hx : xs[i]? = some xs[i] := List.getElem?_eq_getElem hlt
    refine .inr ⟨⟨xs, _, qx, hx⟩, Pv (i + 1), fun σ' H' p' => ⟨xs.length - (i + 1), by omega, rfl, hlt, p'⟩, fun v H' y => ?_⟩
    obtain ⟨T, x', rfl, hT, rfl, f1⟩ := y
    exact hs i x' T σ H (f1 xs qx) p hT
  · have e : i = xs.length := by omega
    subst e
    exact .inl ⟨⟨xs, qx, rfl⟩, hd σ H p⟩
end EnumT

set_option Elab.async false
set_option linter.all false
set_option maxRecDepth 100000
set_option maxHeartbeats 2000000
/-! a comprehension over enumerate(t), t a tuple -/
namespace EnumT
open PySem PySem.Spec PyProof.Rows L2
theorem lc_enumT {K : PySem.W.Frag} {a : Addr} {xs : List V} {g : TG} {tt : TT} {te : TE} {vs : List Nat} {σ : L2.St} {H1 : Hp} {D : Addr} {Qd : Hp → Prop} (Pv : Nat → Hp → Prop) (h0 : Pv 0 (upd H1 D (.lst []))) (hq : ∀ i H, i ≤ xs.length → Pv i H → SqT K H a xs)
    (hs : ∀ (i : Nat) (x : V) (T : Addr) (H : Hp), xs[i]? = some x → Pv i H → H T = none → g (.ref T) (wipe σ vs) (upd H T (.tup [.int (i : Nat), x])) fun σ2 H2 => wipe σ2 vs = wipe σ vs ∧ tt σ2 H2 fun b H3 =>
      if b = true then te σ2 H3 fun y H4 => ∃ acc, H4 D = some (.lst acc) ∧ acc.length < sizeLine ∧ Pv (i + 1) (upd H4 D (.lst (acc ++ [y]))) else Pv (i + 1) H3) (hd : ∀ H, Pv xs.length H → Qd H) :
    ∃ W : Nat → Nat → Hp → Prop, (∃ m, W 0 m (upd H1 D (.lst []))) ∧ ∀ i m H, W i m H →
      ((IteT K a).stop i H ∧ Qd H) ∨ ((IteT K a).go i H ∧ ∃ Nx : Hp → Prop, (∀ H', Nx H' → ∃ m', m' < m ∧ W (i + 1) m' H') ∧ ∀ x H', (IteT K a).yld i H x H' → g x (wipe σ vs) H' fun σ2 H2 => wipe σ2 vs = wipe σ vs ∧ tt σ2 H2 fun b H3 =>
        if b = true then te σ2 H3 fun y H4 => ∃ acc, H4 D = some (.lst acc) ∧ acc.length < sizeLine ∧ Nx (upd H4 D (.lst (acc ++ [y]))) else Nx H3) := by
  refine ⟨fun i m H => m = xs.length - i ∧ i ≤ xs.length ∧ Pv i H, ⟨xs.length, by simp, Nat.zero_le _, h0⟩, ?_⟩
  rintro i m H ⟨rfl, hi, p⟩
  have qx := hq i H hi p
  by_cases hlt : i < xs.length
  · have hx : xs[i]? = some xs[i] := List.getElem?_eq_getElem hlt
    refine .inr ⟨⟨xs, _, qx, hx⟩, Pv (i + 1), fun H' p' => ⟨xs.length - (i + 1), by omega, rfl, hlt, p'⟩, fun v H' y => ?_⟩
    obtain ⟨T, x', rfl, hT, rfl, f1⟩ := y
    exact hs i x' T H (f1 xs qx) p hT
  · have e : i = xs.length := by omega
    subst e
    exact .inl ⟨⟨xs, qx, rfl⟩, hd H p⟩
end EnumT

set_option Elab.async false
set_option linter.all false
set_option maxRecDepth 100000
set_option maxHeartbeats 2000000
/-! the rules of OwnR, OwnL, over the facts of HookG -/
namespace OwnF
open PySem PySem.Spec PyProof.Rows L2 He SlX OwnR HookG
/-- what is asked of a class with slots -/
structure OC (K : PySem.W.Frag) (C : Addr) : Prop where
  scl : SCls K C
  sis : SIsi K C
  first : PySem.W.selfFirst K C = true
  ne : PySem.W.findIn K (.ref C) "__ne__" = some (some (.builtin "object.__ne__"))
  ntup : PySem.W.notFirst K C (.type "tuple") = true
  rmul : PySem.W.findIn K (.ref C) "__rmul__" = some none
  imul : PySem.W.findIn K (.type "int") "__mul__" = some (some (.builtin "int.__mul__"))
  irmul : PySem.W.findIn K (.type "int") "__rmul__" = some (some (.builtin "int.__rmul__"))
  isub : PySem.W.subIn K (.type "int") (.ref C) = some false
  kself : PySem.W.kitOne K (.ref C) (.ref C) = some true
  ktup : PySem.W.kitOne K (.type "tuple") (.ref C) = some false
  kint : PySem.W.kitOne K (.type "int") (.ref C) = some false
def ocB (K : PySem.W.Frag) (x : Str) : Bool := sclB K x && (sisB K x && (PySem.W.selfFirst K (ga K x) && (eqO (PySem.W.findIn K (.ref (ga K x)) "__ne__") (some (some (.builtin "object.__ne__"))) && (PySem.W.notFirst K (ga K x) (.type "tuple") && (eqO (PySem.W.findIn K (.ref (ga K x)) "__rmul__") (some none) && (eqO (PySem.W.findIn K (.type "int") "__mul__") (some (some (.builtin "int.__mul__"))) && (eqO (PySem.W.findIn K (.type "int") "__rmul__") (some (some (.builtin "int.__rmul__"))) && (dO (PySem.W.subIn K (.type "int") (.ref (ga K x))) (some false) && (dO (PySem.W.kitOne K (.ref (ga K x)) (.ref (ga K x))) (some true) && (dO (PySem.W.kitOne K (.type "tuple") (.ref (ga K x))) (some false) && dO (PySem.W.kitOne K (.type "int") (.ref (ga K x))) (some false)))))))))))
theorem ocB_ok {K : PySem.W.Frag} {x : Str} (h : ocB K x = true) : OC K (ga K x) := by
  obtain ⟨c1, c⟩ := ba h
  obtain ⟨c2, c⟩ := ba c
  obtain ⟨c3, c⟩ := ba c
  obtain ⟨c4, c⟩ := ba c
  obtain ⟨c5, c⟩ := ba c
  obtain ⟨c6, c⟩ := ba c
  obtain ⟨c7, c⟩ := ba c
  obtain ⟨c8, c⟩ := ba c
  obtain ⟨c9, c⟩ := ba c
  obtain ⟨c10, c⟩ := ba c
  obtain ⟨c11, c12⟩ := ba c
  exact ⟨sclB_ok c1, sisB_ok c2, c3, eqO_ok c4, c5, eqO_ok c6, eqO_ok c7, eqO_ok c8, dO_ok c9, dO_ok c10, dO_ok c11, dO_ok c12⟩
theorem raw0 {P : Program} {w : World} {K : PySem.W.Frag} {mg : Str → Option Value} {base : Heap} {CX : CXT} {k : Nat} {f : Addr} {sp : Sp} {fd : FuncData} {ps : List Str} (F : FnOk P w K mg base CX k f fd ps sp) (hb : Binds K fd ps []) : FnR P w K mg base CX k f sp :=
  (F.raw hb .nil).imp fun vs H Q E h => by rw [List.append_nil]; exact h
section
variable {X : Cx} {C g gl pp : Addr} {n : Nat} {sp spl : Sp} {fd fdl : FuncData} {ps psl : List Str} {f : Str} {e : Expr} {pos : Pos} {ta : TE}
theorem hx0 : ∀ (H : Hp) (s : Shared) (e : Value) (s' : Shared), CX0 X.stack H s E0 e s' → False := fun _ _ _ _ h => h
theorem pe_prp (he : PE X e ta) (c : OC X.K C) (p : Pr X.K C f pp g) (F : FnOk X.prog X.w X.K X.mg X.base CX0 n g fd ps sp) (hb : Binds X.K fd ps []) (hr : Room (n + 1) X.A) (hb2 : attributeBase e f X.env (eval e X.env) = eval e X.env := by rfl) : PE X (.Attribute e f pos) (tPropSl C sp E0 ta) :=
  pe_propSl he c.scl p.at_ p.get p.tk p.rc (raw0 F hb) hr hx0 hb2
theorem op_mulO (c : OC X.K C) (m : Mt X.K C "__mul__" g) (F : FnOk X.prog X.w X.K X.mg X.base CX0 n g fd ps sp) (hb : Binds X.K fd ps []) (hr : Room n X.A) : OpR X (binaryOp .Mult) (rBin C sp E0) :=
  op_bin c.first ((show PySem.dunder (Operator.info .Mult).2 = ("__mul__" : Str) by decide +kernel) ▸ m.at_) m.fn (raw0 F hb) hr pass0
theorem iter_anyT {prog : Program} {w : World} {A : Around} {E : Value → Shared → Prop} {s : Shared} {l : Addr} {items : Array Value} {Q : Value → Shared → Prop} (hl : s.heap.IsTuple l items)
    (h : ∀ s₂ : Shared, s₂ = { s with heap := s.heap.push { cls := .type "tuple_iterator", data := .fields #[.ref l, .int 0 0] } } →
      (s₂.heap.IsTupleIter s.heap.objs.size l 0 ∧ s₂.heap.IsTuple l items) → l ≠ s.heap.objs.size → Q (.ref s.heap.objs.size) s₂) : wpAny (model prog w) A (pyIter (.ref l)) Q E s := by
  have hlt : l < s.heap.objs.size := by obtain ⟨_, e, _⟩ := hl; exact Heap.lt_size e
  exact wpAny_pyIter_tuple hl (h _ rfl ⟨⟨_, Heap.get?_push_size _ rfl, rfl, rfl⟩, hl.push _⟩ (Nat.ne_of_lt hlt))
theorem truth_ints {prog : Program} {w : World} {A : Around} {ns : List Int} {its : List Value} (r : Vals (ns.map V.int) its) :
    TruthOf prog w A (fun i v => its.toArray[i]? = some v) (fun i => ns.getD i 0 != 0) := fun i v s Q E hv hq => by
  have hv' : its[i]? = some v := by simpa using hv
  have hlen := r.length
  rw [List.length_map] at hlen
  have hlt : i < ns.length := by
    have := (List.getElem?_eq_some_iff.mp hv').1
    omega
  obtain ⟨u, hu, t, ru⟩ := r.get (show (ns.map V.int)[i]? = some (.int ns[i]) by rw [List.getElem?_map, List.getElem?_eq_getElem hlt]; rfl)
  rw [hv'] at hu
  cases hu
  subst ru
  have hg : ns.getD i 0 = ns[i] := by rw [List.getD_eq_getElem?_getD, List.getElem?_eq_getElem hlt] <;> rfl
  have hq' : Q (ns.getD i 0 != 0) s := hq
  rw [hg] at hq'
  exact truthy_int hq'
theorem any_rangeI : ∀ ns : List Int, (List.range ns.length).any (fun i => ns.getD i 0 != 0) = ns.any (· != 0)
  | [] => rfl
  | b :: bs => by
    rw [List.length_cons, List.range_succ_eq_map, List.any_cons, List.any_map, List.any_cons, ← any_rangeI bs]
    all_goals rfl
/-- any of a tuple of ints -/
def rAnyTI (K : PySem.W.Frag) : List V → Hp → VK → Prop := fun vs H Q => ∃ (a : Addr) (ns : List Int), vs = [V.ref a] ∧ SqT K H a (ns.map V.int) ∧ Q (.bl (ns.any (· != 0))) H
theorem cr_anyTI (hc : X.calm = true) : CallR X (.builtin "any") (rAnyTI X.K) := by
  intro pins s σ H vs us Q I r h
  obtain ⟨a, ns, rfl, hs, q⟩ := h
  obtain ⟨its, rv, hl, _⟩ := I.tuple hs
  rw [Vals.ref1 r]
  have hlen := rv.length
  rw [List.length_map] at hlen
  refine call_any_walk (iter_anyT (show s.heap.IsTuple a its.toArray from hl) fun s₂ e2 st hne => ?_)
  subst e2
  refine ⟨_, _, _, _, _, _, _, rfl, Walks.tuple (A := X.A.in1) (I.ok.hd hc) _ a hne its.toArray, st, truth_ints rv, fun h' tk hk => ?_⟩
  refine ⟨.bl _, H, I.kept fun b o eo => hk b o (fun hmem => ?_) (Heap.get?_push_of_some _ eo), ?_, q⟩
  · rcases List.mem_cons.mp hmem with e1 | hmem
    · exact absurd (e1 ▸ Heap.lt_size eo) (Nat.lt_irrefl _)
    · cases hmem
  · show Value.bool _ = Value.bool _
    rw [← any_rangeI, List.size_toArray, ← hlen]
/-- isinstance(x, C): x of a plain type, or an instance -/
theorem call_isiF (C : Addr) : CallR X (.builtin "isinstance") (fun xs H Q => rIsi X.K xs H Q ∨ rIsiSl X.K (.ref C) xs H Q) := call_isi.or (call_isiSl (.ref C))
end
end OwnF

set_option Elab.async false
set_option linter.all false
set_option maxRecDepth 100000
set_option maxHeartbeats 2000000
/-! a method of an instance with slots -/
namespace OwnF
open PySem PySem.Spec PyProof.Rows L2 He SlX OwnR HookG
section
variable {X : Cx} {C g : Addr} {n : Nat} {sp : Sp} {fd : FuncData} {ps : List Str} {o e : Expr} {es : List Expr} {x : Str} {pos apos : Pos} {ta : TE} {t : TA}
theorem pe_mSl {pl : Sem Bool} (he : PE X o ta) (c : OC X.K C) (m : Mt X.K C x g) (kp : PySem.W.keepIn X.K (.ref g) = true) (F : FnOk X.prog X.w X.K X.mg X.base CX0 n g fd ps sp) (hb : Binds X.K fd ps []) (hr : Room n X.A) (ha : PA X (e :: es) t)
    (hst : starEach (e :: es) X.env = (false, eval e X.env) :: starEach es X.env := by rfl) (hpl : (backTo pos (starEach es X.env)).any (·.1) = false := by rfl)
    (ht : eval (.Call (.Attribute o x apos) (e :: es) [] pos) X.env = (do
      let ov ← eval o X.env
      standAt apos.atName
      let (f, first) ← holding [ov] (getMethod ov x pl)
      callWith pos f first (backTo pos (starEach (e :: es) X.env)) (backToKw pos (keywordEach [] X.env))) := by rfl) :
    PE X (.Call (.Attribute o x apos) (e :: es) [] pos) (tMethSl C sp E0 ta t) :=
  pe_methSl (pl := pl) he c.scl ⟨m.at_, m.fn, kp⟩ (raw0 F hb) hr pass0 ha hst hpl ht
end
end OwnF

set_option Elab.async false
set_option linter.all false
set_option maxRecDepth 100000
set_option maxHeartbeats 2000000
/-! classmethods, classes in local names, xs[i] op= e -/
namespace OwnC
open PySem PySem.Spec PyProof.Rows L2 He SlX OwnR HookG OwnF
/-- C.m is a classmethod: its record at p, its def at g -/
structure Cm (K : PySem.W.Frag) (C : Addr) (m : Str) (p g : Addr) : Prop where
  rd : ClX.CRead K C (.type "type")
  cm : ClX.CMet K C (.type "type") m p g
def cmB (K : PySem.W.Frag) (x m : Str) : Bool := PySem.W.readsIn K (ga K x) (.type "type") && (He5.wrapB K (ga K x) "classmethod" "classmethod.__get__" m && PySem.W.fnIn K (He5.wf K (ga K x) "classmethod" m))
theorem cread_of {K : PySem.W.Frag} {C : Addr} (h : PySem.W.readsIn K C (.type "type") = true) : ClX.CRead K C (.type "type") := by
  refine ⟨h, ?_⟩
  unfold PySem.W.readsIn at h
  obtain ⟨h, _⟩ := ba h
  obtain ⟨h, _⟩ := ba h
  obtain ⟨h, h3⟩ := ba h
  obtain ⟨_, h2⟩ := ba h
  unfold PySem.W.specialIn
  rw [beq_iff_eq.mp h2, Option.bind_some]
  exact beq_iff_eq.mp h3
theorem cmB_ok {K : PySem.W.Frag} {x m : Str} (h : cmB K x m = true) : Cm K (ga K x) m (ma K (ga K x) m) (He5.wf K (ga K x) "classmethod" m) := by
  obtain ⟨c1, c⟩ := ba h
  obtain ⟨c2, c3⟩ := ba c
  obtain ⟨h1, h2⟩ := He5.wrapB_ok c2
  exact ⟨cread_of c1, h1, h2, c3⟩
section
variable {X : Cx} {C p g f : Addr} {n i : Nat} {sp : Sp} {fd : FuncData} {ps : List Str} {o e : Expr} {es : List Expr} {m x : Str} {pos apos pp : Pos} {ta : TE} {t : TA}
theorem pe_cmF {pl : Sem Bool} (he : PE X o ta) (c : Cm X.K C m p g) (F : FnOk X.prog X.w X.K X.mg X.base CX0 n g fd ps sp) (hb : Binds X.K fd ps []) (hr : Room n X.A) (ha : PA X (e :: es) t)
    (hst : starEach (e :: es) X.env = (false, eval e X.env) :: starEach es X.env := by rfl) (hpl : (backTo pos (starEach es X.env)).any (·.1) = false := by rfl)
    (ht : eval (.Call (.Attribute o m apos) (e :: es) [] pos) X.env = (do
      let ov ← eval o X.env
      standAt apos.atName
      let (f, first) ← holding [ov] (getMethod ov m pl)
      callWith pos f first (backTo pos (starEach (e :: es) X.env)) (backToKw pos (keywordEach [] X.env))) := by rfl) :
    PE X (.Call (.Attribute o m apos) (e :: es) [] pos) (ClX.tCMeth C sp E0 ta t) :=
  ClX.pe_cmeth (pl := pl) he c.rd c.cm (raw0 F hb) hr pass0 ha hst hpl ht
/-- c(e, ..), c a local name that holds the class at C -/
def tMakeV (i : Nat) (C : Addr) (sp : Sp) (t : TA) : TE := fun σ H Q => σ[i]? = some (some (.ref C)) ∧ tMake C sp [] E0 t σ H Q
theorem pe_makeV (M : Mk X.K C f) (F : FnOk X.prog X.w X.K X.mg X.base CX0 n f fd ps sp) (hr : Room (n + 1) X.A) (hb : Binds X.K fd ps []) (hN : X.N[i]? = some x) (hv : Vis X.env.scope x) (ha : PA X (e :: es) t)
    (hd : (x == ("__debug__" : Str)) = false := by decide) (hcd : (x == ("__classdict__" : Str)) = false := by decide)
    (he : starEach (e :: es) X.env = (false, eval e X.env) :: starEach es X.env := by rfl) (hpl : (backTo pos (starEach es X.env)).any (·.1) = false := by rfl) : PE X (.Call (.Name x pp) (e :: es) [] pos) (tMakeV i C sp t) := by
  refine ⟨fun pins s σ H Q I h => ?_⟩
  obtain ⟨hs, h⟩ := h
  refine wpAny_Call_Name_kw (thn ((pe_var (pos := pp) (i := i) hN hv hd hcd).run pins s σ H (fun v H1 => v = .ref C ∧ H1 = H) I ⟨.ref C, hs, rfl, rfl⟩) fun u s1 ⟨v, H1, I1, r1, ev, eH⟩ => ?_)
  subst ev
  rw [eH] at I1
  cases r1
  refine PySem.W.callWith_K (h₀ := X.base) I.ok.mod.kin M.kp (thn (ha.run pos pins s1 σ H _ I1 h) fun us s2 ⟨vs, H2, I2, r, q⟩ => ⟨I2.kIn, ?_⟩) he hpl
  exact run_make M F hr hb .nil pass0 I2 r q
/-- xs[i], read for xs[i] op= e -/
def rGetL (K : PySem.W.Frag) : R2 := fun x y H Q => ∃ a xs j v, x = .ref a ∧ y = .int ((j : Nat) : Int) ∧ SqL K H a xs ∧ xs[j]? = some v ∧ Q v H
theorem get_list : PGet X (rGetL X.K) := by
  intro pins s σ H x y v u Q I rx ry h
  obtain ⟨a, xs, j, z, rfl, rfl, hq, he, q⟩ := h
  cases rx
  obtain ⟨t, rfl⟩ := ry
  obtain ⟨its, r, pl, hz⟩ := I.list hq
  obtain ⟨w, ew, rw'⟩ := r.get he
  have hl := r.length
  have hn := line63
  have hj : j < xs.length := (List.getElem?_eq_some_iff.mp he).1
  exact wpAny_getItem_list pl.isList (by omega) (by omega) (x := w) (by rw [Int.toNat_natCast]; simpa using ew) ⟨z, H, I, rw', q⟩
end
end OwnC

set_option Elab.async false
set_option linter.all false
set_option maxRecDepth 100000
set_option maxHeartbeats 2000000
/-! sequences that may be a list or a tuple: len, index, enumerate -/
namespace SeqE
open PySem PySem.Spec PyProof.Rows L2
/-- at a a list or a tuple with these items -/
def Sq (H : Hp) (a : Addr) (xs : List V) : Prop := H a = some (.tup xs) ∨ H a = some (.lst xs)
theorem Sq.same {H H' : Hp} {a : Addr} {xs : List V} (h : Sq H a xs) (s : Same H H') : Sq H' a xs := h.elim (fun e => .inl (s _ _ e)) fun e => .inr (s _ _ e)
theorem Sq.upd {H : Hp} {a p : Addr} {o : HO} {xs : List V} (h : Sq H a xs) (hp : H p = none) : Sq (upd H p o) a xs := by
  refine h.elim (fun e => .inl ?_) fun e => .inr ?_ <;> rw [upd_ne (ne_of_none e hp)] <;> exact e
end SeqE

set_option Elab.async false
set_option linter.all false
set_option maxRecDepth 100000
set_option maxHeartbeats 2000000
/-! next(.. for .. in .. if .., default) -/
namespace GenNx
open PySem PySem.Spec PyProof.Rows L2 GxR EnumT
section
variable {prog : Program} {w : World} {A : Around} {E : Value → Shared → Prop} {s : Shared} {I : Addr} {fp wr : List Addr} {G : Array GenState → Array GenState → Prop} {n : Nat} {Pv : Nat → Value → Prop} {St : Nat → Shared → Prop}
/-- next(generator, default): the first item, or the default -/
theorem call_next_walkS {d : Value} {Q : Value → Shared → Prop} (W : WalksS prog w A.in1 I fp wr G n Pv St) (hT : s.TypeIs (.ref I) "generator") (st : St 0 s)
    (h1 : ∀ v s', 0 < n → Pv 0 v → Moved wr G s s' → Q v s') (h2 : ∀ s', n = 0 → Moved wr G s s' → Q d s') : wpAny (model prog w) A (call (.builtin "next") [.ref I, d]) Q E s := by
  refine Calls.call_function_entry (by decide +kernel) (by decide +kernel) PySem.W.kdk_entry_next (PySem.W.kdk_args_next2 _ _) ?_
  unfold Builtin.«next»
  refine wpAny_bind (m := someArgs "next" 1 2 _) (wpAny_of_eq (a := [Value.ref I, d]) (by first | rfl | kernel_rfl!) ?_)
  dsimp only
  refine wpAny_bind (wpAny_specialOf (name := Str.ofString "__next__") hT slot_gen_next.lookup ?_)
  refine wpAny_ite_split (fun hab => absurd hab (by decide)) (fun _ => ?_)
  by_cases hn : 0 < n
  · refine wpAny_bind (W.item 0 _ _ _ hn st fun v s' hv _ hm => ?_)
    exact wpAny_pure ⟨_, rfl, h1 v s' hn hv hm⟩
  · have e : n = 0 := by omega
    refine wpAny_bind (W.done _ _ _ (by rw [e]; exact st) fun s' hm => ?_)
    exact wpAny_pure ⟨_, rfl, h2 s' e hm⟩
end
/-- the generator expression's own scope: its names xa, xb -/
structure GenS2 (env : Env) (scope : Scope) (xa xb : Str) : Prop where
  kind : scope.kind = .function
  co : scope.isCoroutine = false
  cell : ∀ y ∈ scope.names, y.2 ≠ .cell
  dot : scope.names.lookup (".0" : Str) = some NameKind.local
  la : scope.names.lookup xa = some .local
  lb : scope.names.lookup xb = some .local
  ab : xa ≠ xb
  free : ∀ y ∈ scope.names, y.2 = .free → ∃ c, env.cells.lookup y.1 = some c
theorem GenS2.of {env : Env} {scope : Scope} {xa xb : Str} (h1 : scope.kind = .function) (h2 : scope.isCoroutine = false) (h3 : ∀ y ∈ scope.names, y.2 ≠ .cell ∧ y.2 ≠ .free) (h4 : scope.names.lookup (".0" : Str) = some NameKind.local) (h5 : scope.names.lookup xa = some .local) (h6 : scope.names.lookup xb = some .local) (h7 : xa ≠ xb) : GenS2 env scope xa xb :=
  ⟨h1, h2, fun y hy => (h3 y hy).1, h4, h5, h6, h7, fun y hy z => absurd z (h3 y hy).2⟩
theorem genS_of {env : Env} {scope : Scope} {x : Str} (h1 : scope.kind = .function) (h2 : scope.isCoroutine = false) (h3 : ∀ y ∈ scope.names, y.2 ≠ .cell ∧ y.2 ≠ .free) (h4 : scope.names.lookup (".0" : Str) = some NameKind.local) (h5 : scope.names.lookup x = some .local) : GxR.GenS env scope x :=
  ⟨h1, h2, fun y hy => (h3 y hy).1, h4, h5, fun y hy z => absurd z (h3 y hy).2⟩
/-- a test of the int in x -/
def TestI (prog : Program) (w : World) (scope : Scope) (x : Str) (c : Expr) (pb : Int → Bool) : Prop :=
  ∀ (cenv : Env) (A' : Around) (E' : Value → Shared → Prop) (i : Int) (t : Tok) (s₂ : Shared) (m₂ : Str → Option Value), cenv.scope = scope → s₂.heap.Ns cenv.locals m₂ → m₂ x = some (.int i t) →
    wpAny (model prog w) A' (isTrue c cenv (eval c cenv)) (fun ok s₃ => ok = pb i ∧ Keeps s₂ s₃) E' s₂
theorem test_ne0 {prog : Program} {w : World} {scope : Scope} {x : Str} {j : Nat} {p1 p2 p3 : Pos} (hk : scope.kind = .function) (hl : scope.names.lookup x = some .local) (hd : (x == ("__debug__" : Str)) = false := by decide) :
    TestI prog w scope x (.Compare (.Name x p1) [.NotEq] [.Constant (.int 0) j p2] p3) (fun i => i != 0) := by
  intro cenv A' E' i t s₂ m₂ hs hn hm
  refine wpAny_isTrue_Compare1 ?_
  refine wpAny_Name (wpAny_loadName_local (by rw [hs]; exact hk) (show cenv.scope.names.lookup x = some .local by rw [hs]; exact hl) hn hm ?_) hd
  refine wpAny_Constant_int ?_
  exact PySem.P.ne_int (wpAny_truthy_bool ⟨rfl, keeps_tok _ _⟩)
/-- the element is the int in x -/
theorem elt_name {prog : Program} {w : World} {cenv : Env} {A' : Around} {E' : Value → Shared → Prop} {x : Str} {p1 : Pos} {v : Value} {s₂ : Shared} {m₂ : Str → Option Value} {scope : Scope} (hs : cenv.scope = scope) (hk : scope.kind = .function) (hl : scope.names.lookup x = some .local) (hn : s₂.heap.Ns cenv.locals m₂) (hm : m₂ x = some v) (hd : (x == ("__debug__" : Str)) = false := by decide) :
    wpAny (model prog w) A' (eval (.Name x p1) cenv) (fun y s₃ => y = v ∧ Keeps s₂ s₃) E' s₂ :=
  wpAny_Name (wpAny_loadName_local (by rw [hs]; exact hk) (show cenv.scope.names.lookup x = some .local by rw [hs]; exact hl) hn hm ⟨rfl, keeps_refl _⟩) hd
theorem one_if {M : Model} {A : Around} {E : Value → Shared → Prop} {s : Shared} {c : Expr} {cenv : Env} {Q : Bool → Shared → Prop} (h : wpAny M A (isTrue c cenv (eval c cenv)) Q E s) :
    wpAny M A (forIn [c] true fun c r => if r = true then do let ok ← isTrue c cenv (eval c cenv); pure (ForInStep.yield ok) else pure (ForInStep.yield r)) Q E s := by
  simp only [List.forIn_cons, List.forIn_nil, if_true]
  exact wpAny_bind (wpAny_bind (wpAny_mono h (fun ok s' hq => wpAny_pure (wpAny_pure hq)) fun _ _ e => e))
section
variable {X : Cx} {pins : List (Addr × Obj)} {σ : L2.St} {H : Hp} {s : Shared}
/-- the generator g, ready to be asked, its j-th item is tied by F to the j-th place of js -/
def ReadyN (X : Cx) (pins : List (Addr × Obj)) (σ : L2.St) (H1 : Hp) (P : Addr) (js : List Nat) (F : Nat → Value → Prop) (g : Addr) (s5 : Shared) : Prop :=
  ∃ (fp wr : List Addr) (G : Array GenState → Array GenState → Prop) (St : Nat → Shared → Prop),
    WalksS X.prog X.w X.A.in1 g fp wr G js.length (fun j y => ∃ i, js[j]? = some i ∧ F i y) St ∧ St 0 s5 ∧ s5.TypeIs (.ref g) "generator" ∧
    ∀ s', Moved wr G s5 s' → ∃ H2, Tabbed P H1 H2 ∧ Inv X pins σ H2 s'
def pzL (pb : Int → Bool) (l : List Int) (i : Nat) : Bool := match l[i]? with
  | some z => pb z
  | none => false
theorem pzL_some {pb : Int → Bool} {l : List Int} {i : Nat} {z : Int} (h : l[i]? = some z) : pzL pb l i = pb z := by
  unfold pzL
  rw [h]
/-- an item of a row of ints, by values -/
theorem int_item {l : List Int} {its : List Value} (rv : Vals (l.map V.int) its) {i : Nat} {x : Value} (h : its[i]? = some x) : ∃ z t, l[i]? = some z ∧ x = .int z t := by
  have hl := rv.length
  have hi : i < its.length := (List.getElem?_eq_some_iff.mp h).1
  rw [List.length_map] at hl
  have hi2 : i < l.length := by omega
  obtain ⟨u, hu, ru⟩ := rv.get (i := i) (x := .int l[i]) (by rw [List.getElem?_map, List.getElem?_eq_getElem hi2]; rfl)
  obtain ⟨t, rfl⟩ := ru
  rw [h] at hu
  exact ⟨l[i], t, List.getElem?_eq_getElem hi2, Option.some.inj hu⟩
theorem gen_enum {c P : Addr} {e ct : Expr} {xa xb : Str} {pa pb' pt pn cpos gpos : Pos} {kt : Nat} {scope : Scope} {pb : Int → Bool} {ta : TA} {k : Nat} {p1 : Pos} {Q' : Value → Shared → Prop} {R : Addr → List Int → Hp → Prop}
    (hr : Room k X.A) (TB : TabB X.base X.mg c P) (hcode : X.env.code = .ref c) (S : GenS2 X.env scope xa xb) (hg : Gl X "enumerate") (hm : X.mg "enumerate" = none) (ha : PA X [e] ta) (hst : starEach [e] X.env = [(false, eval e X.env)])
    (htest : TestI X.prog X.w scope xb ct pb) (hda : (xa == ("__debug__" : Str)) = false)
    (hs : ∀ v, genFold (.Call (.Name "enumerate" pn) [e] [] cpos) X.env v = pure v) (I : Inv X pins σ H s) (h : ta σ H fun vs H1 => ∃ (t : Addr) (l : List Int), vs = [.ref t] ∧ SqT X.K H1 t (l.map V.int) ∧ TabG H1 P ∧ R t l H1)
    (hQ : ∀ t l H1 g s5, R t l H1 → ReadyN X pins σ H1 P (passing (pzL pb l) l.length 0) (fun i y => ∃ u, y = .int (i : Nat) u) g s5 → Q' (.ref g) s5) :
    wpAny (model X.prog X.w) X.A (eval (.GeneratorExp (.Name xa p1) [⟨.Tuple [.Name xa pa, .Name xb pb'] kt pt, .Call (.Name "enumerate" pn) [e] [] cpos, [ct], 0⟩] scope gpos) X.env) Q' X.xe s := by
  refine wpAny_GeneratorExp_walksQT hr.hd S.co (closure_ok S.free) S.cell S.dot S.la S.lb S.ab S.kind (by have := hr.dp; omega) ?_ hs
  refine Call_ (ld_blt I hg hm boot_enumerate (PyProof.Rows.callWith_type1 (thn (ha.run cpos pins s σ H _ I h) fun us s1 hv => ?_) hst rfl))
  obtain ⟨vs, H1, I1, r1, t, l, rfl, hq, ⟨ps, hP, ht⟩, q1⟩ := hv
  cases r1 with
  | cons r rr =>
    cases rr
    cases r
    obtain ⟨its, rv, p', hz⟩ := I1.tuple hq
    have pT : s1.heap.IsTuple t its.toArray := p'
    have hlt : t < s1.heap.objs.size := by obtain ⟨_, ho, _⟩ := p'; exact Heap.lt_size ho
    refine call_enumT pT fun h2 he hit hsz2 hk2 => wpAny_pyIter_enum he ?_
    have hPs : s1.heap.get? P = some { cls := .none, data := .fields ps } := I1.hok P _ hP
    have hPlt : P < s1.heap.objs.size := Heap.lt_size hPs
    have hP2 : h2.get? P = some { cls := .none, data := .fields ps } := hk2 _ _ hPs
    have cd : PySem.W.CodeHd h2 c P := TB.code.keeps fun b u e => hk2 _ _ (I1.bk b u e)
    have lim2 : h2.NoLimit := I1.nolimit.keeps hk2
    have hll := rv.length
    rw [List.length_map] at hll
    have tP : t ≠ P := fun z => by
      obtain ⟨o, ho, _, n, hd⟩ := pT
      rw [z, hPs] at ho
      cases ho
      cases hd
    have hzn : its.toArray.size = l.length := by rw [List.size_toArray]; omega
    have WT : ∀ A' : Around, A'.handled = none → WalksU X.prog X.w A' (s1.heap.objs.size + 1) _ _ _ _ _ _ := fun A' hA =>
      (WalksT.enumerateD (A := A') (Draws.tuple (prog := X.prog) (w := X.w) (A := A'.in1) hA s1.heap.objs.size t (Nat.ne_of_lt hlt) its.toArray) (s1.heap.objs.size + 1) (Nat.succ_ne_self _) (fun hm => by
        rcases List.mem_cons.mp hm with e | hm
        · exact Nat.succ_ne_self _ e
        · exact Nat.ne_of_gt (Nat.lt_succ_of_lt hlt) (List.mem_singleton.mp hm)) (by simp)).toU
    have cont : ∀ (code : Value) (h3 : Heap) (tk : Nat) (ps' : Array Value), Heap.ExtBut P h2 h3 → h2.objs.size ≤ h3.objs.size → h3.get? P = some { cls := .none, data := .fields ps' } → (∃ more, ps' = ps ++ more) → TriplesOk ps'.toList →
        wpAny (model X.prog X.w) X.A (builtinsFor X.env.globals X.env.builtins) (fun bi s₄ =>
          ∃ Ia fp wr n₀ Pt St₀ Mid pz F, Value.ref (s1.heap.objs.size + 1) = .ref Ia ∧ (∀ A' : Around, A'.handled = none → WalksU X.prog X.w A' Ia fp wr n₀ Pt St₀ Mid) ∧ (∀ i vals, Pt i vals → ∃ va vb, vals = #[va, vb]) ∧ St₀ 0 s₄.heap ∧ (∀ b ∈ fp, b < s₄.heap.objs.size) ∧ s₄.heap.NoLimit ∧ cStatics ∉ wr ∧
            (∀ href : Heap, (∀ b o, s₄.heap.get? b = some o → href.get? b = some o) →
              QuietGenT X.prog X.w (genEnv scope (cloFrom X.env.cells scope.names []) s₄.heap.objs.size code bi X.env) xa xb [ct] (.Name xa p1) (List.range s₄.heap.objs.size) wr Pt pz F href) ∧
            (∀ a h₅ tk gs, gs.bare = true → s₄.heap.objs.size < a → h₅.objs.size = a + 1 → (∀ b o, s₄.heap.get? b = some o → h₅.get? b = some o) →
              WalksS X.prog X.w X.A.in4 a (a :: s₄.heap.objs.size :: List.range s₄.heap.objs.size) (s₄.heap.objs.size :: wr) (GenOnlyQ s₄.gens.size) (passing pz n₀ 0).length
                (fun j y => ∃ i, (passing pz n₀ 0)[j]? = some i ∧ F i y) (GenAt X.prog X.w X.A.in4 a s₄.gens.size s₄.heap.objs.size (List.range s₄.heap.objs.size) wr pz n₀ F) →
              GenAt X.prog X.w X.A.in4 a s₄.gens.size s₄.heap.objs.size (List.range s₄.heap.objs.size) wr pz n₀ F 0 { s₄ with gens := s₄.gens.push gs, toks := tk, heap := h₅ } →
              Q' (.ref a) { s₄ with gens := s₄.gens.push gs, toks := tk, heap := h₅ })) X.xe { s1 with heap := h3, toks := tk } := by
      intro code h3 tk ps' hx hsz hP3 hmore ht3
      obtain ⟨bm, ob, e1, e2, e3, e4, e5, e6, e7, e8⟩ := TB.bm
      have hcP : cStatics ≠ P := fun e => by
        obtain ⟨_, hns, _⟩ := I1.nolimit
        obtain ⟨o', es, ep, ho, hd, _⟩ := hns
        rw [e, hPs] at ho
        cases ho
        cases hd
      have hcl : cStatics < s1.heap.objs.size := let ⟨_, hns, _⟩ := I1.nolimit; hns.lt
      have keep3 : ∀ b u, b ≠ P → s1.heap.get? b = some u → h3.get? b = some u := fun b u hb e => hx b u hb (hk2 _ _ e)
      have eP : s1.heap.objs.size + 1 ≠ P := fun z => Nat.lt_irrefl _ (Nat.lt_of_succ_lt (z ▸ hPlt))
      have iP : s1.heap.objs.size ≠ P := fun z => Nat.lt_irrefl _ (z ▸ hPlt)
      have off : ∀ b, b < s1.heap.objs.size → b ∉ [s1.heap.objs.size + 1, s1.heap.objs.size] := fun b hb hm => by
        have hm' : b = s1.heap.objs.size + 1 ∨ b = s1.heap.objs.size := by simpa using hm
        rcases hm' with z | z <;> omega
      refine wpAny_builtinsFor (m := X.mg) (by rw [I1.ok.glob]; exact (((I1.mod.glob.keeps I1.bk).keeps hk2).extBut hx TB.gP)) e1 e2 (keep3 _ _ e4 (I1.bk _ _ e5)) e6 e7 e8 ?_
      refine ⟨s1.heap.objs.size + 1, _, _, _, _, _, _, pzL pb l, (fun i y => ∃ u, y = .int (i : Nat) u), rfl, WT, ?_, ⟨⟨_, hx _ _ eP he⟩, hit.at fun o q => hx _ o iP q, pT.at fun o q => keep3 _ o tP q⟩, ?_, lim2.extBut hx hcP, off _ hcl, ?_, ?_⟩
      · rintro i vals ⟨u, x, hxi, rfl⟩
        exact ⟨_, _, rfl⟩
      · intro b hb
        have hb' : b = s1.heap.objs.size + 1 ∨ b = s1.heap.objs.size ∨ b = t := by simpa using hb
        show b < h3.objs.size
        rcases hb' with z | z | z
        · rw [z]
          show s1.heap.objs.size + 1 < h3.objs.size
          omega
        · rw [z]
          show s1.heap.objs.size < h3.objs.size
          omega
        · rw [z]
          exact Nat.lt_of_lt_of_le hlt (show s1.heap.objs.size ≤ h3.objs.size by omega)
      · intro href hhref
        refine ⟨fun A' E' i va vb s₂ m₂ hA hPv hn hma hmb hk => ?_, fun A' E' i va vb s₂ m₂ hA hPv hp hn hma hmb hk => ?_⟩
        · obtain ⟨u, x, hxi, ev⟩ := hPv
          cases ev
          have hxi' : its[i]? = some vb := by simpa using hxi
          obtain ⟨z, t2, hz1, rfl⟩ := int_item rv hxi'
          refine one_if (wpAny_mono (htest _ A' E' z t2 s₂ m₂ rfl hn hmb) (fun ok s3 q => ⟨?_, q.2⟩) fun _ _ e => e)
          rw [pzL_some hz1]
          exact q.1
        · obtain ⟨u, x, hxi, ev⟩ := hPv
          cases ev
          exact wpAny_mono (elt_name (scope := scope) rfl S.kind S.la hn hma hda) (fun y s3 q => ⟨⟨u, q.1⟩, q.2⟩) fun _ _ e => e
      · intro g h5 tk5 gs hgb hag hsz5 hk5 W5 hat
        rw [hzn] at W5
        refine hQ t l H1 g _ q1 ⟨_, _, _, _, W5.in4_1, ?_, hat.1.typeIs, fun s' hm => ?_⟩
        · rw [hzn] at hat
          exact hat
        · obtain ⟨more, em⟩ := hmore
          have nwr : ∀ b u, s1.heap.get? b = some u → b ∉ h3.objs.size :: [s1.heap.objs.size + 1, s1.heap.objs.size] := fun b u e hb => by
            have hl := Heap.lt_size e
            rcases List.mem_cons.mp hb with z | z
            · rw [z] at hl
              have h9 : (h3.objs.size : Nat) < s1.heap.objs.size := hl
              omega
            · exact off b hl z
          have J := inv_tab (more := more) (h' := s'.heap) (g' := s'.gens) (d' := s'.drawn) (t' := s'.toks) I1 hP (fun b u hb e => hm.heap b u (nwr b u e) (hk5 b u (keep3 b u hb e)))
            (by rw [← em]; exact hm.heap P _ (nwr P _ hPs) (hk5 P _ hP3)) (AllBare.movedS (I1.bare.push hgb) hm)
          rw [sh_eta s1 s' hm.os] at J
          refine ⟨upd H1 P (.tbl (ps ++ more)), ⟨⟨ps ++ more, upd_same, by rw [← em]; exact ht3⟩, fun b hb => upd_ne hb⟩, J⟩
    refine ⟨lim2, ?_⟩
    cases hf : codeAmong gpos ps.toList with
    | none =>
      refine wpAny_genexprCodeX hcode (cd.code hP2 ht) (cd.tab hP2) hf fun c' h' tk hx hge hlt hco' _ htab' _ => ?_
      obtain ⟨o1, vs, f1, tf, fl, tg, inF, tx, tt, op, _, _, _, _, _, _, _, _, _, htr, _⟩ := hco'
      exact cont _ h' tk _ hx (Nat.le_trans hge (Nat.le_of_lt hlt)) htab'.2 ⟨_, rfl⟩ htr
    | some cv =>
      refine wpAny_genexprCode_hit hcode (cd.code hP2 ht) hf ?_
      exact cont cv h2 s1.toks ps (Heap.ExtBut.refl _ _) (Nat.le_refl _) hP2 ⟨#[], by simp⟩ ht
/-- the first place whose entry the test lets pass, or the default -/
def FirstIx (pb : Int → Bool) (l : List Int) (d r : Int) : Prop :=
  ((∀ (j : Nat) (z : Int), l[j]? = some z → pb z = false) ∧ r = d) ∨ ∃ (i : Nat) (z : Int), l[i]? = some z ∧ pb z = true ∧ (∀ (j : Nat) (y : Int), j < i → l[j]? = some y → pb y = false) ∧ r = (i : Int)
theorem passing_nil {pb : Int → Bool} {l : List Int} (h : (passing (pzL pb l) l.length 0).length = 0) : ∀ (j : Nat) (z : Int), l[j]? = some z → pb z = false := fun j z hj => by
  have e : passing (pzL pb l) l.length 0 = [] := List.eq_nil_of_length_eq_zero h
  have hlt : j < l.length := (List.getElem?_eq_some_iff.mp hj).1
  cases hb : pb z with
  | false => rfl
  | true =>
    have hm : j ∈ passing (pzL pb l) l.length 0 := by
      unfold passing
      rw [List.drop_zero]
      exact List.mem_filter.mpr ⟨List.mem_range.mpr hlt, by rw [pzL_some hj]; exact hb⟩
    rw [e] at hm
    cases hm
theorem passing_first {pb : Int → Bool} {l : List Int} {i : Nat} (h : (passing (pzL pb l) l.length 0)[0]? = some i) : ∃ z, l[i]? = some z ∧ pb z = true ∧ ∀ (j : Nat) (y : Int), j < i → l[j]? = some y → pb y = false := by
  unfold passing at h
  rw [List.drop_zero] at h
  have h2 : ((List.range l.length).filter (pzL pb l)).head? = some i := by rw [List.head?_eq_getElem?]; exact h
  rw [List.head?_filter] at h2
  have h3 := List.find?_eq_some_iff_getElem.mp h2
  obtain ⟨hp, k, hk, ek, hn⟩ := h3
  rw [List.getElem_range] at ek
  subst ek
  rw [List.length_range] at hk
  refine ⟨l[k], List.getElem?_eq_getElem hk, ?_, fun j y hj hy => ?_⟩
  · rw [pzL_some (List.getElem?_eq_getElem hk)] at hp
    exact hp
  · have := hn j hj
    rw [List.getElem_range, pzL_some hy] at this
    simpa using this
/-- next((i for i, x in enumerate(e) if test of x), d) -/
def tNextE (K : PySem.W.Frag) (P : Addr) (pb : Int → Bool) (d : Int) (ta : TA) : TE := fun σ H Q => ta σ H fun vs H1 => ∃ (t : Addr) (l : List Int), vs = [.ref t] ∧ SqT K H1 t (l.map V.int) ∧ TabG H1 P ∧ ∀ r H2, FirstIx pb l d r → Tabbed P H1 H2 → Q (.int r) H2
theorem pe_nextE {c P : Addr} {e ct : Expr} {xa xb : Str} {pa pb' pt pn cpos gpos p pos dp : Pos} {kt jd : Nat} {scope : Scope} {pb : Int → Bool} {d : Int} {ta : TA} {k : Nat} {p1 : Pos}
    (hr : Room k X.A) (hgn : Gl X "next") (hmn : X.mg "next" = none) (TB : TabB X.base X.mg c P) (hcode : X.env.code = .ref c) (S : GenS2 X.env scope xa xb) (hg : Gl X "enumerate") (hm : X.mg "enumerate" = none) (ha : PA X [e] ta)
    (htest : TestI X.prog X.w scope xb ct pb) (hda : (xa == ("__debug__" : Str)) = false := by decide) (hst : starEach [e] X.env = [(false, eval e X.env)] := by rfl)
    (hs : ∀ v, genFold (.Call (.Name "enumerate" pn) [e] [] cpos) X.env v = pure v := by intro _; rfl)
    (he : starEach [.GeneratorExp (.Name xa p1) [⟨.Tuple [.Name xa pa, .Name xb pb'] kt pt, .Call (.Name "enumerate" pn) [e] [] cpos, [ct], 0⟩] scope gpos, .Constant (.int d) jd dp] X.env
      = (false, eval (.GeneratorExp (.Name xa p1) [⟨.Tuple [.Name xa pa, .Name xb pb'] kt pt, .Call (.Name "enumerate" pn) [e] [] cpos, [ct], 0⟩] scope gpos) X.env) :: starEach [.Constant (.int d) jd dp] X.env := by rfl)
    (he2 : starEach [.Constant (.int d) jd dp] X.env = [(false, eval (.Constant (.int d) jd dp) X.env)] := by rfl) :
    PE X (.Call (.Name "next" p) [.GeneratorExp (.Name xa p1) [⟨.Tuple [.Name xa pa, .Name xb pb'] kt pt, .Call (.Name "enumerate" pn) [e] [] cpos, [ct], 0⟩] scope gpos, .Constant (.int d) jd dp] [] pos) (tNextE X.K P pb d ta) := by
  refine ⟨fun pins s σ H Q I h => ?_⟩
  refine wpAny_Call_Name_kw (ld_blt I hgn hmn boot_next ?_)
  refine PyProof.Rows.callWith_builtin1 ?_ he (by rw [he2]; rfl)
  rw [he, he2]
  show wpAny _ _ (spliced ((false, eval (.GeneratorExp (.Name xa p1) [⟨.Tuple [.Name xa pa, .Name xb pb'] kt pt, .Call (.Name "enumerate" pn) [e] [] cpos, [ct], 0⟩] scope gpos) X.env) :: (false, eval (.Constant (.int d) jd dp) X.env) :: [])) _ _ s
  refine Calls.spliced_cons (gen_enum (R := fun t l H1 => ∀ r H2, FirstIx pb l d r → Tabbed P H1 H2 → Q (.int r) H2) hr TB hcode S hg hm ha hst htest hda hs I h fun t l H1 g s5 hR hG => ?_)
  refine Calls.spliced_cons (wpAny_Constant_int (Calls.spliced_nil ?_))
  obtain ⟨fp, wr, G, St, W, hst5, hT, hI⟩ := hG
  have back : ∀ {s'}, Moved wr G { s5 with toks := s5.toks + 1 } s' → Moved wr G s5 s' := fun m => ⟨m.heap, m.gens, m.drawn, m.os, Nat.le_trans (Nat.le_succ _) m.toks⟩
  refine call_next_walkS W hT (W.frame 0 s5 s5.heap (s5.toks + 1) hst5 (Nat.le_succ _) fun _ _ _ z => z) (fun v s' hn hv hmv => ?_) (fun s' hn hmv => ?_)
  · obtain ⟨H2, hTb, J⟩ := hI s' (back hmv)
    obtain ⟨i, hi, u, rfl⟩ := hv
    obtain ⟨z, hz1, hz2, hz3⟩ := passing_first hi
    exact ⟨.int i, H2, J, ⟨u, rfl⟩, hR i H2 (.inr ⟨i, z, hz1, hz2, hz3, rfl⟩) hTb⟩
  · obtain ⟨H2, hTb, J⟩ := hI s' (back hmv)
    exact ⟨.int d, H2, J, ⟨_, rfl⟩, hR d H2 (.inl ⟨passing_nil hn, rfl⟩) hTb⟩
theorem gen_name {c P : Addr} {e ct : Expr} {x : Str} {px gpos : Pos} {scope : Scope} {pb : Int → Bool} {te : TE} {k : Nat} {p1 : Pos} {Q' : Value → Shared → Prop} {R : Addr → List Int → Hp → Prop}
    (hr : Room k X.A) (TB : TabB X.base X.mg c P) (hcode : X.env.code = .ref c) (S : GenS X.env scope x) (he : PE X e te)
    (htest : TestI X.prog X.w scope x ct pb) (hda : (x == ("__debug__" : Str)) = false)
    (hs : ∀ v, genFold e X.env v = pure v) (I : Inv X pins σ H s) (h : te σ H fun v H1 => ∃ (t : Addr) (l : List Int), v = .ref t ∧ SqT X.K H1 t (l.map V.int) ∧ TabG H1 P ∧ R t l H1)
    (hQ : ∀ t l H1 g s5, R t l H1 → ReadyN X pins σ H1 P (passing (pzL pb l) l.length 0) (fun i y => ∃ z u, l[i]? = some z ∧ y = .int z u) g s5 → Q' (.ref g) s5) :
    wpAny (model X.prog X.w) X.A (eval (.GeneratorExp (.Name x p1) [⟨.Name x px, e, [ct], 0⟩] scope gpos) X.env) Q' X.xe s := by
  refine wpAny_GeneratorExp_walksQ hr.hd S.co (closure_ok S.free) S.cell S.dot S.loc S.kind (by have := hr.dp; omega) ?_ hs
  refine thn (he.run pins s σ H _ I h) fun us s1 hv => ?_
  obtain ⟨vs, H1, I1, r1, t, l, rfl, hq, ⟨ps, hP, ht⟩, q1⟩ := hv
  obtain rfl : us = Value.ref t := r1
  · skip
    obtain ⟨its, rv, p', hz⟩ := I1.tuple hq
    have pT : s1.heap.IsTuple t its.toArray := p'
    have hlt : t < s1.heap.objs.size := by obtain ⟨_, ho, _⟩ := p'; exact Heap.lt_size ho
    refine wpAny_pyIter_tuple pT ?_
    have hk2 : ∀ b o, s1.heap.get? b = some o → (s1.heap.push { cls := .type "tuple_iterator", data := .fields #[.ref t, .int 0 0] }).get? b = some o := fun b o z => Heap.get?_push_of_some _ z
    have hit : (s1.heap.push { cls := .type "tuple_iterator", data := .fields #[.ref t, .int 0 0] }).IsTupleIter s1.heap.objs.size t 0 := ⟨_, Heap.get?_push_size _ rfl, rfl, rfl⟩
    have hsz2 : (s1.heap.push { cls := .type "tuple_iterator", data := .fields #[.ref t, .int 0 0] }).objs.size = s1.heap.objs.size + 1 := Heap.size_push ..
    generalize s1.heap.push { cls := .type "tuple_iterator", data := .fields #[.ref t, .int 0 0] } = h2 at hk2 hit hsz2 ⊢
    have hPs : s1.heap.get? P = some { cls := .none, data := .fields ps } := I1.hok P _ hP
    have hPlt : P < s1.heap.objs.size := Heap.lt_size hPs
    have hP2 : h2.get? P = some { cls := .none, data := .fields ps } := hk2 _ _ hPs
    have cd : PySem.W.CodeHd h2 c P := TB.code.keeps fun b u e => hk2 _ _ (I1.bk b u e)
    have lim2 : h2.NoLimit := I1.nolimit.keeps hk2
    have hll := rv.length
    rw [List.length_map] at hll
    have tP : t ≠ P := fun z => by
      obtain ⟨o, ho, _, n, hd⟩ := pT
      rw [z, hPs] at ho
      cases ho
      cases hd
    have hzn : its.toArray.size = l.length := by rw [List.size_toArray]; omega
    have WT : ∀ A' : Around, A'.handled = none → Walks X.prog X.w A' s1.heap.objs.size _ _ _ _ _ := fun A' hA => Walks.tuple (prog := X.prog) (w := X.w) (A := A') hA s1.heap.objs.size t (Nat.ne_of_lt hlt) its.toArray
    have cont : ∀ (code : Value) (h3 : Heap) (tk : Nat) (ps' : Array Value), Heap.ExtBut P h2 h3 → h2.objs.size ≤ h3.objs.size → h3.get? P = some { cls := .none, data := .fields ps' } → (∃ more, ps' = ps ++ more) → TriplesOk ps'.toList →
        wpAny (model X.prog X.w) X.A (builtinsFor X.env.globals X.env.builtins) (fun bi s₄ =>
          ∃ Ia fp wr n₀ Pf St₀ pz F, Value.ref s1.heap.objs.size = .ref Ia ∧ (∀ A' : Around, A'.handled = none → Walks X.prog X.w A' Ia fp wr n₀ Pf St₀) ∧ St₀ 0 s₄.heap ∧ (∀ b ∈ fp, b < s₄.heap.objs.size) ∧ s₄.heap.NoLimit ∧ cStatics ∉ wr ∧
            (∀ href : Heap, (∀ b o, s₄.heap.get? b = some o → href.get? b = some o) →
              QuietGen X.prog X.w (genEnv scope (cloFrom X.env.cells scope.names []) s₄.heap.objs.size code bi X.env) x [ct] (.Name x p1) (List.range s₄.heap.objs.size) wr Pf pz F href) ∧
            (∀ a h₅ tk gs, gs.bare = true → s₄.heap.objs.size < a → h₅.objs.size = a + 1 → (∀ b o, s₄.heap.get? b = some o → h₅.get? b = some o) →
              WalksS X.prog X.w X.A.in4 a (a :: s₄.heap.objs.size :: List.range s₄.heap.objs.size) (s₄.heap.objs.size :: wr) (GenOnlyQ s₄.gens.size) (passing pz n₀ 0).length
                (fun j y => ∃ i, (passing pz n₀ 0)[j]? = some i ∧ F i y) (GenAt X.prog X.w X.A.in4 a s₄.gens.size s₄.heap.objs.size (List.range s₄.heap.objs.size) wr pz n₀ F) →
              GenAt X.prog X.w X.A.in4 a s₄.gens.size s₄.heap.objs.size (List.range s₄.heap.objs.size) wr pz n₀ F 0 { s₄ with gens := s₄.gens.push gs, toks := tk, heap := h₅ } →
              Q' (.ref a) { s₄ with gens := s₄.gens.push gs, toks := tk, heap := h₅ })) X.xe { s1 with heap := h3, toks := tk } := by
      intro code h3 tk ps' hx hsz hP3 hmore ht3
      obtain ⟨bm, ob, e1, e2, e3, e4, e5, e6, e7, e8⟩ := TB.bm
      have hcP : cStatics ≠ P := fun e => by
        obtain ⟨_, hns, _⟩ := I1.nolimit
        obtain ⟨o', es, ep, ho, hd, _⟩ := hns
        rw [e, hPs] at ho
        cases ho
        cases hd
      have hcl : cStatics < s1.heap.objs.size := let ⟨_, hns, _⟩ := I1.nolimit; hns.lt
      have keep3 : ∀ b u, b ≠ P → s1.heap.get? b = some u → h3.get? b = some u := fun b u hb e => hx b u hb (hk2 _ _ e)
      have iP : s1.heap.objs.size ≠ P := fun z => Nat.lt_irrefl _ (z ▸ hPlt)
      have off : ∀ b, b < s1.heap.objs.size → b ∉ [s1.heap.objs.size] := fun b hb hm => by
        have hm' : b = s1.heap.objs.size := by simpa using hm
        exact Nat.ne_of_lt hb hm'
      refine wpAny_builtinsFor (m := X.mg) (by rw [I1.ok.glob]; exact (((I1.mod.glob.keeps I1.bk).keeps hk2).extBut hx TB.gP)) e1 e2 (keep3 _ _ e4 (I1.bk _ _ e5)) e6 e7 e8 ?_
      refine ⟨s1.heap.objs.size, _, _, _, _, _, pzL pb l, (fun i y => ∃ z u, l[i]? = some z ∧ y = .int z u), rfl, WT, ⟨hit.at fun o q => hx _ o iP q, pT.at fun o q => keep3 _ o tP q⟩, ?_, lim2.extBut hx hcP, off _ hcl, ?_, ?_⟩
      · intro b hb
        have hb' : b = s1.heap.objs.size ∨ b = t := by simpa using hb
        show b < h3.objs.size
        rcases hb' with z | z
        · rw [z]
          show s1.heap.objs.size < h3.objs.size
          omega
        · rw [z]
          exact Nat.lt_of_lt_of_le hlt (show s1.heap.objs.size ≤ h3.objs.size by omega)
      · intro href hhref
        refine ⟨fun A' E' i v s₂ m₂ hA hPv hn hm hk => ?_, fun A' E' i v s₂ m₂ hA hPv hp hn hm hk => ?_⟩
        · have hxi' : its[i]? = some v := by simpa using hPv
          obtain ⟨z, t2, hz1, rfl⟩ := int_item rv hxi'
          refine one_if (wpAny_mono (htest _ A' E' z t2 s₂ m₂ rfl hn hm) (fun ok s3 q => ⟨?_, q.2⟩) fun _ _ e => e)
          rw [pzL_some hz1]
          exact q.1
        · have hxi' : its[i]? = some v := by simpa using hPv
          obtain ⟨z, t2, hz1, rfl⟩ := int_item rv hxi'
          exact wpAny_mono (elt_name (scope := scope) rfl S.kind S.loc hn hm hda) (fun y s3 q => ⟨⟨z, t2, hz1, q.1⟩, q.2⟩) fun _ _ e => e
      · intro g h5 tk5 gs hgb hag hsz5 hk5 W5 hat
        rw [hzn] at W5
        refine hQ t l H1 g _ q1 ⟨_, _, _, _, W5.in4_1, ?_, hat.1.typeIs, fun s' hm => ?_⟩
        · rw [hzn] at hat
          exact hat
        · obtain ⟨more, em⟩ := hmore
          have nwr : ∀ b u, s1.heap.get? b = some u → b ∉ h3.objs.size :: [s1.heap.objs.size] := fun b u e hb => by
            have hl := Heap.lt_size e
            rcases List.mem_cons.mp hb with z | z
            · rw [z] at hl
              have h9 : (h3.objs.size : Nat) < s1.heap.objs.size := hl
              omega
            · exact off b hl z
          have J := inv_tab (more := more) (h' := s'.heap) (g' := s'.gens) (d' := s'.drawn) (t' := s'.toks) I1 hP (fun b u hb e => hm.heap b u (nwr b u e) (hk5 b u (keep3 b u hb e)))
            (by rw [← em]; exact hm.heap P _ (nwr P _ hPs) (hk5 P _ hP3)) (AllBare.movedS (I1.bare.push hgb) hm)
          rw [sh_eta s1 s' hm.os] at J
          refine ⟨upd H1 P (.tbl (ps ++ more)), ⟨⟨ps ++ more, upd_same, by rw [← em]; exact ht3⟩, fun b hb => upd_ne hb⟩, J⟩
    refine ⟨lim2, ?_⟩
    cases hf : codeAmong gpos ps.toList with
    | none =>
      refine wpAny_genexprCodeX hcode (cd.code hP2 ht) (cd.tab hP2) hf fun c' h' tk hx hge hlt hco' _ htab' _ => ?_
      obtain ⟨o1, vs, f1, tf, fl, tg, inF, tx, tt, op, _, _, _, _, _, _, _, _, _, htr, _⟩ := hco'
      exact cont _ h' tk _ hx (Nat.le_trans hge (Nat.le_of_lt hlt)) htab'.2 ⟨_, rfl⟩ htr
    | some cv =>
      refine wpAny_genexprCode_hit hcode (cd.code hP2 ht) hf ?_
      exact cont cv h2 s1.toks ps (Heap.ExtBut.refl _ _) (Nat.le_refl _) hP2 ⟨#[], by simp⟩ ht
/-- the first entry that the test lets pass, or the default -/
def FirstOf (pb : Int → Bool) (l : List Int) (d r : Int) : Prop :=
  ((∀ (j : Nat) (z : Int), l[j]? = some z → pb z = false) ∧ r = d) ∨ ∃ i : Nat, l[i]? = some r ∧ pb r = true ∧ ∀ (j : Nat) (y : Int), j < i → l[j]? = some y → pb y = false
/-- next((x for x in e if test of x), d) -/
def tNextN (K : PySem.W.Frag) (P : Addr) (pb : Int → Bool) (d : Int) (te : TE) : TE := fun σ H Q => te σ H fun v H1 => ∃ (t : Addr) (l : List Int), v = .ref t ∧ SqT K H1 t (l.map V.int) ∧ TabG H1 P ∧ ∀ r H2, FirstOf pb l d r → Tabbed P H1 H2 → Q (.int r) H2
theorem pe_nextN {c P : Addr} {e ct : Expr} {x : Str} {px gpos p pos dp : Pos} {jd : Nat} {scope : Scope} {pb : Int → Bool} {d : Int} {te : TE} {k : Nat} {p1 : Pos}
    (hr : Room k X.A) (hgn : Gl X "next") (hmn : X.mg "next" = none) (TB : TabB X.base X.mg c P) (hcode : X.env.code = .ref c) (S : GenS X.env scope x) (he0 : PE X e te)
    (htest : TestI X.prog X.w scope x ct pb) (hda : (x == ("__debug__" : Str)) = false := by decide)
    (hs : ∀ v, genFold e X.env v = pure v := by intro _; rfl)
    (he : starEach [.GeneratorExp (.Name x p1) [⟨.Name x px, e, [ct], 0⟩] scope gpos, .Constant (.int d) jd dp] X.env
      = (false, eval (.GeneratorExp (.Name x p1) [⟨.Name x px, e, [ct], 0⟩] scope gpos) X.env) :: starEach [.Constant (.int d) jd dp] X.env := by rfl)
    (he2 : starEach [.Constant (.int d) jd dp] X.env = [(false, eval (.Constant (.int d) jd dp) X.env)] := by rfl) :
    PE X (.Call (.Name "next" p) [.GeneratorExp (.Name x p1) [⟨.Name x px, e, [ct], 0⟩] scope gpos, .Constant (.int d) jd dp] [] pos) (tNextN X.K P pb d te) := by
  refine ⟨fun pins s σ H Q I h => ?_⟩
  refine wpAny_Call_Name_kw (ld_blt I hgn hmn boot_next ?_)
  refine PyProof.Rows.callWith_builtin1 ?_ he (by rw [he2]; rfl)
  rw [he, he2]
  show wpAny _ _ (spliced ((false, eval (.GeneratorExp (.Name x p1) [⟨.Name x px, e, [ct], 0⟩] scope gpos) X.env) :: (false, eval (.Constant (.int d) jd dp) X.env) :: [])) _ _ s
  refine Calls.spliced_cons (gen_name (R := fun t l H1 => ∀ r H2, FirstOf pb l d r → Tabbed P H1 H2 → Q (.int r) H2) hr TB hcode S he0 htest hda hs I h fun t l H1 g s5 hR hG => ?_)
  refine Calls.spliced_cons (wpAny_Constant_int (Calls.spliced_nil ?_))
  obtain ⟨fp, wr, G, St, W, hst5, hT, hI⟩ := hG
  have back : ∀ {s'}, Moved wr G { s5 with toks := s5.toks + 1 } s' → Moved wr G s5 s' := fun m => ⟨m.heap, m.gens, m.drawn, m.os, Nat.le_trans (Nat.le_succ _) m.toks⟩
  refine call_next_walkS W hT (W.frame 0 s5 s5.heap (s5.toks + 1) hst5 (Nat.le_succ _) fun _ _ _ z => z) (fun v s' hn hv hmv => ?_) (fun s' hn hmv => ?_)
  · obtain ⟨H2, hTb, J⟩ := hI s' (back hmv)
    obtain ⟨i, hi, y, u, hy, rfl⟩ := hv
    obtain ⟨z, hz1, hz2, hz3⟩ := passing_first hi
    rw [hy] at hz1
    cases hz1
    exact ⟨.int y, H2, J, ⟨u, rfl⟩, hR y H2 (.inr ⟨i, hy, hz2, hz3⟩) hTb⟩
  · obtain ⟨H2, hTb, J⟩ := hI s' (back hmv)
    exact ⟨.int d, H2, J, ⟨_, rfl⟩, hR d H2 (.inl ⟨passing_nil hn, rfl⟩) hTb⟩
end
end GenNx

set_option Elab.async false
set_option linter.all false
set_option maxRecDepth 100000
set_option maxHeartbeats 2000000
/-! HookW's Hook with defs that hold generator expressions: their code objects, the tables of these, empty at the start and left out of the fragment -/
namespace HookT
open PySem PySem.Spec PyProof.Rows L2 He HookG
/-- the code object of the function at a -/
def codA (K : PySem.W.Frag) (a : Addr) : Addr := match K.lookup a with
  | some ⟨_, _, .func fd, _⟩ => (match fd.code with
    | .ref c => c
    | _ => 0)
  | _ => 0
theorem code_of {K : PySem.W.Frag} {x qual : Str} {params : Arguments} {body : List Stmt} {scope : Scope} {dvs : List V} {kws : List (Str × V)} {f : Addr} {fd : FuncData} (F : FunD K x qual params body scope dvs kws f fd) : fd.code = .ref (codA K f) := by
  obtain ⟨oc, od, dV, kV, doc, pm, an, cdv, ct, osl, rfl, lk, hcd, _, _⟩ := F.ex
  obtain ⟨c, rfl⟩ := codeIn_ref hcd
  unfold codA
  rw [lk] <;> rfl
/-- FunD.ok with the code object known -/
theorem okC {P : Program} {w : World} {K : PySem.W.Frag} {mg : Str → Option Value} {base : Heap} {x qual : Str} {params : Arguments} {body : List Stmt} {scope : Scope} {dvs : List V} {kws : List (Str × V)} {f : Addr} {fd : FuncData} {CX : CXT} {N ps : List Str} {k : Nat} {sp : Sp}
    (F : FunD K x qual params body scope dvs kws f fd) (S : FnScope N ps scope) (len : ∀ vs H Q E, sp vs H Q E → vs.length = ps.length)
    (hbody : ∀ (A : Around) (outer : List Env) (s : Shared) (H : Hp) (vs : List V) (Q : VK) (E : XK), Room k (A.deeper (envOfC qual scope s.heap.objs.size f fd.code)) → sp vs H Q E →
      ∃ t, PSs (cxOf CX P w K mg base N qual scope f fd.code A outer s H E) body t ∧ t { nx := fun _ H' => Q .non H', rt := Q } (start N vs) H) : FnOk P w K mg base CX (k + 1) f fd ps sp := by
  obtain ⟨oc, od, dV, kV, doc, pm, an, cdv, ct, osl, rfl, lk, hcd, _, _⟩ := F.ex
  exact fn_of lk hcd S len fun A outer s H vs Q E hr hsp => hbody A outer s H vs Q E hr hsp
def cTA (K : PySem.W.Frag) (p : At) : Addr × Addr := (codA K (p.adr K), tabOf K (codA K (p.adr K)))
structure SaysGT (fa : List Fa) (fn : List GD) (tf : List At) (ex : PySem.W.Frag → Bool) (h : Heap) (K : PySem.W.Frag) : Prop where
  g : SaysG fa fn ex K
  hd : ∀ p ∈ tf, PySem.W.codeHdIn K (cTA K p).1 (cTA K p).2 = true
  out : ∀ p ∈ tf, K.lookup (cTA K p).2 = none
  empty : ∀ p ∈ tf, h.get? (cTA K p).2 = some { cls := .none, data := .fields #[] }
def tabsB (g : Addr → Option Obj) (tf : List At) (K : PySem.W.Frag) : Bool := tf.all fun p => PySem.W.codeHdIn K (cTA K p).1 (cTA K p).2 && (match g (cTA K p).2 with
  | some o => emptyTab o
  | none => false)
abbrev AlGT : Type := AlG × Bool
def obsGT (n : Nat) (fa : List Fa) (fn : List GD) (tf : List At) (ex : PySem.W.Frag → Bool) (g : Addr → Option Obj) : AlGT := (obsG fa fn ex (frT g (asW g n)), tabsB g tf (frT g (asW g n)))
theorem saysGT_of {n : Nat} {fa : List Fa} {fn : List GD} {tf : List At} {ex : PySem.W.Frag → Bool} {h : Heap} (e : obsGT n fa fn tf ex h.get? = (valG fn, true)) : SaysGT fa fn tf ex h (frT h.get? (asW h.get? n)) := by
  have e1 : obsG fa fn ex (frT h.get? (asW h.get? n)) = valG fn := congrArg (fun z : AlGT => z.1) e
  have e2 : tabsB h.get? tf (frT h.get? (asW h.get? n)) = true := congrArg (fun z : AlGT => z.2) e
  have key : ∀ p ∈ tf, PySem.W.codeHdIn (frT h.get? (asW h.get? n)) (cTA (frT h.get? (asW h.get? n)) p).1 (cTA (frT h.get? (asW h.get? n)) p).2 = true ∧ ∃ o, h.get? (cTA (frT h.get? (asW h.get? n)) p).2 = some o ∧ emptyTab o = true := fun p hp => by
    obtain ⟨h3, h4⟩ := ba (List.all_eq_true.mp e2 p hp)
    refine ⟨h3, ?_⟩
    cases q : h.get? (cTA (frT h.get? (asW h.get? n)) p).2 with
    | none =>
      rw [q] at h4
      cases h4
    | some o =>
      rw [q] at h4
      exact ⟨o, rfl, h4⟩
  exact ⟨e1, fun p hp => (key p hp).1, fun p hp => by
    obtain ⟨_, o, q, z⟩ := key p hp
    exact frT_none q z, fun p hp => by
    obtain ⟨_, o, q, z⟩ := key p hp
    rw [q, emptyTab_eq z]⟩
def hookT (n : Nat) (fa : List Fa) (fn : List GD) (tf : List At) (ex : PySem.W.Frag → Bool) : PySem.W.Hook where
  α := AlGT
  obs := fun s => obsGT n fa fn tf ex s.heap.get?
  val := fun _ => (valG fn, true)
  says := fun _ h => ∃ K : PySem.W.Frag, K.In h ∧ SaysGT fa fn tf ex h K
  of := fun _ _ e => ⟨_, frT_in, saysGT_of e⟩
  keeps := fun _ _ _ ⟨K, hK, c⟩ k => ⟨K, PySem.W.Frag.In.keeps hK k, ⟨c.g, c.hd, c.out, fun p hp => k _ _ (c.empty p hp)⟩⟩
theorem obsGT_eq {n : Nat} {fa : List Fa} {fn : List GD} {tf : List At} {ex : PySem.W.Frag → Bool} {g : Addr → Option Obj} {s : Shared} (h : ∀ a, g a = s.heap.get? a) : obsGT n fa fn tf ex g = (hookT n fa fn tf ex).obs s := by
  have e : g = s.heap.get? := funext h
  rw [e] <;> rfl
/-- a table at the start -/
theorem tabG0 {H : Hp} {P : Addr} (h : H P = some (.tbl #[])) : GxR.TabG H P := ⟨#[], h, True.intro⟩
end HookT

set_option Elab.async false
set_option linter.all false
set_option maxRecDepth 100000
set_option maxHeartbeats 2000000
/-! any of a list of ints -/
namespace OwnF
open PySem PySem.Spec PyProof.Rows L2 SlX OwnR
section
variable {X : Cx}
def rAnyLI (K : PySem.W.Frag) : List V → Hp → VK → Prop := fun vs H Q => ∃ (a : Addr) (ns : List Int), vs = [V.ref a] ∧ SqL K H a (ns.map V.int) ∧ Q (.bl (ns.any (· != 0))) H
theorem cr_anyLI (hc : X.calm = true) : CallR X (.builtin "any") (rAnyLI X.K) := by
  intro pins s σ H vs us Q I r h
  obtain ⟨a, ns, rfl, hs, q⟩ := h
  obtain ⟨its, rv, hl, _⟩ := I.list hs
  rw [Vals.ref1 r]
  have hlen := rv.length
  rw [List.length_map] at hlen
  refine call_any_walk (iter_any hl.isList fun s₂ e2 st hne => ?_)
  subst e2
  refine ⟨_, _, _, _, _, _, _, rfl, Walks.list (A := X.A.in1) (I.ok.hd hc) _ a hne its.toArray, st, truth_ints rv, fun h' tk hk => ?_⟩
  refine ⟨.bl _, H, I.kept fun b o eo => hk b o (fun hmem => ?_) (Heap.get?_push_of_some _ eo), ?_, q⟩
  · rcases List.mem_cons.mp hmem with e1 | hmem
    · exact absurd (e1 ▸ Heap.lt_size eo) (Nat.lt_irrefl _)
    · cases hmem
  · show Value.bool _ = Value.bool _
    rw [← any_rangeI, List.size_toArray, ← hlen]
end
end OwnF

set_option Elab.async false
set_option linter.all false
set_option maxRecDepth 100000
set_option maxHeartbeats 2000000
/-! l.count(x) of data, sorted(set) of pairs of ints -/
namespace TupC
open PySem PySem.Spec PyProof.Rows L2
theorem hu65 {k : Nat} {A : Around} (hr : Room k A) : A.units + 65 < cLine := by
  have := hr.un
  omega
section
variable {X : Cx}
/-- l.count(x) -/
def rCountD (K : PySem.W.Frag) : V → List V → Hp → VK → Prop := fun x xs H Q => ∃ (a : Addr) (y : V) (d : PyData) (ds : List PyData), x = V.ref a ∧ xs = [y] ∧ Dp K H (V.ref a) (.list ds) ∧ Dp K H y d ∧ PyData.plainAll ds = true ∧ d.plain = true ∧ d.depth ≤ 60 ∧
  Q (.int ((ds.countP fun z => PyData.eqv z d : Nat) : Int)) H
theorem mt_countD (hu : X.A.units + 65 < cLine) : MtR X "list.count" (rCountD X.K) := by
  intro pins s σ H x xs v us Q I rx rxs h
  obtain ⟨a, y, d, ds, rfl, rfl, hl, hy, sl, sd, hd, q⟩ := h
  cases rx
  cases rxs with
  | cons ry rt =>
    rename_i uy ut
    cases rt
    obtain ⟨bs, r1⟩ := Dp.reads I d y uy hy ry
    cases hl with
    | lst hs ha =>
      obtain ⟨its, rv, pl, hlen⟩ := I.list hs
      obtain ⟨as, h4⟩ := Dp.readsAll I ds _ its ha rv
      refine SeqAt.count_list_data (vs := its.toArray) pl.isList h4 r1 sl sd (by omega) ?_
      exact ⟨.int _, H, I.tok _, ⟨_, rfl⟩, q⟩
end
def unR : Value → Addr
  | .ref a => a
  | _ => 0
theorem unR_refs : ∀ {us : List Value}, (∀ u ∈ us, ∃ b, u = Value.ref b) → us = (us.map unR).map Value.ref
  | [], _ => rfl
  | u :: us, h => by
    obtain ⟨b, e⟩ := h u (.head _)
    have ih := unR_refs fun v hv => h v (.tail _ hv)
    rw [List.map_cons, List.map_cons, ← ih, e]
    rfl
theorem perm_refs {us : List Value} {bs : List Addr} (h : us.Perm (bs.map Value.ref)) : ∃ zs : List Addr, us = zs.map Value.ref ∧ zs.Perm bs := by
  have hr : ∀ u ∈ us, ∃ b, u = Value.ref b := fun u hu => by
    obtain ⟨b, _, e⟩ := List.mem_map.mp (h.mem_iff.mp hu)
    exact ⟨b, e.symm⟩
  refine ⟨us.map unR, unR_refs hr, ?_⟩
  have k := h.map unR
  rw [List.map_map] at k
  have e : (unR ∘ Value.ref) = id := funext fun _ => rfl
  rw [e, List.map_id] at k
  exact k
theorem vals_of : ∀ zs : List Addr, Vals (zs.map V.ref) (zs.map Value.ref)
  | [] => .nil
  | _ :: zs => .cons rfl (vals_of zs)
section
variable {P : Program} {w : World} {A : Around} {E : Value → Shared → Prop} {s : Shared}
theorem sorted_setP {a : Addr} {L : List (Addr × List Int)} {es : Array (Int × Value)} {ep : Nat} {t : SetTable} {Q : Value → Shared → Prop} (R : SetTR P w s.heap a L es ep t) (nh : A.handled = none)
    (hB : ∀ b ∈ L.map (·.1), ∃ x y, Srt.IsPair s.heap (.ref b) x y)
    (hQ : ∀ s' p c (zs : List Addr), (∀ b o, s.heap.get? b = some o → s'.heap.get? b = some o) → s'.gens = s.gens → s'.os = s.os → s.heap.objs.size ≤ p →
      s'.heap.get? p = some (seqObj "list" (zs.map Value.ref).toArray c) → zs.Perm (L.map (·.1)) → Q (.ref p) s') :
    wpAny (model P w) A (call (.builtin "sorted") [.ref a]) Q E s := by
  obtain ⟨oS, gS, xS, dS⟩ := R.ob
  have zS := R.size
  have fS := R.few
  apply Calls.call_function_entry kind_sorted plain_sorted entry_sorted (args_sorted1 _)
  unfold Builtin.«sorted»
  apply wpAny_bind (m := checkCount "sorted" 1 1 _)
  apply wpAny_pure
  refine wpAny_bind (collect_set (A := A.in1) nh ⟨oS, gS, xS.1, dS⟩ R.fits (by unfold scanBound; omega) R.tab.ris R.led fun s1 us kp szp gp op pp => ?_)
  have er : es.toList.map (·.2) = (L.map (·.1)).map Value.ref := by
    rw [R.rows]
    unfold rowsOf
    rw [List.map_map, List.map_map] <;> rfl
  rw [er] at pp
  have lu : us.length < 64 := by
    have := pp.length_eq
    rw [List.length_map, List.length_map] at this
    omega
  have z64 : (64 : Nat) ≤ sizeLine := by decide
  refine wpAny_bind (wpAny_newList ?_ (by omega))
  have at1 : (s1.heap.push (seqObj "list" us.toArray 0)).get? s1.heap.objs.size = some (seqObj "list" us.toArray 0) := Heap.get?_push_size _ rfl
  have prs : ∀ u ∈ us, ∃ x y, Srt.IsPair (s1.heap.push (seqObj "list" us.toArray 0)) u x y := fun u hu => by
    obtain ⟨b, hb, e⟩ := List.mem_map.mp (pp.mem_iff.mp hu)
    obtain ⟨x, y, k⟩ := hB b hb
    rw [← e]
    exact ⟨x, y, k.keeps fun c u h _ => Heap.get?_push_of_some _ (kp c u h)⟩
  have run := Srt.list_sort_any (prog := P) (w := w) (A := A.in1.in1) (E := E) (s := { s1 with heap := s1.heap.push (seqObj "list" us.toArray 0) }) (R := fun r s' => ∃ v, r = .done (.ret v) ∧ (v = .none ∧ ∃ out : List Value, out.Perm us ∧ s' = { s1 with heap := sortedHeap (s1.heap.push (seqObj "list" us.toArray 0)) s1.heap.objs.size us out.toArray })) at1 (by omega) (fun h2 => Srt.pairs_sortable (by omega) prs fun o e c => by
    have e2 := e.symm.trans at1
    cases e2
    exact absurd (Value.type.inj c) (by decide)) fun out hp => ⟨_, rfl, rfl, out, hp, rfl⟩
  refine wpAny_bind (wpAny_holding (wpAny_mono (wpAny_call_entry (Q := fun v s' => v = .none ∧ ∃ out : List Value, out.Perm us ∧ s' = { s1 with heap := sortedHeap (s1.heap.push (seqObj "list" us.toArray 0)) s1.heap.objs.size us out.toArray }) slot_list_sort ⟨_, at1, rfl⟩ entry_list_sort run (args_list_sort _)) (fun v s' k => ?_) fun _ _ k => k))
  obtain ⟨rfl, out, po, rfl⟩ := k
  obtain ⟨zs, e1, pz⟩ := perm_refs (po.trans pp)
  obtain ⟨c, ec⟩ := sortedHeap_at (vs := us) (out := out.toArray) at1
  rw [e1] at ec
  refine wpAny_pure ⟨_, rfl, hQ _ s1.heap.objs.size c zs (fun b o h => ?_) gp op szp (by rw [e1]; exact ec) pz⟩
  have h1 := kp b o h
  have lt1 := Heap.lt_size h1
  show Heap.get? (sortedHeap _ _ us out.toArray) b = some o
  rw [sortedHeap_old (Nat.ne_of_lt lt1) (by rw [size_push']; exact Nat.lt_succ_of_lt lt1)]
  exact Heap.get?_push_of_some _ h1
end
section
variable {X : Cx}
/-- sorted(set) of pairs: a new list of the same, in some order -/
def rSortedTP (K : PySem.W.Frag) (P : Program) (w : World) : List V → Hp → VK → Prop := fun vs H Q => ∃ (a : Addr) (L : List (Addr × List Int)), vs = [V.ref a] ∧ H a = some (SetTO P w a L) ∧ (∀ p ∈ L, ∃ x y : Int, p.2 = [x, y] ∧ SqT K H p.1 [.int x, .int y]) ∧
  ∀ (zs : List Addr) (p : Addr), zs.Perm (L.map (·.1)) → L.length < 64 → (L.map (·.2)).Nodup → H p = none → Q (.ref p) (upd H p (.lst (zs.map V.ref)))
theorem cr_sortedTP (hc : X.calm = true) : CallR X (.builtin "sorted") (rSortedTP X.K X.prog X.w) := by
  intro pins s σ H vs us Q I r h
  obtain ⟨a, L, rfl, ha, hk, q⟩ := h
  have R0 : SetT0 X.prog X.w s.heap a L := (I.hok a _ ha).1
  obtain ⟨es, ep, t, R⟩ := R0.full fun p hp => by
    obtain ⟨x, y, e, k⟩ := hk p hp
    rw [e]
    exact I.isT k
  rw [Vals.ref1 r]
  refine sorted_setP R (I.ok.hd hc) (fun b hb => ?_) fun s' p c zs k g o szp e pz => ?_
  · obtain ⟨q', hq, rfl⟩ := List.mem_map.mp hb
    obtain ⟨x, y, _, kk⟩ := hk q' hq
    obtain ⟨its, rv, ⟨ob, ho, hcl, n, hd⟩, _⟩ := I.tuple kk
    obtain ⟨u1, u2, rfl, ri, rj⟩ := vals2 rv
    obtain ⟨t1, rfl⟩ := ri
    obtain ⟨t2, rfl⟩ := rj
    exact ⟨x, y, _, ob, t1, t2, n, rfl, ho, hcl, hd⟩
  · have lz : zs.length = L.length := by rw [pz.length_eq, List.length_map]
    have few := R.few
    have z64 : (64 : Nat) ≤ sizeLine := by decide
    have hn : H p = none := I.hok.fresh szp
    have J : Inv X pins σ (upd H p (.lst (zs.map V.ref))) { s with heap := s'.heap, gens := s'.gens, drawn := s'.drawn, toks := s'.toks } :=
      I.call (ch := []) (Un.laid k szp hn) (I.hok.laid k szp ⟨by rw [List.length_map]; omega, zs.map Value.ref, c, vals_of zs, e⟩) (by rw [g]; exact I.bare) (fun _ z => nomatch z)
    obtain ⟨h1, h2, h3, h4, h5⟩ := s'
    cases o
    exact ⟨.ref p, _, J, rfl, q zs p pz few R.nd hn⟩
end
end TupC

set_option Elab.async false
set_option linter.all false
set_option maxRecDepth 100000
set_option maxHeartbeats 4000000
namespace K06
open PySem PySem.Spec PyProof.Rows L2 SlX OwnR OwnF
theorem hu64 {k : Nat} {A : Around} (hr : Room k A) : A.units + 64 < cLine := hr.units
theorem same_upd0 {H : Hp} {p : Addr} {o : HO} (h : H p = none) : Same H (upd H p o) := fun b x e => by
  rw [upd_ne (ne_of_none e h)]
  exact e
def topS (i : Nat) : Stmt := PySem.Challenge.pw_sourceforms_k06_whole_roots_and_lines.main.body.getD i (.Pass ⟨0, 0, 0, 0⟩)
abbrev FnM (K : PySem.W.Frag) (x q : Str) (st : Stmt) (f : Addr) (fd : FuncData) : Prop := FunD K x q (defArgs st) (defBody st) (defScope st) [] [] f fd
abbrev FnP (K : PySem.W.Frag) (x : Str) (st : Stmt) (f : Addr) (fd : FuncData) : Prop := FunD K x x (defArgs st) (defBody st) (defScope st) [] [] f fd
abbrev s_is_whole : Stmt := topS 12
abbrev N_is_whole : List Str := ["value"]
theorem sc_is_whole : FnScope N_is_whole ["value"] (defScope s_is_whole) := ⟨rfl, rfl, rfl, by decide +kernel, rfl, by decide +kernel, by decide +kernel⟩
abbrev s_is_short : Stmt := topS 13
abbrev N_is_short : List Str := ["value"]
theorem sc_is_short : FnScope N_is_short ["value"] (defScope s_is_short) := ⟨rfl, rfl, rfl, by decide +kernel, rfl, by decide +kernel, by decide +kernel⟩
abbrev s_are_wholes : Stmt := topS 15
abbrev N_are_wholes : List Str := ["value", "entry"]
theorem sc_are_wholes : FnScope N_are_wholes ["value"] (defScope s_are_wholes) := ⟨rfl, rfl, rfl, by decide +kernel, rfl, by decide +kernel, by decide +kernel⟩
abbrev s_are_short : Stmt := topS 16
abbrev N_are_short : List Str := ["value", "entry"]
theorem sc_are_short : FnScope N_are_short ["value"] (defScope s_are_short) := ⟨rfl, rfl, rfl, by decide +kernel, rfl, by decide +kernel, by decide +kernel⟩
abbrev s_require_short : Stmt := topS 17
abbrev N_require_short : List Str := ["value"]
theorem sc_require_short : FnScope N_require_short ["value"] (defScope s_require_short) := ⟨rfl, rfl, rfl, by decide +kernel, rfl, by decide +kernel, by decide +kernel⟩
abbrev s_first_of : Stmt := topS 19
abbrev N_first_of : List Str := ["numbers"]
theorem sc_first_of : FnScope N_first_of ["numbers"] (defScope s_first_of) := ⟨rfl, rfl, rfl, by decide +kernel, rfl, by decide +kernel, by decide +kernel⟩
abbrev s_is_point_any : Stmt := topS 20
abbrev N_is_point_any : List Str := ["value"]
theorem sc_is_point_any : FnScope N_is_point_any ["value"] (defScope s_is_point_any) := ⟨rfl, rfl, rfl, by decide +kernel, rfl, by decide +kernel, by decide +kernel⟩
abbrev s_is_point : Stmt := topS 21
abbrev N_is_point : List Str := ["value"]
theorem sc_is_point : FnScope N_is_point ["value"] (defScope s_is_point) := ⟨rfl, rfl, rfl, by decide +kernel, rfl, by decide +kernel, by decide +kernel⟩
abbrev s_require_point : Stmt := topS 22
abbrev N_require_point : List Str := ["value"]
theorem sc_require_point : FnScope N_require_point ["value"] (defScope s_require_point) := ⟨rfl, rfl, rfl, by decide +kernel, rfl, by decide +kernel, by decide +kernel⟩
abbrev s_is_change : Stmt := topS 23
abbrev N_is_change : List Str := ["value", "row"]
theorem sc_is_change : FnScope N_is_change ["value"] (defScope s_is_change) := ⟨rfl, rfl, rfl, by decide +kernel, rfl, by decide +kernel, by decide +kernel⟩
abbrev s_require_change : Stmt := topS 24
abbrev N_require_change : List Str := ["value"]
theorem sc_require_change : FnScope N_require_change ["value"] (defScope s_require_change) := ⟨rfl, rfl, rfl, by decide +kernel, rfl, by decide +kernel, by decide +kernel⟩
abbrev s_product_in : Stmt := topS 28
abbrev N_product_in : List Str := ["one", "other"]
theorem sc_product_in : FnScope N_product_in ["one", "other"] (defScope s_product_in) := ⟨rfl, rfl, rfl, by decide +kernel, rfl, by decide +kernel, by decide +kernel⟩
abbrev s_joined_entries : Stmt := topS 29
abbrev N_joined_entries : List Str := ["one", "other", "found", "place", "at"]
theorem sc_joined_entries : FnScope N_joined_entries ["one", "other"] (defScope s_joined_entries) := ⟨rfl, rfl, rfl, by decide +kernel, rfl, by decide +kernel, by decide +kernel⟩
abbrev s_line_in : Stmt := topS 31
abbrev N_line_in : List Str := ["point"]
theorem sc_line_in : FnScope N_line_in ["point"] (defScope s_line_in) := ⟨rfl, rfl, rfl, by decide +kernel, rfl, by decide +kernel, by decide +kernel⟩
abbrev s_value_in : Stmt := topS 32
abbrev N_value_in : List Str := ["entries", "x", "y", "found", "power", "entry"]
theorem sc_value_in : FnScope N_value_in ["entries", "x", "y"] (defScope s_value_in) := ⟨rfl, rfl, rfl, by decide +kernel, rfl, by decide +kernel, by decide +kernel⟩
abbrev s_changed_in : Stmt := topS 33
abbrev N_changed_in : List Str := ["entries", "table", "found", "power", "entry", "longer", "first", "second"]
theorem sc_changed_in : FnScope N_changed_in ["entries", "table"] (defScope s_changed_in) := ⟨rfl, rfl, rfl, by decide +kernel, rfl, by decide +kernel, by decide +kernel⟩
abbrev s_is_zero_in : Stmt := topS 34
abbrev N_is_zero_in : List Str := ["entries"]
theorem sc_is_zero_in : FnScope N_is_zero_in ["entries"] (defScope s_is_zero_in) := ⟨rfl, rfl, rfl, by decide +kernel, rfl, by decide +kernel, by decide +kernel⟩
abbrev s_first_index : Stmt := topS 35
abbrev N_first_index : List Str := ["entries"]
theorem sc_first_index : FnScope N_first_index ["entries"] (defScope s_first_index) := ⟨rfl, rfl, rfl, by decide +kernel, rfl, by decide +kernel, by decide +kernel⟩
abbrev s_quotient_in : Stmt := topS 36
abbrev N_quotient_in : List Str := ["one", "other", "many", "lead", "left", "found", "at", "times", "place", "entry"]
theorem sc_quotient_in : FnScope N_quotient_in ["one", "other"] (defScope s_quotient_in) := ⟨rfl, rfl, rfl, by decide +kernel, rfl, by decide +kernel, by decide +kernel⟩
abbrev s_times_in : Stmt := topS 37
abbrev N_times_in : List Str := ["entries", "point", "found", "line", "here"]
theorem sc_times_in : FnScope N_times_in ["entries", "point"] (defScope s_times_in) := ⟨rfl, rfl, rfl, by decide +kernel, rfl, by decide +kernel, by decide +kernel⟩
abbrev s_are_entries : Stmt := topS 39
abbrev N_are_entries : List Str := ["value"]
theorem sc_are_entries : FnScope N_are_entries ["value"] (defScope s_are_entries) := ⟨rfl, rfl, rfl, by decide +kernel, rfl, by decide +kernel, by decide +kernel⟩
abbrev s_form_of : Stmt := topS 41
abbrev N_form_of : List Str := ["entries"]
theorem sc_form_of : FnScope N_form_of ["entries"] (defScope s_form_of) := ⟨rfl, rfl, rfl, by decide +kernel, rfl, by decide +kernel, by decide +kernel⟩
abbrev s_line_of : Stmt := topS 43
abbrev N_line_of : List Str := ["point"]
theorem sc_line_of : FnScope N_line_of ["point"] (defScope s_line_of) := ⟨rfl, rfl, rfl, by decide +kernel, rfl, by decide +kernel, by decide +kernel⟩
abbrev s_law_dice : Stmt := topS 45
abbrev N_law_dice : List Str := ["_law_script", "_law_spot", "_law_cell", "_law_left"]
theorem sc_law_dice : FnScope N_law_dice ["_law_script", "_law_spot"] (defScope s_law_dice) := ⟨rfl, rfl, rfl, by decide +kernel, rfl, by decide +kernel, by decide +kernel⟩
abbrev s_law_roll : Stmt := topS 46
abbrev N_law_roll : List Str := ["_law_dice_here", "_law_total", "_law_found", "_law_one", "_law_two"]
theorem sc_law_roll : FnScope N_law_roll ["_law_dice_here", "_law_total"] (defScope s_law_roll) := ⟨rfl, rfl, rfl, by decide +kernel, rfl, by decide +kernel, by decide +kernel⟩
abbrev s_law_pick : Stmt := topS 47
abbrev N_law_pick : List Str := ["_law_dice_here", "_law_items"]
theorem sc_law_pick : FnScope N_law_pick ["_law_dice_here", "_law_items"] (defScope s_law_pick) := ⟨rfl, rfl, rfl, by decide +kernel, rfl, by decide +kernel, by decide +kernel⟩
abbrev s_law_near : Stmt := topS 48
abbrev N_law_near : List Str := ["_law_dice_here", "_law_most"]
theorem sc_law_near : FnScope N_law_near ["_law_dice_here", "_law_most"] (defScope s_law_near) := ⟨rfl, rfl, rfl, by decide +kernel, rfl, by decide +kernel, by decide +kernel⟩
abbrev s_law_gcd : Stmt := topS 49
abbrev N_law_gcd : List Str := ["_law_one", "_law_other"]
theorem sc_law_gcd : FnScope N_law_gcd ["_law_one", "_law_other"] (defScope s_law_gcd) := ⟨rfl, rfl, rfl, by decide +kernel, rfl, by decide +kernel, by decide +kernel⟩
abbrev s_law_shared : Stmt := topS 50
abbrev N_law_shared : List Str := ["_law_numbers", "_law_found", "_law_number"]
theorem sc_law_shared : FnScope N_law_shared ["_law_numbers"] (defScope s_law_shared) := ⟨rfl, rfl, rfl, by decide +kernel, rfl, by decide +kernel, by decide +kernel⟩
abbrev s_law_plus : Stmt := topS 51
abbrev N_law_plus : List Str := ["_law_one", "_law_other", "_law_first", "_law_second"]
theorem sc_law_plus : FnScope N_law_plus ["_law_one", "_law_other"] (defScope s_law_plus) := ⟨rfl, rfl, rfl, by decide +kernel, rfl, by decide +kernel, by decide +kernel⟩
abbrev s_law_scaled : Stmt := topS 52
abbrev N_law_scaled : List Str := ["_law_form_here", "_law_factor", "_law_entry"]
theorem sc_law_scaled : FnScope N_law_scaled ["_law_form_here", "_law_factor"] (defScope s_law_scaled) := ⟨rfl, rfl, rfl, by decide +kernel, rfl, by decide +kernel, by decide +kernel⟩
abbrev s_law_product : Stmt := topS 53
abbrev N_law_product : List Str := ["_law_one", "_law_other", "_law_found", "_law_place", "_law_at", "_law_first", "_law_second"]
theorem sc_law_product : FnScope N_law_product ["_law_one", "_law_other"] (defScope s_law_product) := ⟨rfl, rfl, rfl, by decide +kernel, rfl, by decide +kernel, by decide +kernel⟩
abbrev s_law_all_product : Stmt := topS 54
abbrev N_law_all_product : List Str := ["_law_forms", "_law_found", "_law_form_here"]
theorem sc_law_all_product : FnScope N_law_all_product ["_law_forms"] (defScope s_law_all_product) := ⟨rfl, rfl, rfl, by decide +kernel, rfl, by decide +kernel, by decide +kernel⟩
abbrev s_law_power : Stmt := topS 55
abbrev N_law_power : List Str := ["_law_pair", "_law_times", "_law_found", "_law_turn"]
theorem sc_law_power : FnScope N_law_power ["_law_pair", "_law_times"] (defScope s_law_power) := ⟨rfl, rfl, rfl, by decide +kernel, rfl, by decide +kernel, by decide +kernel⟩
abbrev s_law_by_x : Stmt := topS 56
abbrev N_law_by_x : List Str := ["_law_form_here", "_law_at", "_law_entry"]
theorem sc_law_by_x : FnScope N_law_by_x ["_law_form_here"] (defScope s_law_by_x) := ⟨rfl, rfl, rfl, by decide +kernel, rfl, by decide +kernel, by decide +kernel⟩
abbrev s_law_by_y : Stmt := topS 57
abbrev N_law_by_y : List Str := ["_law_form_here", "_law_at", "_law_entry"]
theorem sc_law_by_y : FnScope N_law_by_y ["_law_form_here"] (defScope s_law_by_y) := ⟨rfl, rfl, rfl, by decide +kernel, rfl, by decide +kernel, by decide +kernel⟩
abbrev s_law_derived : Stmt := topS 58
abbrev N_law_derived : List Str := ["_law_form_here", "_law_one", "_law_other", "_law_turn"]
theorem sc_law_derived : FnScope N_law_derived ["_law_form_here", "_law_one", "_law_other"] (defScope s_law_derived) := ⟨rfl, rfl, rfl, by decide +kernel, rfl, by decide +kernel, by decide +kernel⟩
abbrev s_law_value : Stmt := topS 59
abbrev N_law_value : List Str := ["_law_form_here", "_law_x", "_law_y", "_law_found", "_law_power_here", "_law_entry"]
theorem sc_law_value : FnScope N_law_value ["_law_form_here", "_law_x", "_law_y"] (defScope s_law_value) := ⟨rfl, rfl, rfl, by decide +kernel, rfl, by decide +kernel, by decide +kernel⟩
abbrev s_law_plain : Stmt := topS 60
abbrev N_law_plain : List Str := ["_law_form_here", "_law_part", "_law_first", "_law_entry"]
theorem sc_law_plain : FnScope N_law_plain ["_law_form_here"] (defScope s_law_plain) := ⟨rfl, rfl, rfl, by decide +kernel, rfl, by decide +kernel, by decide +kernel⟩
abbrev s_law_line : Stmt := topS 61
abbrev N_law_line : List Str := ["_law_point_here"]
theorem sc_law_line : FnScope N_law_line ["_law_point_here"] (defScope s_law_line) := ⟨rfl, rfl, rfl, by decide +kernel, rfl, by decide +kernel, by decide +kernel⟩
abbrev s_law_point : Stmt := topS 62
abbrev N_law_point : List Str := ["_law_dice_here", "_law_most", "_law_one", "_law_other"]
theorem sc_law_point : FnScope N_law_point ["_law_dice_here", "_law_most"] (defScope s_law_point) := ⟨rfl, rfl, rfl, by decide +kernel, rfl, by decide +kernel, by decide +kernel⟩
abbrev s_law_points : Stmt := topS 63
abbrev N_law_points : List Str := ["_law_dice_here", "_law_many", "_law_most", "_law_found", "_law_turn", "_law_point_here"]
theorem sc_law_points : FnScope N_law_points ["_law_dice_here", "_law_many", "_law_most"] (defScope s_law_points) := ⟨rfl, rfl, rfl, by decide +kernel, rfl, by decide +kernel, by decide +kernel⟩
abbrev s_law_small_form : Stmt := topS 64
abbrev N_law_small_form : List Str := ["_law_dice_here", "_law_degree", "_law_most", "_law_place"]
theorem sc_law_small_form : FnScope N_law_small_form ["_law_dice_here", "_law_degree", "_law_most"] (defScope s_law_small_form) := ⟨rfl, rfl, rfl, by decide +kernel, rfl, by decide +kernel, by decide +kernel⟩
abbrev s_law_form : Stmt := topS 65
abbrev N_law_form : List Str := ["_law_dice_here", "_law_degree", "_law_way", "_law_turn", "_law_line_here", "_law_often_here", "_law_found", "_law_place"]
theorem sc_law_form : FnScope N_law_form ["_law_dice_here", "_law_degree"] (defScope s_law_form) := ⟨rfl, rfl, rfl, by decide +kernel, rfl, by decide +kernel, by decide +kernel⟩
abbrev s_law_live_form : Stmt := topS 66
abbrev N_law_live_form : List Str := ["_law_dice_here", "_law_degree", "_law_found"]
theorem sc_law_live_form : FnScope N_law_live_form ["_law_dice_here", "_law_degree"] (defScope s_law_live_form) := ⟨rfl, rfl, rfl, by decide +kernel, rfl, by decide +kernel, by decide +kernel⟩
abbrev s_law_table : Stmt := topS 67
abbrev N_law_table : List Str := ["_law_dice_here", "_law_most", "_law_found", "_law_row"]
theorem sc_law_table : FnScope N_law_table ["_law_dice_here", "_law_most"] (defScope s_law_table) := ⟨rfl, rfl, rfl, by decide +kernel, rfl, by decide +kernel, by decide +kernel⟩
abbrev s_law_often : Stmt := topS 68
abbrev N_law_often : List Str := ["_law_entries", "_law_point_here", "_law_found", "_law_degree", "_law_times", "_law_some", "_law_at", "_law_one"]
theorem sc_law_often : FnScope N_law_often ["_law_entries", "_law_point_here"] (defScope s_law_often) := ⟨rfl, rfl, rfl, by decide +kernel, rfl, by decide +kernel, by decide +kernel⟩
abbrev s_law_right : Stmt := topS 69
abbrev N_law_right : List Str := ["_law_dice_here", "_law_points_here", "_law_some", "_law_turn", "_law_entries", "_law_point_here", "_law_more", "_law_form_here", "_law_rest", "_law_table_here", "_law_both", "_law_added", "_law_told", "_law_x", "_law_y"]
theorem sc_law_right : FnScope N_law_right ["_law_dice_here"] (defScope s_law_right) := ⟨rfl, rfl, rfl, by decide +kernel, rfl, by decide +kernel, by decide +kernel⟩
abbrev s_law : Stmt := topS 70
abbrev N_law : List Str := ["_law_script", "_law_spot", "_law_bent", "_law_told"]
theorem sc_law : FnScope N_law ["_law_script"] (defScope s_law) := ⟨rfl, rfl, rfl, by decide +kernel, rfl, by decide +kernel, by decide +kernel⟩
abbrev s_Told_init : Stmt := inClass (topS 38) 1
abbrev N_Told_init : List Str := ["self", "row"]
theorem sc_Told_init : FnScope N_Told_init ["self", "row"] (defScope s_Told_init) := ⟨rfl, rfl, rfl, by decide +kernel, rfl, by decide +kernel, by decide +kernel⟩
abbrev s_Form_init : Stmt := inClass (topS 40) 1
abbrev N_Form_init : List Str := ["self", "entries"]
theorem sc_Form_init : FnScope N_Form_init ["self", "entries"] (defScope s_Form_init) := ⟨rfl, rfl, rfl, by decide +kernel, rfl, by decide +kernel, by decide +kernel⟩
abbrev s_Form_of_points : Stmt := inClass (topS 40) 2
abbrev N_Form_of_points : List Str := ["cls", "points", "point", "found"]
theorem sc_Form_of_points : FnScope N_Form_of_points ["cls", "points"] (defScope s_Form_of_points) := ⟨rfl, rfl, rfl, by decide +kernel, rfl, by decide +kernel, by decide +kernel⟩
abbrev s_Form_entries : Stmt := inClass (topS 40) 4
abbrev N_Form_entries : List Str := ["self"]
theorem sc_Form_entries : FnScope N_Form_entries ["self"] (defScope s_Form_entries) := ⟨rfl, rfl, rfl, by decide +kernel, rfl, by decide +kernel, by decide +kernel⟩
abbrev s_Form_degree : Stmt := inClass (topS 40) 5
abbrev N_Form_degree : List Str := ["self"]
theorem sc_Form_degree : FnScope N_Form_degree ["self"] (defScope s_Form_degree) := ⟨rfl, rfl, rfl, by decide +kernel, rfl, by decide +kernel, by decide +kernel⟩
abbrev s_Form_is_zero : Stmt := inClass (topS 40) 6
abbrev N_Form_is_zero : List Str := ["self"]
theorem sc_Form_is_zero : FnScope N_Form_is_zero ["self"] (defScope s_Form_is_zero) := ⟨rfl, rfl, rfl, by decide +kernel, rfl, by decide +kernel, by decide +kernel⟩
abbrev s_Form_value : Stmt := inClass (topS 40) 9
abbrev N_Form_value : List Str := ["self", "x", "y"]
theorem sc_Form_value : FnScope N_Form_value ["self", "x", "y"] (defScope s_Form_value) := ⟨rfl, rfl, rfl, by decide +kernel, rfl, by decide +kernel, by decide +kernel⟩
abbrev s_Form_changed : Stmt := inClass (topS 40) 10
abbrev N_Form_changed : List Str := ["self", "table"]
theorem sc_Form_changed : FnScope N_Form_changed ["self", "table"] (defScope s_Form_changed) := ⟨rfl, rfl, rfl, by decide +kernel, rfl, by decide +kernel, by decide +kernel⟩
abbrev s_Form_times_at : Stmt := inClass (topS 40) 12
abbrev N_Form_times_at : List Str := ["self", "point"]
theorem sc_Form_times_at : FnScope N_Form_times_at ["self", "point"] (defScope s_Form_times_at) := ⟨rfl, rfl, rfl, by decide +kernel, rfl, by decide +kernel, by decide +kernel⟩
abbrev s_Form_mul : Stmt := inClass (topS 40) 17
abbrev N_Form_mul : List Str := ["self", "other", "entry"]
theorem sc_Form_mul : FnScope N_Form_mul ["self", "other"] (defScope s_Form_mul) := ⟨rfl, rfl, rfl, by decide +kernel, rfl, by decide +kernel, by decide +kernel⟩
abbrev s_Form_eq : Stmt := inClass (topS 40) 18
/-- where the defs stand, what the names of the module are -/
structure Facts (K : PySem.W.Frag) (mg : Str → Option Value) where
  f_is_whole : Addr
  fd_is_whole : FuncData
  F_is_whole : FnP K "is_whole" s_is_whole f_is_whole fd_is_whole
  g_is_whole : mg "is_whole" = some (.ref f_is_whole)
  b_is_whole : Binds K fd_is_whole ["value"] []
  f_is_short : Addr
  fd_is_short : FuncData
  F_is_short : FnP K "is_short" s_is_short f_is_short fd_is_short
  g_is_short : mg "is_short" = some (.ref f_is_short)
  b_is_short : Binds K fd_is_short ["value"] []
  f_are_wholes : Addr
  fd_are_wholes : FuncData
  F_are_wholes : FnP K "are_wholes" s_are_wholes f_are_wholes fd_are_wholes
  g_are_wholes : mg "are_wholes" = some (.ref f_are_wholes)
  b_are_wholes : Binds K fd_are_wholes ["value"] []
  f_are_short : Addr
  fd_are_short : FuncData
  F_are_short : FnP K "are_short" s_are_short f_are_short fd_are_short
  g_are_short : mg "are_short" = some (.ref f_are_short)
  b_are_short : Binds K fd_are_short ["value"] []
  f_require_short : Addr
  fd_require_short : FuncData
  F_require_short : FnP K "require_short" s_require_short f_require_short fd_require_short
  g_require_short : mg "require_short" = some (.ref f_require_short)
  b_require_short : Binds K fd_require_short ["value"] []
  f_first_of : Addr
  fd_first_of : FuncData
  F_first_of : FnP K "first_of" s_first_of f_first_of fd_first_of
  g_first_of : mg "first_of" = some (.ref f_first_of)
  b_first_of : Binds K fd_first_of ["numbers"] []
  f_is_point_any : Addr
  fd_is_point_any : FuncData
  F_is_point_any : FnP K "is_point_any" s_is_point_any f_is_point_any fd_is_point_any
  g_is_point_any : mg "is_point_any" = some (.ref f_is_point_any)
  b_is_point_any : Binds K fd_is_point_any ["value"] []
  f_is_point : Addr
  fd_is_point : FuncData
  F_is_point : FnP K "is_point" s_is_point f_is_point fd_is_point
  g_is_point : mg "is_point" = some (.ref f_is_point)
  b_is_point : Binds K fd_is_point ["value"] []
  f_require_point : Addr
  fd_require_point : FuncData
  F_require_point : FnP K "require_point" s_require_point f_require_point fd_require_point
  g_require_point : mg "require_point" = some (.ref f_require_point)
  b_require_point : Binds K fd_require_point ["value"] []
  f_is_change : Addr
  fd_is_change : FuncData
  F_is_change : FnP K "is_change" s_is_change f_is_change fd_is_change
  g_is_change : mg "is_change" = some (.ref f_is_change)
  b_is_change : Binds K fd_is_change ["value"] []
  f_require_change : Addr
  fd_require_change : FuncData
  F_require_change : FnP K "require_change" s_require_change f_require_change fd_require_change
  g_require_change : mg "require_change" = some (.ref f_require_change)
  b_require_change : Binds K fd_require_change ["value"] []
  f_product_in : Addr
  fd_product_in : FuncData
  F_product_in : FnP K "product_in" s_product_in f_product_in fd_product_in
  g_product_in : mg "product_in" = some (.ref f_product_in)
  b_product_in : Binds K fd_product_in ["one", "other"] []
  f_joined_entries : Addr
  fd_joined_entries : FuncData
  F_joined_entries : FnP K "joined_entries" s_joined_entries f_joined_entries fd_joined_entries
  g_joined_entries : mg "joined_entries" = some (.ref f_joined_entries)
  b_joined_entries : Binds K fd_joined_entries ["one", "other"] []
  f_line_in : Addr
  fd_line_in : FuncData
  F_line_in : FnP K "line_in" s_line_in f_line_in fd_line_in
  g_line_in : mg "line_in" = some (.ref f_line_in)
  b_line_in : Binds K fd_line_in ["point"] []
  f_value_in : Addr
  fd_value_in : FuncData
  F_value_in : FnP K "value_in" s_value_in f_value_in fd_value_in
  g_value_in : mg "value_in" = some (.ref f_value_in)
  b_value_in : Binds K fd_value_in ["entries", "x", "y"] []
  f_changed_in : Addr
  fd_changed_in : FuncData
  F_changed_in : FnP K "changed_in" s_changed_in f_changed_in fd_changed_in
  g_changed_in : mg "changed_in" = some (.ref f_changed_in)
  b_changed_in : Binds K fd_changed_in ["entries", "table"] []
  f_is_zero_in : Addr
  fd_is_zero_in : FuncData
  F_is_zero_in : FnP K "is_zero_in" s_is_zero_in f_is_zero_in fd_is_zero_in
  g_is_zero_in : mg "is_zero_in" = some (.ref f_is_zero_in)
  b_is_zero_in : Binds K fd_is_zero_in ["entries"] []
  f_first_index : Addr
  fd_first_index : FuncData
  F_first_index : FnP K "first_index" s_first_index f_first_index fd_first_index
  g_first_index : mg "first_index" = some (.ref f_first_index)
  b_first_index : Binds K fd_first_index ["entries"] []
  f_quotient_in : Addr
  fd_quotient_in : FuncData
  F_quotient_in : FnP K "quotient_in" s_quotient_in f_quotient_in fd_quotient_in
  g_quotient_in : mg "quotient_in" = some (.ref f_quotient_in)
  b_quotient_in : Binds K fd_quotient_in ["one", "other"] []
  f_times_in : Addr
  fd_times_in : FuncData
  F_times_in : FnP K "times_in" s_times_in f_times_in fd_times_in
  g_times_in : mg "times_in" = some (.ref f_times_in)
  b_times_in : Binds K fd_times_in ["entries", "point"] []
  f_are_entries : Addr
  fd_are_entries : FuncData
  F_are_entries : FnP K "are_entries" s_are_entries f_are_entries fd_are_entries
  g_are_entries : mg "are_entries" = some (.ref f_are_entries)
  b_are_entries : Binds K fd_are_entries ["value"] []
  f_form_of : Addr
  fd_form_of : FuncData
  F_form_of : FnP K "form_of" s_form_of f_form_of fd_form_of
  g_form_of : mg "form_of" = some (.ref f_form_of)
  b_form_of : Binds K fd_form_of ["entries"] []
  f_line_of : Addr
  fd_line_of : FuncData
  F_line_of : FnP K "line_of" s_line_of f_line_of fd_line_of
  g_line_of : mg "line_of" = some (.ref f_line_of)
  b_line_of : Binds K fd_line_of ["point"] []
  f_law_dice : Addr
  fd_law_dice : FuncData
  F_law_dice : FnP K "_law_dice" s_law_dice f_law_dice fd_law_dice
  g_law_dice : mg "_law_dice" = some (.ref f_law_dice)
  b_law_dice : Binds K fd_law_dice ["_law_script", "_law_spot"] []
  f_law_roll : Addr
  fd_law_roll : FuncData
  F_law_roll : FnP K "_law_roll" s_law_roll f_law_roll fd_law_roll
  g_law_roll : mg "_law_roll" = some (.ref f_law_roll)
  b_law_roll : Binds K fd_law_roll ["_law_dice_here", "_law_total"] []
  f_law_pick : Addr
  fd_law_pick : FuncData
  F_law_pick : FnP K "_law_pick" s_law_pick f_law_pick fd_law_pick
  g_law_pick : mg "_law_pick" = some (.ref f_law_pick)
  b_law_pick : Binds K fd_law_pick ["_law_dice_here", "_law_items"] []
  f_law_near : Addr
  fd_law_near : FuncData
  F_law_near : FnP K "_law_near" s_law_near f_law_near fd_law_near
  g_law_near : mg "_law_near" = some (.ref f_law_near)
  b_law_near : Binds K fd_law_near ["_law_dice_here", "_law_most"] []
  f_law_gcd : Addr
  fd_law_gcd : FuncData
  F_law_gcd : FnP K "_law_gcd" s_law_gcd f_law_gcd fd_law_gcd
  g_law_gcd : mg "_law_gcd" = some (.ref f_law_gcd)
  b_law_gcd : Binds K fd_law_gcd ["_law_one", "_law_other"] []
  f_law_shared : Addr
  fd_law_shared : FuncData
  F_law_shared : FnP K "_law_shared" s_law_shared f_law_shared fd_law_shared
  g_law_shared : mg "_law_shared" = some (.ref f_law_shared)
  b_law_shared : Binds K fd_law_shared ["_law_numbers"] []
  f_law_plus : Addr
  fd_law_plus : FuncData
  F_law_plus : FnP K "_law_plus" s_law_plus f_law_plus fd_law_plus
  g_law_plus : mg "_law_plus" = some (.ref f_law_plus)
  b_law_plus : Binds K fd_law_plus ["_law_one", "_law_other"] []
  f_law_scaled : Addr
  fd_law_scaled : FuncData
  F_law_scaled : FnP K "_law_scaled" s_law_scaled f_law_scaled fd_law_scaled
  g_law_scaled : mg "_law_scaled" = some (.ref f_law_scaled)
  b_law_scaled : Binds K fd_law_scaled ["_law_form_here", "_law_factor"] []
  f_law_product : Addr
  fd_law_product : FuncData
  F_law_product : FnP K "_law_product" s_law_product f_law_product fd_law_product
  g_law_product : mg "_law_product" = some (.ref f_law_product)
  b_law_product : Binds K fd_law_product ["_law_one", "_law_other"] []
  f_law_all_product : Addr
  fd_law_all_product : FuncData
  F_law_all_product : FnP K "_law_all_product" s_law_all_product f_law_all_product fd_law_all_product
  g_law_all_product : mg "_law_all_product" = some (.ref f_law_all_product)
  b_law_all_product : Binds K fd_law_all_product ["_law_forms"] []
  f_law_power : Addr
  fd_law_power : FuncData
  F_law_power : FnP K "_law_power" s_law_power f_law_power fd_law_power
  g_law_power : mg "_law_power" = some (.ref f_law_power)
  b_law_power : Binds K fd_law_power ["_law_pair", "_law_times"] []
  f_law_by_x : Addr
  fd_law_by_x : FuncData
  F_law_by_x : FnP K "_law_by_x" s_law_by_x f_law_by_x fd_law_by_x
  g_law_by_x : mg "_law_by_x" = some (.ref f_law_by_x)
  b_law_by_x : Binds K fd_law_by_x ["_law_form_here"] []
  f_law_by_y : Addr
  fd_law_by_y : FuncData
  F_law_by_y : FnP K "_law_by_y" s_law_by_y f_law_by_y fd_law_by_y
  g_law_by_y : mg "_law_by_y" = some (.ref f_law_by_y)
  b_law_by_y : Binds K fd_law_by_y ["_law_form_here"] []
  f_law_derived : Addr
  fd_law_derived : FuncData
  F_law_derived : FnP K "_law_derived" s_law_derived f_law_derived fd_law_derived
  g_law_derived : mg "_law_derived" = some (.ref f_law_derived)
  b_law_derived : Binds K fd_law_derived ["_law_form_here", "_law_one", "_law_other"] []
  f_law_value : Addr
  fd_law_value : FuncData
  F_law_value : FnP K "_law_value" s_law_value f_law_value fd_law_value
  g_law_value : mg "_law_value" = some (.ref f_law_value)
  b_law_value : Binds K fd_law_value ["_law_form_here", "_law_x", "_law_y"] []
  f_law_plain : Addr
  fd_law_plain : FuncData
  F_law_plain : FnP K "_law_plain" s_law_plain f_law_plain fd_law_plain
  g_law_plain : mg "_law_plain" = some (.ref f_law_plain)
  b_law_plain : Binds K fd_law_plain ["_law_form_here"] []
  f_law_line : Addr
  fd_law_line : FuncData
  F_law_line : FnP K "_law_line" s_law_line f_law_line fd_law_line
  g_law_line : mg "_law_line" = some (.ref f_law_line)
  b_law_line : Binds K fd_law_line ["_law_point_here"] []
  f_law_point : Addr
  fd_law_point : FuncData
  F_law_point : FnP K "_law_point" s_law_point f_law_point fd_law_point
  g_law_point : mg "_law_point" = some (.ref f_law_point)
  b_law_point : Binds K fd_law_point ["_law_dice_here", "_law_most"] []
  f_law_points : Addr
  fd_law_points : FuncData
  F_law_points : FnP K "_law_points" s_law_points f_law_points fd_law_points
  g_law_points : mg "_law_points" = some (.ref f_law_points)
  b_law_points : Binds K fd_law_points ["_law_dice_here", "_law_many", "_law_most"] []
  f_law_small_form : Addr
  fd_law_small_form : FuncData
  F_law_small_form : FnP K "_law_small_form" s_law_small_form f_law_small_form fd_law_small_form
  g_law_small_form : mg "_law_small_form" = some (.ref f_law_small_form)
  b_law_small_form : Binds K fd_law_small_form ["_law_dice_here", "_law_degree", "_law_most"] []
  f_law_form : Addr
  fd_law_form : FuncData
  F_law_form : FnP K "_law_form" s_law_form f_law_form fd_law_form
  g_law_form : mg "_law_form" = some (.ref f_law_form)
  b_law_form : Binds K fd_law_form ["_law_dice_here", "_law_degree"] []
  f_law_live_form : Addr
  fd_law_live_form : FuncData
  F_law_live_form : FnP K "_law_live_form" s_law_live_form f_law_live_form fd_law_live_form
  g_law_live_form : mg "_law_live_form" = some (.ref f_law_live_form)
  b_law_live_form : Binds K fd_law_live_form ["_law_dice_here", "_law_degree"] []
  f_law_table : Addr
  fd_law_table : FuncData
  F_law_table : FnP K "_law_table" s_law_table f_law_table fd_law_table
  g_law_table : mg "_law_table" = some (.ref f_law_table)
  b_law_table : Binds K fd_law_table ["_law_dice_here", "_law_most"] []
  f_law_often : Addr
  fd_law_often : FuncData
  F_law_often : FnP K "_law_often" s_law_often f_law_often fd_law_often
  g_law_often : mg "_law_often" = some (.ref f_law_often)
  b_law_often : Binds K fd_law_often ["_law_entries", "_law_point_here"] []
  f_law_right : Addr
  fd_law_right : FuncData
  F_law_right : FnP K "_law_right" s_law_right f_law_right fd_law_right
  g_law_right : mg "_law_right" = some (.ref f_law_right)
  b_law_right : Binds K fd_law_right ["_law_dice_here"] []
  f_law : Addr
  fd_law : FuncData
  F_law : FnP K "law" s_law f_law fd_law
  g_law : mg "law" = some (.ref f_law)
  b_law : Binds K fd_law ["_law_script"] []
  f_Told_init : Addr
  fd_Told_init : FuncData
  F_Told_init : FnM K "__init__" "Told.__init__" s_Told_init f_Told_init fd_Told_init
  b_Told_init : Binds K fd_Told_init ["self", "row"] []
  f_Form_init : Addr
  fd_Form_init : FuncData
  F_Form_init : FnM K "__init__" "Form.__init__" s_Form_init f_Form_init fd_Form_init
  b_Form_init : Binds K fd_Form_init ["self", "entries"] []
  f_Form_of_points : Addr
  fd_Form_of_points : FuncData
  F_Form_of_points : FnM K "of_points" "Form.of_points" s_Form_of_points f_Form_of_points fd_Form_of_points
  b_Form_of_points : Binds K fd_Form_of_points ["cls", "points"] []
  f_Form_entries : Addr
  fd_Form_entries : FuncData
  F_Form_entries : FnM K "entries" "Form.entries" s_Form_entries f_Form_entries fd_Form_entries
  b_Form_entries : Binds K fd_Form_entries ["self"] []
  f_Form_degree : Addr
  fd_Form_degree : FuncData
  F_Form_degree : FnM K "degree" "Form.degree" s_Form_degree f_Form_degree fd_Form_degree
  b_Form_degree : Binds K fd_Form_degree ["self"] []
  f_Form_is_zero : Addr
  fd_Form_is_zero : FuncData
  F_Form_is_zero : FnM K "is_zero" "Form.is_zero" s_Form_is_zero f_Form_is_zero fd_Form_is_zero
  b_Form_is_zero : Binds K fd_Form_is_zero ["self"] []
  f_Form_value : Addr
  fd_Form_value : FuncData
  F_Form_value : FnM K "value" "Form.value" s_Form_value f_Form_value fd_Form_value
  b_Form_value : Binds K fd_Form_value ["self", "x", "y"] []
  f_Form_changed : Addr
  fd_Form_changed : FuncData
  F_Form_changed : FnM K "changed" "Form.changed" s_Form_changed f_Form_changed fd_Form_changed
  b_Form_changed : Binds K fd_Form_changed ["self", "table"] []
  f_Form_times_at : Addr
  fd_Form_times_at : FuncData
  F_Form_times_at : FnM K "times_at" "Form.times_at" s_Form_times_at f_Form_times_at fd_Form_times_at
  b_Form_times_at : Binds K fd_Form_times_at ["self", "point"] []
  f_Form_mul : Addr
  fd_Form_mul : FuncData
  F_Form_mul : FnM K "__mul__" "Form.__mul__" s_Form_mul f_Form_mul fd_Form_mul
  b_Form_mul : Binds K fd_Form_mul ["self", "other"] []
  f_Form_eq : Addr
  fd_Form_eq : FuncData
  F_Form_eq : FnM K "__eq__" "Form.__eq__" s_Form_eq f_Form_eq fd_Form_eq
  b_Form_eq : Binds K fd_Form_eq ["self", "other"] []
  C_Told : Addr
  g_Told : mg "Told" = some (.ref C_Told)
  oc_Told : OwnF.OC K C_Told
  mk_Told : Mk K C_Told f_Told_init
  a_own_row : Addr
  sl_own_row : SlX.Slot1 K C_Told "own_row" a_own_row 0
  C_Form : Addr
  g_Form : mg "Form" = some (.ref C_Form)
  oc_Form : OwnF.OC K C_Form
  mk_Form : Mk K C_Form f_Form_init
  a_own_entries : Addr
  sl_own_entries : SlX.Slot1 K C_Form "own_entries" a_own_entries 0
  mt_Told_init : HookG.Mt K C_Told "__init__" f_Told_init
  mt_Form_init : HookG.Mt K C_Form "__init__" f_Form_init
  p_Form_of_points : Addr
  cm_Form_of_points : OwnC.Cm K C_Form "of_points" p_Form_of_points f_Form_of_points
  p_Form_entries : Addr
  pr_Form_entries : HookG.Pr K C_Form "entries" p_Form_entries f_Form_entries
  p_Form_degree : Addr
  pr_Form_degree : HookG.Pr K C_Form "degree" p_Form_degree f_Form_degree
  p_Form_is_zero : Addr
  pr_Form_is_zero : HookG.Pr K C_Form "is_zero" p_Form_is_zero f_Form_is_zero
  mt_Form_value : HookG.Mt K C_Form "value" f_Form_value
  mt_Form_changed : HookG.Mt K C_Form "changed" f_Form_changed
  mt_Form_times_at : HookG.Mt K C_Form "times_at" f_Form_times_at
  mt_Form_mul : HookG.Mt K C_Form "__mul__" f_Form_mul
  mt_Form_eq : HookG.Mt K C_Form "__eq__" f_Form_eq
  kit_Told_Form : PySem.W.kitOne K (.ref C_Told) (.ref C_Form) = some false
  kit_Form_Told : PySem.W.kitOne K (.ref C_Form) (.ref C_Told) = some false
  z_abs : mg "abs" = none
  z_all : mg "all" = none
  z_any : mg "any" = none
  z_bool : mg "bool" = none
  z_enumerate : mg "enumerate" = none
  z_int : mg "int" = none
  z_isinstance : mg "isinstance" = none
  z_len : mg "len" = none
  z_list : mg "list" = none
  z_max : mg "max" = none
  z_min : mg "min" = none
  z_next : mg "next" = none
  z_range : mg "range" = none
  z_set : mg "set" = none
  z_sorted : mg "sorted" = none
  z_tuple : mg "tuple" = none
  z_zip : mg "zip" = none
  m_gcd : mg "gcd" = some (.builtin "math.gcd")
  c_GREATEST : ∃ t, mg "GREATEST" = some (.int 1000000000000000000000000000000000000000000000000000000000000 t)
  c_MAX_DEGREE : ∃ t, mg "MAX_DEGREE" = some (.int 40 t)
  c_MAX_POINTS : ∃ t, mg "MAX_POINTS" = some (.int 40 t)
  c_first_index : Addr
  P_first_index : Addr
  code_first_index : fd_first_index.code = .ref c_first_index
  tab_first_index : (c_first_index, P_first_index) = HookT.cTA K (HookG.At.glo "first_index")
  c_first_of : Addr
  P_first_of : Addr
  code_first_of : fd_first_of.code = .ref c_first_of
  tab_first_of : (c_first_of, P_first_of) = HookT.cTA K (HookG.At.glo "first_of")
/-! ### for the head -/
def d_is_whole : HookG.GD := ⟨.glo "is_whole", "is_whole", "is_whole", defArgs s_is_whole, defBody s_is_whole, defScope s_is_whole⟩
def d_is_short : HookG.GD := ⟨.glo "is_short", "is_short", "is_short", defArgs s_is_short, defBody s_is_short, defScope s_is_short⟩
def d_are_wholes : HookG.GD := ⟨.glo "are_wholes", "are_wholes", "are_wholes", defArgs s_are_wholes, defBody s_are_wholes, defScope s_are_wholes⟩
def d_are_short : HookG.GD := ⟨.glo "are_short", "are_short", "are_short", defArgs s_are_short, defBody s_are_short, defScope s_are_short⟩
def d_require_short : HookG.GD := ⟨.glo "require_short", "require_short", "require_short", defArgs s_require_short, defBody s_require_short, defScope s_require_short⟩
def d_first_of : HookG.GD := ⟨.glo "first_of", "first_of", "first_of", defArgs s_first_of, defBody s_first_of, defScope s_first_of⟩
def d_is_point_any : HookG.GD := ⟨.glo "is_point_any", "is_point_any", "is_point_any", defArgs s_is_point_any, defBody s_is_point_any, defScope s_is_point_any⟩
def d_is_point : HookG.GD := ⟨.glo "is_point", "is_point", "is_point", defArgs s_is_point, defBody s_is_point, defScope s_is_point⟩
def d_require_point : HookG.GD := ⟨.glo "require_point", "require_point", "require_point", defArgs s_require_point, defBody s_require_point, defScope s_require_point⟩
def d_is_change : HookG.GD := ⟨.glo "is_change", "is_change", "is_change", defArgs s_is_change, defBody s_is_change, defScope s_is_change⟩
def d_require_change : HookG.GD := ⟨.glo "require_change", "require_change", "require_change", defArgs s_require_change, defBody s_require_change, defScope s_require_change⟩
def d_product_in : HookG.GD := ⟨.glo "product_in", "product_in", "product_in", defArgs s_product_in, defBody s_product_in, defScope s_product_in⟩
def d_joined_entries : HookG.GD := ⟨.glo "joined_entries", "joined_entries", "joined_entries", defArgs s_joined_entries, defBody s_joined_entries, defScope s_joined_entries⟩
def d_line_in : HookG.GD := ⟨.glo "line_in", "line_in", "line_in", defArgs s_line_in, defBody s_line_in, defScope s_line_in⟩
def d_value_in : HookG.GD := ⟨.glo "value_in", "value_in", "value_in", defArgs s_value_in, defBody s_value_in, defScope s_value_in⟩
def d_changed_in : HookG.GD := ⟨.glo "changed_in", "changed_in", "changed_in", defArgs s_changed_in, defBody s_changed_in, defScope s_changed_in⟩
def d_is_zero_in : HookG.GD := ⟨.glo "is_zero_in", "is_zero_in", "is_zero_in", defArgs s_is_zero_in, defBody s_is_zero_in, defScope s_is_zero_in⟩
def d_first_index : HookG.GD := ⟨.glo "first_index", "first_index", "first_index", defArgs s_first_index, defBody s_first_index, defScope s_first_index⟩
def d_quotient_in : HookG.GD := ⟨.glo "quotient_in", "quotient_in", "quotient_in", defArgs s_quotient_in, defBody s_quotient_in, defScope s_quotient_in⟩
def d_times_in : HookG.GD := ⟨.glo "times_in", "times_in", "times_in", defArgs s_times_in, defBody s_times_in, defScope s_times_in⟩
def d_are_entries : HookG.GD := ⟨.glo "are_entries", "are_entries", "are_entries", defArgs s_are_entries, defBody s_are_entries, defScope s_are_entries⟩
def d_form_of : HookG.GD := ⟨.glo "form_of", "form_of", "form_of", defArgs s_form_of, defBody s_form_of, defScope s_form_of⟩
def d_line_of : HookG.GD := ⟨.glo "line_of", "line_of", "line_of", defArgs s_line_of, defBody s_line_of, defScope s_line_of⟩
def d_law_dice : HookG.GD := ⟨.glo "_law_dice", "_law_dice", "_law_dice", defArgs s_law_dice, defBody s_law_dice, defScope s_law_dice⟩
def d_law_roll : HookG.GD := ⟨.glo "_law_roll", "_law_roll", "_law_roll", defArgs s_law_roll, defBody s_law_roll, defScope s_law_roll⟩
def d_law_pick : HookG.GD := ⟨.glo "_law_pick", "_law_pick", "_law_pick", defArgs s_law_pick, defBody s_law_pick, defScope s_law_pick⟩
def d_law_near : HookG.GD := ⟨.glo "_law_near", "_law_near", "_law_near", defArgs s_law_near, defBody s_law_near, defScope s_law_near⟩
def d_law_gcd : HookG.GD := ⟨.glo "_law_gcd", "_law_gcd", "_law_gcd", defArgs s_law_gcd, defBody s_law_gcd, defScope s_law_gcd⟩
def d_law_shared : HookG.GD := ⟨.glo "_law_shared", "_law_shared", "_law_shared", defArgs s_law_shared, defBody s_law_shared, defScope s_law_shared⟩
def d_law_plus : HookG.GD := ⟨.glo "_law_plus", "_law_plus", "_law_plus", defArgs s_law_plus, defBody s_law_plus, defScope s_law_plus⟩
def d_law_scaled : HookG.GD := ⟨.glo "_law_scaled", "_law_scaled", "_law_scaled", defArgs s_law_scaled, defBody s_law_scaled, defScope s_law_scaled⟩
def d_law_product : HookG.GD := ⟨.glo "_law_product", "_law_product", "_law_product", defArgs s_law_product, defBody s_law_product, defScope s_law_product⟩
def d_law_all_product : HookG.GD := ⟨.glo "_law_all_product", "_law_all_product", "_law_all_product", defArgs s_law_all_product, defBody s_law_all_product, defScope s_law_all_product⟩
def d_law_power : HookG.GD := ⟨.glo "_law_power", "_law_power", "_law_power", defArgs s_law_power, defBody s_law_power, defScope s_law_power⟩
def d_law_by_x : HookG.GD := ⟨.glo "_law_by_x", "_law_by_x", "_law_by_x", defArgs s_law_by_x, defBody s_law_by_x, defScope s_law_by_x⟩
def d_law_by_y : HookG.GD := ⟨.glo "_law_by_y", "_law_by_y", "_law_by_y", defArgs s_law_by_y, defBody s_law_by_y, defScope s_law_by_y⟩
def d_law_derived : HookG.GD := ⟨.glo "_law_derived", "_law_derived", "_law_derived", defArgs s_law_derived, defBody s_law_derived, defScope s_law_derived⟩
def d_law_value : HookG.GD := ⟨.glo "_law_value", "_law_value", "_law_value", defArgs s_law_value, defBody s_law_value, defScope s_law_value⟩
def d_law_plain : HookG.GD := ⟨.glo "_law_plain", "_law_plain", "_law_plain", defArgs s_law_plain, defBody s_law_plain, defScope s_law_plain⟩
def d_law_line : HookG.GD := ⟨.glo "_law_line", "_law_line", "_law_line", defArgs s_law_line, defBody s_law_line, defScope s_law_line⟩
def d_law_point : HookG.GD := ⟨.glo "_law_point", "_law_point", "_law_point", defArgs s_law_point, defBody s_law_point, defScope s_law_point⟩
def d_law_points : HookG.GD := ⟨.glo "_law_points", "_law_points", "_law_points", defArgs s_law_points, defBody s_law_points, defScope s_law_points⟩
def d_law_small_form : HookG.GD := ⟨.glo "_law_small_form", "_law_small_form", "_law_small_form", defArgs s_law_small_form, defBody s_law_small_form, defScope s_law_small_form⟩
def d_law_form : HookG.GD := ⟨.glo "_law_form", "_law_form", "_law_form", defArgs s_law_form, defBody s_law_form, defScope s_law_form⟩
def d_law_live_form : HookG.GD := ⟨.glo "_law_live_form", "_law_live_form", "_law_live_form", defArgs s_law_live_form, defBody s_law_live_form, defScope s_law_live_form⟩
def d_law_table : HookG.GD := ⟨.glo "_law_table", "_law_table", "_law_table", defArgs s_law_table, defBody s_law_table, defScope s_law_table⟩
def d_law_often : HookG.GD := ⟨.glo "_law_often", "_law_often", "_law_often", defArgs s_law_often, defBody s_law_often, defScope s_law_often⟩
def d_law_right : HookG.GD := ⟨.glo "_law_right", "_law_right", "_law_right", defArgs s_law_right, defBody s_law_right, defScope s_law_right⟩
def d_law : HookG.GD := ⟨.glo "law", "law", "law", defArgs s_law, defBody s_law, defScope s_law⟩
def d_Told_init : HookG.GD := ⟨.met "Told" "__init__", "__init__", "Told.__init__", defArgs s_Told_init, defBody s_Told_init, defScope s_Told_init⟩
def d_Form_init : HookG.GD := ⟨.met "Form" "__init__", "__init__", "Form.__init__", defArgs s_Form_init, defBody s_Form_init, defScope s_Form_init⟩
def d_Form_of_points : HookG.GD := ⟨.cms "Form" "of_points", "of_points", "Form.of_points", defArgs s_Form_of_points, defBody s_Form_of_points, defScope s_Form_of_points⟩
def d_Form_entries : HookG.GD := ⟨.prp "Form" "entries", "entries", "Form.entries", defArgs s_Form_entries, defBody s_Form_entries, defScope s_Form_entries⟩
def d_Form_degree : HookG.GD := ⟨.prp "Form" "degree", "degree", "Form.degree", defArgs s_Form_degree, defBody s_Form_degree, defScope s_Form_degree⟩
def d_Form_is_zero : HookG.GD := ⟨.prp "Form" "is_zero", "is_zero", "Form.is_zero", defArgs s_Form_is_zero, defBody s_Form_is_zero, defScope s_Form_is_zero⟩
def d_Form_value : HookG.GD := ⟨.met "Form" "value", "value", "Form.value", defArgs s_Form_value, defBody s_Form_value, defScope s_Form_value⟩
def d_Form_changed : HookG.GD := ⟨.met "Form" "changed", "changed", "Form.changed", defArgs s_Form_changed, defBody s_Form_changed, defScope s_Form_changed⟩
def d_Form_times_at : HookG.GD := ⟨.met "Form" "times_at", "times_at", "Form.times_at", defArgs s_Form_times_at, defBody s_Form_times_at, defScope s_Form_times_at⟩
def d_Form_mul : HookG.GD := ⟨.met "Form" "__mul__", "__mul__", "Form.__mul__", defArgs s_Form_mul, defBody s_Form_mul, defScope s_Form_mul⟩
def d_Form_eq : HookG.GD := ⟨.met "Form" "__eq__", "__eq__", "Form.__eq__", defArgs s_Form_eq, defBody s_Form_eq, defScope s_Form_eq⟩
def fnL : List HookG.GD := [d_is_whole, d_is_short, d_are_wholes, d_are_short, d_require_short, d_first_of, d_is_point_any, d_is_point, d_require_point, d_is_change, d_require_change, d_product_in, d_joined_entries, d_line_in, d_value_in, d_changed_in, d_is_zero_in, d_first_index, d_quotient_in, d_times_in, d_are_entries, d_form_of, d_line_of, d_law_dice, d_law_roll, d_law_pick, d_law_near, d_law_gcd, d_law_shared, d_law_plus, d_law_scaled, d_law_product, d_law_all_product, d_law_power, d_law_by_x, d_law_by_y, d_law_derived, d_law_value, d_law_plain, d_law_line, d_law_point, d_law_points, d_law_small_form, d_law_form, d_law_live_form, d_law_table, d_law_often, d_law_right, d_law, d_Told_init, d_Form_init, d_Form_of_points, d_Form_entries, d_Form_degree, d_Form_is_zero, d_Form_value, d_Form_changed, d_Form_times_at, d_Form_mul, d_Form_eq]
def faL : List He.Fa := [.glo "is_whole", .glo "is_short", .glo "are_wholes", .glo "are_short", .glo "require_short", .glo "first_of", .glo "is_point_any", .glo "is_point", .glo "require_point", .glo "is_change", .glo "require_change", .glo "product_in", .glo "joined_entries", .glo "line_in", .glo "value_in", .glo "changed_in", .glo "is_zero_in", .glo "first_index", .glo "quotient_in", .glo "times_in", .glo "are_entries", .glo "form_of", .glo "line_of", .glo "_law_dice", .glo "_law_roll", .glo "_law_pick", .glo "_law_near", .glo "_law_gcd", .glo "_law_shared", .glo "_law_plus", .glo "_law_scaled", .glo "_law_product", .glo "_law_all_product", .glo "_law_power", .glo "_law_by_x", .glo "_law_by_y", .glo "_law_derived", .glo "_law_value", .glo "_law_plain", .glo "_law_line", .glo "_law_point", .glo "_law_points", .glo "_law_small_form", .glo "_law_form", .glo "_law_live_form", .glo "_law_table", .glo "_law_often", .glo "_law_right", .glo "law", .glo "Told", .glo "Form", .free "abs", .free "all", .free "any", .free "bool", .free "enumerate", .free "int", .free "isinstance", .free "len", .free "list", .free "max", .free "min", .free "next", .free "range", .free "set", .free "sorted", .free "tuple", .free "zip", .int "GREATEST" 1000000000000000000000000000000000000000000000000000000000000, .int "MAX_DEGREE" 40, .int "MAX_POINTS" 40, .mkr "Told", .mkr "Form"]
def tfL : List HookG.At := [(HookG.At.glo "first_index"), (HookG.At.glo "first_of")]
def exL (K : PySem.W.Frag) : Bool := He.eqO (PySem.W.nsIn K mainGlobals "gcd") (some (some (.builtin "math.gcd"))) && (OwnF.ocB K "Told" && (HookG.slotB K "Told" "own_row" 0 && (OwnF.ocB K "Form" && (HookG.slotB K "Form" "own_entries" 0 && (HookG.mtB K "Told" "__init__" && (HookG.mtB K "Form" "__init__" && (OwnC.cmB K "Form" "of_points" && (HookG.prB K "Form" "entries" && (HookG.prB K "Form" "degree" && (HookG.prB K "Form" "is_zero" && (HookG.mtB K "Form" "value" && (HookG.mtB K "Form" "changed" && (HookG.mtB K "Form" "times_at" && (HookG.mtB K "Form" "__mul__" && (HookG.mtB K "Form" "__eq__" && (HookG.dO (PySem.W.kitOne K (.ref (He.ga K "Told")) (.ref (He.ga K "Form"))) (some false) && (HookG.dO (PySem.W.kitOne K (.ref (He.ga K "Form")) (.ref (He.ga K "Told"))) (some false))))))))))))))))))
theorem facts_of {K : PySem.W.Frag} {h : Heap} {mg : Str → Option Value} (X : K.In h) (G : h.Ns mainGlobals mg) (c : HookG.SaysG faL fnL exL K) : Nonempty (Facts K mg) := by
  have ex := c.more
  unfold exL at ex
  obtain ⟨ex_0, ex⟩ := He.ba ex
  obtain ⟨ex_1, ex⟩ := He.ba ex
  obtain ⟨ex_2, ex⟩ := He.ba ex
  obtain ⟨ex_3, ex⟩ := He.ba ex
  obtain ⟨ex_4, ex⟩ := He.ba ex
  obtain ⟨ex_5, ex⟩ := He.ba ex
  obtain ⟨ex_6, ex⟩ := He.ba ex
  obtain ⟨ex_7, ex⟩ := He.ba ex
  obtain ⟨ex_8, ex⟩ := He.ba ex
  obtain ⟨ex_9, ex⟩ := He.ba ex
  obtain ⟨ex_10, ex⟩ := He.ba ex
  obtain ⟨ex_11, ex⟩ := He.ba ex
  obtain ⟨ex_12, ex⟩ := He.ba ex
  obtain ⟨ex_13, ex⟩ := He.ba ex
  obtain ⟨ex_14, ex⟩ := He.ba ex
  obtain ⟨ex_15, ex⟩ := He.ba ex
  obtain ⟨ex_16, ex⟩ := He.ba ex
  obtain ⟨fd_is_whole, F_is_whole⟩ := c.def_ 0 (d := d_is_whole) rfl
  obtain ⟨fd_is_short, F_is_short⟩ := c.def_ 1 (d := d_is_short) rfl
  obtain ⟨fd_are_wholes, F_are_wholes⟩ := c.def_ 2 (d := d_are_wholes) rfl
  obtain ⟨fd_are_short, F_are_short⟩ := c.def_ 3 (d := d_are_short) rfl
  obtain ⟨fd_require_short, F_require_short⟩ := c.def_ 4 (d := d_require_short) rfl
  obtain ⟨fd_first_of, F_first_of⟩ := c.def_ 5 (d := d_first_of) rfl
  obtain ⟨fd_is_point_any, F_is_point_any⟩ := c.def_ 6 (d := d_is_point_any) rfl
  obtain ⟨fd_is_point, F_is_point⟩ := c.def_ 7 (d := d_is_point) rfl
  obtain ⟨fd_require_point, F_require_point⟩ := c.def_ 8 (d := d_require_point) rfl
  obtain ⟨fd_is_change, F_is_change⟩ := c.def_ 9 (d := d_is_change) rfl
  obtain ⟨fd_require_change, F_require_change⟩ := c.def_ 10 (d := d_require_change) rfl
  obtain ⟨fd_product_in, F_product_in⟩ := c.def_ 11 (d := d_product_in) rfl
  obtain ⟨fd_joined_entries, F_joined_entries⟩ := c.def_ 12 (d := d_joined_entries) rfl
  obtain ⟨fd_line_in, F_line_in⟩ := c.def_ 13 (d := d_line_in) rfl
  obtain ⟨fd_value_in, F_value_in⟩ := c.def_ 14 (d := d_value_in) rfl
  obtain ⟨fd_changed_in, F_changed_in⟩ := c.def_ 15 (d := d_changed_in) rfl
  obtain ⟨fd_is_zero_in, F_is_zero_in⟩ := c.def_ 16 (d := d_is_zero_in) rfl
  obtain ⟨fd_first_index, F_first_index⟩ := c.def_ 17 (d := d_first_index) rfl
  obtain ⟨fd_quotient_in, F_quotient_in⟩ := c.def_ 18 (d := d_quotient_in) rfl
  obtain ⟨fd_times_in, F_times_in⟩ := c.def_ 19 (d := d_times_in) rfl
  obtain ⟨fd_are_entries, F_are_entries⟩ := c.def_ 20 (d := d_are_entries) rfl
  obtain ⟨fd_form_of, F_form_of⟩ := c.def_ 21 (d := d_form_of) rfl
  obtain ⟨fd_line_of, F_line_of⟩ := c.def_ 22 (d := d_line_of) rfl
  obtain ⟨fd_law_dice, F_law_dice⟩ := c.def_ 23 (d := d_law_dice) rfl
  obtain ⟨fd_law_roll, F_law_roll⟩ := c.def_ 24 (d := d_law_roll) rfl
  obtain ⟨fd_law_pick, F_law_pick⟩ := c.def_ 25 (d := d_law_pick) rfl
  obtain ⟨fd_law_near, F_law_near⟩ := c.def_ 26 (d := d_law_near) rfl
  obtain ⟨fd_law_gcd, F_law_gcd⟩ := c.def_ 27 (d := d_law_gcd) rfl
  obtain ⟨fd_law_shared, F_law_shared⟩ := c.def_ 28 (d := d_law_shared) rfl
  obtain ⟨fd_law_plus, F_law_plus⟩ := c.def_ 29 (d := d_law_plus) rfl
  obtain ⟨fd_law_scaled, F_law_scaled⟩ := c.def_ 30 (d := d_law_scaled) rfl
  obtain ⟨fd_law_product, F_law_product⟩ := c.def_ 31 (d := d_law_product) rfl
  obtain ⟨fd_law_all_product, F_law_all_product⟩ := c.def_ 32 (d := d_law_all_product) rfl
  obtain ⟨fd_law_power, F_law_power⟩ := c.def_ 33 (d := d_law_power) rfl
  obtain ⟨fd_law_by_x, F_law_by_x⟩ := c.def_ 34 (d := d_law_by_x) rfl
  obtain ⟨fd_law_by_y, F_law_by_y⟩ := c.def_ 35 (d := d_law_by_y) rfl
  obtain ⟨fd_law_derived, F_law_derived⟩ := c.def_ 36 (d := d_law_derived) rfl
  obtain ⟨fd_law_value, F_law_value⟩ := c.def_ 37 (d := d_law_value) rfl
  obtain ⟨fd_law_plain, F_law_plain⟩ := c.def_ 38 (d := d_law_plain) rfl
  obtain ⟨fd_law_line, F_law_line⟩ := c.def_ 39 (d := d_law_line) rfl
  obtain ⟨fd_law_point, F_law_point⟩ := c.def_ 40 (d := d_law_point) rfl
  obtain ⟨fd_law_points, F_law_points⟩ := c.def_ 41 (d := d_law_points) rfl
  obtain ⟨fd_law_small_form, F_law_small_form⟩ := c.def_ 42 (d := d_law_small_form) rfl
  obtain ⟨fd_law_form, F_law_form⟩ := c.def_ 43 (d := d_law_form) rfl
  obtain ⟨fd_law_live_form, F_law_live_form⟩ := c.def_ 44 (d := d_law_live_form) rfl
  obtain ⟨fd_law_table, F_law_table⟩ := c.def_ 45 (d := d_law_table) rfl
  obtain ⟨fd_law_often, F_law_often⟩ := c.def_ 46 (d := d_law_often) rfl
  obtain ⟨fd_law_right, F_law_right⟩ := c.def_ 47 (d := d_law_right) rfl
  obtain ⟨fd_law, F_law⟩ := c.def_ 48 (d := d_law) rfl
  obtain ⟨fd_Told_init, F_Told_init⟩ := c.def_ 49 (d := d_Told_init) rfl
  obtain ⟨fd_Form_init, F_Form_init⟩ := c.def_ 50 (d := d_Form_init) rfl
  obtain ⟨fd_Form_of_points, F_Form_of_points⟩ := c.def_ 51 (d := d_Form_of_points) rfl
  obtain ⟨fd_Form_entries, F_Form_entries⟩ := c.def_ 52 (d := d_Form_entries) rfl
  obtain ⟨fd_Form_degree, F_Form_degree⟩ := c.def_ 53 (d := d_Form_degree) rfl
  obtain ⟨fd_Form_is_zero, F_Form_is_zero⟩ := c.def_ 54 (d := d_Form_is_zero) rfl
  obtain ⟨fd_Form_value, F_Form_value⟩ := c.def_ 55 (d := d_Form_value) rfl
  obtain ⟨fd_Form_changed, F_Form_changed⟩ := c.def_ 56 (d := d_Form_changed) rfl
  obtain ⟨fd_Form_times_at, F_Form_times_at⟩ := c.def_ 57 (d := d_Form_times_at) rfl
  obtain ⟨fd_Form_mul, F_Form_mul⟩ := c.def_ 58 (d := d_Form_mul) rfl
  obtain ⟨fd_Form_eq, F_Form_eq⟩ := c.def_ 59 (d := d_Form_eq) rfl
  exact ⟨{ f_is_whole := _, fd_is_whole := _, F_is_whole := F_is_whole, b_is_whole := (F_is_whole.bindsN fun _ _ _ _ _ _ us hl => match us, hl with | [_], _ => rfl), g_is_whole := He.glo_ok X G (c.fact 0 (f := .glo "is_whole") rfl), f_is_short := _, fd_is_short := _, F_is_short := F_is_short, b_is_short := (F_is_short.bindsN fun _ _ _ _ _ _ us hl => match us, hl with | [_], _ => rfl), g_is_short := He.glo_ok X G (c.fact 1 (f := .glo "is_short") rfl), f_are_wholes := _, fd_are_wholes := _, F_are_wholes := F_are_wholes, b_are_wholes := (F_are_wholes.bindsN fun _ _ _ _ _ _ us hl => match us, hl with | [_], _ => rfl), g_are_wholes := He.glo_ok X G (c.fact 2 (f := .glo "are_wholes") rfl), f_are_short := _, fd_are_short := _, F_are_short := F_are_short, b_are_short := (F_are_short.bindsN fun _ _ _ _ _ _ us hl => match us, hl with | [_], _ => rfl), g_are_short := He.glo_ok X G (c.fact 3 (f := .glo "are_short") rfl), f_require_short := _, fd_require_short := _, F_require_short := F_require_short, b_require_short := (F_require_short.bindsN fun _ _ _ _ _ _ us hl => match us, hl with | [_], _ => rfl), g_require_short := He.glo_ok X G (c.fact 4 (f := .glo "require_short") rfl), f_first_of := _, fd_first_of := _, F_first_of := F_first_of, b_first_of := (F_first_of.bindsN fun _ _ _ _ _ _ us hl => match us, hl with | [_], _ => rfl), g_first_of := He.glo_ok X G (c.fact 5 (f := .glo "first_of") rfl), f_is_point_any := _, fd_is_point_any := _, F_is_point_any := F_is_point_any, b_is_point_any := (F_is_point_any.bindsN fun _ _ _ _ _ _ us hl => match us, hl with | [_], _ => rfl), g_is_point_any := He.glo_ok X G (c.fact 6 (f := .glo "is_point_any") rfl), f_is_point := _, fd_is_point := _, F_is_point := F_is_point, b_is_point := (F_is_point.bindsN fun _ _ _ _ _ _ us hl => match us, hl with | [_], _ => rfl), g_is_point := He.glo_ok X G (c.fact 7 (f := .glo "is_point") rfl), f_require_point := _, fd_require_point := _, F_require_point := F_require_point, b_require_point := (F_require_point.bindsN fun _ _ _ _ _ _ us hl => match us, hl with | [_], _ => rfl), g_require_point := He.glo_ok X G (c.fact 8 (f := .glo "require_point") rfl), f_is_change := _, fd_is_change := _, F_is_change := F_is_change, b_is_change := (F_is_change.bindsN fun _ _ _ _ _ _ us hl => match us, hl with | [_], _ => rfl), g_is_change := He.glo_ok X G (c.fact 9 (f := .glo "is_change") rfl), f_require_change := _, fd_require_change := _, F_require_change := F_require_change, b_require_change := (F_require_change.bindsN fun _ _ _ _ _ _ us hl => match us, hl with | [_], _ => rfl), g_require_change := He.glo_ok X G (c.fact 10 (f := .glo "require_change") rfl), f_product_in := _, fd_product_in := _, F_product_in := F_product_in, b_product_in := (F_product_in.bindsN fun _ _ _ _ _ _ us hl => match us, hl with | [_, _], _ => rfl), g_product_in := He.glo_ok X G (c.fact 11 (f := .glo "product_in") rfl), f_joined_entries := _, fd_joined_entries := _, F_joined_entries := F_joined_entries, b_joined_entries := (F_joined_entries.bindsN fun _ _ _ _ _ _ us hl => match us, hl with | [_, _], _ => rfl), g_joined_entries := He.glo_ok X G (c.fact 12 (f := .glo "joined_entries") rfl), f_line_in := _, fd_line_in := _, F_line_in := F_line_in, b_line_in := (F_line_in.bindsN fun _ _ _ _ _ _ us hl => match us, hl with | [_], _ => rfl), g_line_in := He.glo_ok X G (c.fact 13 (f := .glo "line_in") rfl), f_value_in := _, fd_value_in := _, F_value_in := F_value_in, b_value_in := (F_value_in.bindsN fun _ _ _ _ _ _ us hl => match us, hl with | [_, _, _], _ => rfl), g_value_in := He.glo_ok X G (c.fact 14 (f := .glo "value_in") rfl), f_changed_in := _, fd_changed_in := _, F_changed_in := F_changed_in, b_changed_in := (F_changed_in.bindsN fun _ _ _ _ _ _ us hl => match us, hl with | [_, _], _ => rfl), g_changed_in := He.glo_ok X G (c.fact 15 (f := .glo "changed_in") rfl), f_is_zero_in := _, fd_is_zero_in := _, F_is_zero_in := F_is_zero_in, b_is_zero_in := (F_is_zero_in.bindsN fun _ _ _ _ _ _ us hl => match us, hl with | [_], _ => rfl), g_is_zero_in := He.glo_ok X G (c.fact 16 (f := .glo "is_zero_in") rfl), f_first_index := _, fd_first_index := _, F_first_index := F_first_index, b_first_index := (F_first_index.bindsN fun _ _ _ _ _ _ us hl => match us, hl with | [_], _ => rfl), g_first_index := He.glo_ok X G (c.fact 17 (f := .glo "first_index") rfl), f_quotient_in := _, fd_quotient_in := _, F_quotient_in := F_quotient_in, b_quotient_in := (F_quotient_in.bindsN fun _ _ _ _ _ _ us hl => match us, hl with | [_, _], _ => rfl), g_quotient_in := He.glo_ok X G (c.fact 18 (f := .glo "quotient_in") rfl), f_times_in := _, fd_times_in := _, F_times_in := F_times_in, b_times_in := (F_times_in.bindsN fun _ _ _ _ _ _ us hl => match us, hl with | [_, _], _ => rfl), g_times_in := He.glo_ok X G (c.fact 19 (f := .glo "times_in") rfl), f_are_entries := _, fd_are_entries := _, F_are_entries := F_are_entries, b_are_entries := (F_are_entries.bindsN fun _ _ _ _ _ _ us hl => match us, hl with | [_], _ => rfl), g_are_entries := He.glo_ok X G (c.fact 20 (f := .glo "are_entries") rfl), f_form_of := _, fd_form_of := _, F_form_of := F_form_of, b_form_of := (F_form_of.bindsN fun _ _ _ _ _ _ us hl => match us, hl with | [_], _ => rfl), g_form_of := He.glo_ok X G (c.fact 21 (f := .glo "form_of") rfl), f_line_of := _, fd_line_of := _, F_line_of := F_line_of, b_line_of := (F_line_of.bindsN fun _ _ _ _ _ _ us hl => match us, hl with | [_], _ => rfl), g_line_of := He.glo_ok X G (c.fact 22 (f := .glo "line_of") rfl), f_law_dice := _, fd_law_dice := _, F_law_dice := F_law_dice, b_law_dice := (F_law_dice.bindsN fun _ _ _ _ _ _ us hl => match us, hl with | [_, _], _ => rfl), g_law_dice := He.glo_ok X G (c.fact 23 (f := .glo "_law_dice") rfl), f_law_roll := _, fd_law_roll := _, F_law_roll := F_law_roll, b_law_roll := (F_law_roll.bindsN fun _ _ _ _ _ _ us hl => match us, hl with | [_, _], _ => rfl), g_law_roll := He.glo_ok X G (c.fact 24 (f := .glo "_law_roll") rfl), f_law_pick := _, fd_law_pick := _, F_law_pick := F_law_pick, b_law_pick := (F_law_pick.bindsN fun _ _ _ _ _ _ us hl => match us, hl with | [_, _], _ => rfl), g_law_pick := He.glo_ok X G (c.fact 25 (f := .glo "_law_pick") rfl), f_law_near := _, fd_law_near := _, F_law_near := F_law_near, b_law_near := (F_law_near.bindsN fun _ _ _ _ _ _ us hl => match us, hl with | [_, _], _ => rfl), g_law_near := He.glo_ok X G (c.fact 26 (f := .glo "_law_near") rfl), f_law_gcd := _, fd_law_gcd := _, F_law_gcd := F_law_gcd, b_law_gcd := (F_law_gcd.bindsN fun _ _ _ _ _ _ us hl => match us, hl with | [_, _], _ => rfl), g_law_gcd := He.glo_ok X G (c.fact 27 (f := .glo "_law_gcd") rfl), f_law_shared := _, fd_law_shared := _, F_law_shared := F_law_shared, b_law_shared := (F_law_shared.bindsN fun _ _ _ _ _ _ us hl => match us, hl with | [_], _ => rfl), g_law_shared := He.glo_ok X G (c.fact 28 (f := .glo "_law_shared") rfl), f_law_plus := _, fd_law_plus := _, F_law_plus := F_law_plus, b_law_plus := (F_law_plus.bindsN fun _ _ _ _ _ _ us hl => match us, hl with | [_, _], _ => rfl), g_law_plus := He.glo_ok X G (c.fact 29 (f := .glo "_law_plus") rfl), f_law_scaled := _, fd_law_scaled := _, F_law_scaled := F_law_scaled, b_law_scaled := (F_law_scaled.bindsN fun _ _ _ _ _ _ us hl => match us, hl with | [_, _], _ => rfl), g_law_scaled := He.glo_ok X G (c.fact 30 (f := .glo "_law_scaled") rfl), f_law_product := _, fd_law_product := _, F_law_product := F_law_product, b_law_product := (F_law_product.bindsN fun _ _ _ _ _ _ us hl => match us, hl with | [_, _], _ => rfl), g_law_product := He.glo_ok X G (c.fact 31 (f := .glo "_law_product") rfl), f_law_all_product := _, fd_law_all_product := _, F_law_all_product := F_law_all_product, b_law_all_product := (F_law_all_product.bindsN fun _ _ _ _ _ _ us hl => match us, hl with | [_], _ => rfl), g_law_all_product := He.glo_ok X G (c.fact 32 (f := .glo "_law_all_product") rfl), f_law_power := _, fd_law_power := _, F_law_power := F_law_power, b_law_power := (F_law_power.bindsN fun _ _ _ _ _ _ us hl => match us, hl with | [_, _], _ => rfl), g_law_power := He.glo_ok X G (c.fact 33 (f := .glo "_law_power") rfl), f_law_by_x := _, fd_law_by_x := _, F_law_by_x := F_law_by_x, b_law_by_x := (F_law_by_x.bindsN fun _ _ _ _ _ _ us hl => match us, hl with | [_], _ => rfl), g_law_by_x := He.glo_ok X G (c.fact 34 (f := .glo "_law_by_x") rfl), f_law_by_y := _, fd_law_by_y := _, F_law_by_y := F_law_by_y, b_law_by_y := (F_law_by_y.bindsN fun _ _ _ _ _ _ us hl => match us, hl with | [_], _ => rfl), g_law_by_y := He.glo_ok X G (c.fact 35 (f := .glo "_law_by_y") rfl), f_law_derived := _, fd_law_derived := _, F_law_derived := F_law_derived, b_law_derived := (F_law_derived.bindsN fun _ _ _ _ _ _ us hl => match us, hl with | [_, _, _], _ => rfl), g_law_derived := He.glo_ok X G (c.fact 36 (f := .glo "_law_derived") rfl), f_law_value := _, fd_law_value := _, F_law_value := F_law_value, b_law_value := (F_law_value.bindsN fun _ _ _ _ _ _ us hl => match us, hl with | [_, _, _], _ => rfl), g_law_value := He.glo_ok X G (c.fact 37 (f := .glo "_law_value") rfl), f_law_plain := _, fd_law_plain := _, F_law_plain := F_law_plain, b_law_plain := (F_law_plain.bindsN fun _ _ _ _ _ _ us hl => match us, hl with | [_], _ => rfl), g_law_plain := He.glo_ok X G (c.fact 38 (f := .glo "_law_plain") rfl), f_law_line := _, fd_law_line := _, F_law_line := F_law_line, b_law_line := (F_law_line.bindsN fun _ _ _ _ _ _ us hl => match us, hl with | [_], _ => rfl), g_law_line := He.glo_ok X G (c.fact 39 (f := .glo "_law_line") rfl), f_law_point := _, fd_law_point := _, F_law_point := F_law_point, b_law_point := (F_law_point.bindsN fun _ _ _ _ _ _ us hl => match us, hl with | [_, _], _ => rfl), g_law_point := He.glo_ok X G (c.fact 40 (f := .glo "_law_point") rfl), f_law_points := _, fd_law_points := _, F_law_points := F_law_points, b_law_points := (F_law_points.bindsN fun _ _ _ _ _ _ us hl => match us, hl with | [_, _, _], _ => rfl), g_law_points := He.glo_ok X G (c.fact 41 (f := .glo "_law_points") rfl), f_law_small_form := _, fd_law_small_form := _, F_law_small_form := F_law_small_form, b_law_small_form := (F_law_small_form.bindsN fun _ _ _ _ _ _ us hl => match us, hl with | [_, _, _], _ => rfl), g_law_small_form := He.glo_ok X G (c.fact 42 (f := .glo "_law_small_form") rfl), f_law_form := _, fd_law_form := _, F_law_form := F_law_form, b_law_form := (F_law_form.bindsN fun _ _ _ _ _ _ us hl => match us, hl with | [_, _], _ => rfl), g_law_form := He.glo_ok X G (c.fact 43 (f := .glo "_law_form") rfl), f_law_live_form := _, fd_law_live_form := _, F_law_live_form := F_law_live_form, b_law_live_form := (F_law_live_form.bindsN fun _ _ _ _ _ _ us hl => match us, hl with | [_, _], _ => rfl), g_law_live_form := He.glo_ok X G (c.fact 44 (f := .glo "_law_live_form") rfl), f_law_table := _, fd_law_table := _, F_law_table := F_law_table, b_law_table := (F_law_table.bindsN fun _ _ _ _ _ _ us hl => match us, hl with | [_, _], _ => rfl), g_law_table := He.glo_ok X G (c.fact 45 (f := .glo "_law_table") rfl), f_law_often := _, fd_law_often := _, F_law_often := F_law_often, b_law_often := (F_law_often.bindsN fun _ _ _ _ _ _ us hl => match us, hl with | [_, _], _ => rfl), g_law_often := He.glo_ok X G (c.fact 46 (f := .glo "_law_often") rfl), f_law_right := _, fd_law_right := _, F_law_right := F_law_right, b_law_right := (F_law_right.bindsN fun _ _ _ _ _ _ us hl => match us, hl with | [_], _ => rfl), g_law_right := He.glo_ok X G (c.fact 47 (f := .glo "_law_right") rfl), f_law := _, fd_law := _, F_law := F_law, b_law := (F_law.bindsN fun _ _ _ _ _ _ us hl => match us, hl with | [_], _ => rfl), g_law := He.glo_ok X G (c.fact 48 (f := .glo "law") rfl), f_Told_init := _, fd_Told_init := _, F_Told_init := F_Told_init, b_Told_init := (F_Told_init.bindsN fun _ _ _ _ _ _ us hl => match us, hl with | [_, _], _ => rfl), f_Form_init := _, fd_Form_init := _, F_Form_init := F_Form_init, b_Form_init := (F_Form_init.bindsN fun _ _ _ _ _ _ us hl => match us, hl with | [_, _], _ => rfl), f_Form_of_points := _, fd_Form_of_points := _, F_Form_of_points := F_Form_of_points, b_Form_of_points := (F_Form_of_points.bindsN fun _ _ _ _ _ _ us hl => match us, hl with | [_, _], _ => rfl), f_Form_entries := _, fd_Form_entries := _, F_Form_entries := F_Form_entries, b_Form_entries := (F_Form_entries.bindsN fun _ _ _ _ _ _ us hl => match us, hl with | [_], _ => rfl), f_Form_degree := _, fd_Form_degree := _, F_Form_degree := F_Form_degree, b_Form_degree := (F_Form_degree.bindsN fun _ _ _ _ _ _ us hl => match us, hl with | [_], _ => rfl), f_Form_is_zero := _, fd_Form_is_zero := _, F_Form_is_zero := F_Form_is_zero, b_Form_is_zero := (F_Form_is_zero.bindsN fun _ _ _ _ _ _ us hl => match us, hl with | [_], _ => rfl), f_Form_value := _, fd_Form_value := _, F_Form_value := F_Form_value, b_Form_value := (F_Form_value.bindsN fun _ _ _ _ _ _ us hl => match us, hl with | [_, _, _], _ => rfl), f_Form_changed := _, fd_Form_changed := _, F_Form_changed := F_Form_changed, b_Form_changed := (F_Form_changed.bindsN fun _ _ _ _ _ _ us hl => match us, hl with | [_, _], _ => rfl), f_Form_times_at := _, fd_Form_times_at := _, F_Form_times_at := F_Form_times_at, b_Form_times_at := (F_Form_times_at.bindsN fun _ _ _ _ _ _ us hl => match us, hl with | [_, _], _ => rfl), f_Form_mul := _, fd_Form_mul := _, F_Form_mul := F_Form_mul, b_Form_mul := (F_Form_mul.bindsN fun _ _ _ _ _ _ us hl => match us, hl with | [_, _], _ => rfl), f_Form_eq := _, fd_Form_eq := _, F_Form_eq := F_Form_eq, b_Form_eq := (F_Form_eq.bindsN fun _ _ _ _ _ _ us hl => match us, hl with | [_, _], _ => rfl), C_Told := He.ga K "Told", g_Told := He.glo_ok X G (c.fact 49 (f := .glo "Told") rfl), mk_Told := He.mkr_ok (c.fact 71 (f := .mkr "Told") rfl), C_Form := He.ga K "Form", g_Form := He.glo_ok X G (c.fact 50 (f := .glo "Form") rfl), mk_Form := He.mkr_ok (c.fact 72 (f := .mkr "Form") rfl), z_abs := He.free_ok X G (c.fact 51 (f := .free "abs") rfl), z_all := He.free_ok X G (c.fact 52 (f := .free "all") rfl), z_any := He.free_ok X G (c.fact 53 (f := .free "any") rfl), z_bool := He.free_ok X G (c.fact 54 (f := .free "bool") rfl), z_enumerate := He.free_ok X G (c.fact 55 (f := .free "enumerate") rfl), z_int := He.free_ok X G (c.fact 56 (f := .free "int") rfl), z_isinstance := He.free_ok X G (c.fact 57 (f := .free "isinstance") rfl), z_len := He.free_ok X G (c.fact 58 (f := .free "len") rfl), z_list := He.free_ok X G (c.fact 59 (f := .free "list") rfl), z_max := He.free_ok X G (c.fact 60 (f := .free "max") rfl), z_min := He.free_ok X G (c.fact 61 (f := .free "min") rfl), z_next := He.free_ok X G (c.fact 62 (f := .free "next") rfl), z_range := He.free_ok X G (c.fact 63 (f := .free "range") rfl), z_set := He.free_ok X G (c.fact 64 (f := .free "set") rfl), z_sorted := He.free_ok X G (c.fact 65 (f := .free "sorted") rfl), z_tuple := He.free_ok X G (c.fact 66 (f := .free "tuple") rfl), z_zip := He.free_ok X G (c.fact 67 (f := .free "zip") rfl), c_GREATEST := He.int_ok X G (c.fact 68 (f := .int "GREATEST" 1000000000000000000000000000000000000000000000000000000000000) rfl), c_MAX_DEGREE := He.int_ok X G (c.fact 69 (f := .int "MAX_DEGREE" 40) rfl), c_MAX_POINTS := He.int_ok X G (c.fact 70 (f := .int "MAX_POINTS" 40) rfl), c_first_index := HookT.codA K ((HookG.At.glo "first_index").adr K), P_first_index := He.tabOf K (HookT.codA K ((HookG.At.glo "first_index").adr K)), code_first_index := HookT.code_of F_first_index, tab_first_index := rfl, c_first_of := HookT.codA K ((HookG.At.glo "first_of").adr K), P_first_of := He.tabOf K (HookT.codA K ((HookG.At.glo "first_of").adr K)), code_first_of := HookT.code_of F_first_of, tab_first_of := rfl, m_gcd := PySem.W.mg_of X G (He.eqO_ok ex_0), oc_Told := OwnF.ocB_ok ex_1, a_own_row := _, sl_own_row := HookG.slotB_ok ex_2 (by decide), oc_Form := OwnF.ocB_ok ex_3, a_own_entries := _, sl_own_entries := HookG.slotB_ok ex_4 (by decide), mt_Told_init := HookG.mtB_ok ex_5, mt_Form_init := HookG.mtB_ok ex_6, p_Form_of_points := _, cm_Form_of_points := OwnC.cmB_ok ex_7, p_Form_entries := _, pr_Form_entries := HookG.prB_ok ex_8, p_Form_degree := _, pr_Form_degree := HookG.prB_ok ex_9, p_Form_is_zero := _, pr_Form_is_zero := HookG.prB_ok ex_10, mt_Form_value := HookG.mtB_ok ex_11, mt_Form_changed := HookG.mtB_ok ex_12, mt_Form_times_at := HookG.mtB_ok ex_13, mt_Form_mul := HookG.mtB_ok ex_14, mt_Form_eq := HookG.mtB_ok ex_15, kit_Told_Form := HookG.dO_ok ex_16, kit_Form_Told := HookG.dO_ok ex }⟩

end K06

set_option Elab.async false
set_option linter.all false
set_option maxRecDepth 100000
set_option maxHeartbeats 0
namespace K06
open PySem PySem.Spec PyProof.Rows L2
abbrev R : PySem.W.OpenRow := PySem.W.OpenLaw.row PySem.Challenge.rw_sourceforms_k06_whole_roots_and_lines
abbrev hk : PySem.W.Hook := HookT.hookT 5 faL fnL tfL exL
def ob (s : PySem.W.SharedT) : HookT.AlGT := HookT.obsGT 5 faL fnL tfL exL (HandSHeadRun.getT s)
theorem ob_eq (s : PySem.W.SharedT) : ob s = hk.obs s.abs := HookT.obsGT_eq (HandSHeadRun.getT_eq s)
def loose0 : List Str := ["_wall", "LetterError", "InvalidForm", "InvalidTable", "InvalidPoint", "InvalidOperation", "InvalidNumber", "TooMany", "GREATEST", "is_whole", "is_short", "is_from", "are_wholes", "are_short", "require_short", "require_from", "first_of", "is_point_any", "is_point", "require_point", "is_change", "require_change", "MAX_DEGREE", "MAX_POINTS", "product_in", "joined_entries", "power_in", "line_in", "value_in", "changed_in"]
def loose1 : List Str := ["is_zero_in", "first_index", "quotient_in", "times_in", "Told", "are_entries", "Form", "form_of", "sum_in", "line_of", "_law_dice", "_law_roll", "_law_pick", "_law_near", "_law_gcd", "_law_shared", "_law_plus", "_law_scaled", "_law_product", "_law_all_product", "_law_power", "_law_by_x", "_law_by_y", "_law_derived", "_law_value", "_law_plain", "_law_line", "_law_point", "_law_points", "_law_small_form"]
def loose2 : List Str := ["_law_form", "_law_live_form", "_law_table", "_law_often", "_law_right"]
def loose : List Str := loose0 ++ loose1 ++ loose2
theorem run (w : World) : HandSHeadRun.RunEqI R (PySem.W.view R.prog [0, 70]) hk ob 9000 loose w := by
  show (_ : Option _) = _
  kernel_rfl
end K06

set_option Elab.async false
set_option linter.all false
set_option maxRecDepth 100000
/-! products of forms: the plain law -/
namespace K06
/-- the entry at a place, 0 behind the end -/
def co (l : List Int) (k : Nat) : Int := l.getD k 0
/-- the entries of a product -/
def cv : List Int → (Nat → Int) → Nat → Int
  | [], _, _ => 0
  | x :: xs, g, k => x * g k + (match k with
    | 0 => 0
    | k + 1 => cv xs g k)
theorem cv_nil (g : Nat → Int) (k : Nat) : cv [] g k = 0 := rfl
theorem cv_zero (x : Int) (xs : List Int) (g : Nat → Int) : cv (x :: xs) g 0 = x * g 0 := by show x * g 0 + 0 = _; omega
theorem cv_succ (x : Int) (xs : List Int) (g : Nat → Int) (k : Nat) : cv (x :: xs) g (k + 1) = x * g (k + 1) + cv xs g k := rfl
theorem cv_congr {g h : Nat → Int} : ∀ (l : List Int) (k : Nat), (∀ i, i ≤ k → g i = h i) → cv l g k = cv l h k
  | [], _, _ => rfl
  | x :: xs, 0, e => by rw [cv_zero, cv_zero, e 0 (Nat.le_refl _)]
  | x :: xs, k + 1, e => by rw [cv_succ, cv_succ, e (k + 1) (Nat.le_refl _), cv_congr xs k fun i hi => e i (by omega)]
theorem cv_ext {g h : Nat → Int} (l : List Int) (e : ∀ i, g i = h i) (k : Nat) : cv l g k = cv l h k := cv_congr l k fun i _ => e i
theorem cv_add (l : List Int) (g h : Nat → Int) : ∀ k, cv l (fun i => g i + h i) k = cv l g k + cv l h k := by
  induction l with
  | nil => intro k; rfl
  | cons x xs ih =>
    intro k
    cases k with
    | zero => rw [cv_zero, cv_zero, cv_zero, Int.mul_add]
    | succ k => rw [cv_succ, cv_succ, cv_succ, ih, Int.mul_add]; omega
theorem cv_mul (l : List Int) (c : Int) (g : Nat → Int) : ∀ k, cv l (fun i => c * g i) k = c * cv l g k := by
  induction l with
  | nil => intro k; show (0 : Int) = c * 0; rw [Int.mul_zero]
  | cons x xs ih =>
    intro k
    cases k with
    | zero => rw [cv_zero, cv_zero]; rw [← Int.mul_assoc, Int.mul_comm x c, Int.mul_assoc]
    | succ k => rw [cv_succ, cv_succ, ih, Int.mul_add, ← Int.mul_assoc, Int.mul_comm x c, Int.mul_assoc]
theorem cv_zeroF (l : List Int) : ∀ k, cv l (fun _ => 0) k = 0 := by
  induction l with
  | nil => intro k; rfl
  | cons x xs ih =>
    intro k
    cases k with
    | zero => rw [cv_zero, Int.mul_zero]
    | succ k => rw [cv_succ, ih, Int.mul_zero]; rfl
/-- what is moved by one place -/
def sh (g : Nat → Int) : Nat → Int
  | 0 => 0
  | k + 1 => g k
theorem cv_sh (l : List Int) (g : Nat → Int) : ∀ k, cv l (sh g) k = sh (cv l g) k := by
  induction l with
  | nil => intro k; cases k <;> rfl
  | cons x xs ih =>
    intro k
    cases k with
    | zero => rw [cv_zero]; show x * 0 = 0; rw [Int.mul_zero]
    | succ k =>
      rw [cv_succ, ih]
      show x * g k + sh (cv xs g) k = cv (x :: xs) g k
      cases k with
      | zero => rw [cv_zero]; show x * g 0 + 0 = x * g 0; omega
      | succ k => rw [cv_succ] <;> rfl
theorem cv_cons (x : Int) (xs : List Int) (g : Nat → Int) (k : Nat) : cv (x :: xs) g k = x * g k + sh (cv xs g) k := by
  cases k with
  | zero => rw [cv_zero]; show x * g 0 = x * g 0 + 0; omega
  | succ k => rw [cv_succ] <;> rfl
theorem co_cons (x : Int) (xs : List Int) (k : Nat) : co (x :: xs) k = (if k = 0 then x else 0) + sh (co xs) k := by
  cases k with
  | zero => show x = x + 0; omega
  | succ k =>
    show co xs k = (if k + 1 = 0 then x else 0) + co xs k
    rw [if_neg (by omega)]
    omega
/-- a constant times -/
theorem cv_one (l : List Int) : ∀ k, cv l (fun i => if i = 0 then 1 else 0) k = co l k := by
  induction l with
  | nil => intro k; rfl
  | cons x xs ih =>
    intro k
    cases k with
    | zero => rw [cv_zero, if_pos rfl, Int.mul_one]; rfl
    | succ k => rw [cv_succ, if_neg (by omega), Int.mul_zero, ih]; show 0 + co xs k = co xs k; omega
theorem cv_delta (l : List Int) (x : Int) (k : Nat) : cv l (fun i => if i = 0 then x else 0) k = x * co l k := by
  rw [← cv_one l k, ← cv_mul]
  refine cv_ext l (fun i => ?_) k
  by_cases h : i = 0
  · rw [if_pos h, if_pos h, Int.mul_one]
  · rw [if_neg h, if_neg h, Int.mul_zero]
theorem cv_comm (l m : List Int) : ∀ k, cv l (co m) k = cv m (co l) k := by
  induction l with
  | nil =>
    intro k
    rw [show cv m (co []) k = cv m (fun _ => 0) k from cv_ext m (fun i => rfl) k, cv_zeroF]
    rfl
  | cons x xs ih =>
    intro k
    rw [cv_cons, cv_ext m (h := fun i => (if i = 0 then x else 0) + sh (co xs) i) (fun i => co_cons x xs i), cv_add, cv_delta, cv_sh]
    congr 1
    cases k with
    | zero => rfl
    | succ k => exact ih k
theorem cv_far {g : Nat → Int} {b : Nat} (hb : 1 ≤ b) (hg : ∀ i, b ≤ i → g i = 0) : ∀ (l : List Int) (k : Nat), l.length + b ≤ k + 1 → cv l g k = 0
  | [], _, _ => rfl
  | x :: xs, 0, h => by rw [List.length_cons] at h; omega
  | x :: xs, k + 1, h => by
    rw [List.length_cons] at h
    rw [cv_succ, hg _ (by omega), Int.mul_zero, cv_far hb hg xs k (by omega)]
    rfl
/-- the first n values -/
def tb (n : Nat) (f : Nat → Int) : List Int := (List.range n).map f
theorem tb_len (n : Nat) (f : Nat → Int) : (tb n f).length = n := by
  unfold tb
  rw [List.length_map, List.length_range]
theorem co_tb {n : Nat} {f : Nat → Int} (k : Nat) : co (tb n f) k = if k < n then f k else 0 := by
  unfold co tb
  rw [List.getD_eq_getElem?_getD, List.getElem?_map]
  by_cases h : k < n
  · rw [List.getElem?_range h, if_pos h]
    rfl
  · rw [List.getElem?_eq_none (by rw [List.length_range]; omega), if_neg h]
    rfl
theorem co_far {l : List Int} {i : Nat} (h : l.length ≤ i) : co l i = 0 := by
  unfold co
  rw [List.getD_eq_getElem?_getD, List.getElem?_eq_none h]
  rfl
theorem co_get {l : List Int} {i : Nat} (h : i < l.length) : co l i = l[i] := by
  unfold co
  rw [List.getD_eq_getElem?_getD, List.getElem?_eq_getElem h]
  rfl
theorem co_inj {l m : List Int} (hl : l.length = m.length) (h : ∀ i, co l i = co m i) : l = m := by
  refine List.ext_getElem hl fun i h1 h2 => ?_
  rw [← co_get h1, ← co_get h2, h]
theorem tb_co (l : List Int) : tb l.length (co l) = l := co_inj (tb_len _ _) fun i => by
  rw [co_tb]
  split
  · rfl
  · exact (co_far (by omega)).symm
/-- the product of two forms -/
def ml (l m : List Int) : List Int := tb (l.length + m.length - 1) (cv l (co m))
theorem ml_len (l m : List Int) : (ml l m).length = l.length + m.length - 1 := tb_len _ _
theorem co_ml {l m : List Int} (hm : m ≠ []) (k : Nat) : co (ml l m) k = cv l (co m) k := by
  unfold ml
  rw [co_tb]
  by_cases h : k < l.length + m.length - 1
  · rw [if_pos h]
  · rw [if_neg h]
    have h1 : 0 < m.length := List.length_pos_iff.mpr hm
    exact (cv_far (b := m.length) (by omega) (fun i hi => co_far hi) l k (by omega)).symm
theorem ml_comm (l m : List Int) : ml l m = ml m l := by
  unfold ml
  rw [Nat.add_comm]
  unfold tb
  exact List.map_congr_left fun k _ => cv_comm l m k
theorem cv_assoc (n m : List Int) (hn : n ≠ []) (hm : m ≠ []) : ∀ (l : List Int) (k : Nat), cv (ml l m) (co n) k = cv l (co (ml m n)) k := by
  intro l
  induction l with
  | nil =>
    intro k
    rw [cv_comm, cv_ext n (h := fun _ => 0) (fun i => by rw [co_ml hm]; rfl), cv_zeroF]
    rfl
  | cons x xs ih =>
    intro k
    rw [cv_comm, cv_ext n (h := fun i => x * co m i + sh (co (ml xs m)) i) (fun i => by
      rw [co_ml hm, cv_cons]
      congr 1
      cases i with
      | zero => rfl
      | succ i => exact (co_ml hm i).symm), cv_add, cv_mul, cv_sh, cv_cons]
    rw [show cv n (co m) k = co (ml m n) k by rw [co_ml hn, cv_comm]]
    congr 1
    cases k with
    | zero => rfl
    | succ k => 
      show cv n (co (ml xs m)) k = cv xs (co (ml m n)) k
      rw [← ih k, cv_comm]
theorem ml_ne {l m : List Int} (hl : l ≠ []) (hm : m ≠ []) : ml l m ≠ [] := by
  intro e
  have h := ml_len l m
  rw [e] at h
  have h1 : 0 < m.length := List.length_pos_iff.mpr hm
  have h2 : 0 < l.length := List.length_pos_iff.mpr hl
  have : 0 = l.length + m.length - 1 := h
  omega
theorem ml_assoc {l m n : List Int} (hl : l ≠ []) (hm : m ≠ []) (hn : n ≠ []) : ml (ml l m) n = ml l (ml m n) := by
  have h1 : 0 < m.length := List.length_pos_iff.mpr hm
  have h2 : 0 < l.length := List.length_pos_iff.mpr hl
  have h3 : 0 < n.length := List.length_pos_iff.mpr hn
  refine co_inj (by rw [ml_len, ml_len, ml_len, ml_len]; omega) fun k => ?_
  rw [co_ml hn, co_ml (ml_ne hm hn), cv_assoc n m hn hm]
/-- entry by entry -/
def pl (l m : List Int) : List Int := List.zipWith (· + ·) l m
theorem pl_len {l m : List Int} (h : l.length = m.length) : (pl l m).length = l.length := by
  unfold pl
  rw [List.length_zipWith, h, Nat.min_self]
end K06

set_option Elab.async false
set_option linter.all false
set_option maxRecDepth 100000
/-! the contents of forms -/
namespace K06
theorem least (P : Nat → Prop) (n : Nat) (h : P n) : ∃ m, P m ∧ ∀ k, P k → m ≤ k := by
  induction n using Nat.strongRecOn with
  | _ n ih =>
    by_cases c : ∃ k, k < n ∧ P k
    · obtain ⟨k, hk, pk⟩ := c
      exact ih k hk pk
    · exact ⟨n, h, fun k pk => Nat.le_of_not_lt fun z => c ⟨k, z, pk⟩⟩
structure Prm (p : Nat) : Prop where
  gt : 1 < p
  pr : ∀ a b : Nat, p ∣ a * b → p ∣ a ∨ p ∣ b
theorem prm_of {n : Nat} (h : n ≠ 1) : ∃ p, Prm p ∧ p ∣ n := by
  obtain ⟨d, ⟨d1, dn⟩, hmin⟩ := least (fun d => 1 < d ∧ d ∣ n) (if n = 0 then 2 else n) (by
    by_cases c : n = 0
    · rw [if_pos c, c]
      exact ⟨by omega, Nat.dvd_zero _⟩
    · rw [if_neg c]
      exact ⟨by omega, Nat.dvd_refl _⟩)
  refine ⟨d, ⟨d1, fun a b hab => ?_⟩, dn⟩
  by_cases c : d ∣ a
  · exact .inl c
  · refine .inr ?_
    have g0 : 0 < Nat.gcd d a := Nat.gcd_pos_of_pos_left a (by omega)
    have g1 : Nat.gcd d a ∣ n := Nat.dvd_trans (Nat.gcd_dvd_left d a) dn
    have g2 : Nat.gcd d a = 1 := by
      by_cases z : Nat.gcd d a = 1
      · exact z
      · have h1 := hmin _ ⟨show 1 < Nat.gcd d a by omega, g1⟩
        have h2 : Nat.gcd d a ≤ d := Nat.le_of_dvd (by omega) (Nat.gcd_dvd_left d a)
        have h3 : Nat.gcd d a = d := by omega
        exact absurd (h3 ▸ Nat.gcd_dvd_right d a) c
    have g3 : Nat.Coprime d a := g2
    exact g3.dvd_of_dvd_mul_left hab
theorem Prm.int {p : Nat} (h : Prm p) {x y : Int} (d : (p : Int) ∣ x * y) : (p : Int) ∣ x ∨ (p : Int) ∣ y := by
  have e := Int.natAbs_dvd_natAbs.mpr d
  rw [Int.natAbs_mul] at e
  rcases h.pr _ _ e with e | e
  · exact .inl (Int.natAbs_dvd_natAbs.mp e)
  · exact .inr (Int.natAbs_dvd_natAbs.mp e)
theorem cv_dvd {p : Int} {g : Nat → Int} : ∀ (l : List Int) (k : Nat), (∀ t, t ≤ k → p ∣ g t) → p ∣ cv l g k
  | [], _, _ => Int.dvd_zero p
  | x :: xs, 0, h => by
    rw [cv_zero]
    exact Int.dvd_mul_of_dvd_right (h 0 (Nat.le_refl _))
  | x :: xs, k + 1, h => by
    rw [cv_succ]
    exact Int.dvd_add (Int.dvd_mul_of_dvd_right (h _ (Nat.le_refl _))) (cv_dvd xs k fun t ht => h t (by omega))
theorem gauss {p : Nat} (hp : Prm p) {g : Nat → Int} {j : Nat} (h1 : ∀ t, t < j → (p : Int) ∣ g t) (h2 : ¬ (p : Int) ∣ g j) : ∀ l : List Int, (∃ x ∈ l, ¬ (p : Int) ∣ x) → ∃ k, ¬ (p : Int) ∣ cv l g k
  | [], h => by
    obtain ⟨x, hx, _⟩ := h
    cases hx
  | x :: xs, h => by
    by_cases c : (p : Int) ∣ x
    · obtain ⟨y, hy, hd⟩ := h
      have hy2 : y ∈ xs := by
        rcases List.mem_cons.mp hy with e | e
        · rw [e] at hd
          exact absurd c hd
        · exact e
      obtain ⟨k, hk⟩ := gauss hp h1 h2 xs ⟨y, hy2, hd⟩
      refine ⟨k + 1, fun z => hk ?_⟩
      rw [cv_succ] at z
      exact (Int.dvd_add_right (Int.dvd_mul_of_dvd_left c)).mp z
    · refine ⟨j, fun z => ?_⟩
      cases j with
      | zero =>
        rw [cv_zero] at z
        rcases hp.int z with e | e
        · exact c e
        · exact h2 e
      | succ j =>
        rw [cv_succ] at z
        have := (Int.dvd_add_left (cv_dvd xs j fun t ht => h1 t (by omega))).mp z
        rcases hp.int this with e | e
        · exact c e
        · exact h2 e
/-- the greatest common divisor of all -/
def cont : List Int → Nat
  | [] => 0
  | x :: xs => Nat.gcd x.natAbs (cont xs)
theorem cont_dvd : ∀ (l : List Int) (x : Int), x ∈ l → (cont l : Int) ∣ x
  | y :: ys, x, h => by
    rcases List.mem_cons.mp h with e | e
    · rw [e]
      exact Int.natAbs_dvd_natAbs.mp (by show Nat.gcd _ _ ∣ _; exact Nat.gcd_dvd_left _ _)
    · have := cont_dvd ys x e
      exact Int.dvd_trans (Int.natAbs_dvd_natAbs.mp (by show Nat.gcd _ _ ∣ cont ys; exact Nat.gcd_dvd_right _ _)) this
theorem dvd_cont {d : Nat} : ∀ l : List Int, (∀ x ∈ l, (d : Int) ∣ x) → d ∣ cont l
  | [], _ => Nat.dvd_zero d
  | y :: ys, h => Nat.dvd_gcd (Int.natAbs_dvd_natAbs.mpr (h y List.mem_cons_self)) (dvd_cont ys fun x hx => h x (List.mem_cons_of_mem _ hx))
theorem cont_scale (c : Int) : ∀ l : List Int, cont (l.map (c * ·)) = c.natAbs * cont l
  | [] => rfl
  | x :: xs => by
    show Nat.gcd (c * x).natAbs (cont (xs.map (c * ·))) = c.natAbs * Nat.gcd x.natAbs (cont xs)
    rw [cont_scale c xs, Int.natAbs_mul, Nat.gcd_mul_left]
theorem cont_zero {l : List Int} (h : cont l = 0) : ∀ x ∈ l, x = 0 := fun x hx => by
  have := cont_dvd l x hx
  rw [h] at this
  exact Int.zero_dvd.mp this
theorem co_mem {l : List Int} {k : Nat} : co l k = 0 ∨ co l k ∈ l := by
  by_cases h : k < l.length
  · rw [co_get h]
    exact .inr (List.getElem_mem h)
  · exact .inl (co_far (by omega))
theorem cont_one {l m : List Int} (hm : m ≠ []) (h1 : cont l = 1) (h2 : cont m = 1) : cont (ml l m) = 1 := by
  by_cases c : cont (ml l m) = 1
  · exact c
  · obtain ⟨p, hp, hd⟩ := prm_of c
    have key : ∀ n : List Int, cont n = 1 → ∃ x ∈ n, ¬ (p : Int) ∣ x := fun n hn => by
      by_cases z : ∃ x ∈ n, ¬ (p : Int) ∣ x
      · exact z
      · have h3 : p ∣ cont n := dvd_cont n fun x hx => Classical.byContradiction fun q => z ⟨x, hx, q⟩
        rw [hn] at h3
        have := Nat.le_of_dvd (by omega) h3
        have := hp.gt
        omega
    obtain ⟨y, hy, hyd⟩ := key m h2
    obtain ⟨j0, hj0, ej⟩ := List.mem_iff_getElem.mp hy
    obtain ⟨j, hj, hmin⟩ := least (fun j => ¬ (p : Int) ∣ co m j) j0 (by
      show ¬ (p : Int) ∣ co m j0
      rw [co_get hj0, ej]
      exact hyd)
    obtain ⟨k, hk⟩ := gauss hp (g := co m) (j := j) (fun t ht => Classical.byContradiction fun z => by
      have := hmin t z
      omega) hj l (key l h1)
    refine absurd ?_ hk
    rw [← co_ml hm]
    rcases co_mem (l := ml l m) (k := k) with e | e
    · rw [e]
      exact Int.dvd_zero _
    · exact Int.dvd_trans (Int.natCast_dvd_natCast.mpr hd) (cont_dvd _ _ e)
/-- each form is its content times a form of the content 1, or all 0 -/
theorem cont_split {l : List Int} {d : Int} (h : d.natAbs = cont l) (h0 : cont l ≠ 0) : ∃ m, l = m.map (d * ·) ∧ cont m = 1 := by
  have hd : ∀ x ∈ l, d ∣ x := fun x hx => Int.natAbs_dvd_natAbs.mp (by rw [h]; exact Int.natAbs_dvd_natAbs.mpr (cont_dvd l x hx))
  have d0 : d ≠ 0 := fun e => by rw [e] at h; exact h0 h.symm
  refine ⟨l.map (· / d), ?_, ?_⟩
  · rw [List.map_map]
    conv => lhs; rw [← List.map_id l]
    exact List.map_congr_left fun x hx => (Int.mul_ediv_cancel' (hd x hx)).symm
  · have e : l = (l.map (· / d)).map (d * ·) := by
      rw [List.map_map]
      conv => lhs; rw [← List.map_id l]
      exact List.map_congr_left fun x hx => (Int.mul_ediv_cancel' (hd x hx)).symm
    have e2 := cont_scale d (l.map (· / d))
    rw [← e, h] at e2
    have hp : 0 < cont l := by omega
    exact Nat.eq_of_mul_eq_mul_left hp (by rw [← e2, Nat.mul_one])
theorem co_map (c : Int) (l : List Int) (k : Nat) : co (l.map (c * ·)) k = c * co l k := by
  by_cases h : k < l.length
  · rw [co_get (by rw [List.length_map]; exact h), co_get h, List.getElem_map]
  · rw [co_far (by rw [List.length_map]; omega), co_far (by omega), Int.mul_zero]
theorem ml_scale (c : Int) {l m : List Int} (hm : m ≠ []) : ml (l.map (c * ·)) m = (ml l m).map (c * ·) :=
  co_inj (by rw [List.length_map, ml_len, ml_len, List.length_map]) fun k => by
    rw [co_map, co_ml hm, co_ml hm, cv_comm, cv_comm l, ← cv_mul]
    exact cv_ext m (fun i => co_map c l i) k
theorem cont_ml {l m : List Int} (hl : l ≠ []) (hm : m ≠ []) : cont (ml l m) = cont l * cont m := by
  have zer : ∀ a b : List Int, b ≠ [] → cont a = 0 → cont (ml a b) = 0 := fun a b hb ha => by
    have hz : a = a.map ((0 : Int) * ·) := by
      conv => lhs; rw [← List.map_id a]
      exact List.map_congr_left fun x hx => by rw [cont_zero ha x hx]; rfl
    rw [hz, ml_scale 0 hb, cont_scale]
    exact Nat.zero_mul _
  by_cases c1 : cont l = 0
  · rw [zer l m hm c1, c1, Nat.zero_mul]
  · by_cases c2 : cont m = 0
    · rw [ml_comm, zer m l hl c2, c2, Nat.mul_zero]
    · obtain ⟨a, ea, ca⟩ := cont_split (d := (cont l : Int)) rfl c1
      obtain ⟨b, eb, cb⟩ := cont_split (d := (cont m : Int)) rfl c2
      have hb : b ≠ [] := fun e => by rw [e] at eb; exact hm eb
      have ha : a ≠ [] := fun e => by rw [e] at ea; exact hl ea
      have e : ml l m = ((ml a b).map ((cont l : Int) * ·)).map ((cont m : Int) * ·) := by
        rw [← ml_scale _ hb, ← ea, ml_comm l b, ← ml_scale _ hl, ← eb, ml_comm]
      rw [e, cont_scale, cont_scale, cont_one hb ca cb, Nat.mul_one, Nat.mul_comm]
      rfl
end K06

set_option Elab.async false
set_option linter.all false
set_option maxRecDepth 100000
set_option maxHeartbeats 4000000
namespace K06
open PySem PySem.Spec PyProof.Rows L2 MyR SlX OwnR OwnF
/-- an int of at most sixty digits -/
def Sho (i : Int) : Prop := i.natAbs < 10 ^ 60
theorem Same.rf (H : Hp) : Same H H := fun _ _ h => h
@[elab_as_elim] theorem gen_upd {G : Hp → Prop} (H : Hp) (p : Addr) (o : HO) (n : H p = none) (h : ∀ H', Same H H' → H' p = some o → G H') : G (upd H p o) := h _ (same_upd0 n) upd_same
section
variable {P : Program} {w : World} {K : PySem.W.Frag} {mg : Str → Option Value} {base : Heap}
def spWhole : Sp := fun vs H Q _ => ∃ i : Int, vs = [.int i] ∧ Q (.bl true) H
theorem ok_is_whole (T : Facts K mg) : FnOk P w K mg base CX0 1 T.f_is_whole T.fd_is_whole ["value"] spWhole := by
  refine T.F_is_whole.ok sc_is_whole (fun vs H Q E h => ?_) (fun cdv A outer s H vs Q E hr h => ?_)
  · obtain ⟨i, rfl, _⟩ := h
    rfl
  · obtain ⟨i, rfl, q⟩ := h
    refine ⟨_, (PSs.nox (pss_one (ps_ret (pe_and (pe_callB call_isi (by rfl) T.z_isinstance (by decide +kernel) (pa_cons (pv 0) (pa_cons (pe_bltn (v := .ty "int") (by rfl) T.z_int (by decide +kernel) rfl) pa_nil))) (pe_one (pe_not (pe_callB call_isi (by rfl) T.z_isinstance (by decide +kernel) (pa_cons (pv 0) (pa_cons (pe_bltn (v := .ty "bool") (by rfl) T.z_bool (by decide +kernel) rfl) pa_nil))))))))), ?_⟩
    refine ⟨_, rfl, .int i, .ty "int", .type "int", .type "int", true, rfl, .ty "int", .base (.int i), kit_ty (show kitB "int" "int" = some true by decide +kernel), true, rfl, iteT ?_⟩
    exact ⟨_, rfl, .int i, .ty "bool", .type "int", .type "bool", false, rfl, .ty "bool", .base (.int i), kit_ty (show kitB "int" "bool" = some false by decide +kernel), false, rfl, q⟩
def spShort : Sp := fun vs H Q _ => ∃ i : Int, vs = [.int i] ∧ Sho i ∧ Q (.bl true) H
theorem ok_is_short (T : Facts K mg) : FnOk P w K mg base CX0 2 T.f_is_short T.fd_is_short ["value"] spShort := by
  have G_is_whole : FnOk P w K mg base CX0 1 T.f_is_whole T.fd_is_whole ["value"] spWhole := ok_is_whole T
  refine T.F_is_short.ok sc_is_short (fun vs H Q E h => ?_) (fun cdv A outer s H vs Q E hr h => ?_)
  · obtain ⟨i, rfl, _⟩ := h
    rfl
  · obtain ⟨i, rfl, hi, q⟩ := h
    have e60 : (10 : Nat) ^ 60 = 1000000000000000000000000000000000000000000000000000000000000 := by decide
    unfold Sho at hi
    rw [e60] at hi
    refine ⟨_, (PSs.nox (pss_one (ps_ret (pe_and (pe_call G_is_whole hr (by rfl) T.g_is_whole T.F_is_whole.kp T.b_is_whole .nil pass0 (pa_cons (pv 0) pa_nil)) (pe_one (pe_chain op_lt op_lt (pe_un un_neg (pe_glob (v := .int 1000000000000000000000000000000000000000000000000000000000000) (by rfl) T.c_GREATEST.choose_spec ⟨_, rfl⟩)) (pv 0) (pe_glob (v := .int 1000000000000000000000000000000000000000000000000000000000000) (by rfl) T.c_GREATEST.choose_spec ⟨_, rfl⟩))))))), ?_⟩
    refine ⟨_, rfl, i, rfl, true, rfl, iteT ⟨_, rfl, _, rfl, _, i, rfl, rfl, true, ?_, iteT ⟨i, _, rfl, rfl, ?_⟩⟩⟩
    · show V.bl (decide (-1000000000000000000000000000000000000000000000000000000000000 < i)) = V.bl true
      rw [decide_eq_true (by omega)]
    · show Q (V.bl (decide (i < 1000000000000000000000000000000000000000000000000000000000000))) H
      rw [decide_eq_true (by omega)]
      exact q
def spReqShort : Sp := fun vs H Q _ => ∃ i : Int, vs = [.int i] ∧ Sho i ∧ Q .non H
theorem ok_require_short (T : Facts K mg) : FnOk P w K mg base CX0 3 T.f_require_short T.fd_require_short ["value"] spReqShort := by
  have G_is_short : FnOk P w K mg base CX0 2 T.f_is_short T.fd_is_short ["value"] spShort := ok_is_short T
  refine T.F_require_short.ok sc_require_short (fun vs H Q E h => ?_) (fun cdv A outer s H vs Q E hr h => ?_)
  · obtain ⟨i, rfl, _⟩ := h
    rfl
  · obtain ⟨i, rfl, hs, q⟩ := h
    refine ⟨_, (PSs.nox (pss_one (ps_if (pt_not (pt_val (pe_call G_is_short hr (by rfl) T.g_is_short T.F_is_short.kp T.b_is_short .nil pass0 (pa_cons (pv 0) pa_nil))))
      (pss_one ps_never)
      pss_nil))), ?_⟩
    exact ⟨_, rfl, i, rfl, hs, true, rfl, iteF q⟩
/-- a tuple of ints -/
abbrev tp (ns : List Int) : HO := .tup (ns.map V.int)
def spAreShort : Sp := fun vs H Q _ => ∃ (t : Addr) (ns : List Int), vs = [.ref t] ∧ H t = some (tp ns) ∧ ns.length ≤ 1000 ∧ (∀ x ∈ ns, Sho x) ∧ ∀ H', Same H H' → Q (.bl true) H'
theorem ok_are_short (T : Facts K mg) : FnOk P w K mg base CX0 3 T.f_are_short T.fd_are_short ["value"] spAreShort := by
  have G_is_short : FnOk P w K mg base CX0 2 T.f_is_short T.fd_is_short ["value"] spShort := ok_is_short T
  refine T.F_are_short.ok sc_are_short (fun vs H Q E h => ?_) (fun cdv A outer s H vs Q E hr h => ?_)
  · obtain ⟨t, ns, rfl, _⟩ := h
    rfl
  · obtain ⟨t, ns, rfl, ht, hl, hs, q⟩ := h
    refine ⟨_, (PSs.nox (pss_one (ps_ret (pe_and (pe_callB call_isi (by rfl) T.z_isinstance (by decide +kernel) (pa_cons (pv 0) (pa_cons (pe_bltn (v := .ty "tuple") (by rfl) T.z_tuple (by decide +kernel) rfl) pa_nil))) (pe_one (pe_callB (cr_all (by rfl)) (by rfl) T.z_all (by decide +kernel) (pa_cons (pe_lc (own := [("entry", 1)]) (g := (gName 1)) (tt := tYes) (by rfl) sc_are_short.nd (pi_tup (pv 0)) (blkOk_by (N := N_are_short) (sc := defScope s_are_short) (by decide +kernel)) (fun _ _ _ _ _ => (pg_name (i := 1) sc_are_short.nd rfl (.inl rfl))) (fun _ _ _ _ _ => pts_nil) (fun _ _ _ _ _ => (pe_call G_is_short hr (by rfl) T.g_is_short T.F_is_short.kp T.b_is_short .nil pass0 (pa_cons (pv 1) pa_nil)))) pa_nil))))))), ?_⟩
    refine ⟨_, rfl, .ref t, .ty "tuple", .type "tuple", .type "tuple", true, rfl, .ty "tuple", .base (.tup ht), kit_ty (show kitB "tuple" "tuple" = some true by decide +kernel), true, rfl, iteT ?_⟩
    refine ⟨_, rfl, t, rfl, ⟨_, SqT.of ht⟩, fun D hD => lc_tup (xs := ns.map V.int) (fun i H' => H' = upd H D (.lst (List.replicate i (V.bl true)))) rfl (fun i H' hi hP => ?_) (fun i x H' hi hP => ?_) (fun H' hP => ?_)⟩
    · rw [hP]
      exact SqT.of (same_upd0 hD _ _ ht)
    · subst hP
      rw [List.getElem?_map] at hi
      obtain ⟨y, hy, rfl⟩ := Option.map_eq_some_iff.mp hi
      have hlt : i < ns.length := (List.getElem?_eq_some_iff.mp hy).1
      refine ⟨rfl, ⟨_, rfl, y, rfl, hs y (List.mem_of_getElem? hy), _, upd_same, ?_, ?_⟩⟩
      · rw [List.length_replicate]
        exact small1000 (by omega)
      · rw [upd_upd, List.replicate_succ']
    · subst hP
      rw [List.length_map]
      refine ⟨D, List.replicate ns.length true, rfl, SqL.of (by rw [upd_same, List.map_replicate]), ?_⟩
      have e : (List.replicate ns.length true).all id = true := by
        rw [List.all_eq_true]
        intro x hx
        rw [(List.mem_replicate.mp hx).2]
        rfl
      rw [e]
      exact q _ (same_upd0 hD)
def spAreEntries : Sp := fun vs H Q _ => ∃ (t : Addr) (ns : List Int), vs = [.ref t] ∧ H t = some (tp ns) ∧ 1 ≤ ns.length ∧ ns.length ≤ 41 ∧ (∀ x ∈ ns, Sho x) ∧ ∀ H', Same H H' → Q (.bl true) H'
theorem ok_are_entries (T : Facts K mg) : FnOk P w K mg base CX0 4 T.f_are_entries T.fd_are_entries ["value"] spAreEntries := by
  have G_are_short : FnOk P w K mg base CX0 3 T.f_are_short T.fd_are_short ["value"] spAreShort := ok_are_short T
  refine T.F_are_entries.ok sc_are_entries (fun vs H Q E h => ?_) (fun cdv A outer s H vs Q E hr h => ?_)
  · obtain ⟨t, ns, rfl, _⟩ := h
    rfl
  · obtain ⟨t, ns, rfl, ht, h1, h41, hs, q⟩ := h
    refine ⟨_, (PSs.nox (pss_one (ps_ret (pe_and (pe_call G_are_short hr (by rfl) T.g_are_short T.F_are_short.kp T.b_are_short .nil pass0 (pa_cons (pv 0) pa_nil)) (pe_one (pe_chain op_le op_le pe_int (pe_callB call_len_seq (by rfl) T.z_len (by decide +kernel) (pa_cons (pv 0) pa_nil)) (pe_op op_add (pe_glob (v := .int 40) (by rfl) T.c_MAX_DEGREE.choose_spec ⟨_, rfl⟩) pe_int))))))), ?_⟩
    refine ⟨_, rfl, t, ns, rfl, ht, by omega, hs, fun H1 s1 => ⟨true, rfl, iteT ?_⟩⟩
    have ht1 := s1 _ _ ht
    refine ⟨_, rfl, t, _, rfl, .inr (SqT.of ht1), 1, _, rfl, rfl, true, ?_, iteT ⟨_, _, rfl, rfl, _, _, rfl, rfl, ?_⟩⟩
    · rw [List.length_map]
      show V.bl (decide ((1 : Int) ≤ (ns.length : Int))) = V.bl true
      rw [decide_eq_true (by omega)]
    · rw [List.length_map]
      show Q (V.bl (decide ((ns.length : Int) ≤ 40 + 1))) H1
      rw [decide_eq_true (by omega)]
      exact q H1 s1
/-! ### making a form -/
/-- a form with these entries -/
def Fo (C : Addr) (H : Hp) (a : Addr) (ns : List Int) : Prop := ∃ dx t, H a = some (SlO a C dx [some (.ref t)]) ∧ H dx = some (.xd []) ∧ H t = some (tp ns)
theorem Fo.same {C a : Addr} {H H' : Hp} {ns : List Int} (h : Fo C H a ns) (s : Same H H') : Fo C H' a ns := by
  obtain ⟨dx, t, h1, h2, h3⟩ := h
  exact ⟨dx, t, s _ _ h1, s _ _ h2, s _ _ h3⟩
theorem Fo.slt {C a : Addr} {H : Hp} {ns : List Int} (h : Fo C H a ns) : ∃ dx t, Slt H a C dx [some (.ref t)] ∧ H t = some (tp ns) := by
  obtain ⟨dx, t, h1, h2, h3⟩ := h
  exact ⟨dx, t, .inr ⟨h1, h2⟩, h3⟩
/-- Told(row) -/
def spTold (C : Addr) : Sp := fun vs H Q _ => ∃ (x dx : Addr) (v : V), vs = [.ref x, v] ∧ Slt H x C dx [] ∧ Q .non (slH H x C dx [some v])
theorem ok_Told_init (T : Facts K mg) : FnOk P w K mg base CX0 1 T.f_Told_init T.fd_Told_init ["self", "row"] (spTold T.C_Told) := by
  refine T.F_Told_init.ok sc_Told_init (fun vs H Q E h => ?_) (fun cdv A outer s H vs Q E hr h => ?_)
  · obtain ⟨x, dx, v, rfl, _⟩ := h
    rfl
  · obtain ⟨x, dx, v, rfl, hx, q⟩ := h
    refine ⟨_, (PSs.nox (pss_one (ps_sl (pv 0) (pv 1)))), ?_⟩
    exact ⟨_, rfl, _, rfl, x, T.C_Told, dx, T.a_own_row, [], 0, rfl, hx, T.oc_Told.scl, T.sl_own_row, q⟩
/-- Form(entries) -/
def spForm (CT CF : Addr) : Sp := fun vs H Q _ => ∃ (x dx y t : Addr), vs = [.ref x, .ref y] ∧ Slt H x CF dx [] ∧ ((∃ dy, Slt H y CT dy [some (.ref t)]) ∨ ∃ ns, y = t ∧ H t = some (tp ns) ∧ 1 ≤ ns.length ∧ ns.length ≤ 41 ∧ ∀ z ∈ ns, Sho z) ∧ ∀ H', Same H H' → Q .non (slH H' x CF dx [some (.ref t)])
theorem Slt.same {C a dx : Addr} {vs : List (Option V)} {H H' : Hp} (h : Slt H a C dx vs) (s : Same H H') : Slt H' a C dx vs := by
  rcases h with ⟨h1, h2⟩ | ⟨h1, h2⟩
  · exact .inl ⟨s _ _ h1, h2⟩
  · exact .inr ⟨s _ _ h1, s _ _ h2⟩
theorem ok_Form_init (T : Facts K mg) : FnOk P w K mg base CX0 5 T.f_Form_init T.fd_Form_init ["self", "entries"] (spForm T.C_Told T.C_Form) := by
  have G_are_entries : FnOk P w K mg base CX0 4 T.f_are_entries T.fd_are_entries ["value"] spAreEntries := ok_are_entries T
  refine T.F_Form_init.ok sc_Form_init (fun vs H Q E h => ?_) (fun cdv A outer s H vs Q E hr h => ?_)
  · obtain ⟨x, dx, y, t, rfl, _⟩ := h
    rfl
  · obtain ⟨x, dx, y, t, rfl, hx, hy, q⟩ := h
    refine ⟨_, (PSs.nox (pss_cons (ps_if (pw_and (pt_not (pt_val (pe_callB (call_isiF T.C_Told) (by rfl) T.z_isinstance (by decide +kernel) (pa_cons (pv 1) (pa_cons (pe_glob (v := .ref T.C_Told) (by rfl) T.g_Told rfl) pa_nil))))) (pw_and1 (pt_not (pt_val (pe_call G_are_entries hr (by rfl) T.g_are_entries T.F_are_entries.kp T.b_are_entries .nil pass0 (pa_cons (pv 1) pa_nil)))))).pt
      (pss_one ps_never)
      pss_nil)
    (pss_one (ps_sl (pv 0) (pe_ifExp (pt_val (pe_callB (call_isiF T.C_Told) (by rfl) T.z_isinstance (by decide +kernel) (pa_cons (pv 1) (pa_cons (pe_glob (v := .ref T.C_Told) (by rfl) T.g_Told rfl) pa_nil)))) (pe_sl (pv 1)) (pv 1)))))), ?_⟩
    rcases hy with ⟨dy, hy⟩ | ⟨ns, rfl, ht, h1, h41, hs⟩
    · refine ⟨_, rfl, .inr ⟨y, T.C_Told, dy, _, .ref T.C_Told, true, rfl, rfl, fun w r => r, hy, T.oc_Told.scl, T.oc_Told.sis, T.oc_Told.kself, true, rfl, iteF ?_⟩⟩
      refine ⟨_, rfl, .inr ⟨y, T.C_Told, dy, _, .ref T.C_Told, true, rfl, rfl, fun w r => r, hy, T.oc_Told.scl, T.oc_Told.sis, T.oc_Told.kself, true, rfl, iteT ?_⟩⟩
      refine ⟨_, rfl, y, T.C_Told, dy, T.a_own_row, _, 0, .ref t, rfl, hy, T.oc_Told.scl, T.sl_own_row, rfl, ?_⟩
      exact ⟨_, rfl, x, T.C_Form, dx, T.a_own_entries, [], 0, rfl, hx, T.oc_Form.scl, T.sl_own_entries, q H (Same.rf H)⟩
    · refine ⟨_, rfl, .inl ⟨.ref y, .ref T.C_Told, .type "tuple", .ref T.C_Told, false, rfl, .own _, .base (.tup ht), T.oc_Told.ktup, false, rfl, iteT ?_⟩⟩
      refine ⟨_, rfl, y, ns, rfl, ht, h1, h41, hs, fun H1 s1 => ⟨true, rfl, iteF ?_⟩⟩
      refine ⟨_, rfl, .inl ⟨.ref y, .ref T.C_Told, .type "tuple", .ref T.C_Told, false, rfl, .own _, .base (.tup (s1 _ _ ht)), T.oc_Told.ktup, false, rfl, iteF ?_⟩⟩
      exact ⟨_, rfl, _, rfl, x, T.C_Form, dx, T.a_own_entries, [], 0, rfl, Slt.same hx s1, T.oc_Form.scl, T.sl_own_entries, q H1 s1⟩
/-- what making leaves -/
theorem made {C x dx : Addr} {v : V} {H' H0 : Hp} (hx : H0 x = none) (hdx : H0 dx = none) (hne : dx ≠ x) (s : Same (upd (upd H0 dx (.own x)) x (.ins C dx [])) H') : Same H0 (slH H' x C dx [some v]) := fun b o e => by
  have h1 : b ≠ x := ne_of_none e hx
  have h2 : b ≠ dx := ne_of_none e hdx
  rw [slH_ne h1 h2]
  exact s _ _ (by rw [upd_ne h1, upd_ne h2]; exact e)
/-- what is made of a row -/
def spMake (C : Addr) : Sp := fun vs H Q _ => ∃ (t : Addr) (ns : List Int), vs = [.ref t] ∧ H t = some (tp ns) ∧ ∀ p H', Same H H' → H p = none → Fo C H' p ns → Q (.ref p) H'
theorem ok_form_of (T : Facts K mg) : FnOk P w K mg base CX0 7 T.f_form_of T.fd_form_of ["entries"] (spMake T.C_Form) := by
  have G_Told_init : FnOk P w K mg base CX0 1 T.f_Told_init T.fd_Told_init ["self", "row"] (spTold T.C_Told) := ok_Told_init T
  have G_Form_init : FnOk P w K mg base CX0 5 T.f_Form_init T.fd_Form_init ["self", "entries"] (spForm T.C_Told T.C_Form) := ok_Form_init T
  refine T.F_form_of.ok sc_form_of (fun vs H Q E h => ?_) (fun cdv A outer s H vs Q E hr h => ?_)
  · obtain ⟨t, ns, rfl, _⟩ := h
    rfl
  · obtain ⟨t, ns, rfl, ht, q⟩ := h
    refine ⟨_, (PSs.nox (pss_one (ps_ret (pe_make T.mk_Form G_Form_init (hr.mono (by decide)) (by rfl) T.g_Form T.b_Form_init .nil pass0 (pa_cons (pe_make T.mk_Told G_Told_init (hr.mono (by decide)) (by rfl) T.g_Told T.b_Told_init .nil pass0 (pa_cons (pv 0) pa_nil)) pa_nil))))), ?_⟩
    refine ⟨_, rfl, fun x dx hx hdx hne => ⟨x, dx, .ref t, rfl, .inl ⟨upd_same, rfl⟩, rfl, ?_⟩⟩
    have s1 : Same H (slH (upd (upd H dx (.own x)) x (.ins T.C_Told dx [])) x T.C_Told dx [some (.ref t)]) := made hx hdx hne (Same.rf _)
    have y1 : Slt (slH (upd (upd H dx (.own x)) x (.ins T.C_Told dx [])) x T.C_Told dx [some (.ref t)]) x T.C_Told dx [some (.ref t)] := slH_slt hne
    generalize slH (upd (upd H dx (.own x)) x (.ins T.C_Told dx [])) x T.C_Told dx [some (.ref t)] = H1 at s1 y1 ⊢
    refine fun x2 dx2 hx2 hdx2 hne2 => ⟨x2, dx2, x, t, rfl, .inl ⟨upd_same, rfl⟩, .inl ⟨dx, ?_⟩, fun H2 s2 => ⟨rfl, ?_⟩⟩
    · exact slt_upd (slt_upd y1 hdx2) (by rw [upd_ne (Ne.symm hne2)]; exact hx2)
    · have s3 : Same H1 (slH H2 x2 T.C_Form dx2 [some (.ref t)]) := made hx2 hdx2 hne2 s2
      have hx0 : H x2 = none := by
        cases e : H x2 with
        | none => rfl
        | some o =>
          have := s1 _ _ e
          rw [hx2] at this
          cases this
      refine q x2 _ (fun b o e => s3 _ _ (s1 _ _ e)) hx0 ⟨dx2, t, upd_same, ?_, s3 _ _ (s1 _ _ ht)⟩
      unfold slH
      rw [upd_ne hne2, upd_same]
end
end K06

set_option Elab.async false
set_option linter.all false
set_option maxRecDepth 100000
set_option maxHeartbeats 4000000
namespace K06
open PySem PySem.Spec PyProof.Rows L2 MyR SlX OwnR OwnF
theorem cv_snoc (x : Int) (g : Nat → Int) : ∀ (l : List Int) (k : Nat), cv (l ++ [x]) g k = cv l g k + (if l.length ≤ k then x * g (k - l.length) else 0)
  | [], k => by
    show cv (x :: []) g k = 0 + (if 0 ≤ k then x * g (k - 0) else 0)
    rw [if_pos (Nat.zero_le k), Nat.sub_zero]
    cases k with
    | zero => rw [cv_zero]; omega
    | succ k => rw [cv_succ]; show x * g (k + 1) + 0 = 0 + x * g (k + 1); omega
  | y :: ys, 0 => by
    show cv (y :: (ys ++ [x])) g 0 = cv (y :: ys) g 0 + (if ys.length + 1 ≤ 0 then _ else 0)
    rw [cv_zero, cv_zero, if_neg (by omega)]
    omega
  | y :: ys, k + 1 => by
    show cv (y :: (ys ++ [x])) g (k + 1) = cv (y :: ys) g (k + 1) + (if ys.length + 1 ≤ k + 1 then x * g (k + 1 - (ys.length + 1)) else 0)
    rw [cv_succ, cv_succ, cv_snoc x g ys k, Nat.add_sub_add_right]
    by_cases h : ys.length ≤ k
    · rw [if_pos h, if_pos (by omega)]; omega
    · rw [if_neg h, if_neg (by omega)]; omega
/-- the entries so far: i rows, and j places of the next one -/
def J (xs : List Int) (g : Nat → Int) (i j k : Nat) : Int := cv (xs.take i) g k + (if i ≤ k ∧ k < i + j then co xs i * g (k - i) else 0)
theorem J_0 {xs : List Int} {g : Nat → Int} {i k : Nat} : J xs g i 0 k = cv (xs.take i) g k := by
  unfold J
  rw [if_neg (by omega)]
  omega
theorem J_step {xs : List Int} {g : Nat → Int} {i j k : Nat} : (if k = i + j then J xs g i j (i + j) + co xs i * g j else J xs g i j k) = J xs g i (j + 1) k := by
  unfold J
  by_cases h : k = i + j
  · subst h
    rw [if_pos rfl, if_neg (by omega), if_pos (by omega), Nat.add_sub_cancel_left]
    omega
  · rw [if_neg h]
    by_cases c : i ≤ k ∧ k < i + j
    · rw [if_pos c, if_pos (by omega)]
    · rw [if_neg c, if_neg (by omega)]
theorem J_end {xs ys : List Int} {i k : Nat} (hi : i < xs.length) : J xs (co ys) i ys.length k = cv (xs.take (i + 1)) (co ys) k := by
  unfold J
  have e : xs.take (i + 1) = xs.take i ++ [xs[i]] := by rw [List.take_add_one, List.getElem?_eq_getElem hi]; rfl
  have hl : (xs.take i).length = i := by rw [List.length_take]; omega
  rw [e, cv_snoc, hl, co_get hi]
  congr 1
  by_cases c : i ≤ k
  · by_cases d : k < i + ys.length
    · rw [if_pos ⟨c, d⟩, if_pos c]
    · rw [if_neg (by omega), if_pos c, co_far (by omega), Int.mul_zero]
  · rw [if_neg (by omega), if_neg c]
def tab (L : Nat) (f : Nat → Int) : List V := (List.range L).map fun k => V.int (f k)
theorem tab_tb (L : Nat) (f : Nat → Int) : tab L f = (tb L f).map V.int := by
  unfold tab tb
  rw [List.map_map]
  rfl
theorem tab_len (L : Nat) (f : Nat → Int) : (tab L f).length = L := by
  unfold tab
  rw [List.length_map, List.length_range]
theorem tab_get {L : Nat} {f : Nat → Int} {k : Nat} (h : k < L) : (tab L f)[k]? = some (.int (f k)) := by
  unfold tab
  rw [List.getElem?_map, List.getElem?_range h]
  rfl
theorem tab_ext {L : Nat} {f g : Nat → Int} (h : ∀ k, k < L → f k = g k) : tab L f = tab L g := by
  unfold tab
  exact List.map_congr_left fun k hk => by rw [h k (List.mem_range.mp hk)]
theorem tab_none {L : Nat} {f : Nat → Int} {k : Nat} (h : L ≤ k) : (tab L f)[k]? = none := List.getElem?_eq_none (by rw [tab_len]; exact h)
theorem tab_set {L : Nat} {f : Nat → Int} {j : Nat} {v : Int} : (tab L f).set j (.int v) = tab L (fun k => if k = j then v else f k) := by
  apply List.ext_getElem?
  intro k
  by_cases hk : k < L
  · rw [tab_get hk]
    by_cases e : k = j
    · subst e
      rw [List.getElem?_set_self (by rw [tab_len]; exact hk), if_pos rfl]
    · rw [List.getElem?_set_ne (Ne.symm e), tab_get hk, if_neg e]
  · rw [tab_none (Nat.le_of_not_lt hk), List.getElem?_eq_none (by rw [List.length_set, tab_len]; exact Nat.le_of_not_lt hk)]
theorem tab_rep (n : Nat) : List.replicate n (V.int 0) = tab n fun _ => 0 := by
  unfold tab
  rw [List.map_const', List.length_range]
theorem ix_at {n : Nat} {z : Int} {j : Nat} (e : z = (j : Int)) (h : j < n) : ixN n z = some j := by
  rw [e]
  exact Evl.ixN_nat h
theorem at_of {xs : List V} {z : Int} {j : Nat} {v : V} (e : z = (j : Int)) (h : xs[j]? = some v) : atI xs z = some v := by
  rw [e]
  exact atI_nat h
/-- ints of less than 400 bits -/
def sm (x : Int) : Prop := x.natAbs < 2 ^ 4000
theorem sm_mul {x y : Int} (hx : sm x) (hy : sm y) : CMulW x y := wide_mul hx hy (by decide) (by decide) (by decide)
theorem get_int {xs : List Int} {i : Nat} (h : i < xs.length) : (xs.map V.int)[i]? = some (.int (co xs i)) := by
  rw [List.getElem?_map, List.getElem?_eq_getElem h, co_get h]
  rfl
theorem sm_co {xs : List Int} {i : Nat} (h : ∀ x ∈ xs, sm x) (hi : i < xs.length) : sm (co xs i) := by
  rw [co_get hi]
  exact h _ (List.getElem_mem hi)
section
variable {P : Program} {w : World} {K : PySem.W.Frag} {mg : Str → Option Value} {base : Heap}
def spJoin (K : PySem.W.Frag) : Sp := fun vs H Q _ => ∃ (a b : Addr) (xs ys : List Int), vs = [.ref a, .ref b] ∧ H a = some (tp xs) ∧ H b = some (tp ys) ∧ xs ≠ [] ∧ ys ≠ [] ∧ xs.length ≤ 100 ∧ ys.length ≤ 100 ∧ (∀ x ∈ xs, sm x) ∧ (∀ x ∈ ys, sm x) ∧ ∀ p H', Same H H' → H p = none → H' p = some (tp (ml xs ys)) → Q (.ref p) H'
theorem ok_joined_entries (T : Facts K mg) : FnOk P w K mg base CX0 1 T.f_joined_entries T.fd_joined_entries ["one", "other"] (spJoin K) := by
  refine T.F_joined_entries.ok sc_joined_entries (fun vs H Q E h => ?_) (fun cdv A outer s H vs Q E hr h => ?_)
  · obtain ⟨a, b, xs, ys, rfl, _⟩ := h
    rfl
  · obtain ⟨a, b, xs, ys, rfl, ha, hb, nx, ny, lx, ly, hx, hy, q⟩ := h
    have px : 0 < xs.length := List.length_pos_iff.mpr nx
    have py : 0 < ys.length := List.length_pos_iff.mpr ny
    refine ⟨_, (PSs.nox (pss_cons (ps_setLc (i := 2) (own := [("place", 3)]) (g := (gName 3)) (tt := tYes) rfl sc_joined_entries.nd rfl rfl (sw_true rfl rfl rfl (by decide +kernel)) (pi_range1 (by rfl) T.z_range (pa_cons (pe_op op_sub (pe_op op_add (pe_callB call_len_seq (by rfl) T.z_len (by decide +kernel) (pa_cons (pv 0) pa_nil)) (pe_callB call_len_seq (by rfl) T.z_len (by decide +kernel) (pa_cons (pv 1) pa_nil))) pe_int) pa_nil)) (blkOk_by (N := N_joined_entries) (sc := defScope s_joined_entries) (by decide +kernel)) (fun _ _ _ _ _ => (pg_name (i := 3) sc_joined_entries.nd rfl (.inl rfl))) (fun _ _ _ _ _ => pts_nil) (fun _ _ _ _ _ => pe_int))
    (pss_cons (ps_for PassesOwn.never (by rfl) (pi_range1 (by rfl) T.z_range (pa_cons (pe_callB call_len_seq (by rfl) T.z_len (by decide +kernel) (pa_cons (pv 0) pa_nil)) pa_nil)) (pg_name (i := 4) sc_joined_entries.nd rfl (.inl rfl))
      (pss_one (ps_for PassesOwn.never (by rfl) (pi_range1 (by rfl) T.z_range (pa_cons (pe_callB call_len_seq (by rfl) T.z_len (by decide +kernel) (pa_cons (pv 1) pa_nil)) pa_nil)) (pg_name (i := 3) sc_joined_entries.nd rfl (.inl rfl))
        (pss_one (ps_asg (pe_op op_add (pe_ix ix_list (pv 2) (pe_op op_add (pv 4) (pv 3)) (fun _ _ => rfl)) (pe_op op_mulW (pe_ix ix_tup (pv 0) (pv 4) (fun _ _ => rfl)) (pe_ix ix_tup (pv 1) (pv 3) (fun _ _ => rfl)))) (pg_sub (pv 2) (pe_op op_add (pv 4) (pv 3)) set_list))))))
    (pss_one (ps_ret (pe_tupleOf (by rfl) T.z_tuple (pv 2))))))), ?_⟩
    refine ⟨_, rfl, a, _, rfl, .inr (SqT.of ha), _, rfl, b, _, rfl, .inr (SqT.of hb), ?_⟩
    rw [List.length_map, List.length_map]
    obtain ⟨N, hN⟩ : ∃ N, N = xs.length + ys.length - 1 := ⟨_, rfl⟩
    have eN : (((xs.length : Int) + (ys.length : Int) - 1)).toNat = N := by omega
    refine ⟨_, _, rfl, rfl, _, _, rfl, rfl, _, rfl, (by show -(2 ^ 62) ≤ (xs.length : Int) + (ys.length : Int) - 1; omega), (by show (xs.length : Int) + (ys.length : Int) - 1 < 2 ^ 62; omega), fun D hD => lc_range (n := _) (fun j H' => H' = upd H D (.lst (List.replicate j (V.int 0)))) rfl (fun j H' hj hP => ?_) (fun H' hP => ?_)⟩
    · subst hP
      have hj2 : j < N := by rw [← eN]; exact hj
      refine ⟨rfl, ⟨_, upd_same, ?_, ?_⟩⟩
      · rw [List.length_replicate]
        exact small1000 (by omega)
      · rw [upd_upd, List.replicate_succ']
    · subst hP
      show _
      rw [show List.replicate (((xs.length : Int) + (ys.length : Int) - 1)).toNat (V.int 0) = tab N (fun k => cv (xs.take 0) (co ys) k) by rw [eN, tab_rep]; rfl]
      have sD : ∀ o, Same H (upd H D o) := fun o => same_upd0 hD
      refine ⟨_, rfl, a, _, rfl, .inr (SqT.of (sD _ _ _ ha)), ?_⟩
      rw [List.length_map]
      refine ⟨xs.length, rfl, by omega, by omega, for_range (n := (xs.length : Int).toNat) (fun i σ H' => ∃ y3 y4, σ = [some (.ref a), some (.ref b), some (.ref D), y3, y4] ∧ H' = upd H D (.lst (tab N fun k => cv (xs.take i) (co ys) k))) ⟨none, none, rfl, rfl⟩ (fun i σ H' hi hP => ?_) (fun σ H' hP => ?_)⟩
      · obtain ⟨y3, y4, rfl, rfl⟩ := hP
        have hi2 : i < xs.length := by omega
        refine ⟨_, rfl, b, _, rfl, .inr (SqT.of (sD _ _ _ hb)), ?_⟩
        rw [List.length_map, tab_ext (g := J xs (co ys) i 0) fun k hk => J_0.symm]
        refine ⟨ys.length, rfl, by omega, by omega, for_range (n := (ys.length : Int).toNat) (fun j σ H' => ∃ y3, σ = [some (.ref a), some (.ref b), some (.ref D), y3, some (.int (0 + (i : Int)))] ∧ H' = upd H D (.lst (tab N (J xs (co ys) i j)))) ⟨y3, rfl, rfl⟩ (fun j σ H' hj hP => ?_) (fun σ H' hP => ?_)⟩
        · obtain ⟨y3, rfl, rfl⟩ := hP
          have hj2 : j < ys.length := by omega
          have e1 : (0 : Int) + (i : Int) + (0 + (j : Int)) = ((i + j : Nat) : Int) := by omega
          have e2 : (0 : Int) + (i : Int) = ((i : Nat) : Int) := by omega
          have e3 : (0 : Int) + (j : Int) = ((j : Nat) : Int) := by omega
          refine ⟨_, rfl, _, rfl, _, rfl, _, _, rfl, rfl, D, _, _, _, rfl, rfl, SqL.of upd_same, at_of e1 (tab_get (by omega)), _, rfl, _, rfl, a, _, _, _, rfl, rfl, SqT.of (sD _ _ _ ha), at_of e2 (get_int hi2), _, rfl, _, rfl, b, _, _, _, rfl, rfl, SqT.of (sD _ _ _ hb), at_of e3 (get_int hj2), _, _, rfl, rfl, sm_mul (sm_co hx hi2) (sm_co hy hj2), _, _, rfl, rfl, ?_⟩
          refine ⟨_, rfl, _, rfl, _, rfl, _, _, rfl, rfl, D, _, _, (i + j), rfl, rfl, upd_same, ?_, ?_⟩
          · rw [tab_len]
            exact ix_at e1 (by omega)
          · refine ⟨_, rfl, ?_⟩
            rw [upd_upd]
            show upd H D (.lst ((tab N (J xs (co ys) i j)).set (i + j) (.int (J xs (co ys) i j (i + j) + co xs i * co ys j)))) = _
            rw [tab_set, tab_ext fun k hk => J_step]
        · obtain ⟨y3, rfl, rfl⟩ := hP
          refine ⟨_, _, rfl, ?_⟩
          rw [Int.toNat_natCast, tab_ext fun k hk => J_end hi2]
      · obtain ⟨y3, y4, rfl, rfl⟩ := hP
        rw [Int.toNat_natCast, List.take_length, tab_tb]
        refine ⟨_, rfl, ?_⟩
        refine .inl ⟨D, _, rfl, SqL.of upd_same, fun p hp => ?_⟩
        refine q p _ ((sD _).trans (same_upd0 hp)) (Same.free (sD _) hp) ?_
        rw [upd_same, hN]
        rfl
end
end K06

set_option Elab.async false
set_option linter.all false
set_option maxRecDepth 100000
set_option maxHeartbeats 4000000
namespace K06
open PySem PySem.Spec PyProof.Rows L2 StX RZ MyR SlX OwnR OwnF
/-- a comprehension over zip of two tuples of one length -/
theorem lc_zipT {K : PySem.W.Frag} {a b : Addr} {xs ys : List V} {g : TG} {tt : TT} {te : TE} {vs : List Nat} {σ : L2.St} {H1 : Hp} {D : Addr} {Qd : Hp → Prop} (hl : xs.length = ys.length) (Pv : Nat → Hp → Prop) (h0 : Pv 0 (upd H1 D (.lst []))) (hq : ∀ i H, i ≤ xs.length → Pv i H → SqT K H a xs ∧ SqT K H b ys)
    (hs : ∀ (i : Nat) (x y : V) (T : Addr) (H : Hp), xs[i]? = some x → ys[i]? = some y → Pv i H → H T = none → g (.ref T) (wipe σ vs) (upd H T (.tup [x, y])) fun σ2 H2 => wipe σ2 vs = wipe σ vs ∧ tt σ2 H2 fun b H3 =>
      if b = true then te σ2 H3 fun y H4 => ∃ acc, H4 D = some (.lst acc) ∧ acc.length < sizeLine ∧ Pv (i + 1) (upd H4 D (.lst (acc ++ [y]))) else Pv (i + 1) H3) (hd : ∀ H, Pv xs.length H → Qd H) :
    ∃ W : Nat → Nat → Hp → Prop, (∃ m, W 0 m (upd H1 D (.lst []))) ∧ ∀ i m H, W i m H →
      ((ItzT K a b).stop i H ∧ Qd H) ∨ ((ItzT K a b).go i H ∧ ∃ Nx : Hp → Prop, (∀ H', Nx H' → ∃ m', m' < m ∧ W (i + 1) m' H') ∧ ∀ x H', (ItzT K a b).yld i H x H' → g x (wipe σ vs) H' fun σ2 H2 => wipe σ2 vs = wipe σ vs ∧ tt σ2 H2 fun b H3 =>
        if b = true then te σ2 H3 fun y H4 => ∃ acc, H4 D = some (.lst acc) ∧ acc.length < sizeLine ∧ Nx (upd H4 D (.lst (acc ++ [y]))) else Nx H3) := by
  refine ⟨fun i m H => m = xs.length - i ∧ i ≤ xs.length ∧ Pv i H, ⟨xs.length, by simp, Nat.zero_le _, h0⟩, ?_⟩
  rintro i m H ⟨rfl, hi, p⟩
  obtain ⟨qx, qy⟩ := hq i H hi p
  by_cases hlt : i < xs.length
  · have hlt2 : i < ys.length := by omega
    have hx : xs[i]? = some xs[i] := List.getElem?_eq_getElem hlt
    have hy : ys[i]? = some ys[i] := List.getElem?_eq_getElem hlt2
    refine .inr ⟨⟨xs, ys, _, _, qx, qy, hx, hy⟩, Pv (i + 1), fun H' p' => ⟨xs.length - (i + 1), by omega, rfl, hlt, p'⟩, fun v H' y => ?_⟩
    obtain ⟨T, x', y', rfl, hT, rfl, f1, f2⟩ := y
    exact hs i x' y' T H (f1 xs qx) (f2 ys qy) p hT
  · have e : i = xs.length := by omega
    subst e
    exact .inl ⟨⟨xs, ys, qx, qy, Or.inl (Nat.le_refl _)⟩, hd H p⟩
/-- the sign of the first entry that is not 0 -/
def sg : List Int → Int
  | [] => 1
  | x :: xs => if x = 0 then sg xs else if 0 < x then 1 else -1
theorem sg_cases : ∀ l : List Int, sg l = 1 ∨ sg l = -1
  | [] => .inl rfl
  | x :: xs => by
    unfold sg
    split
    · exact sg_cases xs
    · split
      · exact .inl rfl
      · exact .inr rfl
def part (l : List Int) : Int := (cont l : Int) * sg l
theorem part_abs (l : List Int) : (part l).natAbs = cont l := by
  unfold part
  rw [Int.natAbs_mul]
  rcases sg_cases l with e | e <;> rw [e] <;> simp
theorem sm_cont {l : List Int} (h : ∀ x ∈ l, sm x) : cont l < 2 ^ 4000 := by
  by_cases c : ∃ x ∈ l, x ≠ 0
  · obtain ⟨x, hx, h0⟩ := c
    have h1 := Int.natAbs_dvd_natAbs.mpr (cont_dvd l x hx)
    have h2 := Nat.le_of_dvd (Int.natAbs_pos.mpr h0) h1
    exact Nat.lt_of_le_of_lt h2 (h x hx)
  · have hz : ∀ l : List Int, (∀ x ∈ l, x = 0) → cont l = 0 := by
      intro l
      induction l with
      | nil => intro _; rfl
      | cons y ys ih =>
        intro hl
        show Nat.gcd y.natAbs (cont ys) = 0
        rw [ih fun x hx => hl x (List.mem_cons_of_mem _ hx), hl y List.mem_cons_self]
        rfl
    rw [hz l fun x hx => Classical.byContradiction fun q => c ⟨x, hx, q⟩]
    decide
theorem sm_part {l : List Int} (h : ∀ x ∈ l, sm x) : sm (part l) := by
  show (part l).natAbs < _
  rw [part_abs]
  exact sm_cont h
/-- divided by its content, the first entry that is not 0 above 0 -/
def prim (l : List Int) : List Int := if part l = 0 then l else l.map fun x => x.fdiv (part l)
theorem tb_map (f : Int → Int) (l : List Int) : (tb l.length fun k => f (co l k)) = l.map f := by
  conv => rhs; rw [← tb_co l]
  unfold tb
  rw [List.map_map]
  rfl
section
variable {P : Program} {w : World} {K : PySem.W.Frag} {mg : Str → Option Value} {base : Heap}
def spZero : Sp := fun vs H Q _ => ∃ (t : Addr) (ns : List Int), vs = [.ref t] ∧ H t = some (tp ns) ∧ Q (.bl (!ns.any (· != 0))) H
theorem ok_is_zero_in (T : Facts K mg) : FnOk P w K mg base CX0 1 T.f_is_zero_in T.fd_is_zero_in ["entries"] spZero := by
  refine T.F_is_zero_in.ok sc_is_zero_in (fun vs H Q E h => ?_) (fun cdv A outer s H vs Q E hr h => ?_)
  · obtain ⟨t, ns, rfl, _⟩ := h
    rfl
  · obtain ⟨t, ns, rfl, ht, q⟩ := h
    refine ⟨_, (PSs.nox (pss_one (ps_ret (pe_not (pe_callB (cr_anyTI (by rfl)) (by rfl) T.z_any (by decide +kernel) (pa_cons (pv 0) pa_nil)))))), ?_⟩
    exact ⟨_, rfl, t, ns, rfl, SqT.of ht, _, rfl, q⟩
def spPrim : Sp := fun vs H Q _ => ∃ (t : Addr) (ns : List Int), vs = [.ref t] ∧ H t = some (tp ns) ∧ ns.length ≤ 1000 ∧ (∀ x ∈ ns, sm x) ∧ ∀ p H', Same H H' → H' p = some (tp (prim ns)) → Q (.ref p) H'
/-- the sum of one row and a multiple of the other -/
def zs (c : Int) (xs ys : List Int) : List Int := List.zipWith (fun x y => x + c * y) xs ys
end
end K06

set_option Elab.async false
set_option linter.all false
set_option maxRecDepth 100000
set_option maxHeartbeats 4000000
namespace K06
open PySem PySem.Spec PyProof.Rows L2 StX RZ MyR SlX OwnR OwnF
/-! ### == of tuples of ints -/
theorem dpAll_ints {K : PySem.W.Frag} {H : Hp} : ∀ ns : List Int, DpAll K H (ns.map V.int) (ns.map PyData.int)
  | [] => .nil
  | n :: r => .cons (.int n) (dpAll_ints r)
theorem lay_ints : ∀ ns : List Int, PyData.canLayAll0 (ns.map PyData.int) = true
  | [] => rfl
  | n :: r => by
    show (PyData.canLay0 (.int n) && PyData.canLayAll0 (r.map PyData.int)) = true
    rw [lay_ints r]
    rfl
theorem depth_ints : ∀ ns : List Int, PyData.depthAll (ns.map PyData.int) = 0
  | [] => rfl
  | n :: r => by
    show max (PyData.depth (.int n)) (PyData.depthAll (r.map PyData.int)) = 0
    rw [depth_ints r]
    rfl
theorem shaped_tints (ns : List Int) : SeqAt.shaped (.tuple (ns.map PyData.int)) = true := by
  unfold SeqAt.shaped
  rw [show PyData.canLay0 (.tuple (ns.map PyData.int)) = PyData.canLayAll0 (ns.map PyData.int) from rfl, lay_ints]
  rw [show PyData.depth (.tuple (ns.map PyData.int)) = PyData.depthAll (ns.map PyData.int) + 1 from rfl, depth_ints]
  rfl
/-! ### the properties, the operators -/
section
variable {P : Program} {w : World} {K : PySem.W.Frag} {mg : Str → Option Value} {base : Heap}
def spEnt (C : Addr) : Sp := fun vs H Q _ => ∃ (a : Addr) (ns : List Int), vs = [.ref a] ∧ Fo C H a ns ∧ ∀ t, H t = some (tp ns) → Q (.ref t) H
theorem ok_Form_entries (T : Facts K mg) : FnOk P w K mg base CX0 1 T.f_Form_entries T.fd_Form_entries ["self"] (spEnt T.C_Form) := by
  refine T.F_Form_entries.ok sc_Form_entries (fun vs H Q E h => ?_) (fun cdv A outer s H vs Q E hr h => ?_)
  · obtain ⟨a, ns, rfl, _⟩ := h
    rfl
  · obtain ⟨a, ns, rfl, fa, q⟩ := h
    obtain ⟨dx, t, ha, ht⟩ := fa.slt
    refine ⟨_, (PSs.nox (pss_one (ps_ret (pe_sl (pv 0))))), ?_⟩
    exact ⟨_, rfl, a, T.C_Form, dx, T.a_own_entries, _, 0, .ref t, rfl, ha, T.oc_Form.scl, T.sl_own_entries, rfl, q t ht⟩
def spDeg (C : Addr) : Sp := fun vs H Q _ => ∃ (a : Addr) (ns : List Int), vs = [.ref a] ∧ Fo C H a ns ∧ Q (.int ((ns.length : Int) - 1)) H
theorem ok_Form_degree (T : Facts K mg) : FnOk P w K mg base CX0 1 T.f_Form_degree T.fd_Form_degree ["self"] (spDeg T.C_Form) := by
  refine T.F_Form_degree.ok sc_Form_degree (fun vs H Q E h => ?_) (fun cdv A outer s H vs Q E hr h => ?_)
  · obtain ⟨a, ns, rfl, _⟩ := h
    rfl
  · obtain ⟨a, ns, rfl, fa, q⟩ := h
    obtain ⟨dx, t, ha, ht⟩ := fa.slt
    refine ⟨_, (PSs.nox (pss_one (ps_ret (pe_op op_sub (pe_callB call_len_seq (by rfl) T.z_len (by decide +kernel) (pa_cons (pe_sl (pv 0)) pa_nil)) pe_int)))), ?_⟩
    refine ⟨_, rfl, a, T.C_Form, dx, T.a_own_entries, _, 0, .ref t, rfl, ha, T.oc_Form.scl, T.sl_own_entries, rfl, t, _, rfl, .inr (SqT.of ht), _, _, rfl, rfl, ?_⟩
    rw [List.length_map]
    exact q
def spIsZ (C : Addr) : Sp := fun vs H Q _ => ∃ (a : Addr) (ns : List Int), vs = [.ref a] ∧ Fo C H a ns ∧ Q (.bl (!ns.any (· != 0))) H
theorem ok_Form_is_zero (T : Facts K mg) : FnOk P w K mg base CX0 2 T.f_Form_is_zero T.fd_Form_is_zero ["self"] (spIsZ T.C_Form) := by
  have G_is_zero_in : FnOk P w K mg base CX0 1 T.f_is_zero_in T.fd_is_zero_in ["entries"] spZero := ok_is_zero_in T
  refine T.F_Form_is_zero.ok sc_Form_is_zero (fun vs H Q E h => ?_) (fun cdv A outer s H vs Q E hr h => ?_)
  · obtain ⟨a, ns, rfl, _⟩ := h
    rfl
  · obtain ⟨a, ns, rfl, fa, q⟩ := h
    obtain ⟨dx, t, ha, ht⟩ := fa.slt
    refine ⟨_, (PSs.nox (pss_one (ps_ret (pe_call G_is_zero_in hr (by rfl) T.g_is_zero_in T.F_is_zero_in.kp T.b_is_zero_in .nil pass0 (pa_cons (pe_sl (pv 0)) pa_nil))))), ?_⟩
    exact ⟨_, rfl, a, T.C_Form, dx, T.a_own_entries, _, 0, .ref t, rfl, ha, T.oc_Form.scl, T.sl_own_entries, rfl, t, ns, rfl, ht, q⟩
/-- what is asked of a form's row -/
structure Rw (ns : List Int) : Prop where
  ne : ns ≠ []
  len : ns.length ≤ 100
  sm : ∀ x ∈ ns, sm x
/-- isinstance(x, Form), x a form -/
theorem isi_form {X : Cx} {C b dy : Addr} {vs : List (Option V)} {H : Hp} {Q : VK} (c : OC X.K C) (hb : Slt H b C dy vs) (q : Q (.bl true) H) : rIsi X.K [.ref b, .ref C] H Q ∨ rIsiSl X.K (.ref C) [.ref b, .ref C] H Q :=
  .inr ⟨b, C, dy, vs, .ref C, true, rfl, rfl, fun w r => r, hb, c.scl, c.sis, c.kself, q⟩
end
end K06

set_option Elab.async false
set_option linter.all false
set_option maxRecDepth 100000
set_option maxHeartbeats 4000000
namespace K06
open PySem PySem.Spec PyProof.Rows L2 StX RZ MyR SlX OwnR OwnF
theorem eqvAll_ints : ∀ xs ys : List Int, PyData.eqvAll (xs.map PyData.int) (ys.map PyData.int) = decide (xs = ys)
  | [], [] => rfl
  | [], _ :: _ => rfl
  | _ :: _, [] => rfl
  | x :: xs, y :: ys => by
    show (PyData.eqv (.int x) (.int y) && PyData.eqvAll (xs.map PyData.int) (ys.map PyData.int)) = _
    rw [eqvAll_ints xs ys]
    show ((x == y) && decide (xs = ys)) = decide (x :: xs = y :: ys)
    by_cases h : x = y
    · by_cases k : xs = ys
      · subst h k
        simp
      · rw [decide_eq_false k, decide_eq_false fun z => k (List.cons.inj z).2, Bool.and_false]
    · rw [decide_eq_false fun z => h (List.cons.inj z).1, beq_eq_false_iff_ne.mpr h, Bool.false_and]
theorem eqv_ints (xs ys : List Int) : PyData.eqv (.tuple (xs.map PyData.int)) (.tuple (ys.map PyData.int)) = decide (xs = ys) := eqvAll_ints xs ys
theorem eq_ints {K : PySem.W.Frag} {H : Hp} {a b : Addr} {xs ys : List Int} {Q : VK} (ha : SqT K H a (xs.map V.int)) (hb : SqT K H b (ys.map V.int)) (q : Q (.bl (decide (xs = ys))) H) : rEqD K (.ref a) (.ref b) H Q := by
  refine ⟨_, _, .tup ha (dpAll_ints xs), .tup hb (dpAll_ints ys), shaped_tints xs, shaped_tints ys, ?_⟩
  rw [eqv_ints]
  exact q
theorem ne_ints {K : PySem.W.Frag} {H : Hp} {a b : Addr} {xs ys : List Int} {Q : VK} (ha : SqT K H a (xs.map V.int)) (hb : SqT K H b (ys.map V.int)) (q : Q (.bl (!decide (xs = ys))) H) : rNeD K (.ref a) (.ref b) H Q := by
  refine ⟨_, _, .tup ha (dpAll_ints xs), .tup hb (dpAll_ints ys), shaped_tints xs, shaped_tints ys, ?_⟩
  rw [eqv_ints]
  exact q
section
variable {P : Program} {w : World} {K : PySem.W.Frag} {mg : Str → Option Value} {base : Heap}
def spMul (C : Addr) : Sp := fun vs H Q _ => ∃ (a : Addr) (xs : List Int) (v : V), vs = [.ref a, v] ∧ Fo C H a xs ∧ Rw xs ∧
  ((∃ (b : Addr) (ys : List Int), v = .ref b ∧ Fo C H b ys ∧ Rw ys ∧ xs.length + ys.length ≤ 42 ∧ ∀ p H', Same H H' → Fo C H' p (ml xs ys) → Q (.ref p) H') ∨
   (∃ c : Int, v = .int c ∧ Sho c ∧ ∀ p H', Same H H' → Fo C H' p (xs.map fun x => x * c) → Q (.ref p) H'))
theorem ok_Form_mul (T : Facts K mg) : FnOk P w K mg base CX0 8 T.f_Form_mul T.fd_Form_mul ["self", "other"] (spMul T.C_Form) := by
  have G_is_whole : FnOk P w K mg base CX0 1 T.f_is_whole T.fd_is_whole ["value"] spWhole := ok_is_whole T
  have G_require_short : FnOk P w K mg base CX0 3 T.f_require_short T.fd_require_short ["value"] spReqShort := ok_require_short T
  have G_joined_entries : FnOk P w K mg base CX0 1 T.f_joined_entries T.fd_joined_entries ["one", "other"] (spJoin K) := ok_joined_entries T
  have G_Form_degree : FnOk P w K mg base CX0 1 T.f_Form_degree T.fd_Form_degree ["self"] (spDeg T.C_Form) := ok_Form_degree T
  have G_form_of : FnOk P w K mg base CX0 7 T.f_form_of T.fd_form_of ["entries"] (spMake T.C_Form) := ok_form_of T
  refine T.F_Form_mul.ok sc_Form_mul (fun vs H Q E h => ?_) (fun cdv A outer s H vs Q E hr h => ?_)
  · obtain ⟨a, xs, v, rfl, _⟩ := h
    rfl
  · obtain ⟨a, xs, v, rfl, fa, r, h⟩ := h
    obtain ⟨dx, t, ha, ht⟩ := fa.slt
    refine ⟨_, (PSs.nox (pss_cons (ps_if (pt_val (pe_callB (call_isiF T.C_Form) (by rfl) T.z_isinstance (by decide +kernel) (pa_cons (pv 1) (pa_cons (pe_glob (v := .ref T.C_Form) (by rfl) T.g_Form rfl) pa_nil))))
      (pss_cons (ps_if (pt_cmpR op_gt (pe_op op_add (pe_prp (pv 0) T.oc_Form T.pr_Form_degree G_Form_degree T.b_Form_degree (hr.mono (by decide))) (pe_prp (pv 1) T.oc_Form T.pr_Form_degree G_Form_degree T.b_Form_degree (hr.mono (by decide)))) (pe_glob (v := .int 40) (by rfl) T.c_MAX_DEGREE.choose_spec ⟨_, rfl⟩) (nomark _))
        (pss_one ps_never)
        pss_nil)
      (pss_one (ps_ret (pe_call G_form_of hr (by rfl) T.g_form_of T.F_form_of.kp T.b_form_of .nil pass0 (pa_cons (pe_call G_joined_entries (hr.mono (by decide)) (by rfl) T.g_joined_entries T.F_joined_entries.kp T.b_joined_entries .nil pass0 (pa_cons (pe_sl (pv 0)) (pa_cons (pe_sl (pv 1)) pa_nil))) pa_nil)))))
      pss_nil)
    (pss_cons (ps_if (pt_not (pt_val (pe_call G_is_whole (hr.mono (by decide)) (by rfl) T.g_is_whole T.F_is_whole.kp T.b_is_whole .nil pass0 (pa_cons (pv 1) pa_nil))))
      (pss_one ps_never)
      pss_nil)
    (pss_cons (ps_expr (pe_call G_require_short (hr.mono (by decide)) (by rfl) T.g_require_short T.F_require_short.kp T.b_require_short .nil pass0 (pa_cons (pv 1) pa_nil)))
    (pss_one (ps_ret (pe_call G_form_of hr (by rfl) T.g_form_of T.F_form_of.kp T.b_form_of .nil pass0 (pa_cons (pe_tupleOf (by rfl) T.z_tuple (pe_lc (own := [("entry", 2)]) (g := (gName 2)) (tt := tYes) (by rfl) sc_Form_mul.nd (pi_tup (pe_sl (pv 0))) (blkOk_by (N := N_Form_mul) (sc := defScope s_Form_mul) (by decide +kernel)) (fun _ _ _ _ _ => (pg_name (i := 2) sc_Form_mul.nd rfl (.inl rfl))) (fun _ _ _ _ _ => pts_nil) (fun _ _ _ _ _ => (pe_op op_mulW (pv 2) (pv 1))))) pa_nil)))))))), ?_⟩
    rcases h with ⟨b, ys, rfl, fb, r2, hl, q⟩ | ⟨c, rfl, hc, q⟩
    · obtain ⟨dy, u, hb, hu⟩ := fb.slt
      refine ⟨_, rfl, isi_form (X := (cxOf CX0 P w K mg base N_Form_mul (Str.ofString "Form.__mul__") (defScope s_Form_mul) T.f_Form_mul cdv A outer s H E).nox) T.oc_Form hb ⟨true, rfl, iteT ?_⟩⟩
      refine ⟨_, rfl, a, dx, _, rfl, ha, a, xs, rfl, fa, _, rfl, b, dy, _, rfl, hb, b, ys, rfl, fb, _, _, rfl, rfl, _, _, rfl, rfl, _, rfl, ?_⟩
      rw [decide_eq_false (show ¬ (40 : Int) < (xs.length : Int) - 1 + ((ys.length : Int) - 1) by omega)]
      refine iteF ⟨_, rfl, a, T.C_Form, dx, T.a_own_entries, _, 0, .ref t, rfl, ha, T.oc_Form.scl, T.sl_own_entries, rfl, _, rfl, b, T.C_Form, dy, T.a_own_entries, _, 0, .ref u, rfl, hb, T.oc_Form.scl, T.sl_own_entries, rfl, t, u, xs, ys, rfl, ht, hu, r.ne, r2.ne, r.len, r2.len, r.sm, r2.sm, fun p H' s _ hp => ?_⟩
      exact ⟨p, _, rfl, hp, fun p2 H2 s2 n2 f2 => q p2 H2 (s.trans s2) f2⟩
    · refine ⟨_, rfl, .inl ⟨.int c, .ref T.C_Form, .type "int", .ref T.C_Form, false, rfl, .own _, .base (.int c), T.oc_Form.kint, false, rfl, iteF ?_⟩⟩
      refine ⟨_, rfl, c, rfl, true, rfl, iteF ⟨_, rfl, c, rfl, hc, ?_⟩⟩
      have smc : sm c := Nat.lt_trans hc (by decide)
      refine ⟨_, rfl, a, T.C_Form, dx, T.a_own_entries, _, 0, .ref t, rfl, ha, T.oc_Form.scl, T.sl_own_entries, rfl, t, rfl, ⟨_, SqT.of ht⟩, fun D hD => lc_tup (xs := xs.map V.int) (fun j H' => H' = upd H D (.lst (tab j fun k => co xs k * c))) rfl (fun j H' _ hP => ?_) (fun j x H' hx hP => ?_) (fun H' hP => ?_)⟩
      · rw [hP]
        exact SqT.of (same_upd0 hD _ _ ht)
      · subst hP
        have hj : j < xs.length := by
          have := (List.getElem?_eq_some_iff.mp hx).1
          rw [List.length_map] at this
          exact this
        rw [get_int hj] at hx
        cases hx
        have := r.len
        refine ⟨rfl, ⟨_, rfl, _, rfl, _, _, rfl, rfl, sm_mul (sm_co r.sm hj) smc, _, upd_same, ?_, ?_⟩⟩
        · rw [tab_len]
          exact small1000 (by omega)
        · rw [upd_upd]
          unfold tab
          rw [List.range_succ, List.map_append]
          rfl
      · subst hP
        rw [List.length_map, tab_tb, tb_map (fun x => x * c) xs]
        refine .inl ⟨D, _, rfl, SqL.of upd_same, fun p hp2 => ?_⟩
        exact ⟨p, _, rfl, upd_same, fun p2 H2 s2 n2 f2 => q p2 H2 ((same_upd0 hD).trans ((same_upd0 hp2).trans s2)) f2⟩
end
end K06

set_option Elab.async false
set_option linter.all false
set_option maxRecDepth 100000
set_option maxHeartbeats 4000000
namespace K06
open PySem PySem.Spec PyProof.Rows L2 StX RZ MyR SlX OwnR OwnF
abbrev dice (x y z : Int) : HO := .lst [.int x, .int y, .int z]
/-- all but the dice is as it was -/
def Sx (a : Addr) (H H' : Hp) : Prop := ∀ b o, b ≠ a → H b = some o → H' b = some o
def Dc (H : Hp) (a : Addr) : Prop := ∃ x y z, H a = some (dice x y z)
theorem Sx.refl (a : Addr) (H : Hp) : Sx a H H := fun _ _ _ h => h
theorem Sx.trans {a : Addr} {H H1 H2 : Hp} (s : Sx a H H1) (t : Sx a H1 H2) : Sx a H H2 := fun b o n h => t b o n (s b o n h)
theorem Sx.of {a : Addr} {H H' : Hp} (s : Same H H') : Sx a H H' := fun b o _ h => s b o h
theorem Sx.upd {a : Addr} {H : Hp} {o : HO} : Sx a H (upd H a o) := fun b u n h => by
  rw [upd_ne n]
  exact h
theorem Dc.same {a : Addr} {H H' : Hp} (d : Dc H a) (s : Same H H') : Dc H' a := by
  obtain ⟨x, y, z, e⟩ := d
  exact ⟨x, y, z, s _ _ e⟩
theorem Dc.ne {a p : Addr} {H : Hp} (d : Dc H a) (n : H p = none) : p ≠ a := fun e => by
  obtain ⟨x, y, z, h⟩ := d
  rw [e, h] at n
  cases n
theorem Sx.free {a p : Addr} {H H' : Hp} (s : Sx a H H') (n : H' p = none) (ne : p ≠ a) : H p = none := by
  cases q : H p with
  | none => rfl
  | some o =>
    rw [s p o ne q] at n
    cases n
section
variable {P : Program} {w : World} {K : PySem.W.Frag} {mg : Str → Option Value} {base : Heap}
theorem cp16 : CPow 10 16 := ⟨by decide, by decide, by decide⟩
theorem cp60 : CPow 10 60 := ⟨by decide, by decide, by decide⟩
theorem cw60 : CMulW (10 ^ Int.toNat 60) (10 ^ Int.toNat 60) := by
  unfold CMulW
  decide +kernel
theorem pos60 : (0 : Int) < 10 ^ Int.toNat 60 * 10 ^ Int.toNat 60 := by decide +kernel
theorem pos_m : (0 : Int) < 1152921504606846697 := by decide
theorem sz3 : 3 ≤ sizeLine := by decide
def spDice (K : PySem.W.Frag) : Sp := fun vs H Q _ => ∃ (a : Addr) (ns : List Int) (k : Nat), vs = [.ref a, .int k] ∧ SqL K H a (ns.map V.int) ∧ ∀ p x y z, H p = none → Q (.ref p) (upd H p (dice x y z))
theorem ok_law_dice (T : Facts K mg) : FnOk P w K mg base CX0 1 T.f_law_dice T.fd_law_dice ["_law_script", "_law_spot"] (spDice K) := by
  refine T.F_law_dice.ok sc_law_dice (fun vs H Q E h => ?_) (fun cdv A outer s H vs Q E hr h => ?_)
  · obtain ⟨a, ns, k, rfl, _⟩ := h
    rfl
  · obtain ⟨a, ns, k, rfl, hS, q⟩ := h
    refine ⟨_, (PSs.nox (pss_cons (ps_set (i := 2) sc_law_dice.nd rfl (.inl rfl) (pe_ifExp (pt_cmpR op_lt (pv 1) (pe_callB call_len_seq (by rfl) T.z_len (by decide +kernel) (pa_cons (pv 0) pa_nil)) (nomark _)) (pe_callTy call_int1 (by rfl) T.z_int (by decide +kernel) (pa_cons (pe_ix ix_list (pv 0) (pv 1) (fun _ _ => rfl)) pa_nil)) (pe_op op_add (pe_op op_mul pe_int (pv 1)) pe_int)))
    (pss_cons (ps_set (i := 3) sc_law_dice.nd rfl (.inl rfl) (pe_op op_mod (pe_callB (call_max2 (by rfl)) (by rfl) T.z_max (by decide +kernel) (pa_cons pe_int (pa_cons (pe_op op_sub (pe_callB call_abs (by rfl) T.z_abs (by decide +kernel) (pa_cons (pv 2) pa_nil)) (pe_op op_pow pe_int pe_int)) pa_nil))) (pe_op op_mulW (pe_op op_pow pe_int pe_int) (pe_op op_pow pe_int pe_int))))
    (pss_one (ps_ret (pe_lst (pa_cons (pv 3) (pa_cons (pe_op op_add (pe_op op_add (pe_op op_add (pe_op op_mul (pe_op op_mod (pe_callB call_abs (by rfl) T.z_abs (by decide +kernel) (pa_cons (pv 2) pa_nil)) pe_int) pe_int) (pe_op op_mul pe_int (pv 1))) (pe_op op_mul pe_int (pe_callTy call_int1 (by rfl) T.z_int (by decide +kernel) (pa_cons (pe_cmpR op_lt (pv 2) pe_int (nomark _)) pa_nil)))) pe_int) (pa_cons pe_int pa_nil))))))))), ?_⟩
    refine ⟨.int k, rfl, .ref a, rfl, a, ns.map V.int, rfl, .inl hS, k, _, rfl, rfl, _, rfl, ?_⟩
    rw [List.length_map]
    by_cases h1 : (k : Int) < (ns.length : Int)
    · rw [decide_eq_true h1]
      have hj : k < ns.length := by omega
      refine iteT ⟨.ref a, rfl, .int k, rfl, a, ns.map V.int, k, .int ns[k], rfl, rfl, hS, atI_nat (by rw [List.getElem?_map, List.getElem?_eq_getElem hj]; rfl), .inl ⟨_, rfl, ?_⟩⟩
      refine ⟨.int ns[k], rfl, _, rfl, 10, 16, rfl, rfl, cp16, _, _, rfl, rfl, 0, _, rfl, 10, 60, rfl, rfl, cp60, 10, 60, rfl, rfl, cp60, _, _, rfl, rfl, cw60, _, _, rfl, rfl, pos60, ?_⟩
      refine ⟨_, rfl, .int ns[k], rfl, _, rfl, _, _, rfl, rfl, pos_m, _, _, rfl, rfl, .inr ⟨by decide, by decide⟩, .int k, rfl, _, _, rfl, rfl, .inl ⟨by decide, by decide⟩, _, _, rfl, rfl, .int ns[k], rfl, _, _, rfl, rfl, .inr ⟨_, rfl, _, _, rfl, rfl, .inl ⟨by decide, by decide⟩, _, _, rfl, rfl, _, _, rfl, rfl, ?_⟩⟩
      exact ⟨sz3, fun p hp => q p _ _ _ hp⟩
    · rw [decide_eq_false h1]
      refine iteF ⟨.int k, rfl, _, _, rfl, rfl, .inl ⟨by decide, by decide⟩, _, _, rfl, rfl, ?_⟩
      refine ⟨_, rfl, _, rfl, 10, 16, rfl, rfl, cp16, _, _, rfl, rfl, 0, _, rfl, 10, 60, rfl, rfl, cp60, 10, 60, rfl, rfl, cp60, _, _, rfl, rfl, cw60, _, _, rfl, rfl, pos60, ?_⟩
      refine ⟨_, rfl, _, rfl, _, rfl, _, _, rfl, rfl, pos_m, _, _, rfl, rfl, .inr ⟨by decide, by decide⟩, .int k, rfl, _, _, rfl, rfl, .inl ⟨by decide, by decide⟩, _, _, rfl, rfl, _, rfl, _, _, rfl, rfl, .inr ⟨_, rfl, _, _, rfl, rfl, .inl ⟨by decide, by decide⟩, _, _, rfl, rfl, _, _, rfl, rfl, ?_⟩⟩
      exact ⟨sz3, fun p hp => q p _ _ _ hp⟩
def spRoll : Sp := fun vs H Q _ => ∃ (a : Addr) (x y z n : Int), vs = [.ref a, .int n] ∧ H a = some (dice x y z) ∧ 0 < n ∧ n.natAbs.log2 < 9000 ∧ ∀ r x' z', 0 ≤ r → r < n → Q (.int r) (upd H a (dice x' y z'))
theorem ok_law_roll (T : Facts K mg) : FnOk P w K mg base CX0 1 T.f_law_roll T.fd_law_roll ["_law_dice_here", "_law_total"] spRoll := by
  refine T.F_law_roll.ok sc_law_roll (fun vs H Q E h => ?_) (fun cdv A outer s H vs Q E hr h => ?_)
  · obtain ⟨a, x, y, z, n, rfl, _⟩ := h
    rfl
  · obtain ⟨a, x, y, z, n, rfl, hd, h0, h1, q⟩ := h
    have hS : SqL K H a [.int x, .int y, .int z] := SqL.of hd
    refine ⟨_, (PSs.nox (pss_cons (ps_if (pt_cmpR op_gt (pe_ix ix_list (pv 0) pe_int (fun _ _ => rfl)) pe_int (nomark _))
      (pss_cons (ps_set (i := 2) sc_law_roll.nd rfl (.inl rfl) (pe_op op_mod (pe_callTy call_int1 (by rfl) T.z_int (by decide +kernel) (pa_cons (pe_ix ix_list (pv 0) pe_int (fun _ _ => rfl)) pa_nil)) (pv 1)))
      (pss_cons (ps_asg (pe_op op_fdivW (pe_ix ix_list (pv 0) pe_int (fun _ _ => rfl)) (pv 1)) (pg_sub (pv 0) pe_int set_list))
      (pss_one (ps_ret (pv 2)))))
      pss_nil)
    (pss_cons (ps_asg (pe_op op_add (pe_ix ix_list (pv 0) pe_int (fun _ _ => rfl)) pe_int) (pg_sub (pv 0) pe_int set_list))
    (pss_cons (ps_set (i := 3) sc_law_roll.nd rfl (.inl rfl) (pe_op op_mod (pe_callTy call_int1 (by rfl) T.z_int (by decide +kernel) (pa_cons (pe_op op_add (pe_ix ix_list (pv 0) pe_int (fun _ _ => rfl)) (pe_op op_mul pe_int (pe_ix ix_list (pv 0) pe_int (fun _ _ => rfl)))) pa_nil)) pe_int))
    (pss_cons (ps_set (i := 4) sc_law_roll.nd rfl (.inl rfl) (pe_op op_add (pe_op op_mul (pe_op op_mod (pe_callTy call_int1 (by rfl) T.z_int (by decide +kernel) (pa_cons (pe_op op_add (pe_op op_mul (pv 3) (pv 3)) (pe_op op_mul pe_int (pe_ix ix_list (pv 0) pe_int (fun _ _ => rfl)))) pa_nil)) pe_int) pe_int) (pv 3)))
    (pss_one (ps_ret (pe_op op_mod (pe_callTy call_int1 (by rfl) T.z_int (by decide +kernel) (pa_cons (pe_op op_fdivW (pv 4) pe_int) pa_nil)) (pv 1))))))))), ?_⟩
    refine ⟨.ref a, rfl, a, _, 0, .int x, rfl, rfl, hS, atI_nat (j := 0) rfl, x, 0, rfl, rfl, decide (0 < x), rfl, ite2 (fun _ => ?_) (fun _ => ?_)⟩
    · refine ⟨.ref a, rfl, a, _, 0, .int x, rfl, rfl, hS, atI_nat (j := 0) rfl, .inl ⟨x, rfl, .int n, rfl, x, n, rfl, rfl, h0, ?_⟩⟩
      refine ⟨.ref a, rfl, a, _, 0, .int x, rfl, rfl, hS, atI_nat (j := 0) rfl, .int n, rfl, x, n, rfl, rfl, ⟨h0, h1⟩, ?_⟩
      refine ⟨.ref a, rfl, a, _, 0, 0, rfl, rfl, hd, rfl, ?_⟩
      exact ⟨_, rfl, q (x % n) (x / n) z (Int.emod_nonneg _ (by omega)) (Int.emod_lt_of_pos _ h0)⟩
    · refine ⟨.ref a, rfl, a, _, 2, .int z, rfl, rfl, hS, atI_nat (j := 2) rfl, z, 1, rfl, rfl, ?_⟩
      refine ⟨.ref a, rfl, a, _, 2, 2, rfl, rfl, hd, rfl, ?_⟩
      have hd' : (upd H a (dice x y (z + 1))) a = some (dice x y (z + 1)) := upd_same
      have hS' : SqL K (upd H a (dice x y (z + 1))) a [.int x, .int y, .int (z + 1)] := SqL.of hd'
      refine ⟨.ref a, rfl, a, _, 1, .int y, rfl, rfl, hS', atI_nat (j := 1) rfl, .ref a, rfl, a, _, 2, .int (z + 1), rfl, rfl, hS', atI_nat (j := 2) rfl, _, _, rfl, rfl, .inl ⟨by decide, by decide⟩, _, _, rfl, rfl, .inl ⟨_, rfl, _, _, rfl, rfl, (by decide : (0 : Int) < 2305843009213691579), ?_⟩⟩
      have b0 := Int.emod_nonneg (y + 92821991 * (z + 1)) (show (2305843009213691579 : Int) ≠ 0 by decide)
      have b1 := Int.emod_lt_of_pos (y + 92821991 * (z + 1)) (show (0 : Int) < 2305843009213691579 by decide)
      refine ⟨_, rfl, _, rfl, _, _, rfl, rfl, .inl ⟨Int.lt_of_lt_of_le (by decide) b0, Int.lt_trans b1 (by decide)⟩, .ref a, rfl, a, _, 2, .int (z + 1), rfl, rfl, hS', atI_nat (j := 2) rfl, _, _, rfl, rfl, .inl ⟨by decide, by decide⟩, _, _, rfl, rfl, .inl ⟨_, rfl, _, _, rfl, rfl, (by decide : (0 : Int) < 2305843009213692227), _, _, rfl, rfl, .inr ⟨by decide, by decide⟩, _, rfl, _, _, rfl, rfl, ?_⟩⟩
      refine ⟨_, rfl, _, _, rfl, rfl, ⟨by decide, by decide +kernel⟩, .inl ⟨_, rfl, .int n, rfl, _, _, rfl, rfl, h0, ?_⟩⟩
      exact q _ x (z + 1) (Int.emod_nonneg _ (by omega)) (Int.emod_lt_of_pos _ h0)
def spPick (K : PySem.W.Frag) : Sp := fun vs H Q _ => ∃ (a b : Addr) (x y z : Int) (xs : List V), vs = [.ref a, .ref b] ∧ H a = some (dice x y z) ∧ H b = some (.lst xs) ∧ a ≠ b ∧ 0 < xs.length ∧ xs.length < 1000 ∧
  ∀ (i : Nat) v x' z', xs[i]? = some v → Q v (upd H a (dice x' y z'))
theorem ok_law_pick (T : Facts K mg) : FnOk P w K mg base CX0 2 T.f_law_pick T.fd_law_pick ["_law_dice_here", "_law_items"] (spPick K) := by
  have G_law_roll : FnOk P w K mg base CX0 1 T.f_law_roll T.fd_law_roll ["_law_dice_here", "_law_total"] spRoll := ok_law_roll T
  refine T.F_law_pick.ok sc_law_pick (fun vs H Q E h => ?_) (fun cdv A outer s H vs Q E hr h => ?_)
  · obtain ⟨a, b, x, y, z, xs, rfl, _⟩ := h
    rfl
  · obtain ⟨a, b, x, y, z, xs, rfl, hd, hb, hab, l0, l1, q⟩ := h
    refine ⟨_, (PSs.nox (pss_one (ps_ret (pe_ix ix_list (pv 1) (pe_call G_law_roll hr (by rfl) T.g_law_roll T.F_law_roll.kp T.b_law_roll .nil pass0 (pa_cons (pv 0) (pa_cons (pe_callB call_len_seq (by rfl) T.z_len (by decide +kernel) (pa_cons (pv 1) pa_nil)) pa_nil))) (fun _ _ => rfl))))), ?_⟩
    refine ⟨.ref b, rfl, .ref a, rfl, .ref b, rfl, b, xs, rfl, .inl (SqL.of hb), ?_⟩
    refine ⟨a, x, y, z, _, rfl, hd, (by omega : (0 : Int) < (xs.length : Int)), Nat.lt_trans (PySem.Flt.log2_lt_of (k := 10) (by decide) (by show xs.length < 2 ^ 10; omega)) (by decide), fun r x' z' h1 h2 => ?_⟩
    obtain ⟨j, rfl⟩ := Int.eq_ofNat_of_zero_le h1
    have hj : j < xs.length := by omega
    exact ⟨b, xs, j, xs[j], rfl, rfl, SqL.of (by rw [upd_ne (Ne.symm hab)]; exact hb), atI_nat (List.getElem?_eq_getElem hj), q j _ x' z' (List.getElem?_eq_getElem hj)⟩
def spRoll2 : Sp := fun vs H Q _ => ∃ (a : Addr) (n : Int), vs = [.ref a, .int n] ∧ Dc H a ∧ 0 < n ∧ n.natAbs.log2 < 9000 ∧ ∀ (r : Nat) H', (r : Int) < n → Sx a H H' → Dc H' a → Q (.int r) H'
theorem roll2 : ∀ vs H Q E, spRoll2 vs H Q E → spRoll vs H Q E := fun vs H Q E h => by
  obtain ⟨a, n, rfl, ⟨x, y, z, e⟩, h0, h1, q⟩ := h
  refine ⟨a, x, y, z, n, rfl, e, h0, h1, fun r x' z' r0 r1 => ?_⟩
  obtain ⟨j, rfl⟩ := Int.eq_ofNat_of_zero_le r0
  exact q j _ r1 Sx.upd ⟨x', y, z', upd_same⟩
def spPick2 : Sp := fun vs H Q _ => ∃ (a b : Addr) (xs : List V), vs = [.ref a, .ref b] ∧ Dc H a ∧ H b = some (.lst xs) ∧ b ≠ a ∧ 0 < xs.length ∧ xs.length < 1000 ∧ ∀ v H', v ∈ xs → Sx a H H' → Dc H' a → Q v H'
theorem pick2 {K : PySem.W.Frag} : ∀ vs H Q E, spPick2 vs H Q E → spPick K vs H Q E := fun vs H Q E h => by
  obtain ⟨a, b, xs, rfl, ⟨x, y, z, e⟩, hb, ne, l0, l1, q⟩ := h
  exact ⟨a, b, x, y, z, xs, rfl, e, hb, Ne.symm ne, l0, l1, fun i v x' z' hv => q v _ (List.mem_of_getElem? hv) Sx.upd ⟨x', y, z', upd_same⟩⟩
def spNear : Sp := fun vs H Q _ => ∃ (a : Addr) (m : Int), vs = [.ref a, .int m] ∧ Dc H a ∧ 0 ≤ m ∧ m ≤ 10 ^ 15 ∧ ∀ r H', -m ≤ r → r ≤ m → Sx a H H' → Dc H' a → Q (.int r) H'
theorem ok_law_near (T : Facts K mg) : FnOk P w K mg base CX0 2 T.f_law_near T.fd_law_near ["_law_dice_here", "_law_most"] spNear := by
  have G_law_roll : FnOk P w K mg base CX0 1 T.f_law_roll T.fd_law_roll ["_law_dice_here", "_law_total"] spRoll2 := (ok_law_roll T).imp roll2
  refine T.F_law_near.ok sc_law_near (fun vs H Q E h => ?_) (fun cdv A outer s H vs Q E hr h => ?_)
  · obtain ⟨a, m, rfl, _⟩ := h
    rfl
  · obtain ⟨a, m, rfl, hd, h0, h1, q⟩ := h
    refine ⟨_, (PSs.nox (pss_one (ps_ret (pe_op op_sub (pe_call G_law_roll hr (by rfl) T.g_law_roll T.F_law_roll.kp T.b_law_roll .nil pass0 (pa_cons (pv 0) (pa_cons (pe_op op_add (pe_op op_mul pe_int (pv 1)) pe_int) pa_nil))) (pv 1))))), ?_⟩
    have e15 : (10 : Int) ^ 15 = 1000000000000000 := by decide
    rw [e15] at h1
    refine ⟨_, rfl, _, rfl, _, _, rfl, rfl, .inl ⟨by decide, by decide⟩, _, _, rfl, rfl, a, _, rfl, hd, (by show 0 < 2 * m + 1; omega), ?_, fun r H' hr s d => ⟨_, rfl, _, _, rfl, rfl, ?_⟩⟩
    · refine Nat.lt_trans (PySem.Flt.log2_lt_of (k := 60) (by decide) ?_) (by decide)
      show (2 * m + 1).natAbs < 2 ^ 60
      omega
    · have hr' : (r : Int) < 2 * m + 1 := hr
      exact q _ H' (by omega) (by omega) s d
/-! ### the law's own gcd -/
def spLGcd : Sp := fun vs H Q _ => ∃ t b : Int, vs = [.int t, .int b] ∧ Q (.int ((Nat.gcd t.natAbs b.natAbs : Nat) : Int)) H
def yOf : L2.St → Nat
  | [_, some (.int y)] => y.toNat
  | _ => 0
theorem abs_nat (i : Int) : (if i < 0 then -i else i) = (i.natAbs : Int) := by split <;> omega
theorem ok_law_gcd (T : Facts K mg) : FnOk P w K mg base CX0 1 T.f_law_gcd T.fd_law_gcd ["_law_one", "_law_other"] spLGcd := by
  refine T.F_law_gcd.ok sc_law_gcd (fun vs H Q E h => ?_) (fun cdv A outer s H vs Q E hr h => ?_)
  · obtain ⟨t, b, rfl, _⟩ := h
    rfl
  · obtain ⟨t, b, rfl, q⟩ := h
    refine ⟨_, (PSs.nox (pss_cons (ps_par (i := 0) (j := 1) (by rfl) sc_law_gcd.nd rfl rfl (by decide) rfl rfl (pa_cons (pe_callB call_abs (by rfl) T.z_abs (by decide +kernel) (pa_cons (pv 0) pa_nil)) (pa_cons (pe_callB call_abs (by rfl) T.z_abs (by decide +kernel) (pa_cons (pv 1) pa_nil)) pa_nil)) (by rfl))
    (pss_cons (ps_while PassesOwn.never (pt_cmpR op_gt (pv 1) pe_int (nomark _))
      (pss_one (ps_par (i := 0) (j := 1) (by rfl) sc_law_gcd.nd rfl rfl (by decide) rfl rfl (pa_cons (pv 1) (pa_cons (pe_op op_mod (pe_callTy call_int1 (by rfl) T.z_int (by decide +kernel) (pa_cons (pv 0) pa_nil)) (pv 1)) pa_nil)) (by rfl))))
    (pss_one (ps_ret (pv 0)))))), ?_⟩
    refine ⟨_, rfl, t, rfl, _, rfl, b, rfl, _, _, rfl, ?_⟩
    rw [abs_nat, abs_nat]
    refine while_by (fun σ H' => ∃ x y : Nat, σ = [some (.int x), some (.int y)] ∧ Nat.gcd x y = Nat.gcd t.natAbs b.natAbs ∧ H' = H) (fun σ _ => yOf σ) ⟨_, _, rfl, rfl, rfl⟩ (fun σ H' hP => ?_) (fun σ H' Q1 Q2 hQ h => ?_)
    · obtain ⟨x, y, rfl, hg, rfl⟩ := hP
      refine ⟨_, rfl, _, _, rfl, rfl, _, rfl, ?_⟩
      by_cases c : 0 < (y : Int)
      · rw [decide_eq_true c]
        refine iteT ⟨_, rfl, _, rfl, .inl ⟨_, rfl, _, rfl, _, _, rfl, rfl, c, _, _, rfl, ?_⟩⟩
        have e : (x : Int) % (y : Int) = ((x % y : Nat) : Int) := (Int.natCast_emod x y).symm
        refine ⟨⟨y, x % y, ?_, ?_, rfl⟩, ?_⟩
        · show [some (V.int y), some (V.int ((x : Int) % (y : Int)))] = _
          rw [e]
        · rw [← hg, Nat.gcd_comm x y, Nat.gcd_rec y x, Nat.gcd_comm]
        · show ((x : Int) % (y : Int)).toNat < (y : Int).toNat
          rw [e]
          have := Nat.mod_lt x (show y > 0 by omega)
          omega
      · rw [decide_eq_false c]
        have ey : y = 0 := by omega
        subst ey
        refine iteF ⟨_, rfl, ?_⟩
        rw [← hg, Nat.gcd_zero_right] at q
        exact q
    · obtain ⟨v, e, x1, x2, e1, e2, k, e3, h⟩ := h
      exact ⟨v, e, x1, x2, e1, e2, k, e3, hQ _ _ h⟩
end
end K06

set_option Elab.async false
set_option linter.all false
set_option maxRecDepth 100000
set_option maxHeartbeats 4000000
namespace K06
open PySem PySem.Spec PyProof.Rows L2 StX RZ MyR SlX OwnR OwnF
theorem cont_snoc (x : Int) : ∀ l : List Int, cont (l ++ [x]) = Nat.gcd (cont l) x.natAbs
  | [] => by
    show Nat.gcd x.natAbs 0 = Nat.gcd 0 x.natAbs
    rw [Nat.gcd_zero_right, Nat.gcd_zero_left]
  | y :: ys => by
    show Nat.gcd y.natAbs (cont (ys ++ [x])) = Nat.gcd (Nat.gcd y.natAbs (cont ys)) x.natAbs
    rw [cont_snoc x ys, Nat.gcd_assoc]
theorem take_snoc {xs : List Int} {i : Nat} (h : i < xs.length) : xs.take (i + 1) = xs.take i ++ [co xs i] := by
  rw [List.take_add_one, List.getElem?_eq_getElem h, co_get h]
  rfl
theorem int_get {xs : List Int} {i : Nat} {x : V} (h : (xs.map V.int)[i]? = some x) : i < xs.length ∧ x = .int (co xs i) := by
  have hi : i < xs.length := by
    have := (List.getElem?_eq_some_iff.mp h).1
    rw [List.length_map] at this
    exact this
  rw [get_int hi] at h
  cases h
  exact ⟨hi, rfl⟩
theorem tab_snoc (n : Nat) (f : Nat → Int) : tab n f ++ [V.int (f n)] = tab (n + 1) f := by
  unfold tab
  rw [List.range_succ, List.map_append]
  rfl
theorem zs_tb {c : Int} {xs ys : List Int} (hl : xs.length = ys.length) : (tb xs.length fun k => co xs k + c * co ys k) = zs c xs ys := by
  refine co_inj (by rw [tb_len]; unfold zs; rw [List.length_zipWith, hl, Nat.min_self]) fun k => ?_
  rw [co_tb]
  unfold zs
  by_cases hk : k < xs.length
  · rw [if_pos hk, co_get (l := List.zipWith _ _ _) (by rw [List.length_zipWith]; omega), List.getElem_zipWith, co_get hk, co_get (by omega)]
  · rw [if_neg hk, co_far (by rw [List.length_zipWith]; omega)]
section
variable {P : Program} {w : World} {K : PySem.W.Frag} {mg : Str → Option Value} {base : Heap}
def spShared : Sp := fun vs H Q _ => ∃ (t : Addr) (ns : List Int), vs = [.ref t] ∧ H t = some (tp ns) ∧ Q (.int (cont ns : Nat)) H
theorem ok_law_shared (T : Facts K mg) : FnOk P w K mg base CX0 2 T.f_law_shared T.fd_law_shared ["_law_numbers"] spShared := by
  have G_law_gcd : FnOk P w K mg base CX0 1 T.f_law_gcd T.fd_law_gcd ["_law_one", "_law_other"] spLGcd := ok_law_gcd T
  refine T.F_law_shared.ok sc_law_shared (fun vs H Q E h => ?_) (fun cdv A outer s H vs Q E hr h => ?_)
  · obtain ⟨t, ns, rfl, _⟩ := h
    rfl
  · obtain ⟨t, ns, rfl, ht, q⟩ := h
    refine ⟨_, (PSs.nox (pss_cons (ps_set (i := 1) sc_law_shared.nd rfl (.inl rfl) pe_int)
    (pss_cons (ps_for PassesOwn.never (by rfl) (pi_tup (pv 0)) (pg_name (i := 2) sc_law_shared.nd rfl (.inl rfl))
      (pss_one (ps_set (i := 1) sc_law_shared.nd rfl (.inl rfl) (pe_call G_law_gcd hr (by rfl) T.g_law_gcd T.F_law_gcd.kp T.b_law_gcd .nil pass0 (pa_cons (pv 1) (pa_cons (pv 2) pa_nil))))))
    (pss_one (ps_ret (pv 1)))))), ?_⟩
    refine ⟨_, rfl, t, rfl, ⟨_, SqT.of ht⟩, for_tup (xs := ns.map V.int) (fun i σ H' => ∃ y, σ = [some (.ref t), some (.int ((cont (ns.take i) : Nat) : Int)), y] ∧ H' = H) ⟨none, rfl, rfl⟩ (fun i σ H' _ hP => by rw [hP.choose_spec.2]; exact SqT.of ht) (fun i x σ H' hx hP => ?_) (fun σ H' hP => ?_)⟩
    · obtain ⟨y, rfl, rfl⟩ := hP
      obtain ⟨hi, rfl⟩ := int_get hx
      refine ⟨_, rfl, _, rfl, _, _, rfl, some (.int (co ns i)), ?_, rfl⟩
      rw [take_snoc hi, cont_snoc]
      rfl
    · obtain ⟨y, rfl, rfl⟩ := hP
      rw [List.length_map, List.take_length]
      exact ⟨_, rfl, q⟩
def spPlus : Sp := fun vs H Q _ => ∃ (t u : Addr) (xs ys : List Int), vs = [.ref t, .ref u] ∧ H t = some (tp xs) ∧ H u = some (tp ys) ∧ xs.length = ys.length ∧ xs.length ≤ 100 ∧ ∀ p H', Same H H' → H p = none → H' p = some (tp (zs 1 xs ys)) → Q (.ref p) H'
theorem ok_law_plus (T : Facts K mg) : FnOk P w K mg base CX0 1 T.f_law_plus T.fd_law_plus ["_law_one", "_law_other"] spPlus := by
  refine T.F_law_plus.ok sc_law_plus (fun vs H Q E h => ?_) (fun cdv A outer s H vs Q E hr h => ?_)
  · obtain ⟨t, u, xs, ys, rfl, _⟩ := h
    rfl
  · obtain ⟨t, u, xs, ys, rfl, ht, hu, hl, hlt, q⟩ := h
    refine ⟨_, (PSs.nox (pss_one (ps_ret (pe_tupleOf (by rfl) T.z_tuple (pe_lc (own := [("_law_first", 2), ("_law_second", 3)]) (g := (gTup K 2 (gCons (gName 2) (gCons (gName 3) gNil)))) (tt := tYes) (by rfl) sc_law_plus.nd (pi_zipA (by rfl) T.z_zip (pa_cons (pv 0) (pa_cons (pv 1) pa_nil))) (blkOk_by (N := N_law_plus) (sc := defScope s_law_plus) (by decide +kernel)) (fun _ _ _ _ _ => (pg_tup (by rfl) (pgs_cons (pg_name (i := 2) sc_law_plus.nd rfl (.inl rfl)) (pgs_cons (pg_name (i := 3) sc_law_plus.nd rfl (.inl rfl)) pgs_nil)))) (fun _ _ _ _ _ => pts_nil) (fun _ _ _ _ _ => (pe_op op_add (pv 2) (pv 3)))))))), ?_⟩
    refine ⟨_, rfl, _, rfl, t, u, _, _, rfl, .inr ⟨SqT.of ht, SqT.of hu, fun D hD => ?_⟩⟩
    refine lc_zipT (xs := xs.map V.int) (ys := ys.map V.int) (by rw [List.length_map, List.length_map, hl]) (fun j H' => Same H H' ∧ H' D = some (.lst (tab j fun k => co xs k + 1 * co ys k))) ⟨same_upd0 hD, upd_same⟩ (fun j H' _ hP => ⟨SqT.of (hP.1 _ _ ht), SqT.of (hP.1 _ _ hu)⟩) (fun j x y A H' hx hy hP hA => ?_) (fun H' hP => ?_)
    · obtain ⟨sH, hD'⟩ := hP
      obtain ⟨hj, rfl⟩ := int_get hx
      obtain ⟨_, rfl⟩ := int_get hy
      have sA := same_upd0 (o := .tup [.int (co xs j), .int (co ys j)]) hA
      refine ⟨A, _, rfl, SqT.of upd_same, rfl, _, _, rfl, _, _, rfl, rfl, rfl, _, rfl, _, rfl, _, _, rfl, rfl, _, sA _ _ hD', ?_, fun b o e => ?_, ?_⟩
      · rw [tab_len]
        exact small1000 (by omega)
      · rw [upd_ne (ne_of_none e hD)]
        exact sA _ _ (sH _ _ e)
      · rw [upd_same, ← tab_snoc]
        show some (HO.lst (tab j _ ++ [V.int (co xs j + co ys j)])) = some (HO.lst (tab j _ ++ [V.int (co xs j + 1 * co ys j)]))
        rw [Int.one_mul]
    · obtain ⟨sH, hD'⟩ := hP
      rw [List.length_map] at hD'
      refine .inl ⟨D, _, rfl, SqL.of hD', fun p hp2 => ?_⟩
      refine q p _ (sH.trans (same_upd0 hp2)) (Same.free sH hp2) ?_
      rw [upd_same, tab_tb, zs_tb hl]
def spScaled : Sp := fun vs H Q _ => ∃ (t : Addr) (xs : List Int) (c : Int), vs = [.ref t, .int c] ∧ H t = some (tp xs) ∧ xs.length ≤ 100 ∧ (∀ x ∈ xs, sm x) ∧ sm c ∧ ∀ p H', Same H H' → H p = none → H' p = some (tp (xs.map fun x => c * x)) → Q (.ref p) H'
theorem ok_law_scaled (T : Facts K mg) : FnOk P w K mg base CX0 1 T.f_law_scaled T.fd_law_scaled ["_law_form_here", "_law_factor"] spScaled := by
  refine T.F_law_scaled.ok sc_law_scaled (fun vs H Q E h => ?_) (fun cdv A outer s H vs Q E hr h => ?_)
  · obtain ⟨t, xs, c, rfl, _⟩ := h
    rfl
  · obtain ⟨t, xs, c, rfl, ht, hl, hs, hc, q⟩ := h
    refine ⟨_, (PSs.nox (pss_one (ps_ret (pe_tupleOf (by rfl) T.z_tuple (pe_lc (own := [("_law_entry", 2)]) (g := (gName 2)) (tt := tYes) (by rfl) sc_law_scaled.nd (pi_tup (pv 0)) (blkOk_by (N := N_law_scaled) (sc := defScope s_law_scaled) (by decide +kernel)) (fun _ _ _ _ _ => (pg_name (i := 2) sc_law_scaled.nd rfl (.inl rfl))) (fun _ _ _ _ _ => pts_nil) (fun _ _ _ _ _ => (pe_op op_mulW (pv 1) (pv 2)))))))), ?_⟩
    refine ⟨_, rfl, t, rfl, ⟨_, SqT.of ht⟩, fun D hD => lc_tup (xs := xs.map V.int) (fun j H' => H' = upd H D (.lst (tab j fun k => c * co xs k))) rfl (fun j H' _ hP => ?_) (fun j x H' hx hP => ?_) (fun H' hP => ?_)⟩
    · rw [hP]
      exact SqT.of (same_upd0 hD _ _ ht)
    · subst hP
      obtain ⟨hj, rfl⟩ := int_get hx
      refine ⟨rfl, ⟨_, rfl, _, rfl, _, _, rfl, rfl, sm_mul hc (sm_co hs hj), _, upd_same, ?_, ?_⟩⟩
      · rw [tab_len]
        exact small1000 (by omega)
      · rw [upd_upd, ← tab_snoc]
    · subst hP
      rw [List.length_map, tab_tb, tb_map (fun x => c * x) xs]
      refine .inl ⟨D, _, rfl, SqL.of upd_same, fun p hp2 => ?_⟩
      exact q p _ ((same_upd0 hD).trans (same_upd0 hp2)) (Same.free (same_upd0 hD) hp2) upd_same
end
end K06

set_option Elab.async false
set_option linter.all false
set_option maxRecDepth 100000
set_option maxHeartbeats 4000000
namespace K06
open PySem PySem.Spec PyProof.Rows L2 StX RZ MyR SlX OwnR OwnF EnumT
section
variable {P : Program} {w : World} {K : PySem.W.Frag} {mg : Str → Option Value} {base : Heap}
def spProd : Sp := fun vs H Q _ => ∃ (a b : Addr) (xs ys : List Int), vs = [.ref a, .ref b] ∧ H a = some (tp xs) ∧ H b = some (tp ys) ∧ xs ≠ [] ∧ ys ≠ [] ∧ xs.length ≤ 100 ∧ ys.length ≤ 100 ∧ (∀ x ∈ xs, sm x) ∧ (∀ x ∈ ys, sm x) ∧ ∀ p H', Same H H' → H p = none → H' p = some (tp (ml xs ys)) → Q (.ref p) H'
theorem ok_law_product (T : Facts K mg) : FnOk P w K mg base CX0 1 T.f_law_product T.fd_law_product ["_law_one", "_law_other"] spProd := by
  refine T.F_law_product.ok sc_law_product (fun vs H Q E h => ?_) (fun cdv A outer s H vs Q E hr h => ?_)
  · obtain ⟨a, b, xs, ys, rfl, _⟩ := h
    rfl
  · obtain ⟨a, b, xs, ys, rfl, ha, hb, nx, ny, lx, ly, hx, hy, q⟩ := h
    have px : 0 < xs.length := List.length_pos_iff.mpr nx
    have py : 0 < ys.length := List.length_pos_iff.mpr ny
    refine ⟨_, (PSs.nox (pss_cons (ps_setLc (i := 2) (own := [("_law_place", 3)]) (g := (gName 3)) (tt := tYes) rfl sc_law_product.nd rfl rfl (sw_true rfl rfl rfl (by decide +kernel)) (pi_range1 (by rfl) T.z_range (pa_cons (pe_op op_sub (pe_op op_add (pe_callB call_len_seq (by rfl) T.z_len (by decide +kernel) (pa_cons (pv 0) pa_nil)) (pe_callB call_len_seq (by rfl) T.z_len (by decide +kernel) (pa_cons (pv 1) pa_nil))) pe_int) pa_nil)) (blkOk_by (N := N_law_product) (sc := defScope s_law_product) (by decide +kernel)) (fun _ _ _ _ _ => (pg_name (i := 3) sc_law_product.nd rfl (.inl rfl))) (fun _ _ _ _ _ => pts_nil) (fun _ _ _ _ _ => pe_int))
    (pss_cons (ps_for PassesOwn.never (by rfl) (pi_enumT (by rfl) T.z_enumerate (pa_cons (pv 0) pa_nil)) (pg_tup (by rfl) (pgs_cons (pg_name (i := 4) sc_law_product.nd rfl (.inl rfl)) (pgs_cons (pg_name (i := 5) sc_law_product.nd rfl (.inl rfl)) pgs_nil)))
      (pss_one (ps_for PassesOwn.never (by rfl) (pi_enumT (by rfl) T.z_enumerate (pa_cons (pv 1) pa_nil)) (pg_tup (by rfl) (pgs_cons (pg_name (i := 3) sc_law_product.nd rfl (.inl rfl)) (pgs_cons (pg_name (i := 6) sc_law_product.nd rfl (.inl rfl)) pgs_nil)))
        (pss_one (ps_asg (pe_op op_add (pe_ix ix_list (pv 2) (pe_op op_add (pv 4) (pv 3)) (fun _ _ => rfl)) (pe_op op_mulW (pv 5) (pv 6))) (pg_sub (pv 2) (pe_op op_add (pv 4) (pv 3)) set_list))))))
    (pss_one (ps_ret (pe_tupleOf (by rfl) T.z_tuple (pv 2))))))), ?_⟩
    refine ⟨_, rfl, a, _, rfl, .inr (SqT.of ha), _, rfl, b, _, rfl, .inr (SqT.of hb), ?_⟩
    rw [List.length_map, List.length_map]
    obtain ⟨N, hN⟩ : ∃ N, N = xs.length + ys.length - 1 := ⟨_, rfl⟩
    have eN : (((xs.length : Int) + (ys.length : Int) - 1)).toNat = N := by omega
    refine ⟨_, _, rfl, rfl, _, _, rfl, rfl, _, rfl, (by show -(2 ^ 62) ≤ (xs.length : Int) + (ys.length : Int) - 1; omega), (by show (xs.length : Int) + (ys.length : Int) - 1 < 2 ^ 62; omega), fun D hD => lc_range (n := _) (fun j H' => H' = upd H D (.lst (List.replicate j (V.int 0)))) rfl (fun j H' hj hP => ?_) (fun H' hP => ?_)⟩
    · subst hP
      have hj2 : j < N := by rw [← eN]; exact hj
      refine ⟨rfl, ⟨_, upd_same, ?_, ?_⟩⟩
      · rw [List.length_replicate]
        exact small1000 (by omega)
      · rw [upd_upd, List.replicate_succ']
    · subst hP
      show _
      rw [show List.replicate (((xs.length : Int) + (ys.length : Int) - 1)).toNat (V.int 0) = tab N (fun k => cv (xs.take 0) (co ys) k) by rw [eN, tab_rep]; rfl]
      have sD : ∀ o, Same H (upd H D o) := fun o => same_upd0 hD
      -- what stands in each turn: the list at D, and what stood before
      refine ⟨_, rfl, a, _, rfl, SqT.of (sD _ _ _ ha), for_enumT (xs := xs.map V.int) (fun i σ H' => ∃ y3 y4 y5 y6, σ = [some (.ref a), some (.ref b), some (.ref D), y3, y4, y5, y6] ∧ Same H H' ∧ H' D = some (.lst (tab N fun k => cv (xs.take i) (co ys) k))) ⟨none, none, none, none, rfl, sD _, upd_same⟩ (fun i σ H' hP => ?_) (fun i x B σ H' hxi hP hB => ?_) (fun σ H' hP => ?_)⟩
      · obtain ⟨y3, y4, y5, y6, _, sH, _⟩ := hP
        exact SqT.of (sH _ _ ha)
      · obtain ⟨y3, y4, y5, y6, rfl, sH, hL⟩ := hP
        obtain ⟨hi2, rfl⟩ := int_get hxi
        refine ⟨B, _, rfl, SqT.of upd_same, rfl, _, _, rfl, _, _, rfl, rfl, ?_⟩
        refine gen_upd H' B _ hB (fun H2 s2 _ => ?_)
        have sH2 := sH.trans s2
        have hL2 := s2 _ _ hL
        rw [tab_ext (g := J xs (co ys) i 0) fun k hk => J_0.symm] at hL2
        refine ⟨_, rfl, b, _, rfl, SqT.of (sH2 _ _ hb), for_enumT (xs := ys.map V.int) (fun j σ H3 => ∃ y3 y6, σ = [some (.ref a), some (.ref b), some (.ref D), y3, some (.int ((i : Nat) : Int)), some (.int (co xs i)), y6] ∧ Same H H3 ∧ H3 D = some (.lst (tab N (J xs (co ys) i j)))) ⟨y3, y6, rfl, sH2, hL2⟩ (fun j σ H3 hP => ?_) (fun j y B2 σ H3 hyj hP hB2 => ?_) (fun σ H3 hP => ?_)⟩
        · obtain ⟨y3, y6, _, sH3, _⟩ := hP
          exact SqT.of (sH3 _ _ hb)
        · obtain ⟨y3, y6, rfl, sH3, hL3⟩ := hP
          obtain ⟨hj2, rfl⟩ := int_get hyj
          refine ⟨B2, _, rfl, SqT.of upd_same, rfl, _, _, rfl, _, _, rfl, rfl, ?_⟩
          refine gen_upd H3 B2 _ hB2 (fun H4 s4 _ => ?_)
          have sH4 := sH3.trans s4
          have hL4 := s4 _ _ hL3
          have e1 : ((i : Nat) : Int) + ((j : Nat) : Int) = ((i + j : Nat) : Int) := by omega
          refine ⟨_, rfl, _, rfl, _, rfl, _, _, rfl, rfl, D, _, _, _, rfl, rfl, SqL.of hL4, at_of e1 (tab_get (by omega)), _, rfl, _, rfl, _, _, rfl, rfl, sm_mul (sm_co hx hi2) (sm_co hy hj2), _, _, rfl, rfl, ?_⟩
          refine ⟨_, rfl, _, rfl, _, rfl, _, _, rfl, rfl, D, _, _, (i + j), rfl, rfl, hL4, ?_, ?_⟩
          · rw [tab_len]
            exact ix_at e1 (by omega)
          · refine ⟨_, _, rfl, fun c o e => ?_, ?_⟩
            · rw [upd_ne (ne_of_none e hD)]
              exact sH4 _ _ e
            · rw [upd_same]
              show some (HO.lst ((tab N (J xs (co ys) i j)).set (i + j) (.int (J xs (co ys) i j (i + j) + co xs i * co ys j)))) = _
              rw [tab_set, tab_ext fun k hk => J_step]
        · obtain ⟨y3, y6, rfl, sH3, hL3⟩ := hP
          rw [List.length_map, tab_ext fun k hk => J_end hi2] at hL3
          exact ⟨_, _, _, _, rfl, sH3, hL3⟩
      · obtain ⟨y3, y4, y5, y6, rfl, sH, hL⟩ := hP
        rw [List.length_map, List.take_length, tab_tb] at hL
        refine ⟨_, rfl, .inl ⟨D, _, rfl, SqL.of hL, fun p hp => ?_⟩⟩
        refine q p _ (sH.trans (same_upd0 hp)) (Same.free sH hp) ?_
        rw [upd_same, hN]
        rfl
/-- the product of the first n -/
def pow (l : List Int) : Nat → List Int
  | 0 => [1]
  | n + 1 => ml (pow l n) l
def spPow : Sp := fun vs H Q _ => ∃ (a : Addr) (xs : List Int) (n : Nat), vs = [.ref a, .int n] ∧ H a = some (tp xs) ∧ xs ≠ [] ∧ xs.length ≤ 100 ∧ (∀ x ∈ xs, sm x) ∧ (∀ i, i < n → pow xs i ≠ [] ∧ (pow xs i).length ≤ 100 ∧ ∀ x ∈ pow xs i, sm x) ∧ n ≤ 100 ∧ ∀ p H', Same H H' → H' p = some (tp (pow xs n)) → Q (.ref p) H'
theorem ok_law_power (T : Facts K mg) : FnOk P w K mg base CX0 2 T.f_law_power T.fd_law_power ["_law_pair", "_law_times"] spPow := by
  have G_law_product : FnOk P w K mg base CX0 1 T.f_law_product T.fd_law_product ["_law_one", "_law_other"] spProd := ok_law_product T
  refine T.F_law_power.ok sc_law_power (fun vs H Q E h => ?_) (fun cdv A outer s H vs Q E hr h => ?_)
  · obtain ⟨a, xs, n, rfl, _⟩ := h
    rfl
  · obtain ⟨a, xs, n, rfl, ha, nx, lx, hx, hp, hn, q⟩ := h
    refine ⟨_, (PSs.nox (pss_cons (ps_set (i := 2) sc_law_power.nd rfl (.inl rfl) (pe_tup (pa_cons pe_int pa_nil)))
    (pss_cons (ps_for PassesOwn.never (by rfl) (pi_range1 (by rfl) T.z_range (pa_cons (pv 1) pa_nil)) (pg_name (i := 3) sc_law_power.nd rfl (.inl rfl))
      (pss_one (ps_set (i := 2) sc_law_power.nd rfl (.inl rfl) (pe_call G_law_product hr (by rfl) T.g_law_product T.F_law_product.kp T.b_law_product .nil pass0 (pa_cons (pv 2) (pa_cons (pv 0) pa_nil))))))
    (pss_one (ps_ret (pv 2)))))), ?_⟩
    refine ⟨(by show 1 ≤ sizeLine; decide), fun p0 n0 => ⟨_, rfl, n, rfl, by omega, by omega, for_range (n := (n : Int).toNat) (fun i σ H' => ∃ r y3, σ = [some (.ref a), some (.int n), some (.ref r), y3] ∧ Same H H' ∧ H' r = some (tp (pow xs i))) ⟨p0, none, rfl, same_upd0 n0, upd_same⟩ (fun i σ H' hi hP => ?_) (fun σ H' hP => ?_)⟩⟩
    · obtain ⟨r, y3, rfl, sH, hr2⟩ := hP
      obtain ⟨h1, h2, h3⟩ := hp i (by omega)
      exact ⟨_, rfl, _, rfl, r, a, _, xs, rfl, hr2, sH _ _ ha, h1, nx, h2, lx, h3, hx, fun p H2 s2 _ hp2 => ⟨p, _, rfl, sH.trans s2, hp2⟩⟩
    · obtain ⟨r, y3, rfl, sH, hr2⟩ := hP
      rw [Int.toNat_natCast] at hr2
      exact ⟨_, rfl, q r H' sH hr2⟩
end
end K06

set_option Elab.async false
set_option linter.all false
set_option maxRecDepth 100000
set_option maxHeartbeats 4000000
namespace K06
open PySem PySem.Spec PyProof.Rows L2 StX RZ MyR SlX OwnR OwnF EnumT
theorem first_of : ∀ ns : List Int, cont ns ≠ 0 → ∃ x r, ns.filter (fun x => x != 0) = x :: r ∧ sg ns = (if 0 < x then 1 else -1)
  | [], h => absurd rfl h
  | y :: ys, h => by
    by_cases c : y = 0
    · have hc : cont ys ≠ 0 := fun e => h (by
        show Nat.gcd y.natAbs (cont ys) = 0
        rw [c, e]
        rfl)
      obtain ⟨x, r, e1, e2⟩ := first_of ys hc
      refine ⟨x, r, ?_, ?_⟩
      · rw [List.filter_cons_of_neg (by rw [c]; decide)]
        exact e1
      · show (if y = 0 then sg ys else _) = _
        rw [if_pos c]
        exact e2
    · refine ⟨y, ys.filter (fun x => x != 0), ?_, ?_⟩
      · rw [List.filter_cons_of_pos (by simpa using c)]
      · show (if y = 0 then sg ys else if 0 < y then 1 else -1) = _
        rw [if_neg c]
section
variable {P : Program} {w : World} {K : PySem.W.Frag} {mg : Str → Option Value} {base : Heap}
theorem ok_law_plain (T : Facts K mg) : FnOk P w K mg base CX0 3 T.f_law_plain T.fd_law_plain ["_law_form_here"] spPrim := by
  have G_law_shared : FnOk P w K mg base CX0 2 T.f_law_shared T.fd_law_shared ["_law_numbers"] spShared := ok_law_shared T
  refine T.F_law_plain.ok sc_law_plain (fun vs H Q E h => ?_) (fun cdv A outer s H vs Q E hr h => ?_)
  · obtain ⟨t, ns, rfl, _⟩ := h
    rfl
  · obtain ⟨t, ns, rfl, ht, hl, hs, q⟩ := h
    refine ⟨_, (PSs.nox (pss_cons (ps_set (i := 1) sc_law_plain.nd rfl (.inr rfl) (pe_call G_law_shared hr (by rfl) T.g_law_shared T.F_law_shared.kp T.b_law_shared .nil pass0 (pa_cons (pv 0) pa_nil)))
    (pss_cons (ps_if (pt_cmpR op_eq (pv 1) pe_int (nomark _))
      (pss_one (ps_ret (pv 0)))
      pss_nil)
    (pss_cons (ps_set (i := 2) sc_law_plain.nd rfl (.inr rfl) (pe_ix ix_list (pe_lc (own := [("_law_entry", 3)]) (g := (gName 3)) (by rfl) sc_law_plain.nd (pi_tup (pv 0)) (blkOk_by (N := N_law_plain) (sc := defScope s_law_plain) (by decide +kernel)) (fun _ _ _ _ _ => (pg_name (i := 3) sc_law_plain.nd rfl (.inl rfl))) (fun _ _ _ _ _ => (pts_one (pt_cmpR op_ne (pv 3) pe_int (nomark _)))) (fun _ _ _ _ _ => (pv 3))) pe_int (fun _ _ => rfl)))
    (pss_one (ps_ret (pe_tupleOf (by rfl) T.z_tuple (pe_lc (own := [("_law_entry", 3)]) (g := (gName 3)) (tt := tYes) (by rfl) sc_law_plain.nd (pi_tup (pv 0)) (blkOk_by (N := N_law_plain) (sc := defScope s_law_plain) (by decide +kernel)) (fun _ _ _ _ _ => (pg_name (i := 3) sc_law_plain.nd rfl (.inl rfl))) (fun _ _ _ _ _ => pts_nil) (fun _ _ _ _ _ => (pe_op op_fdivZ (pv 3) (pe_ifExp (pt_cmpR op_gt (pv 2) pe_int (nomark _)) (pv 1) (pe_op op_sub pe_int (pv 1))))))))))))), ?_⟩
    refine ⟨_, rfl, t, ns, rfl, ht, _, rfl, rfl, _, rfl, ?_⟩
    by_cases c : cont ns = 0
    · rw [decide_eq_true (show V.int ((cont ns : Nat) : Int) = V.int 0 by rw [c]; rfl)]
      refine iteT ⟨_, rfl, q t H (Same.rf H) ?_⟩
      unfold prim
      rw [if_pos (by unfold part; rw [c]; exact Int.zero_mul _)]
      exact ht
    · rw [decide_eq_false fun z => c (Int.natCast_eq_zero.mp (V.int.inj z))]
      obtain ⟨x0, r0, e1, e2⟩ := first_of ns c
      have hpart : part ns = if 0 < x0 then ((cont ns : Nat) : Int) else 0 - ((cont ns : Nat) : Int) := by
        unfold part
        rw [e2]
        split
        · exact Int.mul_one _
        · rw [Int.mul_neg, Int.mul_one, Int.zero_sub]
      have hp0 : part ns ≠ 0 := fun e => c (by rw [← part_abs, e]; rfl)
      have hcd : CDivZ 0 (part ns) := ⟨hp0, Nat.lt_trans (PySem.Flt.log2_lt_of (k := 4000) (by decide) (sm_part hs)) (by decide)⟩
      refine iteF ⟨_, rfl, t, rfl, ⟨_, SqT.of ht⟩, fun D hD => lc_tup (xs := ns.map V.int) (fun j H' => Same H H' ∧ H' D = some (.lst (((ns.take j).filter (fun x => x != 0)).map V.int))) ⟨same_upd0 hD, upd_same⟩ (fun j H' _ hP => SqT.of (hP.1 _ _ ht)) (fun j x H' hx hP => ?_) (fun H1 hP => ?_)⟩
      · obtain ⟨sH, hL⟩ := hP
        obtain ⟨hj, rfl⟩ := int_get hx
        refine ⟨rfl, _, rfl, rfl, _, rfl, ?_⟩
        rw [take_snoc hj, List.filter_append]
        by_cases d : co ns j = 0
        · rw [decide_eq_true (show V.int (co ns j) = V.int 0 by rw [d])]
          refine iteF ⟨sH, ?_⟩
          rw [hL, List.filter_cons_of_neg (by rw [d]; decide), List.filter_nil, List.append_nil]
        · rw [decide_eq_false fun z => d (V.int.inj z)]
          refine iteT ⟨_, rfl, _, hL, ?_, fun b o e => ?_, ?_⟩
          · have h1 := List.length_filter_le (fun x => x != 0) (ns.take j)
            rw [List.length_take] at h1
            rw [List.length_map]
            exact small1000 (by omega)
          · rw [upd_ne (ne_of_none e hD)]
            exact sH _ _ e
          · rw [upd_same, List.filter_cons_of_pos (by simpa using d), List.filter_nil, List.map_append]
            rfl
      · obtain ⟨s1, hL⟩ := hP
        rw [List.length_map, List.take_length, e1] at hL
        refine ⟨D, _, _, .int x0, rfl, rfl, SqL.of hL, atI_nat (j := 0) rfl, ?_⟩
        have ht1 := s1 _ _ ht
        refine ⟨_, rfl, t, rfl, ⟨_, SqT.of ht1⟩, fun D2 hD2 => lc_tup (xs := ns.map V.int) (fun j H' => H' = upd H1 D2 (.lst (tab j fun k => (co ns k).fdiv (part ns)))) rfl (fun j H' _ hP => ?_) (fun j x H' hx hP => ?_) (fun H' hP => ?_)⟩
        · rw [hP]
          exact SqT.of (same_upd0 hD2 _ _ ht1)
        · subst hP
          obtain ⟨hj, rfl⟩ := int_get hx
          refine ⟨rfl, _, rfl, _, rfl, x0, 0, rfl, rfl, _, rfl, ?_⟩
          have fin : ∀ v : Int, v = part ns → True := fun _ _ => True.intro
          by_cases d : 0 < x0
          · rw [decide_eq_true d]
            rw [if_pos d] at hpart
            rw [hpart] at hcd
            refine iteT ⟨_, rfl, _, _, rfl, rfl, hcd, _, upd_same, ?_, ?_⟩
            · rw [tab_len]
              exact small1000 (by omega)
            · rw [upd_upd, ← tab_snoc, hpart]
          · rw [decide_eq_false d]
            rw [if_neg d] at hpart
            rw [hpart] at hcd
            refine iteF ⟨_, rfl, _, _, rfl, rfl, _, _, rfl, rfl, hcd, _, upd_same, ?_, ?_⟩
            · rw [tab_len]
              exact small1000 (by omega)
            · rw [upd_upd, ← tab_snoc, hpart]
        · subst hP
          rw [List.length_map, tab_tb, tb_map (fun x => x.fdiv (part ns)) ns]
          refine .inl ⟨D2, _, rfl, SqL.of upd_same, fun p hp2 => ?_⟩
          refine q p _ (s1.trans ((same_upd0 hD2).trans (same_upd0 hp2))) ?_
          rw [upd_same]
          unfold prim
          rw [if_neg hp0]
end
end K06

set_option Elab.async false
set_option linter.all false
set_option maxRecDepth 100000
set_option maxHeartbeats 4000000
namespace K06
open PySem PySem.Spec PyProof.Rows L2 StX RZ MyR SlX OwnR OwnF EnumT
theorem prim_len (l : List Int) : (prim l).length = l.length := by
  unfold prim
  split
  · rfl
  · rw [List.length_map]
theorem prim_mem {l : List Int} {b : Nat} (h : ∀ x ∈ l, x.natAbs ≤ b) : ∀ x ∈ prim l, x.natAbs ≤ b := by
  intro x hx
  unfold prim at hx
  by_cases c : part l = 0
  · rw [if_pos c] at hx
    exact h x hx
  · rw [if_neg c] at hx
    obtain ⟨y, hy, rfl⟩ := List.mem_map.mp hx
    have hd : part l ∣ y := Int.natAbs_dvd_natAbs.mp (by rw [part_abs]; exact Int.natAbs_dvd_natAbs.mpr (cont_dvd l y hy))
    obtain ⟨k, rfl⟩ := hd
    show ((part l * k).fdiv (part l)).natAbs ≤ b
    rw [Int.mul_fdiv_cancel_left _ c]
    refine Nat.le_trans ?_ (h _ hy)
    rw [Int.natAbs_mul]
    exact Nat.le_mul_of_pos_left _ (Int.natAbs_pos.mpr c)
section
variable {P : Program} {w : World} {K : PySem.W.Frag} {mg : Str → Option Value} {base : Heap}
theorem dc_ne {H : Hp} {d p : Addr} {xs : List V} (hd : Dc H d) (hp : H p = some (.tup xs)) : p ≠ d := fun e => by
  obtain ⟨x, y, z, h⟩ := hd
  rw [e, h] at hp
  cases hp
def spLine : Sp := fun vs H Q _ => ∃ (t : Addr) (u v : Int), vs = [.ref t] ∧ H t = some (tp [u, v]) ∧ ∀ p, H p = none → Q (.ref p) (upd H p (tp [v, 0 - u]))
theorem ok_law_line (T : Facts K mg) : FnOk P w K mg base CX0 1 T.f_law_line T.fd_law_line ["_law_point_here"] spLine := by
  refine T.F_law_line.ok sc_law_line (fun vs H Q E h => ?_) (fun cdv A outer s H vs Q E hr h => ?_)
  · obtain ⟨t, u, v, rfl, _⟩ := h
    rfl
  · obtain ⟨t, u, v, rfl, ht, q⟩ := h
    refine ⟨_, (PSs.nox (pss_one (ps_ret (pe_tup (pa_cons (pe_ix ix_tup (pv 0) pe_int (fun _ _ => rfl)) (pa_cons (pe_op op_sub pe_int (pe_ix ix_tup (pv 0) pe_int (fun _ _ => rfl))) pa_nil)))))), ?_⟩
    exact ⟨_, rfl, t, _, 1, _, rfl, rfl, SqT.of ht, atI_nat (j := 1) rfl, _, rfl, t, _, 0, _, rfl, rfl, SqT.of ht, atI_nat (j := 0) rfl, _, _, rfl, rfl, (by show 2 ≤ sizeLine; decide), fun p hp => q p hp⟩
/-- a drawn point -/
def spPoint : Sp := fun vs H Q _ => ∃ (d : Addr) (m : Nat), vs = [.ref d, .int m] ∧ Dc H d ∧ 1 ≤ m ∧ m ≤ 1000 ∧ ∀ p H' u v, Sx d H H' → Dc H' d → H' p = some (tp [u, v]) → u.natAbs ≤ m → v.natAbs ≤ m → Q (.ref p) H'
theorem ok_law_point (T : Facts K mg) : FnOk P w K mg base CX0 4 T.f_law_point T.fd_law_point ["_law_dice_here", "_law_most"] spPoint := by
  have G_law_near : FnOk P w K mg base CX0 2 T.f_law_near T.fd_law_near ["_law_dice_here", "_law_most"] spNear := ok_law_near T
  have G_law_plain : FnOk P w K mg base CX0 3 T.f_law_plain T.fd_law_plain ["_law_form_here"] spPrim := ok_law_plain T
  refine T.F_law_point.ok sc_law_point (fun vs H Q E h => ?_) (fun cdv A outer s H vs Q E hr h => ?_)
  · obtain ⟨d, m, rfl, _⟩ := h
    rfl
  · obtain ⟨d, m, rfl, hd, h1, h2, q⟩ := h
    refine ⟨_, (PSs.nox (pss_cons (ps_par (i := 2) (j := 3) (by rfl) sc_law_point.nd rfl rfl (by decide) rfl rfl (pa_cons (pe_call G_law_near (hr.mono (by decide)) (by rfl) T.g_law_near T.F_law_near.kp T.b_law_near .nil pass0 (pa_cons (pv 0) (pa_cons (pv 1) pa_nil))) (pa_cons (pe_call G_law_near (hr.mono (by decide)) (by rfl) T.g_law_near T.F_law_near.kp T.b_law_near .nil pass0 (pa_cons (pv 0) (pa_cons (pv 1) pa_nil))) pa_nil)) (by rfl))
    (pss_one (ps_ret (pe_ifExp (pt_cmpR (op_neD (hu64 hr)) (pe_tup (pa_cons (pv 2) (pa_cons (pv 3) pa_nil))) (pe_tup (pa_cons pe_int (pa_cons pe_int pa_nil))) (nomark _)) (pe_call G_law_plain hr (by rfl) T.g_law_plain T.F_law_plain.kp T.b_law_plain .nil pass0 (pa_cons (pe_tup (pa_cons (pv 2) (pa_cons (pv 3) pa_nil))) pa_nil)) (pe_tup (pa_cons pe_int (pa_cons pe_int pa_nil)))))))), ?_⟩
    have e15 : (10 : Int) ^ 15 = 1000000000000000 := by decide
    have z2 : 2 ≤ sizeLine := by decide
    refine ⟨_, rfl, _, rfl, d, m, rfl, hd, by omega, by rw [e15]; omega, fun u H1 u1 u2 s1 d1 => ⟨_, rfl, _, rfl, d, m, rfl, d1, by omega, by rw [e15]; omega, fun v H2 v1 v2 s2 d2 => ⟨_, _, rfl, ?_⟩⟩⟩
    have s12 := s1.trans s2
    refine ⟨_, rfl, _, rfl, z2, fun p1 n1 => gen_upd H2 p1 (tp [u, v]) n1 fun H3 s3 f3 => ⟨z2, fun p2 n2 => gen_upd H3 p2 (tp [0, 0]) n2 fun H4 s4 f4 => ?_⟩⟩
    refine ne_ints (xs := [u, v]) (ys := [0, 0]) (SqT.of (s4 _ _ f3)) (SqT.of f4) ?_
    have d4 := d2.same (s3.trans s4)
    have s14 : Sx d H H4 := s12.trans (Sx.of (s3.trans s4))
    by_cases c : [u, v] = [0, 0]
    · rw [decide_eq_true c]
      refine ⟨_, rfl, iteF ⟨z2, fun p3 n3 => gen_upd H4 p3 (tp [1, 0]) n3 fun H5 s5 f5 => ?_⟩⟩
      exact q p3 H5 1 0 (s14.trans (Sx.of s5)) (d4.same s5) f5 (by show 1 ≤ m; omega) (by show 0 ≤ m; omega)
    · rw [decide_eq_false c]
      refine ⟨_, rfl, iteT ⟨_, rfl, _, rfl, z2, fun p3 n3 => gen_upd H4 p3 (tp [u, v]) n3 fun H5 s5 f5 => ?_⟩⟩
      have hb : ∀ x ∈ [u, v], x.natAbs ≤ m := fun x hx => by
        simp only [List.mem_cons, List.not_mem_nil, or_false] at hx
        rcases hx with e | e <;> rw [e] <;> omega
      refine ⟨p3, [u, v], rfl, f5, by show 2 ≤ 1000; omega, fun x hx => Nat.lt_of_le_of_lt (hb x hx) (Nat.lt_of_le_of_lt h2 (by decide)), fun p H6 s6 hp => ?_⟩
      have hl := prim_len [u, v]
      have hm := prim_mem hb
      generalize prim [u, v] = r at hp hl hm
      match r, hl with
      | [x, y], _ => exact q p H6 x y (s14.trans (Sx.of (s5.trans s6))) (d4.same (s5.trans s6)) hp (hm x (by simp)) (hm y (by simp))
/-- a drawn form -/
def spSmall : Sp := fun vs H Q _ => ∃ (d : Addr) (n m : Nat), vs = [.ref d, .int n, .int m] ∧ Dc H d ∧ n ≤ 40 ∧ m ≤ 1000000000000 ∧ ∀ p H' l, Sx d H H' → Dc H' d → H' p = some (tp l) → l.length = n + 1 → (∀ x ∈ l, x.natAbs ≤ m) → Q (.ref p) H'
theorem ok_law_small_form (T : Facts K mg) : FnOk P w K mg base CX0 3 T.f_law_small_form T.fd_law_small_form ["_law_dice_here", "_law_degree", "_law_most"] spSmall := by
  have G_law_near : FnOk P w K mg base CX0 2 T.f_law_near T.fd_law_near ["_law_dice_here", "_law_most"] spNear := ok_law_near T
  refine T.F_law_small_form.ok sc_law_small_form (fun vs H Q E h => ?_) (fun cdv A outer s H vs Q E hr h => ?_)
  · obtain ⟨d, n, m, rfl, _⟩ := h
    rfl
  · obtain ⟨d, n, m, rfl, hd, hn, hm, q⟩ := h
    refine ⟨_, (PSs.nox (pss_one (ps_ret (pe_tupleOf (by rfl) T.z_tuple (pe_lc (own := [("_law_place", 3)]) (g := (gName 3)) (tt := tYes) (by rfl) sc_law_small_form.nd (pi_range1 (by rfl) T.z_range (pa_cons (pe_op op_add (pv 1) pe_int) pa_nil)) (blkOk_by (N := N_law_small_form) (sc := defScope s_law_small_form) (by decide +kernel)) (fun _ _ _ _ _ => (pg_name (i := 3) sc_law_small_form.nd rfl (.inl rfl))) (fun _ _ _ _ _ => pts_nil) (fun _ _ _ _ _ => (pe_call G_law_near hr (by rfl) T.g_law_near T.F_law_near.kp T.b_law_near .nil pass0 (pa_cons (pv 0) (pa_cons (pv 2) pa_nil))))))))), ?_⟩
    have e15 : (10 : Int) ^ 15 = 1000000000000000 := by decide
    refine ⟨_, rfl, _, _, rfl, rfl, _, rfl, (by show -(2 ^ 62) ≤ (n : Int) + 1; omega), (by show (n : Int) + 1 < 2 ^ 62; omega), fun D hD => lc_range (n := ((n : Int) + 1).toNat) (fun j H' => Sx d H H' ∧ Dc H' d ∧ ∃ l : List Int, H' D = some (.lst (l.map V.int)) ∧ l.length = j ∧ ∀ x ∈ l, x.natAbs ≤ m) ⟨Sx.of (same_upd0 hD), hd.same (same_upd0 hD), [], upd_same, rfl, fun x hx => by cases hx⟩ (fun j H' hj hP => ?_) (fun H' hP => ?_)⟩
    · obtain ⟨sH, dH, l, hL, hl, hb⟩ := hP
      have nD : D ≠ d := hd.ne hD
      refine ⟨rfl, _, rfl, _, rfl, d, m, rfl, dH, by omega, by rw [e15]; omega, fun r H2 r1 r2 s2 d2 => ⟨_, s2 D _ nD hL, ?_, fun b o hb2 e => ?_, ?_, l ++ [r], ?_, ?_, fun x hx => ?_⟩⟩
      · rw [List.length_map]
        exact small1000 (by omega)
      · rw [upd_ne (ne_of_none e hD)]
        exact (sH.trans s2) b o hb2 e
      · obtain ⟨x, y, z, e⟩ := d2
        exact ⟨x, y, z, by rw [upd_ne (Ne.symm nD)]; exact e⟩
      · rw [upd_same, List.map_append]
        rfl
      · rw [List.length_append, hl]
        rfl
      · rcases List.mem_append.mp hx with e | e
        · exact hb x e
        · rw [List.mem_singleton.mp e]
          omega
    · obtain ⟨sH, dH, l, hL, hl, hb⟩ := hP
      refine .inl ⟨D, _, rfl, SqL.of hL, fun p hp2 => ?_⟩
      exact q p _ l (sH.trans (Sx.of (same_upd0 hp2))) (dH.same (same_upd0 hp2)) upd_same (by omega) hb
end
end K06

set_option Elab.async false
set_option linter.all false
set_option maxRecDepth 100000
/-! how large the entries of products are -/
namespace K06
/-- the sum of the first n absolute values -/
def sN : Nat → (Nat → Int) → Nat
  | 0, _ => 0
  | n + 1, f => sN n f + (f n).natAbs
/-- the sum of the absolute values of the entries -/
def nm (l : List Int) : Nat := (l.map Int.natAbs).sum
theorem sN_add (f g : Nat → Int) : ∀ n, sN n (fun k => f k + g k) ≤ sN n f + sN n g
  | 0 => Nat.le_refl _
  | n + 1 => by
    have h1 := sN_add f g n
    have h2 := Int.natAbs_add_le (f n) (g n)
    show sN n (fun k => f k + g k) + (f n + g n).natAbs ≤ sN n f + (f n).natAbs + (sN n g + (g n).natAbs)
    omega
theorem sN_mul (c : Int) (f : Nat → Int) : ∀ n, sN n (fun k => c * f k) = c.natAbs * sN n f
  | 0 => rfl
  | n + 1 => by
    show sN n (fun k => c * f k) + (c * f n).natAbs = c.natAbs * (sN n f + (f n).natAbs)
    rw [sN_mul c f n, Int.natAbs_mul, Nat.mul_add]
theorem sN_sh (f : Nat → Int) : ∀ n, sN n (sh f) ≤ sN n f
  | 0 => Nat.le_refl _
  | 1 => Nat.zero_le _
  | n + 2 => by
    have key : ∀ n, sN (n + 1) (sh f) = sN n f := by
      intro n
      induction n with
      | zero => rfl
      | succ n ih =>
        show sN (n + 1) (sh f) + (f n).natAbs = sN n f + (f n).natAbs
        rw [ih]
    rw [key]
    exact Nat.le_add_right _ _
theorem sN_cv (g : Nat → Int) (n : Nat) : ∀ l : List Int, sN n (cv l g) ≤ nm l * sN n g
  | [] => by
    have : sN n (cv [] g) = 0 := by
      induction n with
      | zero => rfl
      | succ n ih => show sN n (cv [] g) + (0 : Int).natAbs = 0; rw [ih]; rfl
    omega
  | x :: xs => by
    have h1 := sN_cv g n xs
    have e : sN n (cv (x :: xs) g) = sN n (fun k => x * g k + sh (cv xs g) k) := by
      rw [show cv (x :: xs) g = fun k => x * g k + sh (cv xs g) k from funext (cv_cons x xs g)]
    have h2 := sN_add (fun k => x * g k) (sh (cv xs g)) n
    have h3 := sN_sh (cv xs g) n
    rw [e]
    rw [sN_mul] at h2
    show _ ≤ (x.natAbs + nm xs) * sN n g
    rw [Nat.add_mul]
    omega
theorem nm_snoc (l : List Int) (x : Int) : nm (l ++ [x]) = nm l + x.natAbs := by
  unfold nm
  rw [List.map_append, List.sum_append]
  simp
theorem nm_tb (f : Nat → Int) : ∀ n, nm (tb n f) = sN n f
  | 0 => rfl
  | n + 1 => by
    have e : tb (n + 1) f = tb n f ++ [f n] := by
      unfold tb
      rw [List.range_succ, List.map_append]
      rfl
    rw [e, nm_snoc, nm_tb f n]
    rfl
theorem nm_mem : ∀ {l : List Int} {x : Int}, x ∈ l → x.natAbs ≤ nm l
  | y :: ys, x, h => by
    show x.natAbs ≤ y.natAbs + nm ys
    rcases List.mem_cons.mp h with e | e
    · rw [e]; omega
    · have := nm_mem e; omega
theorem sN_co (l : List Int) (n : Nat) : sN n (co l) ≤ nm l := by
  by_cases h : n ≤ l.length
  · have mono : ∀ k, sN n (co l) ≤ sN (n + k) (co l) := by
      intro k
      induction k with
      | zero => exact Nat.le_refl _
      | succ k ih => exact Nat.le_trans ih (Nat.le_add_right _ _)
    have h1 := mono (l.length - n)
    rw [show n + (l.length - n) = l.length by omega] at h1
    rw [← nm_tb (co l) l.length, tb_co] at h1
    exact h1
  · have far : ∀ k, sN (l.length + k) (co l) = sN l.length (co l) := by
      intro k
      induction k with
      | zero => rfl
      | succ k ih =>
        show sN (l.length + k) (co l) + (co l (l.length + k)).natAbs = _
        rw [ih, co_far (by omega)]
        rfl
    have h1 := far (n - l.length)
    rw [show l.length + (n - l.length) = n by omega] at h1
    rw [h1, ← nm_tb (co l) l.length, tb_co]
    exact Nat.le_refl _
theorem nm_ml (l m : List Int) : nm (ml l m) ≤ nm l * nm m := by
  unfold ml
  rw [nm_tb]
  exact Nat.le_trans (sN_cv _ _ l) (Nat.mul_le_mul (Nat.le_refl _) (sN_co m _))
theorem nm_pl : ∀ (l m : List Int), nm (pl l m) ≤ nm l + nm m
  | [], _ => Nat.zero_le _
  | _ :: _, [] => Nat.zero_le _
  | x :: xs, y :: ys => by
    have h1 := nm_pl xs ys
    have h2 := Int.natAbs_add_le x y
    show (x + y).natAbs + nm (pl xs ys) ≤ x.natAbs + nm xs + (y.natAbs + nm ys)
    omega
theorem nm_scale (c : Int) : ∀ l : List Int, nm (l.map (c * ·)) = c.natAbs * nm l
  | [] => rfl
  | x :: xs => by
    show (c * x).natAbs + nm (xs.map (c * ·)) = c.natAbs * (x.natAbs + nm xs)
    rw [nm_scale c xs, Int.natAbs_mul, Nat.mul_add]
theorem nm_le {b : Nat} : ∀ {l : List Int}, (∀ x ∈ l, x.natAbs ≤ b) → nm l ≤ l.length * b
  | [], _ => Nat.zero_le _
  | x :: xs, h => by
    have h1 := nm_le (l := xs) fun y hy => h y (List.mem_cons_of_mem _ hy)
    have h2 := h x List.mem_cons_self
    show x.natAbs + nm xs ≤ (xs.length + 1) * b
    rw [Nat.succ_mul]
    omega
end K06

set_option Elab.async false
set_option linter.all false
set_option maxRecDepth 100000
set_option maxHeartbeats 4000000
namespace K06
open PySem PySem.Spec PyProof.Rows L2 StX RZ MyR SlX OwnR OwnF EnumT
section
variable {P : Program} {w : World} {K : PySem.W.Frag} {mg : Str → Option Value} {base : Heap}
end
end K06

set_option Elab.async false
set_option linter.all false
set_option maxRecDepth 100000
set_option maxHeartbeats 4000000
namespace K06
open PySem PySem.Spec PyProof.Rows L2 StX RZ MyR SlX OwnR OwnF EnumT
/-- the product of the first i rows -/
def allP (ls : List (List Int)) (i : Nat) : List Int := (ls.take i).foldl ml [1]
theorem allP_succ {ls : List (List Int)} {i : Nat} (h : i < ls.length) : allP ls (i + 1) = ml (allP ls i) ls[i] := by
  unfold allP
  rw [List.take_add_one, List.getElem?_eq_getElem h, List.foldl_append]
  rfl
section
variable {P : Program} {w : World} {K : PySem.W.Frag} {mg : Str → Option Value} {base : Heap}
def spAll : Sp := fun vs H Q _ => ∃ (l : Addr) (rs : List Addr) (ls : List (List Int)), vs = [.ref l] ∧ H l = some (.lst (rs.map V.ref)) ∧ rs.length = ls.length ∧ (∀ i (h : i < ls.length) (h' : i < rs.length), H rs[i] = some (tp ls[i]) ∧ Rw ls[i]) ∧ (∀ i, i < ls.length → Rw (allP ls i)) ∧ ∀ p H', Same H H' → H' p = some (tp (allP ls ls.length)) → Q (.ref p) H'
theorem ok_law_all_product (T : Facts K mg) : FnOk P w K mg base CX0 2 T.f_law_all_product T.fd_law_all_product ["_law_forms"] spAll := by
  have G_law_product : FnOk P w K mg base CX0 1 T.f_law_product T.fd_law_product ["_law_one", "_law_other"] spProd := ok_law_product T
  refine T.F_law_all_product.ok sc_law_all_product (fun vs H Q E h => ?_) (fun cdv A outer s H vs Q E hr h => ?_)
  · obtain ⟨l, rs, ls, rfl, _⟩ := h
    rfl
  · obtain ⟨l, rs, ls, rfl, hl, hlen, hrow, hall, q⟩ := h
    refine ⟨_, (PSs.nox (pss_cons (ps_set (i := 1) sc_law_all_product.nd rfl (.inl rfl) (pe_tup (pa_cons pe_int pa_nil)))
    (pss_cons (ps_for PassesOwn.never (by rfl) (pi_list (pv 0)) (pg_name (i := 2) sc_law_all_product.nd rfl (.inl rfl))
      (pss_one (ps_set (i := 1) sc_law_all_product.nd rfl (.inl rfl) (pe_call G_law_product hr (by rfl) T.g_law_product T.F_law_product.kp T.b_law_product .nil pass0 (pa_cons (pv 1) (pa_cons (pv 2) pa_nil))))))
    (pss_one (ps_ret (pv 1)))))), ?_⟩
    refine ⟨(by show 1 ≤ sizeLine; decide), fun p0 n0 => ⟨_, rfl, l, rfl, ⟨_, SqL.of (same_upd0 n0 _ _ hl)⟩, for_list (xs := rs.map V.ref) (fun i σ H' => ∃ r y, σ = [some (.ref l), some (.ref r), y] ∧ Same H H' ∧ H' r = some (tp (allP ls i))) ⟨p0, none, rfl, same_upd0 n0, upd_same⟩ (fun i σ H' _ hP => ?_) (fun i x σ H' hx hP => ?_) (fun σ H' hP => ?_)⟩⟩
    · obtain ⟨r, y, _, sH, _⟩ := hP
      exact SqL.of (sH _ _ hl)
    · obtain ⟨r, y, rfl, sH, hr2⟩ := hP
      rw [List.getElem?_map] at hx
      obtain ⟨b, hb, rfl⟩ := Option.map_eq_some_iff.mp hx
      obtain ⟨h1, e1⟩ := List.getElem?_eq_some_iff.mp hb
      have h2 : i < ls.length := by omega
      obtain ⟨hb2, rb⟩ := hrow i h2 h1
      rw [e1] at hb2
      have ra := hall i h2
      exact ⟨_, rfl, _, rfl, r, b, _, ls[i], rfl, hr2, sH _ _ hb2, ra.ne, rb.ne, ra.len, rb.len, ra.sm, rb.sm, fun p H2 s2 _ hp2 => ⟨p, _, rfl, sH.trans s2, by rw [allP_succ h2]; exact hp2⟩⟩
    · obtain ⟨r, y, rfl, sH, hr2⟩ := hP
      rw [List.length_map, hlen] at hr2
      exact ⟨_, rfl, q r H' sH hr2⟩
end
end K06

set_option Elab.async false
set_option linter.all false
set_option maxRecDepth 100000
/-! the primitive row of a primitive row -/
namespace K06
end K06

set_option Elab.async false
set_option linter.all false
set_option maxRecDepth 100000
/-! sums of rows, rows of 0 -/
namespace K06
theorem zs_one : ∀ xs ys : List Int, zs 1 xs ys = pl xs ys
  | [], _ => rfl
  | _ :: _, [] => rfl
  | x :: xs, y :: ys => by
    show (x + 1 * y) :: zs 1 xs ys = (x + y) :: pl xs ys
    rw [zs_one xs ys, Int.one_mul]
theorem any_cont : ∀ l : List Int, (!l.any (· != 0)) = decide (cont l = 0)
  | [] => rfl
  | x :: xs => by
    have h := any_cont xs
    rw [List.any_cons, Bool.not_or, h]
    by_cases c : x = 0
    · have e : cont (x :: xs) = cont xs := by
        show Nat.gcd x.natAbs (cont xs) = _
        rw [c]
        exact Nat.gcd_zero_left _
      rw [e, c]
      rfl
    · have e : cont (x :: xs) ≠ 0 := fun z => c (cont_zero z x List.mem_cons_self)
      rw [decide_eq_false e]
      have : (x != 0) = true := by simpa using c
      rw [this]
      rfl
end K06

set_option Elab.async false
set_option linter.all false
set_option maxRecDepth 100000
set_option maxHeartbeats 4000000
namespace K06
open PySem PySem.Spec PyProof.Rows L2 StX RZ MyR SlX OwnR OwnF EnumT
/-! ### drawn forms -/
/-- a row of a degree, with its size -/
structure Bd (l : List Int) (n b : Nat) : Prop where
  len : l.length = n + 1
  nm : nm l ≤ b
theorem Bd.ne {l : List Int} {n b : Nat} (h : Bd l n b) : l ≠ [] := fun e => by
  have := h.len
  rw [e] at this
  cases this
theorem Bd.mono {l : List Int} {n b c : Nat} (h : Bd l n b) (k : b ≤ c) : Bd l n c := ⟨h.len, Nat.le_trans h.nm k⟩
theorem Bd.mem {l : List Int} {n b : Nat} (h : Bd l n b) : ∀ x ∈ l, x.natAbs ≤ b := fun x hx => Nat.le_trans (nm_mem hx) h.nm
theorem Bd.rw {l : List Int} {n b : Nat} (h : Bd l n b) (hn : n ≤ 99) (hb : b < 2 ^ 4000) : Rw l := ⟨h.ne, by rw [h.len]; omega, fun x hx => Nat.lt_of_le_of_lt (h.mem x hx) hb⟩
theorem bd_ml {l m : List Int} {n k b c : Nat} (h : Bd l n b) (g : Bd m k c) : Bd (ml l m) (n + k) (b * c) :=
  ⟨by rw [ml_len, h.len, g.len]; omega, Nat.le_trans (nm_ml l m) (Nat.mul_le_mul h.nm g.nm)⟩
theorem bd_one : Bd [1] 0 1 := ⟨rfl, Nat.le_refl _⟩
theorem bd_line {u v : Int} {m : Nat} (hu : u.natAbs ≤ m) (hv : v.natAbs ≤ m) : Bd [v, 0 - u] 1 (2 * m) := ⟨rfl, by
  show v.natAbs + ((0 - u).natAbs + 0) ≤ _
  omega⟩
theorem bd_pair {u v : Int} {m : Nat} (hu : u.natAbs ≤ m) (hv : v.natAbs ≤ m) : Bd [u, v] 1 (2 * m) := ⟨rfl, by
  show u.natAbs + (v.natAbs + 0) ≤ _
  omega⟩
theorem bd_small {l : List Int} {n m : Nat} (hl : l.length = n + 1) (h : ∀ x ∈ l, x.natAbs ≤ m) : Bd l n ((n + 1) * m) := ⟨hl, by
  have := nm_le h
  rw [hl] at this
  exact this⟩
theorem bd_pow {l : List Int} {b : Nat} (h : Bd l 1 b) : ∀ i, Bd (pow l i) i (b ^ i)
  | 0 => bd_one
  | i + 1 => by
    rw [Nat.pow_succ]
    exact bd_ml (bd_pow h i) h
theorem bd_all {ls : List (List Int)} {b : Nat} (h : ∀ l ∈ ls, Bd l 1 b) : ∀ i, i ≤ ls.length → Bd (allP ls i) i (b ^ i)
  | 0, _ => bd_one
  | i + 1, hi => by
    rw [Nat.pow_succ, allP_succ hi]
    exact bd_ml (bd_all h i (by omega)) (h _ (List.getElem_mem hi))
theorem bd_zs {l m : List Int} {n b c : Nat} (h : Bd l n b) (g : Bd m n c) : Bd (zs 1 l m) n (b + c) := by
  rw [zs_one]
  exact ⟨by rw [pl_len (by rw [h.len, g.len]), h.len], Nat.le_trans (nm_pl l m) (Nat.add_le_add h.nm g.nm)⟩
theorem bd_scale {l : List Int} {n b d : Nat} {c : Int} (h : Bd l n b) (hc : c.natAbs ≤ d) : Bd (l.map (c * ·)) n (d * b) := ⟨by rw [List.length_map, h.len], by
  rw [nm_scale]
  exact Nat.mul_le_mul hc h.nm⟩
theorem p6 {i : Nat} (h : i ≤ 8) : 6 ^ i ≤ 1679616 := Nat.le_trans (Nat.pow_le_pow_right (by decide) h) (by decide)
theorem iteI {i j : Int} {A B : Prop} (h1 : i = j → A) (h2 : i ≠ j → B) : if decide (V.int i = V.int j) = true then A else B := by
  by_cases h : i = j
  · rw [decide_eq_true (by rw [h])]
    exact iteT (h1 h)
  · rw [decide_eq_false fun z => h (V.int.inj z)]
    exact iteF (h2 h)
section
variable {P : Program} {w : World} {K : PySem.W.Frag} {mg : Str → Option Value} {base : Heap}
def spDrawn : Sp := fun vs H Q _ => ∃ (d : Addr) (n : Nat), vs = [.ref d, .int n] ∧ Dc H d ∧ n ≤ 8 ∧ ∀ p H' l, Sx d H H' → Dc H' d → H' p = some (tp l) → Bd l n (10 ^ 14) → Q (.ref p) H'
theorem ok_law_form (T : Facts K mg) : FnOk P w K mg base CX0 5 T.f_law_form T.fd_law_form ["_law_dice_here", "_law_degree"] spDrawn := by
  have G_law_roll : FnOk P w K mg base CX0 1 T.f_law_roll T.fd_law_roll ["_law_dice_here", "_law_total"] spRoll2 := (ok_law_roll T).imp roll2
  have G_law_near : FnOk P w K mg base CX0 2 T.f_law_near T.fd_law_near ["_law_dice_here", "_law_most"] spNear := ok_law_near T
  have G_law_plus := ok_law_plus (P := P) (w := w) (base := base) T
  have G_law_scaled := ok_law_scaled (P := P) (w := w) (base := base) T
  have G_law_product := ok_law_product (P := P) (w := w) (base := base) T
  have G_law_all_product := ok_law_all_product (P := P) (w := w) (base := base) T
  have G_law_power := ok_law_power (P := P) (w := w) (base := base) T
  have G_law_line := ok_law_line (P := P) (w := w) (base := base) T
  have G_law_point := ok_law_point (P := P) (w := w) (base := base) T
  have G_law_small_form := ok_law_small_form (P := P) (w := w) (base := base) T
  refine T.F_law_form.ok sc_law_form (fun vs H Q E h => ?_) (fun cdv A outer s H vs Q E hr h => ?_)
  · obtain ⟨d, n, rfl, _⟩ := h
    rfl
  · obtain ⟨d, n, rfl, hd, hn, q⟩ := h
    have e15 : (10 : Int) ^ 15 = 1000000000000000 := by decide
    have e14 : (10 : Nat) ^ 14 = 100000000000000 := by decide
    rw [e14] at q
    have lg : ∀ i : Nat, i < 100 → (i : Int).natAbs.log2 < 9000 := fun i hi => Nat.lt_trans (PySem.Flt.log2_lt_of (k := 10) (by decide) (by show i < 2 ^ 10; omega)) (by decide)
    refine ⟨_, (PSs.nox (pss_cons (ps_set (i := 2) sc_law_form.nd rfl (.inl rfl) (pe_call G_law_roll (hr.mono (by decide)) (by rfl) T.g_law_roll T.F_law_roll.kp T.b_law_roll .nil pass0 (pa_cons (pv 0) (pa_cons pe_int pa_nil))))
    (pss_cons (ps_if (pt_cmpR op_eq (pv 2) pe_int (nomark _))
      (pss_one (ps_ret (pe_call G_law_all_product (hr.mono (by decide)) (by rfl) T.g_law_all_product T.F_law_all_product.kp T.b_law_all_product .nil pass0 (pa_cons (pe_lc (own := [("_law_turn", 3)]) (g := (gName 3)) (tt := tYes) (by rfl) sc_law_form.nd (pi_range1 (by rfl) T.z_range (pa_cons (pv 1) pa_nil)) (blkOk_by (N := N_law_form) (sc := defScope s_law_form) (by decide +kernel)) (fun _ _ _ _ _ => (pg_name (i := 3) sc_law_form.nd rfl (.inl rfl))) (fun _ _ _ _ _ => pts_nil) (fun _ _ _ _ _ => (pe_call G_law_line (hr.mono (by decide)) (by rfl) T.g_law_line T.F_law_line.kp T.b_law_line .nil pass0 (pa_cons (pe_call G_law_point hr (by rfl) T.g_law_point T.F_law_point.kp T.b_law_point .nil pass0 (pa_cons (pv 0) (pa_cons pe_int pa_nil))) pa_nil)))) pa_nil))))
      pss_nil)
    (pss_cons (ps_if (pt_cmpR op_eq (pv 2) pe_int (nomark _))
      (pss_cons (ps_par (i := 4) (j := 5) (by rfl) sc_law_form.nd rfl rfl (by decide) rfl rfl (pa_cons (pe_call G_law_line (hr.mono (by decide)) (by rfl) T.g_law_line T.F_law_line.kp T.b_law_line .nil pass0 (pa_cons (pe_call G_law_point hr (by rfl) T.g_law_point T.F_law_point.kp T.b_law_point .nil pass0 (pa_cons (pv 0) (pa_cons pe_int pa_nil))) pa_nil)) (pa_cons (pe_call G_law_roll (hr.mono (by decide)) (by rfl) T.g_law_roll T.F_law_roll.kp T.b_law_roll .nil pass0 (pa_cons (pv 0) (pa_cons (pe_op op_add (pv 1) pe_int) pa_nil))) pa_nil)) (by rfl))
      (pss_one (ps_ret (pe_call G_law_product (hr.mono (by decide)) (by rfl) T.g_law_product T.F_law_product.kp T.b_law_product .nil pass0 (pa_cons (pe_call G_law_power (hr.mono (by decide)) (by rfl) T.g_law_power T.F_law_power.kp T.b_law_power .nil pass0 (pa_cons (pv 4) (pa_cons (pv 5) pa_nil))) (pa_cons (pe_call G_law_small_form (hr.mono (by decide)) (by rfl) T.g_law_small_form T.F_law_small_form.kp T.b_law_small_form .nil pass0 (pa_cons (pv 0) (pa_cons (pe_op op_sub (pv 1) (pv 5)) (pa_cons pe_int pa_nil)))) pa_nil))))))
      pss_nil)
    (pss_cons (ps_if (pt_cmpR op_eq (pv 2) pe_int (nomark _))
      (pss_cons (ps_set (i := 6) sc_law_form.nd rfl (.inl rfl) (pe_tupleOf (by rfl) T.z_tuple (pe_lc (own := [("_law_place", 7)]) (g := (gName 7)) (tt := tYes) (by rfl) sc_law_form.nd (pi_range1 (by rfl) T.z_range (pa_cons (pe_op op_add (pv 1) pe_int) pa_nil)) (blkOk_by (N := N_law_form) (sc := defScope s_law_form) (by decide +kernel)) (fun _ _ _ _ _ => (pg_name (i := 7) sc_law_form.nd rfl (.inl rfl))) (fun _ _ _ _ _ => pts_nil) (fun _ _ _ _ _ => pe_int))))
      (pss_cons (ps_for PassesOwn.never (by rfl) (pi_range1 (by rfl) T.z_range (pa_cons (pe_op op_add pe_int (pe_call G_law_roll (hr.mono (by decide)) (by rfl) T.g_law_roll T.F_law_roll.kp T.b_law_roll .nil pass0 (pa_cons (pv 0) (pa_cons pe_int pa_nil)))) pa_nil)) (pg_name (i := 3) sc_law_form.nd rfl (.inl rfl))
        (pss_one (ps_set (i := 6) sc_law_form.nd rfl (.inl rfl) (pe_call G_law_plus (hr.mono (by decide)) (by rfl) T.g_law_plus T.F_law_plus.kp T.b_law_plus .nil pass0 (pa_cons (pv 6) (pa_cons (pe_call G_law_scaled (hr.mono (by decide)) (by rfl) T.g_law_scaled T.F_law_scaled.kp T.b_law_scaled .nil pass0 (pa_cons (pe_call G_law_power (hr.mono (by decide)) (by rfl) T.g_law_power T.F_law_power.kp T.b_law_power .nil pass0 (pa_cons (pe_call G_law_point hr (by rfl) T.g_law_point T.F_law_point.kp T.b_law_point .nil pass0 (pa_cons (pv 0) (pa_cons pe_int pa_nil))) (pa_cons (pv 1) pa_nil))) (pa_cons (pe_call G_law_near (hr.mono (by decide)) (by rfl) T.g_law_near T.F_law_near.kp T.b_law_near .nil pass0 (pa_cons (pv 0) (pa_cons pe_int pa_nil))) pa_nil))) pa_nil))))))
      (pss_one (ps_ret (pv 6)))))
      pss_nil)
    (pss_cons (ps_if (pt_cmpR op_eq (pv 2) pe_int (nomark _))
      (pss_one (ps_ret (pe_tupleOf (by rfl) T.z_tuple (pe_lc (own := [("_law_place", 7)]) (g := (gName 7)) (tt := tYes) (by rfl) sc_law_form.nd (pi_range1 (by rfl) T.z_range (pa_cons (pe_op op_add (pv 1) pe_int) pa_nil)) (blkOk_by (N := N_law_form) (sc := defScope s_law_form) (by decide +kernel)) (fun _ _ _ _ _ => (pg_name (i := 7) sc_law_form.nd rfl (.inl rfl))) (fun _ _ _ _ _ => pts_nil) (fun _ _ _ _ _ => (pe_op op_mulW (pe_call G_law_near (hr.mono (by decide)) (by rfl) T.g_law_near T.F_law_near.kp T.b_law_near .nil pass0 (pa_cons (pv 0) (pa_cons pe_int pa_nil))) (pe_call G_law_roll (hr.mono (by decide)) (by rfl) T.g_law_roll T.F_law_roll.kp T.b_law_roll .nil pass0 (pa_cons (pv 0) (pa_cons pe_int pa_nil)))))))))
      pss_nil)
    (pss_cons (ps_if (pw_and (pt_cmpR op_eq (pv 2) pe_int (nomark _)) (pw_and1 (pt_cmpR op_eq (pe_call G_law_roll (hr.mono (by decide)) (by rfl) T.g_law_roll T.F_law_roll.kp T.b_law_roll .nil pass0 (pa_cons (pv 0) (pa_cons pe_int pa_nil))) pe_int (nomark _)))).pt
      (pss_one (ps_ret (pe_tupleOf (by rfl) T.z_tuple (pe_lc (own := [("_law_place", 7)]) (g := (gName 7)) (tt := tYes) (by rfl) sc_law_form.nd (pi_range1 (by rfl) T.z_range (pa_cons (pe_op op_add (pv 1) pe_int) pa_nil)) (blkOk_by (N := N_law_form) (sc := defScope s_law_form) (by decide +kernel)) (fun _ _ _ _ _ => (pg_name (i := 7) sc_law_form.nd rfl (.inl rfl))) (fun _ _ _ _ _ => pts_nil) (fun _ _ _ _ _ => (pe_call G_law_near (hr.mono (by decide)) (by rfl) T.g_law_near T.F_law_near.kp T.b_law_near .nil pass0 (pa_cons (pv 0) (pa_cons (pe_op op_pow pe_int pe_int) pa_nil))))))))
      pss_nil)
    (pss_one (ps_ret (pe_call G_law_small_form (hr.mono (by decide)) (by rfl) T.g_law_small_form T.F_law_small_form.kp T.b_law_small_form .nil pass0 (pa_cons (pv 0) (pa_cons (pv 1) (pa_cons pe_int pa_nil))))))))))))), ?_⟩
    refine ⟨_, rfl, d, 6, rfl, hd, by decide, lg 6 (by decide), fun r H1 hr1 s1 d1 => ⟨_, rfl, rfl, _, rfl, iteI (fun _ => ?_) (fun r0 => ⟨_, rfl, rfl, _, rfl, iteI (fun _ => ?_) (fun r1 => ⟨_, rfl, rfl, _, rfl, iteI (fun _ => ?_) (fun r2 => ⟨_, rfl, rfl, _, rfl, iteI (fun _ => ?_) (fun r3 => ?_)⟩)⟩)⟩)⟩⟩
    · -- lines
      refine ⟨_, rfl, n, rfl, by omega, by omega, fun D hD => lc_range (n := (n : Int).toNat) (fun j H' => Sx d H H' ∧ Dc H' d ∧ ∃ (rs : List Addr) (ls : List (List Int)), H' D = some (.lst (rs.map V.ref)) ∧ rs.length = j ∧ ls.length = j ∧ (∀ i (h : i < ls.length) (h' : i < rs.length), H' rs[i] = some (tp ls[i])) ∧ ∀ l ∈ ls, Bd l 1 6) ⟨s1.trans (Sx.of (same_upd0 hD)), d1.same (same_upd0 hD), [], [], upd_same, rfl, rfl, fun i h _ => absurd h (Nat.not_lt_zero i), fun l h => (nomatch h)⟩ (fun j H' hj hP => ?_) (fun H' hP => ?_)⟩
      · obtain ⟨sH, dH, rs, ls, hL, hl1, hl2, hr, hb⟩ := hP
        refine ⟨rfl, _, rfl, d, 3, rfl, dH, by decide, by decide, fun p H2 u v s2 d2 hp hu hv => ⟨p, u, v, rfl, hp, fun p2 n2 => gen_upd H2 p2 _ n2 fun H3 s3 f3 => ?_⟩⟩
        have nD : D ≠ d := d1.ne hD
        have hL3 := s3 _ _ (s2 D _ nD hL)
        have dD : ∀ a l, H3 a = some (tp l) → a ≠ D := fun a l e z => by
          rw [z, hL3] at e
          cases e
        have d3 := d2.same s3
        refine ⟨_, hL3, by rw [List.length_map, hl1]; exact small1000 (by omega), fun b o hb2 e => ?_, ?_, rs ++ [p2], ls ++ [[v, 0 - u]], by rw [upd_same, List.map_append]; rfl, by rw [List.length_append, hl1]; rfl, by rw [List.length_append, hl2]; rfl, fun i h h' => ?_, fun l hl => ?_⟩
        · rw [upd_ne (ne_of_none (s1 b o hb2 e) hD)]
          exact s3 _ _ (s2 b o hb2 (sH b o hb2 e))
        · obtain ⟨x, y, z, e⟩ := d3
          exact ⟨x, y, z, by rw [upd_ne (Ne.symm nD)]; exact e⟩
        · by_cases c : i < ls.length
          · have e1 : (rs ++ [p2])[i] = rs[i]'(by omega) := List.getElem_append_left _
            have e2 : (ls ++ [[v, 0 - u]])[i] = ls[i] := List.getElem_append_left _
            rw [e1, e2]
            have e3 := s3 _ _ (s2 _ _ (dc_ne dH (hr i c (by omega))) (hr i c (by omega)))
            rw [upd_ne (dD _ _ e3)]
            exact e3
          · have ei : i = ls.length := by rw [List.length_append] at h; simp at h; omega
            subst ei
            have e1 : (rs ++ [p2])[ls.length] = p2 := by rw [List.getElem_append_right (by omega)]; simp [hl1, hl2]
            have e2 : (ls ++ [[v, 0 - u]])[ls.length] = [v, 0 - u] := by rw [List.getElem_append_right (by omega)]; simp
            rw [e1, e2, upd_ne (dD _ _ f3)]
            exact f3
        · rcases List.mem_append.mp hl with e | e
          · exact hb l e
          · rw [List.mem_singleton.mp e]
            exact bd_line hu hv
      · obtain ⟨sH, dH, rs, ls, hL, hl1, hl2, hr, hb⟩ := hP
        have hnn : ls.length = n := by omega
        refine ⟨D, rs, ls, rfl, hL, by omega, fun i h h' => ⟨hr i h h', (hb _ (List.getElem_mem h)).rw (by omega) (by decide)⟩, fun i hi => (bd_all hb i (by omega)).rw (by omega) (Nat.lt_of_le_of_lt (p6 (by omega)) (by decide)), fun p H3 s3 f3 => q p H3 _ (sH.trans (Sx.of s3)) (dH.same s3) f3 ?_⟩
        rw [hnn]
        exact (bd_all hb n (by omega)).mono (Nat.le_trans (p6 hn) (by decide))
    · -- a power of a line, times
      refine ⟨_, rfl, d, 3, rfl, d1, by decide, by decide, fun p H2 u v s2 d2 hp hu hv => ⟨p, u, v, rfl, hp, fun p2 n2 => gen_upd H2 p2 _ n2 fun H3 s3 f3 => ⟨_, rfl, _, rfl, _, _, rfl, rfl, ?_⟩⟩⟩
      have d3 := d2.same s3
      refine ⟨d, _, rfl, d3, by omega, lg (n + 1) (by omega), fun k H4 hk s4 d4 => ⟨_, _, rfl, ?_⟩⟩
      have hk' : k ≤ n := by have : (k : Int) < (n : Int) + 1 := hk; omega
      have f4 := s4 _ _ (dc_ne d3 f3) f3
      have bl : Bd [v, 0 - u] 1 6 := bd_line hu hv
      refine ⟨_, rfl, _, rfl, p2, _, k, rfl, f4, bl.ne, by show 2 ≤ 100; decide, fun x hx => (bl.rw (by decide) (Nat.lt_of_lt_of_le (show 6 < 2 ^ 4 by decide) (Nat.pow_le_pow_right (by decide) (by decide)))).sm x hx, fun i hi => ?_, by omega, fun p5 H5 s5 f5 => ?_⟩
      · have := (bd_pow bl i).rw (by omega) (Nat.lt_of_le_of_lt (p6 (by omega)) (by decide))
        exact ⟨this.ne, this.len, this.sm⟩
      · have d5 := d4.same s5
        refine ⟨_, rfl, _, rfl, _, rfl, _, _, rfl, rfl, d, n - k, 4, by show [V.ref d, V.int ((n : Int) - (k : Int)), V.int 4] = [V.ref d, V.int ((n - k : Nat) : Int), V.int 4]; rw [Int.ofNat_sub hk'], d5, by omega, by decide, fun p6' H6 l6 s6 d6 f6 hl6 hm6 => ?_⟩
        have f5' := s6 _ _ (dc_ne d5 f5) f5
        have b1 := bd_pow bl k
        have b2 := bd_small hl6 hm6
        have r1 := b1.rw (by omega) (Nat.lt_of_le_of_lt (p6 (by omega)) (by decide))
        have r2 := b2.rw (by omega) (Nat.lt_of_le_of_lt (show (n - k + 1) * 4 ≤ 36 by omega) (by decide))
        refine ⟨p5, p6', _, l6, rfl, f5', f6, r1.ne, r2.ne, r1.len, r2.len, r1.sm, r2.sm, fun p7 H7 s7 _ f7 => q p7 H7 _ ((((s1.trans s2).trans (Sx.of s3)).trans s4).trans (((Sx.of s5).trans s6).trans (Sx.of s7))) (d6.same s7) f7 ?_⟩
        have b3 := bd_ml b1 b2
        rw [show k + (n - k) = n by omega] at b3
        exact b3.mono (Nat.le_trans (Nat.mul_le_mul (p6 (by omega)) (show (n - k + 1) * 4 ≤ 36 by omega)) (by decide))
    · -- sums of powers
      refine ⟨_, rfl, _, _, rfl, rfl, _, rfl, by show -(2 ^ 62) ≤ (n : Int) + 1; omega, by show (n : Int) + 1 < 2 ^ 62; omega, fun D hD => lc_range (n := ((n : Int) + 1).toNat) (fun j H' => H' = upd H1 D (.lst (tab j fun _ => 0))) rfl (fun j H' hj hP => ?_) (fun H' hP => ?_)⟩
      · subst hP
        refine ⟨rfl, ⟨_, upd_same, by rw [tab_len]; exact small1000 (by omega), ?_⟩⟩
        rw [upd_upd, ← tab_snoc]
      · subst hP
        rw [show ((n : Int) + 1).toNat = n + 1 by omega, tab_tb]
        refine .inl ⟨D, _, rfl, SqL.of upd_same, fun p hp => gen_upd (upd H1 D _) p _ hp fun H2 s2 f2 => ?_⟩
        have s02 := (same_upd0 (o := HO.lst ((tb (n + 1) fun _ => 0).map V.int)) hD).trans s2
        have d2 := d1.same s02
        have b0 : Bd (tb (n + 1) fun _ => 0) n 0 := ⟨tb_len _ _, by
          rw [nm_tb]
          have : ∀ k, sN k (fun _ => 0) = 0 := by
            intro k
            induction k with
            | zero => rfl
            | succ k ih => show sN k (fun _ => 0) + 0 = 0; rw [ih]
          rw [this]
          exact Nat.le_refl _⟩
        refine ⟨_, rfl, d, 3, rfl, d2, by decide, lg 3 (by decide), fun k H3 hk s3 d3 => ⟨_, _, rfl, rfl, _, rfl, by omega, by omega, ?_⟩⟩
        have f3 := s3 _ _ (dc_ne d2 f2) f2
        have hk3 : (k : Int) < 3 := hk
        refine for_range (n := (1 + (k : Int)).toNat) (fun i σ H' => ∃ r y3 y4 y5 y7 l, σ = [some (.ref d), some (.int n), some (.int (r : Int)), y3, y4, y5, some (.ref y7), none] ∧ Sx d H1 H' ∧ Dc H' d ∧ H' y7 = some (tp l) ∧ Bd l n (i * 6718464)) ⟨_, _, _, _, _, _, rfl, (Sx.of s02).trans s3, d3, f3, b0.mono (Nat.zero_le _)⟩ (fun i σ H' hi hP => ?_) (fun σ H' hP => ?_)
        · obtain ⟨r', y3, y4, y5, y7, l, rfl, sH, dH, hl, bl⟩ := hP
          refine ⟨_, rfl, _, rfl, d, 3, rfl, dH, by decide, by decide, fun p4 H4 u v s4 d4 h4 hu hv => ⟨_, rfl, ?_⟩⟩
          have bp : Bd [u, v] 1 6 := bd_pair hu hv
          refine ⟨p4, _, n, rfl, h4, bp.ne, by show 2 ≤ 100; decide, fun x hx => (bp.rw (by decide) (Nat.lt_of_lt_of_le (show 6 < 2 ^ 4 by decide) (Nat.pow_le_pow_right (by decide) (by decide)))).sm x hx, fun i hi => ?_, by omega, fun p5 H5 s5 f5 => ?_⟩
          · have := (bd_pow bp i).rw (by omega) (Nat.lt_of_le_of_lt (p6 (by omega)) (by decide))
            exact ⟨this.ne, this.len, this.sm⟩
          · have d5 := d4.same s5
            have b5 := bd_pow bp n
            have r5 := b5.rw (by omega) (Nat.lt_of_le_of_lt (p6 (by omega)) (by decide))
            refine ⟨_, rfl, d, 4, rfl, d5, by decide, by rw [e15]; decide, fun c H6 c1 c2 s6 d6 => ?_⟩
            have f6 := s6 _ _ (dc_ne d5 f5) f5
            refine ⟨p5, _, c, rfl, f6, r5.len, r5.sm, Nat.lt_of_le_of_lt (show c.natAbs ≤ 4 by omega) (by decide), fun p7 H7 s7 _ f7 => ?_⟩
            have b7 := bd_scale (d := 4) b5 (show c.natAbs ≤ 4 by omega)
            have hl7 := s7 _ _ (s6 _ _ (dc_ne d5 (s5 _ _ (s4 _ _ (dc_ne dH hl) hl))) (s5 _ _ (s4 _ _ (dc_ne dH hl) hl)))
            refine ⟨_, p7, l, _, rfl, hl7, f7, by rw [bl.len, b7.len], by rw [bl.len]; omega, fun p8 H8 s8 _ f8 => ⟨_, _, _, _, p8, _, rfl, ((sH.trans s4).trans ((Sx.of s5).trans s6)).trans ((Sx.of s7).trans (Sx.of s8)), (d6.same s7).same s8, f8, (bd_zs bl b7).mono ?_⟩⟩
            have : 4 * 6 ^ n ≤ 4 * 1679616 := Nat.mul_le_mul (Nat.le_refl _) (p6 hn)
            rw [Nat.succ_mul]
            omega
        · obtain ⟨r', y3, y4, y5, y7, l, rfl, sH, dH, hl, bl⟩ := hP
          exact ⟨_, rfl, q y7 H' l (s1.trans sH) dH hl (bl.mono (by omega))⟩
    · -- some entries, some zeros
      refine ⟨_, rfl, _, _, rfl, rfl, _, rfl, by show -(2 ^ 62) ≤ (n : Int) + 1; omega, by show (n : Int) + 1 < 2 ^ 62; omega, fun D hD => lc_range (n := ((n : Int) + 1).toNat) (fun j H' => Sx d H1 H' ∧ Dc H' d ∧ ∃ l : List Int, H' D = some (.lst (l.map V.int)) ∧ l.length = j ∧ ∀ x ∈ l, x.natAbs ≤ 3) ⟨Sx.of (same_upd0 hD), d1.same (same_upd0 hD), [], upd_same, rfl, fun x hx => by cases hx⟩ (fun j H' hj hP => ?_) (fun H' hP => ?_)⟩
      · obtain ⟨sH, dH, l, hL, hl, hb⟩ := hP
        have nD : D ≠ d := d1.ne hD
        refine ⟨rfl, _, rfl, d, 3, rfl, dH, by decide, by rw [e15]; decide, fun c H2 c1 c2 s2 d2 => ⟨_, rfl, d, 2, rfl, d2, by decide, lg 2 (by decide), fun k H3 hk s3 d3 => ⟨_, _, rfl, rfl, sm_mul (Nat.lt_of_le_of_lt (show c.natAbs ≤ 3 by omega) (by decide)) (Nat.lt_of_le_of_lt (show ((k : Nat) : Int).natAbs ≤ 2 by have : (k : Int) < 2 := hk; omega) (by decide)), _, s3 D _ nD (s2 D _ nD hL), ?_, fun b o hb2 e => ?_, ?_, l ++ [c * (k : Int)], ?_, ?_, fun x hx => ?_⟩⟩⟩
        · rw [List.length_map]
          exact small1000 (by omega)
        · rw [upd_ne (ne_of_none e hD)]
          exact (sH.trans (s2.trans s3)) b o hb2 e
        · obtain ⟨x, y, z, e⟩ := d3
          exact ⟨x, y, z, by rw [upd_ne (Ne.symm nD)]; exact e⟩
        · rw [upd_same, List.map_append]
          rfl
        · rw [List.length_append, hl]
          rfl
        · rcases List.mem_append.mp hx with e | e
          · exact hb x e
          · rw [List.mem_singleton.mp e]
            have hk2 : (k : Int) < 2 := hk
            rw [Int.natAbs_mul]
            have := Nat.mul_le_mul (show c.natAbs ≤ 3 by omega) (show ((k : Nat) : Int).natAbs ≤ 1 by omega)
            omega
      · obtain ⟨sH, dH, l, hL, hl, hb⟩ := hP
        refine .inl ⟨D, _, rfl, SqL.of hL, fun p hp2 => ?_⟩
        exact q p _ l (s1.trans (sH.trans (Sx.of (same_upd0 hp2)))) (dH.same (same_upd0 hp2)) upd_same ((bd_small (n := n) (by omega) hb).mono (Nat.le_trans (Nat.mul_le_mul (show n + 1 ≤ 9 by omega) (Nat.le_refl _)) (by decide)))
    · -- great entries, or small ones
      have small : ∀ H2, Sx d H H2 → Dc H2 d → spSmall [V.ref d, V.int (n : Int), V.int 6] H2 Q E0 := fun H2 s2 d2 => ⟨d, n, 6, rfl, d2, by omega, by decide, fun p H3 l s3 d3 f3 hl hm => q p H3 l (s2.trans s3) d3 f3 ((bd_small hl hm).mono (by omega))⟩
      refine ⟨_, rfl, rfl, _, rfl, iteI (fun _ => ?_) (fun _ => ?_)⟩
      · refine ⟨_, rfl, d, 4, rfl, d1, by decide, lg 4 (by decide), fun k H2 hk s2 d2 => ⟨rfl, _, rfl, iteI (fun _ => ?_) (fun _ => ?_)⟩⟩
        · -- great entries
          refine ⟨_, rfl, _, _, rfl, rfl, _, rfl, by show -(2 ^ 62) ≤ (n : Int) + 1; omega, by show (n : Int) + 1 < 2 ^ 62; omega, fun D hD => lc_range (n := ((n : Int) + 1).toNat) (fun j H' => Sx d H2 H' ∧ Dc H' d ∧ ∃ l : List Int, H' D = some (.lst (l.map V.int)) ∧ l.length = j ∧ ∀ x ∈ l, x.natAbs ≤ 1000000000000) ⟨Sx.of (same_upd0 hD), d2.same (same_upd0 hD), [], upd_same, rfl, fun x hx => by cases hx⟩ (fun j H' hj hP => ?_) (fun H' hP => ?_)⟩
          · obtain ⟨sH, dH, l, hL, hl, hb⟩ := hP
            have nD : D ≠ d := d2.ne hD
            refine ⟨rfl, _, rfl, 10, 12, rfl, rfl, ⟨by decide, by decide, by decide⟩, d, 1000000000000, rfl, dH, by decide, by rw [e15]; decide, fun r H2 r1 r2 s2 d2 => ⟨_, s2 D _ nD hL, ?_, fun b o hb2 e => ?_, ?_, l ++ [r], ?_, ?_, fun x hx => ?_⟩⟩
            · rw [List.length_map]
              exact small1000 (by omega)
            · rw [upd_ne (ne_of_none e hD)]
              exact (sH.trans s2) b o hb2 e
            · obtain ⟨x, y, z, e⟩ := d2
              exact ⟨x, y, z, by rw [upd_ne (Ne.symm nD)]; exact e⟩
            · rw [upd_same, List.map_append]
              rfl
            · rw [List.length_append, hl]
              rfl
            · rcases List.mem_append.mp hx with e | e
              · exact hb x e
              · rw [List.mem_singleton.mp e]
                omega
          · obtain ⟨sH, dH, l, hL, hl, hb⟩ := hP
            refine .inl ⟨D, _, rfl, SqL.of hL, fun p hp2 => ?_⟩
            exact q p _ l ((s1.trans s2).trans (sH.trans (Sx.of (same_upd0 hp2)))) (dH.same (same_upd0 hp2)) upd_same ((bd_small (n := n) (by omega) hb).mono (Nat.le_trans (Nat.mul_le_mul (show n + 1 ≤ 9 by omega) (Nat.le_refl _)) (by decide)))
        · exact ⟨_, rfl, _, rfl, small H2 (s1.trans s2) d2⟩
      · exact ⟨_, rfl, _, rfl, small H1 s1 d1⟩
end
end K06

set_option Elab.async false
set_option linter.all false
set_option maxRecDepth 100000
set_option maxHeartbeats 4000000
namespace K06
open PySem PySem.Spec PyProof.Rows L2 StX RZ MyR SlX OwnR OwnF EnumT
/-! what is said of forms by those who use them (for other laws: K06u, K06v, K06y hold the same) -/
section
variable {P : Program} {w : World} {K : PySem.W.Frag} {mg : Str → Option Value} {base : Heap}
/-- what is asked of a told row -/
structure Tr (l : List Int) : Prop where
  ne : l ≠ []
  len : l.length ≤ 40
  sho : ∀ x ∈ l, Sho x
theorem Tr.rw {l : List Int} (h : Tr l) : Rw l := ⟨h.ne, by have := h.len; omega, fun x hx => Nat.lt_trans (h.sho x hx) (by decide)⟩
theorem Tr.pos {l : List Int} (h : Tr l) : 1 ≤ l.length := List.length_pos_iff.mpr h.ne
theorem shaped_lints (ns : List Int) : SeqAt.shaped (.list (ns.map PyData.int)) = true := by
  unfold SeqAt.shaped
  rw [show PyData.canLay0 (.list (ns.map PyData.int)) = PyData.canLayAll0 (ns.map PyData.int) from rfl, lay_ints]
  rw [show PyData.depth (.list (ns.map PyData.int)) = PyData.depthAll (ns.map PyData.int) + 1 from rfl, depth_ints]
  rfl
theorem ne_lints {K : PySem.W.Frag} {H : Hp} {a b : Addr} {xs ys : List Int} {Q : VK} (ha : SqL K H a (xs.map V.int)) (hb : SqL K H b (ys.map V.int)) (q : Q (.bl (!decide (xs = ys))) H) : rNeD K (.ref a) (.ref b) H Q := by
  refine ⟨_, _, .lst ha (dpAll_ints xs), .lst hb (dpAll_ints ys), shaped_lints xs, shaped_lints ys, ?_⟩
  rw [show PyData.eqv (.list (xs.map PyData.int)) (.list (ys.map PyData.int)) = decide (xs = ys) from eqvAll_ints xs ys]
  exact q
/-- Form(t) -/
theorem made_form {C x dx t : Addr} {l : List Int} {H0 H2 : Hp} (hx : H0 x = none) (hdx : H0 dx = none) (hne : dx ≠ x) (s : Same (upd (upd H0 dx (.own x)) x (.ins C dx [])) H2) (ht : H0 t = some (tp l)) : Same H0 (slH H2 x C dx [some (.ref t)]) ∧ Fo C (slH H2 x C dx [some (.ref t)]) x l := by
  have s3 := made (v := .ref t) hx hdx hne s
  refine ⟨s3, dx, t, upd_same, ?_, s3 _ _ ht⟩
  unfold slH
  rw [upd_ne hne, upd_same]
theorem Fo.sx {C a d : Addr} {H H' : Hp} {ns : List Int} (h : Fo C H a ns) (hd : Dc H d) (s : Sx d H H') : Fo C H' a ns := by
  obtain ⟨dx, t, h1, h2, h3⟩ := h
  obtain ⟨x, y, z, e⟩ := hd
  refine ⟨dx, t, s _ _ (fun q => ?_) h1, s _ _ (fun q => ?_) h2, s _ _ (fun q => ?_) h3⟩
  · rw [q, e] at h1
    cases h1
  · rw [q, e] at h2
    cases h2
  · rw [q, e] at h3
    cases h3
theorem mkF {CT C x dx t : Addr} {H : Hp} {l : List Int} {R : Hp → Prop} (hx : H x = none) (hdx : H dx = none) (hne : dx ≠ x) (ht : H t = some (tp l)) (h1 : 1 ≤ l.length) (h2 : l.length ≤ 41) (hs : ∀ z ∈ l, Sho z) (q : ∀ H', Same H H' → Fo C H' x l → R H') :
    spForm CT C [.ref x, .ref t] (upd (upd H dx (.own x)) x (.ins C dx [])) (fun v H2 => v = .non ∧ R H2) E0 := by
  refine ⟨x, dx, t, t, rfl, .inl ⟨upd_same, rfl⟩, .inr ⟨l, rfl, ?_, h1, h2, hs⟩, fun H2 s2 => ⟨rfl, ?_⟩⟩
  · rw [upd_ne (ne_of_none ht hx), upd_ne (ne_of_none ht hdx)]
    exact ht
  · obtain ⟨s, f⟩ := made_form hx hdx hne s2 ht
    exact q _ s f
theorem mul_forms {C a b : Addr} {H : Hp} {xs ys : List Int} {Q : VK} (fa : Fo C H a xs) (fb : Fo C H b ys) (r : Rw xs) (r2 : Rw ys) (hl : xs.length + ys.length ≤ 42) (q : ∀ p H', Same H H' → Fo C H' p (ml xs ys) → Q (.ref p) H') : rBin C (spMul C) E0 (.ref a) (.ref b) H Q := by
  obtain ⟨dx, t, ha, _⟩ := fa.slt
  obtain ⟨dy, u, hb, _⟩ := fb.slt
  exact ⟨a, dx, _, b, dy, _, rfl, rfl, ha, hb, a, xs, _, rfl, fa, r, .inl ⟨b, ys, rfl, fb, r2, hl, q⟩⟩
theorem Bd.tr {l : List Int} {n b : Nat} (h : Bd l n b) (hn : n ≤ 39) (hb : b < 10 ^ 60) : Tr l := ⟨h.ne, by rw [h.len]; omega, fun x hx => Nat.lt_of_le_of_lt (h.mem x hx) hb⟩
/-- a pair of a form and its row -/
structure Pa (C : Addr) (H : Hp) (v : V) (l : List Int) : Prop where
  tr : Tr l
  at_ : ∃ p f t, v = .ref p ∧ H p = some (.tup [.ref f, .ref t]) ∧ Fo C H f l ∧ H t = some (tp l)
theorem Pa.same {C : Addr} {H H' : Hp} {v : V} {l : List Int} (h : Pa C H v l) (s : Same H H') : Pa C H' v l := by
  obtain ⟨p, f, t, e, h1, h2, h3⟩ := h.at_
  exact ⟨h.tr, p, f, t, e, s _ _ h1, h2.same s, s _ _ h3⟩
theorem ml_one (l : List Int) : ml l [1] = l := by
  refine co_inj (by rw [ml_len]; show l.length + 1 - 1 = _; omega) fun k => ?_
  rw [co_ml (by simp), cv_congr (h := fun i => if i = 0 then 1 else 0) l k fun i _ => by cases i <;> rfl, cv_one]
theorem prop_ent {C a : Addr} {H : Hp} {xs : List Int} {Q : VK} (fa : Fo C H a xs) (q : ∀ t, H t = some (tp xs) → Q (.ref t) H) : ∃ a' dx vs, V.ref a = .ref a' ∧ Slt H a' C dx vs ∧ spEnt C [.ref a'] H Q E0 := by
  obtain ⟨dx, t, ha, _⟩ := fa.slt
  exact ⟨a, dx, _, rfl, ha, a, xs, rfl, fa, q⟩
theorem prop_zero {C a : Addr} {H : Hp} {xs : List Int} {Q : VK} (fa : Fo C H a xs) (q : Q (.bl (!xs.any (· != 0))) H) : ∃ a' dx vs, V.ref a = .ref a' ∧ Slt H a' C dx vs ∧ spIsZ C [.ref a'] H Q E0 := by
  obtain ⟨dx, t, ha, _⟩ := fa.slt
  exact ⟨a, dx, _, rfl, ha, a, xs, rfl, fa, q⟩
theorem prop_deg {C a : Addr} {H : Hp} {xs : List Int} {Q : VK} (fa : Fo C H a xs) (q : Q (.int ((xs.length : Int) - 1)) H) : ∃ a' dx vs, V.ref a = .ref a' ∧ Slt H a' C dx vs ∧ spDeg C [.ref a'] H Q E0 := by
  obtain ⟨dx, t, ha, _⟩ := fa.slt
  exact ⟨a, dx, _, rfl, ha, a, xs, rfl, fa, q⟩
end
end K06

set_option Elab.async false
set_option linter.all false
set_option maxRecDepth 100000
/-! values of forms; a form is told by its values -/
namespace K06
/-- the value at x, y of the first n entries -/
def evF : Nat → (Nat → Int) → Int → Int → Int
  | 0, _, _, _ => 0
  | n + 1, g, x, y => x * evF n g x y + g n * y ^ n
def ev (l : List Int) (x y : Int) : Int := evF l.length (co l) x y
theorem evF_congr {g h : Nat → Int} {x y : Int} : ∀ n, (∀ i, i < n → g i = h i) → evF n g x y = evF n h x y
  | 0, _ => rfl
  | n + 1, e => by
    show x * evF n g x y + g n * y ^ n = x * evF n h x y + h n * y ^ n
    rw [evF_congr n fun i hi => e i (by omega), e n (by omega)]
theorem evF_add (g h : Nat → Int) (x y : Int) : ∀ n, evF n (fun i => g i + h i) x y = evF n g x y + evF n h x y
  | 0 => rfl
  | n + 1 => by
    show x * evF n (fun i => g i + h i) x y + (g n + h n) * y ^ n = (x * evF n g x y + g n * y ^ n) + (x * evF n h x y + h n * y ^ n)
    rw [evF_add g h x y n, Int.mul_add, Int.add_mul]
    omega
theorem evF_mul (c : Int) (g : Nat → Int) (x y : Int) : ∀ n, evF n (fun i => c * g i) x y = c * evF n g x y
  | 0 => by show (0 : Int) = c * 0; rw [Int.mul_zero]
  | n + 1 => by
    show x * evF n (fun i => c * g i) x y + (c * g n) * y ^ n = c * (x * evF n g x y + g n * y ^ n)
    rw [evF_mul c g x y n, Int.mul_add, Int.mul_assoc, ← Int.mul_assoc x c, Int.mul_comm x c, Int.mul_assoc]
theorem evF_sh (g : Nat → Int) (x y : Int) : ∀ n, evF (n + 1) (sh g) x y = y * evF n g x y
  | 0 => by
    show x * 0 + (0 : Int) * y ^ 0 = y * 0
    rw [Int.mul_zero, Int.zero_mul, Int.mul_zero]
    rfl
  | n + 1 => by
    show x * evF (n + 1) (sh g) x y + g n * y ^ (n + 1) = y * (x * evF n g x y + g n * y ^ n)
    rw [evF_sh g x y n, Int.mul_add, Int.pow_succ, ← Int.mul_assoc, Int.mul_comm x y, Int.mul_assoc, Int.mul_comm (y ^ n) y, ← Int.mul_assoc (g n), Int.mul_comm (g n) y, Int.mul_assoc y (g n)]
theorem evF_far {g : Nat → Int} (x y : Int) {n : Nat} (h : ∀ i, n ≤ i → g i = 0) : ∀ k, evF (n + k) g x y = x ^ k * evF n g x y
  | 0 => by rw [Nat.add_zero, Int.pow_zero, Int.one_mul]
  | k + 1 => by
    show x * evF (n + k) g x y + g (n + k) * y ^ (n + k) = _
    rw [evF_far x y h k, h _ (by omega), Int.zero_mul, Int.add_zero, Int.pow_succ, ← Int.mul_assoc, Int.mul_comm x]
theorem evF_zero (x y : Int) : ∀ n, evF n (fun _ => 0) x y = 0
  | 0 => rfl
  | n + 1 => by
    show x * evF n (fun _ => 0) x y + 0 * y ^ n = 0
    rw [evF_zero x y n, Int.mul_zero, Int.zero_mul]
    rfl
theorem ev_ml : ∀ {l m : List Int}, l ≠ [] → m ≠ [] → ∀ x y, ev (ml l m) x y = ev l x y * ev m x y := by
  intro l
  induction l with
  | nil => intro m h; exact absurd rfl h
  | cons a l ih =>
    intro m hl hm x y
    have hM : 0 < m.length := List.length_pos_iff.mpr hm
    have e0 : ev (ml (a :: l) m) x y = evF (l.length + m.length) (cv (a :: l) (co m)) x y := by
      unfold ev
      rw [ml_len, show (a :: l).length + m.length - 1 = l.length + m.length by rw [List.length_cons]; omega]
      exact evF_congr _ fun i _ => co_ml hm i
    rw [e0]
    have e1 : evF (l.length + m.length) (cv (a :: l) (co m)) x y = a * evF (l.length + m.length) (co m) x y + evF (l.length + m.length) (sh (cv l (co m))) x y := by
      rw [← evF_mul, ← evF_add]
      exact evF_congr _ fun i _ => cv_cons a l (co m) i
    rw [e1, show l.length + m.length = m.length + l.length by omega, evF_far x y (fun i hi => co_far hi) l.length]
    have e2 : ev (a :: l) x y = a * x ^ l.length + y * evF l.length (co l) x y := by
      unfold ev
      rw [List.length_cons]
      rw [show evF (l.length + 1) (co (a :: l)) x y = evF (l.length + 1) (fun i => a * (if i = 0 then 1 else 0) + sh (co l) i) x y from evF_congr _ fun i _ => by
        rw [co_cons]
        by_cases h : i = 0
        · rw [if_pos h, if_pos h, Int.mul_one]
        · rw [if_neg h, if_neg h, Int.mul_zero], evF_add, evF_mul, evF_sh]
      congr 1
      congr 1
      have h1 : evF (1 + l.length) (fun i => if i = 0 then (1 : Int) else 0) x y = x ^ l.length * evF 1 (fun i => if i = 0 then (1 : Int) else 0) x y := evF_far x y (n := 1) (fun i hi => if_neg (by omega)) l.length
      rw [show l.length + 1 = 1 + l.length by omega, h1]
      show x ^ l.length * (x * 0 + (if 0 = 0 then 1 else 0) * y ^ 0) = _
      rw [if_pos rfl, Int.mul_zero, Int.pow_zero, Int.mul_one, Int.zero_add, Int.mul_one]
    rw [e2]
    by_cases c : l = []
    · subst c
      show a * (x ^ 0 * evF m.length (co m) x y) + evF (m.length + 0) (sh (cv [] (co m))) x y = (a * x ^ 0 + y * 0) * ev m x y
      rw [show evF (m.length + 0) (sh (cv [] (co m))) x y = evF m.length (fun _ => 0) x y from evF_congr _ fun i _ => by cases i <;> rfl, evF_zero, Int.pow_zero, Int.one_mul, Int.mul_one, Int.mul_zero, Int.add_zero, Int.add_zero]
      rfl
    · have hL : 0 < l.length := List.length_pos_iff.mpr c
      have e3 : evF (m.length + l.length) (sh (cv l (co m))) x y = y * (ev l x y * ev m x y) := by
        rw [show m.length + l.length = (l.length + m.length - 1) + 1 by omega, evF_sh, ← ih c hm x y]
        congr 1
        unfold ev
        rw [ml_len]
        exact evF_congr _ fun i _ => (co_ml hm i).symm
      rw [e3]
      show a * (x ^ l.length * ev m x y) + y * (ev l x y * ev m x y) = (a * x ^ l.length + y * ev l x y) * ev m x y
      rw [Int.add_mul, Int.mul_assoc, Int.mul_assoc]
theorem ev_cons (a : Int) (l : List Int) (x y : Int) : ev (a :: l) x y = a * x ^ l.length + y * ev l x y := by
  unfold ev
  rw [List.length_cons]
  rw [show evF (l.length + 1) (co (a :: l)) x y = evF (l.length + 1) (fun i => a * (if i = 0 then 1 else 0) + sh (co l) i) x y from evF_congr _ fun i _ => by
    rw [co_cons]
    by_cases h : i = 0
    · rw [if_pos h, if_pos h, Int.mul_one]
    · rw [if_neg h, if_neg h, Int.mul_zero], evF_add, evF_mul, evF_sh]
  congr 1
  congr 1
  have h1 : evF (1 + l.length) (fun i => if i = 0 then (1 : Int) else 0) x y = x ^ l.length * evF 1 (fun i => if i = 0 then (1 : Int) else 0) x y := evF_far x y (n := 1) (fun i hi => if_neg (by omega)) l.length
  rw [show l.length + 1 = 1 + l.length by omega, h1]
  show x ^ l.length * (x * 0 + (if 0 = 0 then 1 else 0) * y ^ 0) = _
  rw [if_pos rfl, Int.mul_zero, Int.pow_zero, Int.mul_one, Int.zero_add, Int.mul_one]
/-- only the form with zeros has the value 0 everywhere -/
theorem evF_inj {g : Nat → Int} {M : Int} : ∀ n, (∀ i, i < n → (g i).natAbs < M.natAbs) → evF n g M 1 = 0 → ∀ i, i < n → g i = 0
  | 0, _, _, i, hi => absurd hi (Nat.not_lt_zero i)
  | n + 1, hb, e, i, hi => by
    have e' : M * evF n g M 1 + g n * 1 ^ n = 0 := e
    rw [Int.one_pow, Int.mul_one] at e'
    have hd : M ∣ g n := ⟨-evF n g M 1, by rw [Int.mul_neg]; omega⟩
    have hn : g n = 0 := Int.natAbs_eq_zero.mp (Nat.eq_zero_of_dvd_of_lt (Int.natAbs_dvd_natAbs.mpr hd) (hb n (by omega)))
    have hM : M ≠ 0 := fun z => by
      have := hb n (by omega)
      rw [z] at this
      exact absurd this (by simp)
    rw [hn, Int.add_zero] at e'
    have e2 : evF n g M 1 = 0 := (Int.mul_eq_zero.mp e').resolve_left hM
    by_cases c : i = n
    · rw [c]; exact hn
    · exact evF_inj n (fun j hj => hb j (by omega)) e2 i (by omega)
theorem ev_inj {l m : List Int} (hl : l.length = m.length) (h : ∀ x y, ev l x y = ev m x y) : l = m := by
  refine co_inj hl fun i => ?_
  by_cases c : i < l.length
  · have key := evF_inj (g := fun i => co l i + -1 * co m i) (M := ((nm l + nm m + 1 : Nat) : Int)) l.length (fun i _ => by
      rw [Int.natAbs_natCast]
      have h1 : (co l i).natAbs ≤ nm l := by
        rcases co_mem (l := l) (k := i) with e | e
        · rw [e]; exact Nat.zero_le _
        · exact nm_mem e
      have h2 : (co m i).natAbs ≤ nm m := by
        rcases co_mem (l := m) (k := i) with e | e
        · rw [e]; exact Nat.zero_le _
        · exact nm_mem e
      show (co l i + -1 * co m i).natAbs < _
      omega) (by
      rw [evF_add, evF_mul]
      have := h ((nm l + nm m + 1 : Nat) : Int) 1
      unfold ev at this
      rw [← hl] at this
      rw [this]
      omega) i c
    have key' : co l i + -1 * co m i = 0 := key
    omega
  · rw [co_far (by omega), co_far (by omega)]
end K06

set_option Elab.async false
set_option linter.all false
set_option maxRecDepth 100000
/-! changed forms, derived forms: the plain law -/
namespace K06
theorem ev_zs (c : Int) {l m : List Int} (h : l.length = m.length) (x y : Int) : ev (zs c l m) x y = ev l x y + c * ev m x y := by
  have hz : (zs c l m).length = l.length := by unfold zs; rw [List.length_zipWith, h, Nat.min_self]
  have co_zs : ∀ k, co (zs c l m) k = co l k + c * co m k := fun k => by
    unfold zs
    by_cases hk : k < l.length
    · rw [co_get (by rw [List.length_zipWith]; omega), co_get hk, co_get (by omega), List.getElem_zipWith]
    · rw [co_far (by rw [List.length_zipWith]; omega), co_far (by omega), co_far (by omega), Int.mul_zero]
      rfl
  unfold ev
  rw [hz, ← h, ← evF_mul, ← evF_add]
  exact evF_congr _ fun i _ => co_zs i
theorem ev_map (c : Int) (l : List Int) (x y : Int) : ev (l.map (c * ·)) x y = c * ev l x y := by
  unfold ev
  rw [List.length_map, ← evF_mul]
  exact evF_congr _ fun i _ => co_map c l i
theorem ev_one (x y : Int) : ev [1] x y = 1 := by
  rw [ev_cons]
  show 1 * x ^ 0 + y * 0 = 1
  rw [Int.pow_zero, Int.mul_zero]
  rfl
theorem ev_nil (x y : Int) : ev [] x y = 0 := rfl
theorem pow_ne {l : List Int} (h : l ≠ []) : ∀ n, pow l n ≠ []
  | 0 => by show [1] ≠ []; simp
  | n + 1 => ml_ne (pow_ne h n) h
theorem pow_len {l : List Int} (h : l.length = 2) : ∀ n, (pow l n).length = n + 1
  | 0 => rfl
  | n + 1 => by
    show (ml (pow l n) l).length = _
    rw [ml_len, pow_len h n, h]
    omega
theorem ev_pow {l : List Int} (h : l ≠ []) (x y : Int) : ∀ n, ev (pow l n) x y = ev l x y ^ n
  | 0 => by rw [Int.pow_zero]; exact ev_one x y
  | n + 1 => by
    show ev (ml (pow l n) l) x y = _
    rw [ev_ml (pow_ne h n) h, ev_pow h x y n, Int.pow_succ]
theorem zs_len {c : Int} {l m : List Int} (h : l.length = m.length) : (zs c l m).length = l.length := by unfold zs; rw [List.length_zipWith, h, Nat.min_self]
/-- how the program changes: the entries that are left, what is found, the power of the second row -/
def chg (X Y : List Int) : List Int → List Int → List Int → List Int
  | [], f, _ => f
  | e :: r, f, p => chg X Y r (zs e (ml f X) (ml p Y)) (ml p Y)
theorem chg_len {X Y : List Int} (hX : X.length = 2) (hY : Y.length = 2) : ∀ (r f p : List Int), f ≠ [] → f.length = p.length → (chg X Y r f p).length = f.length + r.length
  | [], f, p, _, _ => rfl
  | e :: r, f, p, nf, h => by
    have pf : 0 < f.length := List.length_pos_iff.mpr nf
    have l1 : (ml f X).length = f.length + 1 := by rw [ml_len, hX]; omega
    have l2 : (ml p Y).length = f.length + 1 := by rw [ml_len, hY, ← h]; omega
    have l3 : (zs e (ml f X) (ml p Y)).length = f.length + 1 := by rw [zs_len (by rw [l1, l2]), l1]
    show (chg X Y r (zs e (ml f X) (ml p Y)) (ml p Y)).length = _
    rw [chg_len hX hY r _ _ (fun z => by rw [z] at l3; cases l3) (by rw [l3, l2]), l3, List.length_cons]
    omega
theorem ev_chg {X Y : List Int} (hX : X.length = 2) (hY : Y.length = 2) (x y : Int) : ∀ (r f p : List Int), f ≠ [] → f.length = p.length →
    ev (chg X Y r f p) x y = ev f x y * ev X x y ^ r.length + ev p x y * ev Y x y * ev r (ev X x y) (ev Y x y)
  | [], f, p, _, _ => by
    show ev f x y = ev f x y * ev X x y ^ 0 + ev p x y * ev Y x y * 0
    rw [Int.pow_zero, Int.mul_one, Int.mul_zero, Int.add_zero]
  | e :: r, f, p, nf, h => by
    have pf : 0 < f.length := List.length_pos_iff.mpr nf
    have np : p ≠ [] := fun z => by rw [z] at h; simp at h; exact nf h
    have nX : X ≠ [] := fun z => by rw [z] at hX; cases hX
    have nY : Y ≠ [] := fun z => by rw [z] at hY; cases hY
    have l1 : (ml f X).length = f.length + 1 := by rw [ml_len, hX]; omega
    have l2 : (ml p Y).length = f.length + 1 := by rw [ml_len, hY, ← h]; omega
    have l3 : (zs e (ml f X) (ml p Y)).length = f.length + 1 := by rw [zs_len (by rw [l1, l2]), l1]
    show ev (chg X Y r (zs e (ml f X) (ml p Y)) (ml p Y)) x y = _
    rw [ev_chg hX hY x y r _ _ (fun z => by rw [z] at l3; cases l3) (by rw [l3, l2]), ev_zs e (by rw [l1, l2]), ev_ml nf nX, ev_ml np nY, ev_cons, List.length_cons, Int.pow_succ]
    generalize ev f x y = a
    generalize ev p x y = b
    generalize ev X x y = u
    generalize ev Y x y = v
    generalize ev r u v = w
    generalize u ^ r.length = z
    grind
/-- the changed form -/
def changed (X Y l : List Int) : List Int := chg X Y l.tail [co l 0] [1]
theorem changed_len {X Y l : List Int} (hX : X.length = 2) (hY : Y.length = 2) (h : l ≠ []) : (changed X Y l).length = l.length := by
  match l, h with
  | a :: r, _ =>
    show (chg X Y r [a] [1]).length = _
    rw [chg_len hX hY r [a] [1] (by simp) rfl]
    show 1 + r.length = r.length + 1
    omega
theorem ev_changed {X Y l : List Int} (hX : X.length = 2) (hY : Y.length = 2) (h : l ≠ []) (x y : Int) : ev (changed X Y l) x y = ev l (ev X x y) (ev Y x y) := by
  match l, h with
  | a :: r, _ =>
    show ev (chg X Y r [a] [1]) x y = _
    rw [ev_chg hX hY x y r [a] [1] (by simp) rfl, ev_one, ev_cons a r, Int.one_mul, ev_cons a []]
    show (a * x ^ 0 + y * 0) * _ + _ = _
    rw [Int.pow_zero, Int.mul_one, Int.mul_zero, Int.add_zero]
theorem ev_rep (n : Nat) (x y : Int) : ev (List.replicate n 0) x y = 0 := by
  unfold ev
  rw [show evF (List.replicate n (0 : Int)).length (co (List.replicate n 0)) x y = evF (List.replicate n (0 : Int)).length (fun _ => 0) x y from evF_congr _ fun i hi => by
    rw [co_get hi, List.getElem_replicate], evF_zero]
theorem ev2 (a b x y : Int) : ev [a, b] x y = a * x + b * y := by
  rw [ev_cons, ev_cons, ev_nil]
  show a * x ^ 1 + y * (b * x ^ 0 + y * 0) = _
  rw [Int.pow_zero, Int.pow_succ, Int.pow_zero]
  grind
theorem pow_zero {c : Int} : ∀ {n : Nat}, c ^ n = 0 → c = 0
  | 0, h => by rw [Int.pow_zero] at h; cases h
  | n + 1, h => by
    rw [Int.pow_succ] at h
    rcases Int.mul_eq_zero.mp h with e | e
    · exact pow_zero e
    · exact e
/-- a form of a degree, at multiples -/
theorem evF_hom (c : Int) (g : Nat → Int) (x y : Int) : ∀ n, c * evF n g (c * x) (c * y) = c ^ n * evF n g x y
  | 0 => by show c * 0 = _ * 0; rw [Int.mul_zero, Int.mul_zero]
  | n + 1 => by
    have ih := evF_hom c g x y n
    show c * (c * x * evF n g (c * x) (c * y) + g n * (c * y) ^ n) = c ^ (n + 1) * (x * evF n g x y + g n * y ^ n)
    rw [Int.mul_pow, Int.pow_succ]
    generalize evF n g (c * x) (c * y) = w at *
    generalize evF n g x y = z at *
    generalize c ^ n = A at *
    generalize y ^ n = B
    grind
theorem zero_of_ev {l : List Int} (h : ∀ x y, ev l x y = 0) : ∀ z ∈ l, z = 0 := by
  have e : l = List.replicate l.length 0 := ev_inj (by rw [List.length_replicate]) fun x y => by rw [h, ev_rep]
  intro z hz
  rw [e] at hz
  exact (List.mem_replicate.mp hz).2
theorem ev_zero {l : List Int} (h : ∀ z ∈ l, z = 0) (x y : Int) : ev l x y = 0 := by
  have e : l = List.replicate l.length 0 := List.eq_replicate_iff.mpr ⟨rfl, h⟩
  rw [e, ev_rep]
/-- no form other than zero becomes zero -/
theorem changed_zero {a b c d : Int} {l : List Int} (hd : a * d - b * c ≠ 0) (nl : l ≠ []) : ((changed [a, b] [c, d] l).any (· != 0)) = l.any (· != 0) := by
  have key : (∀ z ∈ changed [a, b] [c, d] l, z = 0) ↔ ∀ z ∈ l, z = 0 := by
    constructor
    · intro h
      refine zero_of_ev fun x y => ?_
      have h1 : ∀ u v, ev l (a * u + b * v) (c * u + d * v) = 0 := fun u v => by
        rw [← ev2, ← ev2 c d, ← ev_changed rfl rfl nl, ev_zero h]
      have h2 := h1 (d * x - b * y) (a * y - c * x)
      rw [show a * (d * x - b * y) + b * (a * y - c * x) = (a * d - b * c) * x by grind, show c * (d * x - b * y) + d * (a * y - c * x) = (a * d - b * c) * y by grind] at h2
      have h3 := evF_hom (a * d - b * c) (co l) x y l.length
      rw [show evF l.length (co l) ((a * d - b * c) * x) ((a * d - b * c) * y) = 0 from h2, Int.mul_zero] at h3
      rcases Int.mul_eq_zero.mp h3.symm with e | e
      · exact absurd (pow_zero e) hd
      · exact e
    · intro h
      refine zero_of_ev fun x y => ?_
      rw [ev_changed rfl rfl nl, ev_zero h]
  by_cases c1 : ∀ z ∈ l, z = 0
  · have c2 := key.mpr c1
    have f : ∀ m : List Int, (∀ z ∈ m, z = 0) → m.any (· != 0) = false := fun m hm => by
      rw [List.any_eq_false]
      intro z hz
      rw [hm z hz]
      decide
    rw [f _ c1, f _ c2]
  · have c2 : ¬ ∀ z ∈ changed [a, b] [c, d] l, z = 0 := fun z => c1 (key.mp z)
    have f : ∀ m : List Int, (¬ ∀ z ∈ m, z = 0) → m.any (· != 0) = true := fun m hm => by
      refine Classical.byContradiction fun q => hm fun z hz => ?_
      have := List.any_eq_false.mp (Bool.not_eq_true _ ▸ q) z hz
      simpa using this
    rw [f _ c1, f _ c2]
/-! ### values -/
def vf (x y : Int) : List Int → Int → Int → Int
  | [], f, _ => f
  | e :: r, f, p => vf x y r (f * x + e * p) (p * y)
theorem vf_ev (x y : Int) : ∀ (r : List Int) (f p : Int), vf x y r f p = f * x ^ r.length + p * ev r x y
  | [], f, p => by
    show f = f * x ^ 0 + p * 0
    rw [Int.pow_zero, Int.mul_one, Int.mul_zero, Int.add_zero]
  | e :: r, f, p => by
    show vf x y r (f * x + e * p) (p * y) = _
    rw [vf_ev x y r, ev_cons, List.length_cons, Int.pow_succ]
    generalize x ^ r.length = A
    generalize ev r x y = w
    grind
/-! ### derivatives -/
/-- derived by x, by y -/
def dX (l : List Int) : List Int := tb (l.length - 1) fun k => co l k * ((l.length : Int) - 1 - k)
def dY (l : List Int) : List Int := tb (l.length - 1) fun k => co l (k + 1) * ((k : Int) + 1)
theorem dX_len (l : List Int) : (dX l).length = l.length - 1 := tb_len _ _
theorem dY_len (l : List Int) : (dY l).length = l.length - 1 := tb_len _ _
theorem co_zs' (c : Int) {l m : List Int} (h : l.length = m.length) (k : Nat) : co (zs c l m) k = co l k + c * co m k := by
  unfold zs
  by_cases hk : k < l.length
  · rw [co_get (by rw [List.length_zipWith]; omega), co_get hk, co_get (by omega), List.getElem_zipWith]
  · rw [co_far (by rw [List.length_zipWith]; omega), co_far (by omega), co_far (by omega), Int.mul_zero]
    rfl
def it (f : List Int → List Int) : Nat → List Int → List Int
  | 0, l => l
  | n + 1, l => f (it f n l)
theorem dX_it_len (l : List Int) : ∀ n, (it dX n l).length = l.length - n
  | 0 => rfl
  | n + 1 => by
    show (dX (it dX n l)).length = _
    rw [dX_len, dX_it_len l n]
    omega
theorem dY_it_len (l : List Int) : ∀ n, (it dY n l).length = l.length - n
  | 0 => rfl
  | n + 1 => by
    show (dY (it dY n l)).length = _
    rw [dY_len, dY_it_len l n]
    omega
/-- derived i times by x, j times by y -/
def dd (i j : Nat) (l : List Int) : List Int := it dY j (it dX i l)
theorem dd_len (i j : Nat) (l : List Int) : (dd i j l).length = l.length - i - j := by
  unfold dd
  rw [dY_it_len, dX_it_len]
end K06

set_option Elab.async false
set_option linter.all false
set_option maxRecDepth 100000
set_option maxHeartbeats 4000000
namespace K06
open PySem PySem.Spec PyProof.Rows L2 StX RZ MyR SlX OwnR OwnF EnumT
/-- a comprehension over enumerate of a tuple -/
theorem lc_enumT {K : PySem.W.Frag} {a : Addr} {xs : List V} {g : TG} {tt : TT} {te : TE} {vs : List Nat} {σ : L2.St} {H1 : Hp} {D : Addr} {Qd : Hp → Prop} (Pv : Nat → Hp → Prop) (h0 : Pv 0 (upd H1 D (.lst []))) (hq : ∀ i H, i ≤ xs.length → Pv i H → SqT K H a xs)
    (hs : ∀ (i : Nat) (x : V) (T : Addr) (H : Hp), xs[i]? = some x → Pv i H → H T = none → g (.ref T) (wipe σ vs) (upd H T (.tup [.int (i : Nat), x])) fun σ2 H2 => wipe σ2 vs = wipe σ vs ∧ tt σ2 H2 fun b H3 =>
      if b = true then te σ2 H3 fun y H4 => ∃ acc, H4 D = some (.lst acc) ∧ acc.length < sizeLine ∧ Pv (i + 1) (upd H4 D (.lst (acc ++ [y]))) else Pv (i + 1) H3) (hd : ∀ H, Pv xs.length H → Qd H) :
    ∃ W : Nat → Nat → Hp → Prop, (∃ m, W 0 m (upd H1 D (.lst []))) ∧ ∀ i m H, W i m H →
      ((IteT K a).stop i H ∧ Qd H) ∨ ((IteT K a).go i H ∧ ∃ Nx : Hp → Prop, (∀ H', Nx H' → ∃ m', m' < m ∧ W (i + 1) m' H') ∧ ∀ x H', (IteT K a).yld i H x H' → g x (wipe σ vs) H' fun σ2 H2 => wipe σ2 vs = wipe σ vs ∧ tt σ2 H2 fun b H3 =>
        if b = true then te σ2 H3 fun y H4 => ∃ acc, H4 D = some (.lst acc) ∧ acc.length < sizeLine ∧ Nx (upd H4 D (.lst (acc ++ [y]))) else Nx H3) := by
  refine ⟨fun i m H => m = xs.length - i ∧ i ≤ xs.length ∧ Pv i H, ⟨xs.length, by simp, Nat.zero_le _, h0⟩, ?_⟩
  rintro i m H ⟨rfl, hi, p⟩
  have qx := hq i H hi p
  by_cases hlt : i < xs.length
  · have hx : xs[i]? = some xs[i] := List.getElem?_eq_getElem hlt
    refine .inr ⟨⟨xs, _, qx, hx⟩, Pv (i + 1), fun H' p' => ⟨xs.length - (i + 1), by omega, rfl, hlt, p'⟩, fun v H' y => ?_⟩
    obtain ⟨T, x', rfl, hT, rfl, f1⟩ := y
    exact hs i x' T H (f1 xs qx) p hT
  · have e : i = xs.length := by omega
    subst e
    exact .inl ⟨⟨xs, qx, rfl⟩, hd H p⟩
section
variable {P : Program} {w : World} {K : PySem.W.Frag} {mg : Str → Option Value} {base : Heap}
theorem ok_product_in (T : Facts K mg) : FnOk P w K mg base CX0 2 T.f_product_in T.fd_product_in ["one", "other"] (spJoin K) := by
  have G_joined_entries : FnOk P w K mg base CX0 1 T.f_joined_entries T.fd_joined_entries ["one", "other"] (spJoin K) := ok_joined_entries T
  refine T.F_product_in.ok sc_product_in (fun vs H Q E h => ?_) (fun cdv A outer s H vs Q E hr h => ?_)
  · obtain ⟨a, b, xs, ys, rfl, _⟩ := h
    rfl
  · obtain ⟨a, b, xs, ys, rfl, h⟩ := h
    refine ⟨_, (PSs.nox (pss_one (ps_ret (pe_call G_joined_entries hr (by rfl) T.g_joined_entries T.F_joined_entries.kp T.b_joined_entries .nil pass0 (pa_cons (pv 0) (pa_cons (pv 1) pa_nil)))))), ?_⟩
    exact ⟨_, rfl, _, rfl, a, b, xs, ys, rfl, h⟩
/-! ### values -/
/-- what is asked of a value's letters -/
structure Vb (l : List Int) (x y : Int) (M : Nat) : Prop where
  x : x.natAbs ≤ M
  y : y.natAbs ≤ M
  one : 1 ≤ M
  big : nm l * M ^ l.length < 2 ^ 4000
  pw : M ^ (l.length + 1) < 2 ^ 4000
/-- what stands after i turns -/
def vfs (x y : Int) (l : List Int) : Nat → Int × Int
  | 0 => (0, 1)
  | i + 1 => ((vfs x y l i).1 * x + co l i * (vfs x y l i).2, (vfs x y l i).2 * y)
theorem vfs_vf (x y : Int) (l : List Int) : ∀ i, i ≤ l.length → vf x y (l.drop i) (vfs x y l i).1 (vfs x y l i).2 = vf x y l 0 1
  | 0, _ => rfl
  | i + 1, h => by
    rw [← vfs_vf x y l i (by omega), show l.drop i = co l i :: l.drop (i + 1) by rw [co_get (by omega)]; exact List.drop_eq_getElem_cons (by omega)]
    rfl
theorem vfs_ev (x y : Int) (l : List Int) : (vfs x y l l.length).1 = ev l x y := by
  have := vfs_vf x y l l.length (Nat.le_refl _)
  rw [List.drop_length, vf_ev x y l 0 1, Int.zero_mul, Int.zero_add, Int.one_mul] at this
  exact this
theorem nm_take (l : List Int) (i : Nat) (h : i < l.length) : nm (l.take (i + 1)) = nm (l.take i) + (co l i).natAbs := by
  rw [take_snoc h, nm_snoc]
theorem nm_take_le (l : List Int) : ∀ i, nm (l.take i) ≤ nm l := fun i => by
  have : nm l = nm (l.take i) + nm (l.drop i) := by
    unfold nm
    rw [← List.sum_append, ← List.map_append, List.take_append_drop]
  omega
theorem vfs_bd {l : List Int} {x y : Int} {M : Nat} (h : Vb l x y M) : ∀ i, i ≤ l.length → (vfs x y l i).1.natAbs ≤ nm (l.take i) * M ^ i ∧ (vfs x y l i).2.natAbs ≤ M ^ i
  | 0, _ => ⟨Nat.zero_le _, Nat.le_refl _⟩
  | i + 1, hi => by
    obtain ⟨h1, h2⟩ := vfs_bd h i (by omega)
    show ((vfs x y l i).1 * x + co l i * (vfs x y l i).2).natAbs ≤ _ ∧ ((vfs x y l i).2 * y).natAbs ≤ _
    constructor
    · rw [nm_take l i (by omega), Nat.add_mul]
      refine Nat.le_trans (Int.natAbs_add_le _ _) ?_
      rw [Int.natAbs_mul, Int.natAbs_mul]
      have e1 := Nat.mul_le_mul h1 h.x
      have e2 := Nat.mul_le_mul (Nat.le_refl (co l i).natAbs) (Nat.le_trans h2 (Nat.pow_le_pow_right h.one (Nat.le_succ i)))
      rw [Nat.mul_assoc, ← Nat.pow_succ] at e1
      exact Nat.add_le_add e1 e2
    · rw [Int.natAbs_mul, Nat.pow_succ]
      exact Nat.mul_le_mul h2 h.y
theorem vfs_sm {l : List Int} {x y : Int} {M : Nat} (h : Vb l x y M) (i : Nat) (hi : i ≤ l.length) : sm (vfs x y l i).1 ∧ sm (vfs x y l i).2 := by
  obtain ⟨h1, h2⟩ := vfs_bd h i hi
  have pm : M ^ i ≤ M ^ l.length := Nat.pow_le_pow_right h.one hi
  have pm2 : M ^ l.length ≤ M ^ (l.length + 1) := Nat.pow_le_pow_right h.one (Nat.le_succ _)
  exact ⟨Nat.lt_of_le_of_lt (Nat.le_trans h1 (Nat.mul_le_mul (nm_take_le l i) pm)) h.big, Nat.lt_of_le_of_lt h2 (Nat.lt_of_le_of_lt (Nat.le_trans pm pm2) h.pw)⟩
theorem Vb.smx {l : List Int} {x y : Int} {M : Nat} (h : Vb l x y M) : sm x ∧ sm y := by
  have pm : M ≤ M ^ (l.length + 1) := by
    rw [Nat.pow_succ]
    exact Nat.le_mul_of_pos_left _ (Nat.pow_pos h.one)
  exact ⟨Nat.lt_of_le_of_lt (Nat.le_trans h.x pm) h.pw, Nat.lt_of_le_of_lt (Nat.le_trans h.y pm) h.pw⟩
def spValue : Sp := fun vs H Q _ => ∃ (t : Addr) (l : List Int) (x y : Int) (M : Nat), vs = [.ref t, .int x, .int y] ∧ H t = some (tp l) ∧ (∀ z ∈ l, sm z) ∧ Vb l x y M ∧ ∀ H', Same H H' → Q (.int (ev l x y)) H'
theorem ok_value_in (T : Facts K mg) : FnOk P w K mg base CX0 1 T.f_value_in T.fd_value_in ["entries", "x", "y"] spValue := by
  refine T.F_value_in.ok sc_value_in (fun vs H Q E h => ?_) (fun cdv A outer s H vs Q E hr h => ?_)
  · obtain ⟨t, l, x, y, M, rfl, _⟩ := h
    rfl
  · obtain ⟨t, l, x, y, M, rfl, ht, hs, vb, q⟩ := h
    refine ⟨_, (PSs.nox (pss_cons (ps_asg (pe_tup (pa_cons pe_int (pa_cons pe_int pa_nil))) (pg_tup (by rfl) (pgs_cons (pg_name (i := 3) sc_value_in.nd rfl (.inl rfl)) (pgs_cons (pg_name (i := 4) sc_value_in.nd rfl (.inl rfl)) pgs_nil))))
    (pss_cons (ps_for PassesOwn.never (by rfl) (pi_tup (pv 0)) (pg_name (i := 5) sc_value_in.nd rfl (.inl rfl))
      (pss_one (ps_par (i := 3) (j := 4) (by rfl) sc_value_in.nd rfl rfl (by decide) rfl rfl (pa_cons (pe_op op_add (pe_op op_mulW (pv 3) (pv 1)) (pe_op op_mulW (pv 5) (pv 4))) (pa_cons (pe_op op_mulW (pv 4) (pv 2)) pa_nil)) (by rfl))))
    (pss_one (ps_ret (pv 3)))))), ?_⟩
    refine ⟨by show 2 ≤ sizeLine; decide, fun p0 n0 => gen_upd H p0 (.tup [.int 0, .int 1]) n0 fun H1 s1 f1 => ⟨p0, _, rfl, SqT.of f1, rfl, _, _, rfl, _, _, rfl, rfl, ?_⟩⟩
    have ht1 := s1 _ _ ht
    refine ⟨_, rfl, t, rfl, ⟨_, SqT.of ht1⟩, for_tup (xs := l.map V.int) (fun i σ H' => ∃ y5, σ = [some (.ref t), some (.int x), some (.int y), some (.int (vfs x y l i).1), some (.int (vfs x y l i).2), y5] ∧ H' = H1) ⟨none, rfl, rfl⟩ (fun i σ H' _ hP => by rw [hP.choose_spec.2]; exact SqT.of ht1) (fun i z σ H' hz hP => ?_) (fun σ H' hP => ?_)⟩
    · obtain ⟨y5, rfl, rfl⟩ := hP
      obtain ⟨hi, rfl⟩ := int_get hz
      obtain ⟨s1', s2'⟩ := vfs_sm vb i (by omega)
      obtain ⟨sx, sy⟩ := vb.smx
      exact ⟨_, rfl, _, rfl, _, _, rfl, rfl, sm_mul s1' sx, _, rfl, _, rfl, _, _, rfl, rfl, sm_mul (sm_co hs hi) s2', _, _, rfl, rfl, _, rfl, _, rfl, _, _, rfl, rfl, sm_mul s2' sy, _, _, rfl, _, rfl, rfl⟩
    · obtain ⟨y5, rfl, rfl⟩ := hP
      rw [List.length_map]
      refine ⟨_, rfl, ?_⟩
      rw [vfs_ev]
      exact q _ s1
/-! ### changes -/
/-- a table of two rows of two -/
def Tb (H : Hp) (t : Addr) (X Y : List Int) : Prop := ∃ r0 r1, H t = some (.tup [.ref r0, .ref r1]) ∧ H r0 = some (tp X) ∧ H r1 = some (tp Y)
theorem Tb.same {H H' : Hp} {t : Addr} {X Y : List Int} (h : Tb H t X Y) (s : Same H H') : Tb H' t X Y := by
  obtain ⟨r0, r1, h1, h2, h3⟩ := h
  exact ⟨r0, r1, s _ _ h1, s _ _ h2, s _ _ h3⟩
theorem Tb.sx {H H' : Hp} {t d : Addr} {X Y : List Int} (h : Tb H t X Y) (hd : Dc H d) (s : Sx d H H') : Tb H' t X Y := by
  obtain ⟨r0, r1, h1, h2, h3⟩ := h
  exact ⟨r0, r1, s _ _ (dc_ne hd h1) h1, s _ _ (dc_ne hd h2) h2, s _ _ (dc_ne hd h3) h3⟩
/-- short pairs -/
structure Pr2 (X : List Int) : Prop where
  len : X.length = 2
  sho : ∀ x ∈ X, Sho x
def spIsChange : Sp := fun vs H Q _ => ∃ (t : Addr) (X Y : List Int), vs = [.ref t] ∧ Tb H t X Y ∧ Pr2 X ∧ Pr2 Y ∧ ∀ H', Same H H' → Q (.bl true) H'
theorem ok_is_change (T : Facts K mg) : FnOk P w K mg base CX0 4 T.f_is_change T.fd_is_change ["value"] spIsChange := by
  have G_are_short : FnOk P w K mg base CX0 3 T.f_are_short T.fd_are_short ["value"] spAreShort := ok_are_short T
  refine T.F_is_change.ok sc_is_change (fun vs H Q E h => ?_) (fun cdv A outer s H vs Q E hr h => ?_)
  · obtain ⟨t, X, Y, rfl, _⟩ := h
    rfl
  · obtain ⟨t, X, Y, rfl, ⟨r0, r1, h1, h2, h3⟩, hX, hY, q⟩ := h
    refine ⟨_, (PSs.nox (pss_cons (ps_if (pw_or (pt_not (pt_val (pe_callB call_isi (by rfl) T.z_isinstance (by decide +kernel) (pa_cons (pv 0) (pa_cons (pe_bltn (v := .ty "tuple") (by rfl) T.z_tuple (by decide +kernel) rfl) pa_nil))))) (pw_or1 (pt_cmpR op_ne (pe_callB call_len_seq (by rfl) T.z_len (by decide +kernel) (pa_cons (pv 0) pa_nil)) pe_int (nomark _)))).pt
      (pss_one (ps_ret pe_bl))
      pss_nil)
    (pss_one (ps_ret (pe_callB (cr_all (by rfl)) (by rfl) T.z_all (by decide +kernel) (pa_cons (pe_lc (own := [("row", 1)]) (g := (gName 1)) (tt := tYes) (by rfl) sc_is_change.nd (pi_tup (pv 0)) (blkOk_by (N := N_is_change) (sc := defScope s_is_change) (by decide +kernel)) (fun _ _ _ _ _ => (pg_name (i := 1) sc_is_change.nd rfl (.inl rfl))) (fun _ _ _ _ _ => pts_nil) (fun _ _ _ _ _ => (pe_and (pe_call G_are_short hr (by rfl) T.g_are_short T.F_are_short.kp T.b_are_short .nil pass0 (pa_cons (pv 1) pa_nil)) (pe_one (pe_cmpR op_eq (pe_callB (call_len_seq : CallR _ _ (Evl.rLenS K)) (by rfl) T.z_len (by decide +kernel) (pa_cons (pv 1) pa_nil)) pe_int (nomark _)))))) pa_nil)))))), ?_⟩
    refine ⟨_, rfl, .ref t, .ty "tuple", .type "tuple", .type "tuple", true, rfl, .ty "tuple", .base (.tup h1), kit_ty (show kitB "tuple" "tuple" = some true by decide +kernel), true, rfl, iteF ?_⟩
    refine ⟨_, rfl, t, _, rfl, .inr (SqT.of h1), rfl, _, rfl, iteF ?_⟩
    refine ⟨_, rfl, t, rfl, ⟨_, SqT.of h1⟩, fun D hD => lc_tup (xs := [.ref r0, .ref r1]) (fun i H' => Same H H' ∧ H' D = some (.lst (List.replicate i (V.bl true)))) ⟨same_upd0 hD, upd_same⟩ (fun i H' _ hP => SqT.of (hP.1 _ _ h1)) (fun i x H' hx hP => ?_) (fun H' hP => ?_)⟩
    · obtain ⟨sH, hL⟩ := hP
      obtain ⟨r, Z, rfl, hr2, hZ⟩ : ∃ r Z, x = .ref r ∧ H r = some (tp Z) ∧ Pr2 Z := by
        have hm := List.mem_of_getElem? hx
        simp only [List.mem_cons, List.not_mem_nil, or_false] at hm
        rcases hm with e | e <;> rw [e]
        · exact ⟨_, _, rfl, h2, hX⟩
        · exact ⟨_, _, rfl, h3, hY⟩
      have hi2 : i < 2 := (List.getElem?_eq_some_iff.mp hx).1
      refine ⟨rfl, _, rfl, r, Z, rfl, sH _ _ hr2, by rw [hZ.len]; decide, hZ.sho, fun H2 s2 => ⟨true, rfl, iteT ⟨_, rfl, r, _, rfl, .inr (SqT.of (s2 _ _ (sH _ _ hr2))), rfl, _, s2 _ _ hL, ?_, fun b o e => ?_, ?_⟩⟩⟩
      · rw [List.length_replicate]
        exact small1000 (by omega)
      · rw [upd_ne (ne_of_none e hD)]
        exact s2 _ _ (sH _ _ e)
      · rw [upd_same, List.length_map, hZ.len, List.replicate_succ']
        rfl
    · obtain ⟨sH, hL⟩ := hP
      exact ⟨D, [true, true], rfl, SqL.of hL, q _ sH⟩
def spReqChange : Sp := fun vs H Q _ => ∃ (t : Addr) (X Y : List Int), vs = [.ref t] ∧ Tb H t X Y ∧ Pr2 X ∧ Pr2 Y ∧ ∀ H', Same H H' → Q .non H'
theorem ok_require_change (T : Facts K mg) : FnOk P w K mg base CX0 5 T.f_require_change T.fd_require_change ["value"] spReqChange := by
  have G_is_change := ok_is_change (P := P) (w := w) (base := base) T
  refine T.F_require_change.ok sc_require_change (fun vs H Q E h => ?_) (fun cdv A outer s H vs Q E hr h => ?_)
  · obtain ⟨t, X, Y, rfl, _⟩ := h
    rfl
  · obtain ⟨t, X, Y, rfl, ht, hX, hY, q⟩ := h
    refine ⟨_, (PSs.nox (pss_one (ps_if (pt_not (pt_val (pe_call G_is_change hr (by rfl) T.g_is_change T.F_is_change.kp T.b_is_change .nil pass0 (pa_cons (pv 0) pa_nil))))
      (pss_one ps_never)
      pss_nil))), ?_⟩
    exact ⟨_, rfl, t, X, Y, rfl, ht, hX, hY, fun H' s => ⟨true, rfl, iteF (q H' s)⟩⟩
theorem sIx_neg {n : Nat} (h : 1 ≤ n) : HT.sIx n n (some (-1)) = n - 1 := by
  unfold HT.sIx
  simp only []
  split <;> omega
theorem cut_tail (xs : List V) (h : 1 ≤ xs.length) : cutV xs (some 1) none = xs.drop 1 := by
  unfold cutV
  have e1 : HT.sIx xs.length 0 (some 1) = 1 := by
    unfold HT.sIx
    simp only []
    split <;> omega
  have e2 : HT.sIx xs.length xs.length none = xs.length := rfl
  rw [e1, e2]
  exact List.take_of_length_le (by rw [List.length_drop]; omega)
theorem cut_init (xs : List V) (h : 1 ≤ xs.length) : cutV xs none (some (-1)) = xs.take (xs.length - 1) := by
  unfold cutV
  have e1 : HT.sIx xs.length 0 none = 0 := rfl
  rw [e1, sIx_neg h, List.drop_zero, Nat.sub_zero]
/-- all that is made on the way is let -/
def ChOk (X Y : List Int) : List Int → List Int → List Int → Prop
  | [], _, _ => True
  | e :: r, f, p => Rw f ∧ Rw p ∧ sm e ∧ Rw (ml p Y) ∧ Rw (ml f X) ∧ ChOk X Y r (zs e (ml f X) (ml p Y)) (ml p Y)
def spChanged : Sp := fun vs H Q _ => ∃ (a t : Addr) (l X Y : List Int), vs = [.ref a, .ref t] ∧ H a = some (tp l) ∧ Tb H t X Y ∧ l ≠ [] ∧ l.length ≤ 100 ∧ X.length = 2 ∧ Y.length = 2 ∧ Rw X ∧ Rw Y ∧ ChOk X Y l.tail [co l 0] [1] ∧ ∀ p H', Same H H' → H' p = some (tp (changed X Y l)) → Q (.ref p) H'
theorem ok_changed_in (T : Facts K mg) : FnOk P w K mg base CX0 3 T.f_changed_in T.fd_changed_in ["entries", "table"] spChanged := by
  have G_product_in := ok_product_in (P := P) (w := w) (base := base) T
  refine T.F_changed_in.ok sc_changed_in (fun vs H Q E h => ?_) (fun cdv A outer s H vs Q E hr h => ?_)
  · obtain ⟨a, t, l, X, Y, rfl, _⟩ := h
    rfl
  · obtain ⟨a, t, l, X, Y, rfl, ha, ht, nl, hl, lX, lY, rX, rY, ok, q⟩ := h
    obtain ⟨r0, r1, h1, h2, h3⟩ := ht
    have pl : 0 < l.length := List.length_pos_iff.mpr nl
    refine ⟨_, (PSs.nox (pss_cons (ps_par (i := 2) (j := 3) (by rfl) sc_changed_in.nd rfl rfl (by decide) rfl rfl (pa_cons (pe_tup (pa_cons (pe_ix ix_tup (pv 0) pe_int (fun _ _ => rfl)) pa_nil)) (pa_cons (pe_tup (pa_cons pe_int pa_nil)) pa_nil)) (by rfl))
    (pss_cons (ps_for PassesOwn.never (by rfl) (pi_tup (pe_slice sl_tupA (pv 0) (po_some pe_int) po_none)) (pg_name (i := 4) sc_changed_in.nd rfl (.inr rfl))
      (pss_cons (ps_set (i := 3) sc_changed_in.nd rfl (.inl rfl) (pe_call G_product_in hr (by rfl) T.g_product_in T.F_product_in.kp T.b_product_in .nil pass0 (pa_cons (pv 3) (pa_cons (pe_ix ix_tup (pv 1) pe_int (fun _ _ => rfl)) pa_nil))))
      (pss_cons (ps_set (i := 5) sc_changed_in.nd rfl (.inl rfl) (pe_call G_product_in hr (by rfl) T.g_product_in T.F_product_in.kp T.b_product_in .nil pass0 (pa_cons (pv 2) (pa_cons (pe_ix ix_tup (pv 1) pe_int (fun _ _ => rfl)) pa_nil))))
      (pss_one (ps_set (i := 2) sc_changed_in.nd rfl (.inl rfl) (pe_tupleOf (by rfl) T.z_tuple (pe_lc (own := [("first", 6), ("second", 7)]) (g := (gTup K 2 (gCons (gName 6) (gCons (gName 7) gNil)))) (tt := tYes) (by rfl) sc_changed_in.nd (pi_zipA (by rfl) T.z_zip (pa_cons (pv 5) (pa_cons (pv 3) pa_nil))) (blkOk_by (N := N_changed_in) (sc := defScope s_changed_in) (by decide +kernel)) (fun _ _ _ _ _ => (pg_tup (by rfl) (pgs_cons (pg_name (i := 6) sc_changed_in.nd rfl (.inl rfl)) (pgs_cons (pg_name (i := 7) sc_changed_in.nd rfl (.inl rfl)) pgs_nil)))) (fun _ _ _ _ _ => pts_nil) (fun _ _ _ _ _ => (pe_op op_add (pv 6) (pe_op op_mulW (pv 4) (pv 7)))))))))))
    (pss_one (ps_ret (pv 2)))))), ?_⟩
    refine ⟨_, rfl, a, _, 0, _, rfl, rfl, SqT.of ha, atI_nat (get_int pl), by show 1 ≤ sizeLine; decide, fun p0 n0 => gen_upd H p0 (tp [co l 0]) n0 fun H1 s1 f1 => ⟨by show 1 ≤ sizeLine; decide, fun p1 n1 => gen_upd H1 p1 (tp [1]) n1 fun H2 s2 f2 => ⟨_, _, rfl, ?_⟩⟩⟩
    have s02 := s1.trans s2
    have e1 : HT.sIx l.length 0 (some 1) = 1 := by
      unfold HT.sIx
      simp only []
      split <;> omega
    have ecut : HO.tup (cutV (l.map V.int) (some 1) none) = tp l.tail := by
      rw [cut_tail _ (by rw [List.length_map]; exact pl), ← List.map_drop, List.drop_one]
    refine ⟨_, rfl, 1, rfl, a, _, rfl, SqT.of (s02 _ _ ha), fun z => absurd z.1 (by rw [List.length_map, e1]; decide), fun _ p2 n2 => ?_⟩
    rw [ecut]
    refine gen_upd H2 p2 (tp l.tail) n2 fun H3 s3 f3 => ?_
    have s03 := s02.trans s3
    have ltail : l.tail.length = l.length - 1 := List.length_tail
    refine ⟨p2, rfl, ⟨_, SqT.of f3⟩, for_tup (xs := l.tail.map V.int) (fun i σ H' => ∃ (f p : List Int) (fa pa : Addr) (y4 y5 : Option V), σ = [some (.ref a), some (.ref t), some (.ref fa), some (.ref pa), y4, y5, none, none] ∧ Same H3 H' ∧ H' fa = some (tp f) ∧ H' pa = some (tp p) ∧ f.length = i + 1 ∧ p.length = i + 1 ∧ ChOk X Y (l.tail.drop i) f p ∧ chg X Y (l.tail.drop i) f p = changed X Y l) ⟨_, _, p0, p1, none, none, rfl, Same.rf _, (s2.trans s3) _ _ f1, s3 _ _ f2, rfl, rfl, ok, rfl⟩ (fun i σ H' _ hP => ?_) (fun i z σ H' hz hP => ?_) (fun σ H' hP => ?_)⟩
    · obtain ⟨f, p, fa, pa, y4, y5, _, sH, _⟩ := hP
      exact SqT.of (sH _ _ f3)
    · obtain ⟨f, p, fa, pa, y4, y5, rfl, sH, hf, hp, lf, lp, okI, eI⟩ := hP
      obtain ⟨hi, rfl⟩ := int_get hz
      have ed : l.tail.drop i = co l.tail i :: l.tail.drop (i + 1) := by
        rw [co_get hi]
        exact List.drop_eq_getElem_cons hi
      rw [ed] at okI eI
      obtain ⟨rf, rp, se, rpY, rfX, okN⟩ := okI
      have tH := s03.trans sH
      refine ⟨_, rfl, _, rfl, t, _, 1, _, rfl, rfl, SqT.of (tH _ _ h1), atI_nat (j := 1) rfl, pa, r1, p, Y, rfl, hp, tH _ _ h3, rp.ne, rY.ne, rp.len, rY.len, rp.sm, rY.sm, fun q1 J1 g1 _ k1 => ?_⟩
      have tJ1 := tH.trans g1
      refine ⟨_, rfl, _, rfl, t, _, 0, _, rfl, rfl, SqT.of (tJ1 _ _ h1), atI_nat (j := 0) rfl, fa, r0, f, X, rfl, g1 _ _ hf, tJ1 _ _ h2, rf.ne, rX.ne, rf.len, rX.len, rf.sm, rX.sm, fun q2 J2 g2 _ k2 => ?_⟩
      have k1' := g2 _ _ k1
      have l1 : (ml p Y).length = i + 2 := by rw [ml_len, lp, lY]; omega
      have l2 : (ml f X).length = i + 2 := by rw [ml_len, lf, lX]; omega
      refine ⟨_, rfl, _, rfl, q2, q1, _, _, rfl, .inr ⟨SqT.of k2, SqT.of k1', fun D hD => ?_⟩⟩
      refine lc_zipT (xs := (ml f X).map V.int) (ys := (ml p Y).map V.int) (by rw [List.length_map, List.length_map, l1, l2]) (fun j H' => Same J2 H' ∧ H' D = some (.lst (tab j fun k => co (ml f X) k + co l.tail i * co (ml p Y) k))) ⟨same_upd0 hD, upd_same⟩ (fun j H' _ hP => ⟨SqT.of (hP.1 _ _ k2), SqT.of (hP.1 _ _ k1')⟩) (fun j x y T H' hx hy hP hT => ?_) (fun H4 hP => ?_)
      · obtain ⟨sH4, hD'⟩ := hP
        obtain ⟨hj, rfl⟩ := int_get hx
        obtain ⟨hj2, rfl⟩ := int_get hy
        have sT := same_upd0 (o := .tup [.int (co (ml f X) j), .int (co (ml p Y) j)]) hT
        refine ⟨T, _, rfl, SqT.of upd_same, rfl, _, _, rfl, _, _, rfl, rfl, rfl, _, rfl, _, rfl, _, rfl, _, _, rfl, rfl, sm_mul se (sm_co rpY.sm hj2), _, _, rfl, rfl, _, sT _ _ hD', ?_, fun b o e => ?_, ?_⟩
        · rw [tab_len]
          exact small1000 (by omega)
        · rw [upd_ne (ne_of_none e hD)]
          exact sT _ _ (sH4 _ _ e)
        · rw [upd_same, ← tab_snoc]
      · obtain ⟨sH4, hD'⟩ := hP
        rw [List.length_map] at hD'
        refine .inl ⟨D, _, rfl, SqL.of hD', fun p5 n5 => ?_⟩
        rw [tab_tb, zs_tb (by rw [l1, l2])]
        refine gen_upd H4 p5 _ n5 fun H5 s5 f5 => ⟨_, _, p5, q1, _, _, rfl, ((sH.trans (g1.trans g2)).trans sH4).trans s5, f5, (sH4.trans s5) _ _ k1', by rw [zs_len (by rw [l1, l2]), l2], l1, okN, eI⟩
    · obtain ⟨f, p, fa, pa, y4, y5, rfl, sH, hf, hp, lf, lp, okI, eI⟩ := hP
      rw [List.length_map, List.drop_length] at eI
      refine ⟨_, rfl, q fa H' (s03.trans sH) ?_⟩
      rw [← eI]
      exact hf
end
end K06

set_option Elab.async false
set_option linter.all false
set_option maxRecDepth 100000
set_option maxHeartbeats 4000000
namespace K06
open PySem PySem.Spec PyProof.Rows L2 StX RZ MyR SlX OwnR OwnF EnumT
section
variable {P : Program} {w : World} {K : PySem.W.Frag} {mg : Str → Option Value} {base : Heap}
/-- all that is derived on the way is let -/
structure DdOk (i j : Nat) (l : List Int) : Prop where
  len : i + j + 1 ≤ l.length
  le : l.length ≤ 100
  sx : ∀ u, u ≤ i → ∀ z ∈ it dX u l, sm z
  sy : ∀ u, u ≤ j → ∀ z ∈ it dY u (it dX i l), sm z
def spDerived : Sp := fun vs H Q _ => ∃ (a : Addr) (l : List Int) (i j : Nat), vs = [.ref a, .int i, .int j] ∧ H a = some (tp l) ∧ DdOk i j l ∧ ∀ p H', Same H H' → H' p = some (tp (dd i j l)) → Q (.ref p) H'
theorem ecut_init {l : List Int} (h : 1 ≤ l.length) : HO.tup (cutV (l.map V.int) none (some (-1))) = tp (l.take (l.length - 1)) := by
  rw [cut_init _ (by rw [List.length_map]; exact h), ← List.map_take, List.length_map]
theorem ecut_tail {l : List Int} (h : 1 ≤ l.length) : HO.tup (cutV (l.map V.int) (some 1) none) = tp (l.drop 1) := by
  rw [cut_tail _ (by rw [List.length_map]; exact h), ← List.map_drop]
theorem co_take {l : List Int} {n k : Nat} (h : k < n) : co (l.take n) k = co l k := by
  unfold co
  rw [List.getD_eq_getElem?_getD, List.getD_eq_getElem?_getD, List.getElem?_take_of_lt h]
theorem co_drop1 (l : List Int) (k : Nat) : co (l.drop 1) k = co l (k + 1) := by
  unfold co
  rw [List.getD_eq_getElem?_getD, List.getD_eq_getElem?_getD, List.getElem?_drop, Nat.add_comm]
/-! ### the methods -/
def spValueM (C : Addr) : Sp := fun vs H Q _ => ∃ (a : Addr) (l : List Int) (x y : Int) (M : Nat), vs = [.ref a, .int x, .int y] ∧ Fo C H a l ∧ (∀ z ∈ l, sm z) ∧ Vb l x y M ∧ Sho x ∧ Sho y ∧ ∀ H', Same H H' → Q (.int (ev l x y)) H'
theorem ok_Form_value (T : Facts K mg) : FnOk P w K mg base CX0 4 T.f_Form_value T.fd_Form_value ["self", "x", "y"] (spValueM T.C_Form) := by
  have G_require_short : FnOk P w K mg base CX0 3 T.f_require_short T.fd_require_short ["value"] spReqShort := ok_require_short T
  have G_value_in := ok_value_in (P := P) (w := w) (base := base) T
  refine T.F_Form_value.ok sc_Form_value (fun vs H Q E h => ?_) (fun cdv A outer s H vs Q E hr h => ?_)
  · obtain ⟨a, l, x, y, M, rfl, _⟩ := h
    rfl
  · obtain ⟨a, l, x, y, M, rfl, fa, hs, vb, hx, hy, q⟩ := h
    obtain ⟨dx, t, ha, ht⟩ := fa.slt
    refine ⟨_, (PSs.nox (pss_cons (ps_expr (pe_call G_require_short hr (by rfl) T.g_require_short T.F_require_short.kp T.b_require_short .nil pass0 (pa_cons (pv 1) pa_nil)))
    (pss_cons (ps_expr (pe_call G_require_short hr (by rfl) T.g_require_short T.F_require_short.kp T.b_require_short .nil pass0 (pa_cons (pv 2) pa_nil)))
    (pss_one (ps_ret (pe_call G_value_in (hr.mono (by decide)) (by rfl) T.g_value_in T.F_value_in.kp T.b_value_in .nil pass0 (pa_cons (pe_sl (pv 0)) (pa_cons (pv 1) (pa_cons (pv 2) pa_nil))))))))), ?_⟩
    exact ⟨_, rfl, x, rfl, hx, _, rfl, y, rfl, hy, _, rfl, a, T.C_Form, dx, T.a_own_entries, _, 0, .ref t, rfl, ha, T.oc_Form.scl, T.sl_own_entries, rfl, _, rfl, _, rfl, t, l, x, y, M, rfl, ht, hs, vb, q⟩
def spChangedM (C : Addr) : Sp := fun vs H Q _ => ∃ (a t : Addr) (l X Y : List Int), vs = [.ref a, .ref t] ∧ Fo C H a l ∧ Tb H t X Y ∧ l ≠ [] ∧ l.length ≤ 100 ∧ Pr2 X ∧ Pr2 Y ∧ ChOk X Y l.tail [co l 0] [1] ∧ ∀ p H', Same H H' → Fo C H' p (changed X Y l) → Q (.ref p) H'
theorem Pr2.rw {X : List Int} (h : Pr2 X) : Rw X := ⟨fun z => (by have := h.len; rw [z] at this; cases this), (by rw [h.len]; decide), fun x hx => Nat.lt_trans (h.sho x hx) (by decide)⟩
theorem ok_Form_changed (T : Facts K mg) : FnOk P w K mg base CX0 8 T.f_Form_changed T.fd_Form_changed ["self", "table"] (spChangedM T.C_Form) := by
  have G_require_change := ok_require_change (P := P) (w := w) (base := base) T
  have G_changed_in := ok_changed_in (P := P) (w := w) (base := base) T
  have G_form_of : FnOk P w K mg base CX0 7 T.f_form_of T.fd_form_of ["entries"] (spMake T.C_Form) := ok_form_of T
  refine T.F_Form_changed.ok sc_Form_changed (fun vs H Q E h => ?_) (fun cdv A outer s H vs Q E hr h => ?_)
  · obtain ⟨a, t, l, X, Y, rfl, _⟩ := h
    rfl
  · obtain ⟨a, t, l, X, Y, rfl, fa, tb, nl, hl, pX, pY, ok, q⟩ := h
    refine ⟨_, (PSs.nox (pss_cons (ps_expr (pe_call G_require_change (hr.mono (by decide)) (by rfl) T.g_require_change T.F_require_change.kp T.b_require_change .nil pass0 (pa_cons (pv 1) pa_nil)))
    (pss_one (ps_ret (pe_call G_form_of hr (by rfl) T.g_form_of T.F_form_of.kp T.b_form_of .nil pass0 (pa_cons (pe_call G_changed_in (hr.mono (by decide)) (by rfl) T.g_changed_in T.F_changed_in.kp T.b_changed_in .nil pass0 (pa_cons (pe_sl (pv 0)) (pa_cons (pv 1) pa_nil))) pa_nil)))))), ?_⟩
    refine ⟨_, rfl, t, X, Y, rfl, tb, pX, pY, fun H1 s1 => ?_⟩
    obtain ⟨dx, u, ha, hu⟩ := (fa.same s1).slt
    exact ⟨_, rfl, a, T.C_Form, dx, T.a_own_entries, _, 0, .ref u, rfl, ha, T.oc_Form.scl, T.sl_own_entries, rfl, _, rfl, u, t, l, X, Y, rfl, hu, tb.same s1, nl, hl, pX.len, pY.len, pX.rw, pY.rw, ok, fun p H2 s2 hp => ⟨p, _, rfl, hp, fun p2 H3 s3 n3 f3 => q p2 H3 ((s1.trans s2).trans s3) f3⟩⟩
end
end K06

set_option Elab.async false
set_option linter.all false
set_option maxRecDepth 100000
set_option maxHeartbeats 4000000
namespace K06
open PySem PySem.Spec PyProof.Rows L2 StX RZ MyR SlX OwnR OwnF EnumT
/-! ### how large changed and derived forms are -/
theorem bd_zs' {l m : List Int} {n b c : Nat} (e : Int) (h : Bd l n b) (g : Bd m n c) : Bd (zs e l m) n (b + e.natAbs * c) := by
  have hz : zs e l m = zs 1 l (m.map (e * ·)) := by
    refine co_inj (by rw [zs_len (by rw [h.len, g.len]), zs_len (by rw [List.length_map, h.len, g.len])]) fun k => ?_
    rw [co_zs' e (by rw [h.len, g.len]), co_zs' 1 (by rw [List.length_map, h.len, g.len]), co_map, Int.one_mul]
  rw [hz]
  exact bd_zs h (bd_scale g (Nat.le_refl _))
theorem nm_cons (x : Int) (xs : List Int) : nm (x :: xs) = x.natAbs + nm xs := rfl
theorem chg_bd {X Y : List Int} {b : Nat} (hX : Bd X 1 b) (hY : Bd Y 1 b) : ∀ (r f p : List Int) (k S : Nat), Bd f k (S * b ^ k) → Bd p k (b ^ k) → Bd (chg X Y r f p) (k + r.length) ((S + nm r) * b ^ (k + r.length))
  | [], f, p, k, S, hf, hp => hf
  | e :: r, f, p, k, S, hf, hp => by
    have h1 := bd_ml hf hX
    have h2 := bd_ml hp hY
    have h3 := bd_zs' e h1 h2
    have h4 : Bd (zs e (ml f X) (ml p Y)) (k + 1) ((S + e.natAbs) * b ^ (k + 1)) := by
      refine h3.mono (Nat.le_of_eq ?_)
      rw [Nat.add_mul, Nat.pow_succ, Nat.mul_assoc]
    have h5 := chg_bd hX hY r _ _ (k + 1) (S + e.natAbs) h4 (by rw [Nat.pow_succ]; exact h2)
    rw [List.length_cons, nm_cons, show k + (r.length + 1) = k + 1 + r.length by omega, show S + (e.natAbs + nm r) = S + e.natAbs + nm r by omega]
    exact h5
theorem chOk_of {X Y : List Int} {b : Nat} (hb : 1 ≤ b) (hX : Bd X 1 b) (hY : Bd Y 1 b) : ∀ (r f p : List Int) (k S : Nat), Bd f k (S * b ^ k) → Bd p k (b ^ k) → k + r.length ≤ 90 → (S + nm r + 1) * b ^ (k + r.length) < 2 ^ 4000 → ChOk X Y r f p
  | [], _, _, _, _, _, _, _, _ => True.intro
  | e :: r, f, p, k, S, hf, hp, hk, hB => by
    have h1 := bd_ml hf hX
    have h2 := bd_ml hp hY
    have h3 := bd_zs' e h1 h2
    have h4 : Bd (zs e (ml f X) (ml p Y)) (k + 1) ((S + e.natAbs) * b ^ (k + 1)) := by
      refine h3.mono (Nat.le_of_eq ?_)
      rw [Nat.add_mul, Nat.pow_succ, Nat.mul_assoc]
    rw [List.length_cons] at hk hB
    rw [nm_cons] at hB
    have pk : b ^ k ≤ b ^ (k + (r.length + 1)) := Nat.pow_le_pow_right hb (by omega)
    have pk1 : b ^ (k + 1) ≤ b ^ (k + (r.length + 1)) := Nat.pow_le_pow_right hb (by omega)
    have fin : ∀ c d : Nat, c ≤ S + (e.natAbs + nm r) + 1 → d ≤ b ^ (k + (r.length + 1)) → c * d < 2 ^ 4000 := fun c d hc hd => Nat.lt_of_le_of_lt (Nat.mul_le_mul hc hd) hB
    have f1 := fin S _ (by omega) pk
    have f2 := fin 1 _ (by omega) pk
    have f3 := fin e.natAbs 1 (by omega) (Nat.pow_pos hb)
    have f4 := fin 1 _ (by omega) pk1
    have f5 := fin S _ (by omega) pk1
    rw [Nat.one_mul] at f2 f4
    rw [Nat.mul_one] at f3
    refine ⟨hf.rw (by omega) f1, hp.rw (by omega) f2, f3, h2.rw (by omega) (by rw [← Nat.pow_succ]; exact f4), h1.rw (by omega) (by rw [Nat.mul_assoc, ← Nat.pow_succ]; exact f5), ?_⟩
    refine chOk_of hb hX hY r _ _ (k + 1) (S + e.natAbs) h4 (by rw [Nat.pow_succ]; exact h2) (by omega) ?_
    rw [show k + 1 + r.length = k + (r.length + 1) by omega]
    exact Nat.lt_of_le_of_lt (Nat.mul_le_mul (by omega) (Nat.le_refl _)) hB
theorem changed_bd {X Y l : List Int} {n b B : Nat} (hX : Bd X 1 b) (hY : Bd Y 1 b) (hl : Bd l n B) : Bd (changed X Y l) n (B * b ^ n) := by
  match l, hl with
  | a :: r, hl =>
    have hr : r.length = n := by have := hl.len; rw [List.length_cons] at this; omega
    have h0 : Bd [a] 0 (a.natAbs * b ^ 0) := ⟨rfl, by show a.natAbs + 0 ≤ _; rw [Nat.pow_zero]; omega⟩
    have := chg_bd hX hY r [a] [1] 0 a.natAbs h0 bd_one
    rw [Nat.zero_add, hr] at this
    exact this.mono (Nat.mul_le_mul (by have := hl.nm; rw [nm_cons] at this; exact this) (Nat.le_refl _))
theorem changed_ok {X Y l : List Int} {n b B : Nat} (hb : 1 ≤ b) (hX : Bd X 1 b) (hY : Bd Y 1 b) (hl : Bd l n B) (hn : n ≤ 90) (hB : (B + 1) * b ^ n < 2 ^ 4000) : ChOk X Y l.tail [co l 0] [1] := by
  match l, hl with
  | a :: r, hl =>
    have hr : r.length = n := by have := hl.len; rw [List.length_cons] at this; omega
    have h0 : Bd [a] 0 (a.natAbs * b ^ 0) := ⟨rfl, by show a.natAbs + 0 ≤ _; rw [Nat.pow_zero]; omega⟩
    refine chOk_of hb hX hY r [a] [1] 0 a.natAbs h0 bd_one (by omega) ?_
    rw [Nat.zero_add, hr]
    exact Nat.lt_of_le_of_lt (Nat.mul_le_mul (by have := hl.nm; rw [nm_cons] at this; omega) (Nat.le_refl _)) hB
theorem sN_le_mul {f g : Nat → Int} {c : Nat} : ∀ n, (∀ k, k < n → (f k).natAbs ≤ c * (g k).natAbs) → sN n f ≤ c * sN n g
  | 0, _ => Nat.zero_le _
  | n + 1, h => by
    show sN n f + (f n).natAbs ≤ c * (sN n g + (g n).natAbs)
    have h1 := sN_le_mul n fun k hk => h k (by omega)
    have h2 := h n (by omega)
    rw [Nat.mul_add]
    omega
theorem nm_drop1 (l : List Int) : nm (l.drop 1) ≤ nm l := by
  cases l with
  | nil => exact Nat.le_refl _
  | cons x xs => exact Nat.le_add_left _ _
theorem nm_dX (l : List Int) : nm (dX l) ≤ l.length * nm l := by
  unfold dX
  rw [nm_tb]
  refine Nat.le_trans (sN_le_mul (g := co l) (c := l.length) _ fun k hk => ?_) (Nat.mul_le_mul (Nat.le_refl _) (sN_co l _))
  rw [Int.natAbs_mul, Nat.mul_comm]
  exact Nat.mul_le_mul (by omega) (Nat.le_refl _)
theorem nm_dY (l : List Int) : nm (dY l) ≤ l.length * nm l := by
  unfold dY
  rw [nm_tb]
  refine Nat.le_trans (sN_le_mul (g := co (l.drop 1)) (c := l.length) _ fun k hk => ?_) (Nat.mul_le_mul (Nat.le_refl _) (Nat.le_trans (sN_co (l.drop 1) _) (nm_drop1 l)))
  rw [Int.natAbs_mul, Nat.mul_comm, co_drop1]
  exact Nat.mul_le_mul (by omega) (Nat.le_refl _)
theorem nm_dX_it (l : List Int) : ∀ u, nm (it dX u l) ≤ l.length ^ u * nm l
  | 0 => by rw [Nat.pow_zero, Nat.one_mul]; exact Nat.le_refl _
  | u + 1 => by
    have h1 := nm_dX (it dX u l)
    have h2 := nm_dX_it l u
    rw [dX_it_len] at h1
    show nm (dX (it dX u l)) ≤ _
    rw [Nat.pow_succ, Nat.mul_comm (l.length ^ u), Nat.mul_assoc]
    exact Nat.le_trans h1 (Nat.mul_le_mul (by omega) h2)
theorem nm_dY_it (l : List Int) : ∀ u, nm (it dY u l) ≤ l.length ^ u * nm l
  | 0 => by rw [Nat.pow_zero, Nat.one_mul]; exact Nat.le_refl _
  | u + 1 => by
    have h1 := nm_dY (it dY u l)
    have h2 := nm_dY_it l u
    rw [dY_it_len] at h1
    show nm (dY (it dY u l)) ≤ _
    rw [Nat.pow_succ, Nat.mul_comm (l.length ^ u), Nat.mul_assoc]
    exact Nat.le_trans h1 (Nat.mul_le_mul (by omega) h2)
theorem nm_dd (i j : Nat) (l : List Int) (h : 1 ≤ l.length) : nm (dd i j l) ≤ l.length ^ (i + j) * nm l := by
  unfold dd
  refine Nat.le_trans (nm_dY_it (it dX i l) j) ?_
  rw [dX_it_len]
  refine Nat.le_trans (Nat.mul_le_mul (Nat.pow_le_pow_left (show l.length - i ≤ l.length by omega) j) (nm_dX_it l i)) (Nat.le_of_eq ?_)
  rw [Nat.pow_add, ← Nat.mul_assoc, Nat.mul_comm (l.length ^ j)]
theorem ddOk_of {i j : Nat} {l : List Int} (h : i + j + 1 ≤ l.length) (hl : l.length ≤ 100) (hB : l.length ^ (i + j) * nm l < 2 ^ 4000) : DdOk i j l := by
  have pl : 0 < l.length := by omega
  refine ⟨h, hl, fun u hu z hz => ?_, fun u hu z hz => ?_⟩
  · refine Nat.lt_of_le_of_lt (Nat.le_trans (nm_mem hz) (Nat.le_trans (nm_dX_it l u) ?_)) hB
    exact Nat.mul_le_mul (Nat.pow_le_pow_right pl (by omega)) (Nat.le_refl _)
  · refine Nat.lt_of_le_of_lt (Nat.le_trans (nm_mem hz) (Nat.le_trans (nm_dd i u l pl) ?_)) hB
    exact Nat.mul_le_mul (Nat.pow_le_pow_right pl (by omega)) (Nat.le_refl _)
end K06

set_option Elab.async false
set_option linter.all false
set_option maxRecDepth 100000
set_option maxHeartbeats 4000000
namespace K06
open PySem PySem.Spec PyProof.Rows L2 StX RZ MyR SlX OwnR OwnF EnumT
section
variable {P : Program} {w : World} {K : PySem.W.Frag} {mg : Str → Option Value} {base : Heap}
def spByX : Sp := fun vs H Q _ => ∃ (a : Addr) (m : List Int), vs = [.ref a] ∧ H a = some (tp m) ∧ 1 ≤ m.length ∧ m.length ≤ 100 ∧ (∀ z ∈ m, sm z) ∧ ∀ p H', Same H H' → H' p = some (tp (dX m)) → Q (.ref p) H'
theorem ok_law_by_x (T : Facts K mg) : FnOk P w K mg base CX0 1 T.f_law_by_x T.fd_law_by_x ["_law_form_here"] spByX := by
  refine T.F_law_by_x.ok sc_law_by_x (fun vs H Q E h => ?_) (fun cdv A outer s H vs Q E hr h => ?_)
  · obtain ⟨a, m, rfl, _⟩ := h
    rfl
  · obtain ⟨a, m, rfl, ha, h1, h2, sm1, q⟩ := h
    refine ⟨_, (PSs.nox (pss_one (ps_ret (pe_tupleOf (by rfl) T.z_tuple (pe_lc (own := [("_law_at", 1), ("_law_entry", 2)]) (g := (gTup K 2 (gCons (gName 1) (gCons (gName 2) gNil)))) (tt := tYes) (by rfl) sc_law_by_x.nd (pi_enumT (by rfl) T.z_enumerate (pa_cons (pe_slice sl_tupA (pv 0) po_none (po_some (pe_un un_neg pe_int))) pa_nil)) (blkOk_by (N := N_law_by_x) (sc := defScope s_law_by_x) (by decide +kernel)) (fun _ _ _ _ _ => (pg_tup (by rfl) (pgs_cons (pg_name (i := 1) sc_law_by_x.nd rfl (.inl rfl)) (pgs_cons (pg_name (i := 2) sc_law_by_x.nd rfl (.inl rfl)) pgs_nil)))) (fun _ _ _ _ _ => pts_nil) (fun _ _ _ _ _ => (pe_op op_mulW (pv 2) (pe_op op_sub (pe_op op_sub (pe_callB (call_len_seq : CallR _ _ (Evl.rLenS K)) (by rfl) T.z_len (by decide +kernel) (pa_cons (pv 0) pa_nil)) pe_int) (pv 1))))))))), ?_⟩
    refine ⟨_, rfl, _, rfl, _, rfl, a, _, rfl, SqT.of ha, fun z => absurd z.2 (by rw [List.length_map, sIx_neg (by omega)]; omega), fun _ p np => ?_⟩
    rw [ecut_init (by omega)]
    refine gen_upd H p _ np fun H2 s2 f2 => ⟨p, _, rfl, SqT.of f2, fun D hD => lc_enumT (xs := (m.take (m.length - 1)).map V.int) (fun k H' => Same H2 H' ∧ H' D = some (.lst (tab k fun k => co m k * ((m.length : Int) - 1 - k)))) ⟨same_upd0 hD, upd_same⟩ (fun k H' _ hP => SqT.of (hP.1 _ _ f2)) (fun k x B H' hx hP hB => ?_) (fun H3 hP => ?_)⟩
    · obtain ⟨sH, hL⟩ := hP
      obtain ⟨hk, rfl⟩ := int_get hx
      rw [List.length_take] at hk
      rw [co_take (by omega)]
      refine gen_upd H' B _ hB fun H4 s4 f4 => ⟨B, _, rfl, SqT.of f4, rfl, _, _, rfl, _, _, rfl, rfl, rfl, ?_⟩
      have hfB := (s2.trans (sH.trans s4)) _ _ ha
      refine ⟨_, rfl, _, rfl, a, _, rfl, .inr (SqT.of hfB), ?_⟩
      rw [List.length_map]
      refine ⟨_, _, rfl, rfl, _, rfl, _, _, rfl, rfl, _, _, rfl, rfl, sm_mul (sm_co sm1 (by omega)) (Nat.lt_of_le_of_lt (show ((m.length : Int) - 1 - (k : Int)).natAbs ≤ 100 by omega) (Nat.lt_of_lt_of_le (show 100 < 2 ^ 7 by decide) (Nat.pow_le_pow_right (by decide) (by decide)))), _, s4 _ _ hL, ?_, fun b o e => ?_, ?_⟩
      · rw [tab_len]
        exact small1000 (by omega)
      · rw [upd_ne (ne_of_none e hD)]
        exact s4 _ _ (sH _ _ e)
      · rw [upd_same, ← tab_snoc]
    · obtain ⟨sH, hL⟩ := hP
      rw [List.length_map, List.length_take, Nat.min_eq_left (by omega), tab_tb] at hL
      exact .inl ⟨D, _, rfl, SqL.of hL, fun p5 n5 => q p5 _ (s2.trans (sH.trans (same_upd0 n5))) upd_same⟩
def spByY : Sp := fun vs H Q _ => ∃ (a : Addr) (m : List Int), vs = [.ref a] ∧ H a = some (tp m) ∧ 1 ≤ m.length ∧ m.length ≤ 100 ∧ (∀ z ∈ m, sm z) ∧ ∀ p H', Same H H' → H' p = some (tp (dY m)) → Q (.ref p) H'
theorem ok_law_by_y (T : Facts K mg) : FnOk P w K mg base CX0 1 T.f_law_by_y T.fd_law_by_y ["_law_form_here"] spByY := by
  refine T.F_law_by_y.ok sc_law_by_y (fun vs H Q E h => ?_) (fun cdv A outer s H vs Q E hr h => ?_)
  · obtain ⟨a, m, rfl, _⟩ := h
    rfl
  · obtain ⟨a, m, rfl, ha, h1, h2, sm1, q⟩ := h
    refine ⟨_, (PSs.nox (pss_one (ps_ret (pe_tupleOf (by rfl) T.z_tuple (pe_lc (own := [("_law_at", 1), ("_law_entry", 2)]) (g := (gTup K 2 (gCons (gName 1) (gCons (gName 2) gNil)))) (tt := tYes) (by rfl) sc_law_by_y.nd (pi_enumT (by rfl) T.z_enumerate (pa_cons (pe_slice sl_tupA (pv 0) (po_some pe_int) po_none) pa_nil)) (blkOk_by (N := N_law_by_y) (sc := defScope s_law_by_y) (by decide +kernel)) (fun _ _ _ _ _ => (pg_tup (by rfl) (pgs_cons (pg_name (i := 1) sc_law_by_y.nd rfl (.inl rfl)) (pgs_cons (pg_name (i := 2) sc_law_by_y.nd rfl (.inl rfl)) pgs_nil)))) (fun _ _ _ _ _ => pts_nil) (fun _ _ _ _ _ => (pe_op op_mulW (pv 2) (pe_op op_add (pv 1) pe_int)))))))), ?_⟩
    refine ⟨_, rfl, 1, rfl, a, _, rfl, SqT.of ha, fun z => absurd z.1 (by
      rw [List.length_map]
      unfold HT.sIx
      simp only []
      split <;> omega), fun _ p np => ?_⟩
    rw [ecut_tail (by omega)]
    refine gen_upd H p _ np fun H2 s2 f2 => ⟨p, _, rfl, SqT.of f2, fun D hD => lc_enumT (xs := (m.drop 1).map V.int) (fun k H' => Same H2 H' ∧ H' D = some (.lst (tab k fun k => co m (k + 1) * ((k : Int) + 1)))) ⟨same_upd0 hD, upd_same⟩ (fun k H' _ hP => SqT.of (hP.1 _ _ f2)) (fun k x B H' hx hP hB => ?_) (fun H3 hP => ?_)⟩
    · obtain ⟨sH, hL⟩ := hP
      obtain ⟨hk, rfl⟩ := int_get hx
      rw [List.length_drop] at hk
      rw [co_drop1]
      refine gen_upd H' B _ hB fun H4 s4 f4 => ⟨B, _, rfl, SqT.of f4, rfl, _, _, rfl, _, _, rfl, rfl, rfl, ?_⟩
      refine ⟨_, rfl, _, rfl, _, _, rfl, rfl, _, _, rfl, rfl, sm_mul (sm_co sm1 (by omega)) (Nat.lt_of_le_of_lt (show ((k : Int) + 1).natAbs ≤ 100 by omega) (Nat.lt_of_lt_of_le (show 100 < 2 ^ 7 by decide) (Nat.pow_le_pow_right (by decide) (by decide)))), _, s4 _ _ hL, ?_, fun b o e => ?_, ?_⟩
      · rw [tab_len]
        exact small1000 (by omega)
      · rw [upd_ne (ne_of_none e hD)]
        exact s4 _ _ (sH _ _ e)
      · rw [upd_same, ← tab_snoc]
    · obtain ⟨sH, hL⟩ := hP
      rw [List.length_map, List.length_drop, tab_tb] at hL
      exact .inl ⟨D, _, rfl, SqL.of hL, fun p5 n5 => q p5 _ (s2.trans (sH.trans (same_upd0 n5))) upd_same⟩
theorem ok_law_derived (T : Facts K mg) : FnOk P w K mg base CX0 2 T.f_law_derived T.fd_law_derived ["_law_form_here", "_law_one", "_law_other"] spDerived := by
  have G_law_by_x := ok_law_by_x (P := P) (w := w) (base := base) T
  have G_law_by_y := ok_law_by_y (P := P) (w := w) (base := base) T
  refine T.F_law_derived.ok sc_law_derived (fun vs H Q E h => ?_) (fun cdv A outer s H vs Q E hr h => ?_)
  · obtain ⟨a, l, i, j, rfl, _⟩ := h
    rfl
  · obtain ⟨a, l, i, j, rfl, ha, ok, q⟩ := h
    have hlen := ok.len
    have hle := ok.le
    refine ⟨_, (PSs.nox (pss_cons (ps_for PassesOwn.never (by rfl) (pi_range1 (by rfl) T.z_range (pa_cons (pv 1) pa_nil)) (pg_name (i := 3) sc_law_derived.nd rfl (.inl rfl))
      (pss_one (ps_set (i := 0) sc_law_derived.nd rfl (.inl rfl) (pe_call G_law_by_x hr (by rfl) T.g_law_by_x T.F_law_by_x.kp T.b_law_by_x .nil pass0 (pa_cons (pv 0) pa_nil)))))
    (pss_cons (ps_for PassesOwn.never (by rfl) (pi_range1 (by rfl) T.z_range (pa_cons (pv 2) pa_nil)) (pg_name (i := 3) sc_law_derived.nd rfl (.inl rfl))
      (pss_one (ps_set (i := 0) sc_law_derived.nd rfl (.inl rfl) (pe_call G_law_by_y hr (by rfl) T.g_law_by_y T.F_law_by_y.kp T.b_law_by_y .nil pass0 (pa_cons (pv 0) pa_nil)))))
    (pss_one (ps_ret (pv 0)))))), ?_⟩
    refine ⟨_, rfl, i, rfl, by omega, by omega, for_range (n := (i : Int).toNat) (fun u σ H' => ∃ fa y3, σ = [some (.ref fa), some (.int i), some (.int j), y3] ∧ Same H H' ∧ H' fa = some (tp (it dX u l))) ⟨a, none, rfl, Same.rf H, ha⟩ (fun u σ H1 hu hP => ?_) (fun σ H1 hP => ?_)⟩
    · obtain ⟨fa, y3, rfl, s1, hf⟩ := hP
      have lu := dX_it_len l u
      exact ⟨_, rfl, fa, _, rfl, hf, by omega, by omega, ok.sx u (by omega), fun p H2 s2 hp => ⟨p, _, rfl, s1.trans s2, hp⟩⟩
    · obtain ⟨fa, y3, rfl, s1, hf⟩ := hP
      rw [Int.toNat_natCast] at hf
      have lu0 := dX_it_len l i
      refine ⟨_, rfl, j, rfl, by omega, by omega, for_range (n := (j : Int).toNat) (fun u σ H' => ∃ fa y3, σ = [some (.ref fa), some (.int i), some (.int j), y3] ∧ Same H H' ∧ H' fa = some (tp (it dY u (it dX i l)))) ⟨fa, y3, rfl, s1, hf⟩ (fun u σ H1 hu hP => ?_) (fun σ H1 hP => ?_)⟩
      · obtain ⟨fa, y3, rfl, s1, hf⟩ := hP
        have lu := dY_it_len (it dX i l) u
        exact ⟨_, rfl, fa, _, rfl, hf, by omega, by omega, ok.sy u (by omega), fun p H2 s2 hp => ⟨p, _, rfl, s1.trans s2, hp⟩⟩
      · obtain ⟨fa, y3, rfl, s1, hf⟩ := hP
        rw [Int.toNat_natCast] at hf
        exact ⟨_, rfl, q fa H1 s1 hf⟩
theorem ok_law_value (T : Facts K mg) : FnOk P w K mg base CX0 1 T.f_law_value T.fd_law_value ["_law_form_here", "_law_x", "_law_y"] spValue := by
  refine T.F_law_value.ok sc_law_value (fun vs H Q E h => ?_) (fun cdv A outer s H vs Q E hr h => ?_)
  · obtain ⟨t, l, x, y, M, rfl, _⟩ := h
    rfl
  · obtain ⟨t, l, x, y, M, rfl, ht, hs, vb, q⟩ := h
    refine ⟨_, (PSs.nox (pss_cons (ps_asg (pe_tup (pa_cons pe_int (pa_cons pe_int pa_nil))) (pg_tup (by rfl) (pgs_cons (pg_name (i := 3) sc_law_value.nd rfl (.inl rfl)) (pgs_cons (pg_name (i := 4) sc_law_value.nd rfl (.inl rfl)) pgs_nil))))
    (pss_cons (ps_for PassesOwn.never (by rfl) (pi_tup (pv 0)) (pg_name (i := 5) sc_law_value.nd rfl (.inl rfl))
      (pss_one (ps_par (i := 3) (j := 4) (by rfl) sc_law_value.nd rfl rfl (by decide) rfl rfl (pa_cons (pe_op op_add (pe_op op_mulW (pv 3) (pv 1)) (pe_op op_mulW (pv 5) (pv 4))) (pa_cons (pe_op op_mulW (pv 4) (pv 2)) pa_nil)) (by rfl))))
    (pss_one (ps_ret (pv 3)))))), ?_⟩
    refine ⟨by show 2 ≤ sizeLine; decide, fun p0 n0 => gen_upd H p0 (.tup [.int 0, .int 1]) n0 fun H1 s1 f1 => ⟨p0, _, rfl, SqT.of f1, rfl, _, _, rfl, _, _, rfl, rfl, ?_⟩⟩
    have ht1 := s1 _ _ ht
    refine ⟨_, rfl, t, rfl, ⟨_, SqT.of ht1⟩, for_tup (xs := l.map V.int) (fun i σ H' => ∃ y5, σ = [some (.ref t), some (.int x), some (.int y), some (.int (vfs x y l i).1), some (.int (vfs x y l i).2), y5] ∧ H' = H1) ⟨none, rfl, rfl⟩ (fun i σ H' _ hP => by rw [hP.choose_spec.2]; exact SqT.of ht1) (fun i z σ H' hz hP => ?_) (fun σ H' hP => ?_)⟩
    · obtain ⟨y5, rfl, rfl⟩ := hP
      obtain ⟨hi, rfl⟩ := int_get hz
      obtain ⟨s1', s2'⟩ := vfs_sm vb i (by omega)
      obtain ⟨sx, sy⟩ := vb.smx
      exact ⟨_, rfl, _, rfl, _, _, rfl, rfl, sm_mul s1' sx, _, rfl, _, rfl, _, _, rfl, rfl, sm_mul (sm_co hs hi) s2', _, _, rfl, rfl, _, rfl, _, rfl, _, _, rfl, rfl, sm_mul s2' sy, _, _, rfl, _, rfl, rfl⟩
    · obtain ⟨y5, rfl, rfl⟩ := hP
      rw [List.length_map]
      refine ⟨_, rfl, ?_⟩
      rw [vfs_ev]
      exact q _ s1
/-- all that the law makes on its way is let -/
structure LchOk (X Y l : List Int) : Prop where
  ne : l ≠ []
  len : l.length ≤ 90
  lX : X.length = 2
  lY : Y.length = 2
  pX : ∀ i, i ≤ l.length → Rw (pow X i)
  pY : ∀ i, i ≤ l.length → Rw (pow Y i)
  pm : ∀ i, i < l.length → Rw (ml (pow X (l.length - 1 - i)) (pow Y i))
  sl : ∀ z ∈ l, sm z
end
end K06

set_option Elab.async false
set_option linter.all false
set_option maxRecDepth 100000
set_option maxHeartbeats 4000000
namespace K06
open PySem PySem.Spec PyProof.Rows L2 StX RZ MyR SlX OwnR OwnF EnumT
section
variable {P : Program} {w : World} {K : PySem.W.Frag} {mg : Str → Option Value} {base : Heap}
theorem sm_le {x : Int} {n : Nat} (h : x.natAbs ≤ n) (hn : n < 2 ^ 60) : sm x := Nat.lt_of_le_of_lt h (Nat.lt_of_lt_of_le hn (Nat.pow_le_pow_right (by decide) (by decide)))
def spTable : Sp := fun vs H Q _ => ∃ (d : Addr) (m : Nat), vs = [.ref d, .int m] ∧ Dc H d ∧ 1 ≤ m ∧ m ≤ 1000 ∧ ∀ p H' a b c e, Sx d H H' → Dc H' d → Tb H' p [a, b] [c, e] → a.natAbs ≤ m → b.natAbs ≤ m → c.natAbs ≤ m → e.natAbs ≤ m → a * e - b * c ≠ 0 → Q (.ref p) H'
theorem ok_law_table (T : Facts K mg) : FnOk P w K mg base CX0 3 T.f_law_table T.fd_law_table ["_law_dice_here", "_law_most"] spTable := by
  have G_law_near : FnOk P w K mg base CX0 2 T.f_law_near T.fd_law_near ["_law_dice_here", "_law_most"] spNear := ok_law_near T
  refine T.F_law_table.ok sc_law_table (fun vs H Q E h => ?_) (fun cdv A outer s H vs Q E hr h => ?_)
  · obtain ⟨d, m, rfl, _⟩ := h
    rfl
  · obtain ⟨d, m, rfl, hd, h1, h2, q⟩ := h
    have e15 : (10 : Int) ^ 15 = 1000000000000000 := by decide
    have z2 : 2 ≤ sizeLine := by decide
    refine ⟨_, (PSs.nox (pss_cons (ps_set (i := 2) sc_law_table.nd rfl (.inl rfl) (pe_tupleOf (by rfl) T.z_tuple (pe_lc (own := [("_law_row", 3)]) (g := (gName 3)) (tt := tYes) (by rfl) sc_law_table.nd (pi_range1 (by rfl) T.z_range (pa_cons pe_int pa_nil)) (blkOk_by (N := N_law_table) (sc := defScope s_law_table) (by decide +kernel)) (fun _ _ _ _ _ => (pg_name (i := 3) sc_law_table.nd rfl (.inl rfl))) (fun _ _ _ _ _ => pts_nil) (fun _ _ _ _ _ => (pe_tup (pa_cons (pe_call G_law_near hr (by rfl) T.g_law_near T.F_law_near.kp T.b_law_near .nil pass0 (pa_cons (pv 0) (pa_cons (pv 1) pa_nil))) (pa_cons (pe_call G_law_near hr (by rfl) T.g_law_near T.F_law_near.kp T.b_law_near .nil pass0 (pa_cons (pv 0) (pa_cons (pv 1) pa_nil))) pa_nil)))))))
    (pss_one (ps_ret (pe_ifExp (pt_cmpR op_ne (pe_op op_mulW (pe_ix ix_tup (pe_ix ix_tup (pv 2) pe_int (fun _ _ => rfl)) pe_int (fun _ _ => rfl)) (pe_ix ix_tup (pe_ix ix_tup (pv 2) pe_int (fun _ _ => rfl)) pe_int (fun _ _ => rfl))) (pe_op op_mulW (pe_ix ix_tup (pe_ix ix_tup (pv 2) pe_int (fun _ _ => rfl)) pe_int (fun _ _ => rfl)) (pe_ix ix_tup (pe_ix ix_tup (pv 2) pe_int (fun _ _ => rfl)) pe_int (fun _ _ => rfl))) (nomark _)) (pv 2) (pe_tup (pa_cons (pe_tup (pa_cons pe_int (pa_cons pe_int pa_nil))) (pa_cons (pe_tup (pa_cons pe_int (pa_cons pe_int pa_nil))) pa_nil)))))))), ?_⟩
    refine ⟨2, rfl, by decide, by decide, fun D hD => lc_range (n := (2 : Int).toNat) (fun j H' => Sx d H H' ∧ Dc H' d ∧ ∃ (rs : List Addr) (ls : List (List Int)), H' D = some (.lst (rs.map V.ref)) ∧ rs.length = j ∧ ls.length = j ∧ (∀ i (h : i < ls.length) (h' : i < rs.length), H' rs[i] = some (tp ls[i])) ∧ ∀ l ∈ ls, l.length = 2 ∧ ∀ x ∈ l, x.natAbs ≤ m) ⟨Sx.of (same_upd0 hD), hd.same (same_upd0 hD), [], [], upd_same, rfl, rfl, fun i h _ => absurd h (Nat.not_lt_zero i), fun l h => (nomatch h)⟩ (fun j H' hj hP => ?_) (fun H' hP => ?_)⟩
    · obtain ⟨sH, dH, rs, ls, hL, hl1, hl2, hr, hb⟩ := hP
      have nD : D ≠ d := hd.ne hD
      refine ⟨rfl, _, rfl, _, rfl, d, m, rfl, dH, by omega, by rw [e15]; omega, fun u H2 u1 u2 s2 d2 => ⟨_, rfl, _, rfl, d, m, rfl, d2, by omega, by rw [e15]; omega, fun v H3 v1 v2 s3 d3 => ⟨z2, fun p2 n2 => gen_upd H3 p2 (tp [u, v]) n2 fun H4 s4 f4 => ?_⟩⟩⟩
      have hL4 := s4 _ _ (s3 D _ nD (s2 D _ nD hL))
      have dD : ∀ a l, H4 a = some (tp l) → a ≠ D := fun a l e z => by
        rw [z, hL4] at e
        cases e
      have d4 := d3.same s4
      have hj2 : j < 2 := hj
      refine ⟨_, hL4, by rw [List.length_map, hl1]; exact small1000 (by omega), fun b o hb2 e => ?_, ?_, rs ++ [p2], ls ++ [[u, v]], by rw [upd_same, List.map_append]; rfl, by rw [List.length_append, hl1]; rfl, by rw [List.length_append, hl2]; rfl, fun i h h' => ?_, fun l hl => ?_⟩
      · rw [upd_ne (ne_of_none e hD)]
        exact s4 _ _ (s3 b o hb2 (s2 b o hb2 (sH b o hb2 e)))
      · obtain ⟨x, y, z, e⟩ := d4
        exact ⟨x, y, z, by rw [upd_ne (Ne.symm nD)]; exact e⟩
      · by_cases c : i < ls.length
        · have e1 : (rs ++ [p2])[i] = rs[i]'(by omega) := List.getElem_append_left _
          have e2 : (ls ++ [[u, v]])[i] = ls[i] := List.getElem_append_left _
          rw [e1, e2]
          have e3 := s3 _ _ (dc_ne d2 (s2 _ _ (dc_ne dH (hr i c (by omega))) (hr i c (by omega)))) (s2 _ _ (dc_ne dH (hr i c (by omega))) (hr i c (by omega)))
          rw [upd_ne (dD _ _ (s4 _ _ e3))]
          exact s4 _ _ e3
        · have ei : i = ls.length := by rw [List.length_append] at h; simp at h; omega
          subst ei
          have e1 : (rs ++ [p2])[ls.length] = p2 := by rw [List.getElem_append_right (by omega)]; simp [hl1, hl2]
          have e2 : (ls ++ [[u, v]])[ls.length] = [u, v] := by rw [List.getElem_append_right (by omega)]; simp
          rw [e1, e2, upd_ne (dD _ _ f4)]
          exact f4
      · rcases List.mem_append.mp hl with e | e
        · exact hb l e
        · rw [List.mem_singleton.mp e]
          refine ⟨rfl, fun x hx => ?_⟩
          simp only [List.mem_cons, List.not_mem_nil, or_false] at hx
          rcases hx with e | e <;> rw [e] <;> omega
    · obtain ⟨sH, dH, rs, ls, hL, hl1, hl2, hr, hb⟩ := hP
      match rs, hl1, ls, hl2, hL, hr, hb with
      | [r0, r1], _, [l0, l1], _, hL, hr, hb =>
        have k0 : H' r0 = some (tp l0) := hr 0 (by simp) (by simp)
        have k1 : H' r1 = some (tp l1) := hr 1 (by simp) (by simp)
        obtain ⟨b0, c0⟩ := hb l0 (by simp)
        obtain ⟨b1, c1⟩ := hb l1 (by simp)
        match l0, b0, l1, b1, k0, k1, c0, c1 with
        | [a, b], _, [c, e], _, k0, k1, c0, c1 =>
          have ba := c0 a (by simp)
          have bb := c0 b (by simp)
          have bc := c1 c (by simp)
          have be := c1 e (by simp)
          refine .inl ⟨D, _, rfl, SqL.of hL, fun p np => ?_⟩
          refine gen_upd H' p (.tup [.ref r0, .ref r1]) np fun H2 s2 f2 => ?_
          have k0' := s2 _ _ k0
          have k1' := s2 _ _ k1
          have sa := sm_le (n := 1000) (show a.natAbs ≤ 1000 by omega) (by decide)
          have sb := sm_le (n := 1000) (show b.natAbs ≤ 1000 by omega) (by decide)
          have sc := sm_le (n := 1000) (show c.natAbs ≤ 1000 by omega) (by decide)
          have se := sm_le (n := 1000) (show e.natAbs ≤ 1000 by omega) (by decide)
          refine ⟨_, rfl, p, _, 0, _, rfl, rfl, SqT.of f2, atI_nat (j := 0) rfl, r0, _, 0, _, rfl, rfl, SqT.of k0', atI_nat (j := 0) rfl, _, rfl, p, _, 1, _, rfl, rfl, SqT.of f2, atI_nat (j := 1) rfl, r1, _, 1, _, rfl, rfl, SqT.of k1', atI_nat (j := 1) rfl, _, _, rfl, rfl, sm_mul sa se, ?_⟩
          refine ⟨_, rfl, p, _, 0, _, rfl, rfl, SqT.of f2, atI_nat (j := 0) rfl, r0, _, 1, _, rfl, rfl, SqT.of k0', atI_nat (j := 1) rfl, _, rfl, p, _, 1, _, rfl, rfl, SqT.of f2, atI_nat (j := 1) rfl, r1, _, 0, _, rfl, rfl, SqT.of k1', atI_nat (j := 0) rfl, _, _, rfl, rfl, sm_mul sb sc, rfl, _, rfl, ?_⟩
          by_cases z : a * e = b * c
          · rw [decide_eq_true (show V.int (a * e) = V.int (b * c) by rw [z])]
            refine iteF ⟨z2, fun q0 m0 => gen_upd H2 q0 (tp [1, 1]) m0 fun H3 s3 f3 => ⟨z2, fun q1 m1 => gen_upd H3 q1 (tp [0, 1]) m1 fun H4 s4 f4 => ⟨z2, fun q2 m2 => gen_upd H4 q2 (.tup [.ref q0, .ref q1]) m2 fun H5 s5 f5 => ?_⟩⟩⟩
            have s25 := (s3.trans s4).trans s5
            exact q q2 H5 1 1 0 1 (sH.trans (Sx.of (s2.trans s25))) (dH.same (s2.trans s25)) ⟨q0, q1, f5, s5 _ _ (s4 _ _ f3), s5 _ _ f4⟩ (by show 1 ≤ m; omega) (by show 1 ≤ m; omega) (by show 0 ≤ m; omega) (by show 1 ≤ m; omega) (by decide)
          · rw [decide_eq_false fun y => z (V.int.inj y)]
            refine iteT ⟨_, rfl, q p H2 a b c e (sH.trans (Sx.of s2)) (dH.same s2) ⟨r0, r1, f2, k0', k1'⟩ ba bb bc be (by omega)⟩
end
end K06

set_option Elab.async false
set_option linter.all false
set_option maxRecDepth 100000
/-! layings: the plain law -/
namespace K06
theorem evF_cons (g : Nat → Int) (x y : Int) : ∀ m, evF (m + 1) g x y = g 0 * x ^ m + y * evF m (fun k => g (k + 1)) x y
  | 0 => by
    show x * 0 + g 0 * y ^ 0 = g 0 * x ^ 0 + y * 0
    rw [Int.pow_zero, Int.pow_zero]
    grind
  | m + 1 => by
    show x * evF (m + 1) g x y + g (m + 1) * y ^ (m + 1) = g 0 * x ^ (m + 1) + y * (x * evF m (fun k => g (k + 1)) x y + g (m + 1) * y ^ m)
    rw [evF_cons g x y m, Int.pow_succ, Int.pow_succ]
    generalize evF m (fun k => g (k + 1)) x y = w
    generalize x ^ m = A
    generalize y ^ m = B
    grind
theorem ev_tb (n : Nat) (f : Nat → Int) (x y : Int) : ev (tb n f) x y = evF n f x y := by
  unfold ev
  rw [tb_len]
  exact evF_congr _ fun i hi => by rw [co_tb, if_pos hi]
theorem ev_dX (l : List Int) (x y : Int) : ev (dX l) x y = evF (l.length - 1) (fun k => co l k * ((l.length : Int) - 1 - k)) x y := ev_tb _ _ x y
theorem ev_dY (l : List Int) (x y : Int) : ev (dY l) x y = evF (l.length - 1) (fun k => co l (k + 1) * ((k : Int) + 1)) x y := ev_tb _ _ x y
theorem ev_dX_cons (a : Int) (l : List Int) (x y : Int) : ev (dX (a :: l)) x y = a * l.length * x ^ (l.length - 1) + y * ev (dX l) x y := by
  rw [ev_dX, ev_dX]
  show evF (l.length + 1 - 1) _ x y = _
  rw [Nat.add_sub_cancel]
  cases hl : l.length with
  | zero =>
    show (0 : Int) = a * 0 * _ + y * 0
    grind
  | succ m =>
    rw [evF_cons]
    rw [show evF m (fun k => co (a :: l) (k + 1) * (((a :: l).length : Int) - 1 - ((k + 1 : Nat) : Int))) x y = evF (m + 1 - 1) (fun k => co l k * (((m + 1 : Nat) : Int) - 1 - k)) x y from by
      rw [Nat.add_sub_cancel]
      refine evF_congr _ fun k _ => ?_
      show co l k * (((a :: l).length : Int) - 1 - ((k + 1 : Nat) : Int)) = _
      congr 1
      rw [List.length_cons, hl]
      omega]
    show a * (((a :: l).length : Int) - 1 - ((0 : Nat) : Int)) * x ^ m + _ = _
    rw [List.length_cons, hl, Nat.add_sub_cancel, show (((m + 1 + 1 : Nat)) : Int) - 1 - ((0 : Nat) : Int) = ((m + 1 : Nat) : Int) by omega]
theorem ev_dY_cons (a : Int) (l : List Int) (x y : Int) : ev (dY (a :: l)) x y = ev l x y + y * ev (dY l) x y := by
  rw [ev_dY, ev_dY]
  show evF (l.length + 1 - 1) (fun k => co l k * ((k : Int) + 1)) x y = _
  rw [Nat.add_sub_cancel]
  have e1 : evF l.length (fun k => co l k * ((k : Int) + 1)) x y = ev l x y + evF l.length (fun k => co l k * (k : Int)) x y := by
    unfold ev
    rw [← evF_add]
    exact evF_congr _ fun k _ => by grind
  rw [e1]
  congr 1
  cases hl : l.length with
  | zero =>
    show (0 : Int) = y * 0
    rw [Int.mul_zero]
  | succ m =>
    rw [evF_cons, Nat.add_sub_cancel]
    show co l 0 * ((0 : Nat) : Int) * x ^ m + y * evF m (fun k => co l (k + 1) * ((k + 1 : Nat) : Int)) x y = _
    rw [show evF m (fun k => co l (k + 1) * ((k + 1 : Nat) : Int)) x y = evF m (fun k => co l (k + 1) * ((k : Int) + 1)) x y from evF_congr _ fun k _ => by rw [show ((k + 1 : Nat) : Int) = (k : Int) + 1 by omega]]
    show co l 0 * 0 * x ^ m + _ = _
    grind
/-- a step along a line: up to squares it is told by the derivatives -/
theorem pow_step (x u h : Int) : ∀ n : Nat, ∃ R, (x + u * h) ^ n = x ^ n + h * (u * (n * x ^ (n - 1))) + h * h * R
  | 0 => ⟨0, by rw [Int.pow_zero, Int.pow_zero]; show (1 : Int) = 1 + h * (u * (0 * _)) + h * h * 0; grind⟩
  | 1 => ⟨0, by
    rw [Int.pow_succ, Int.pow_zero, Int.pow_succ, Int.pow_zero]
    show 1 * (x + u * h) = 1 * x + h * (u * (1 * 1)) + h * h * 0
    grind⟩
  | n + 2 => by
    obtain ⟨R, e⟩ := pow_step x u h (n + 1)
    refine ⟨u * u * ((n + 1 : Nat) * x ^ n) + R * (x + u * h), ?_⟩
    rw [Int.pow_succ, e, show n + 1 - 1 = n by omega, show n + 2 - 1 = n + 1 by omega, Int.pow_succ x (n + 1), Int.pow_succ x n, show ((n + 2 : Nat) : Int) = ((n + 1 : Nat) : Int) + 1 by omega]
    generalize x ^ n = A
    generalize ((n + 1 : Nat) : Int) = N
    grind
theorem ev_step (x y u v h : Int) : ∀ l : List Int, ∃ R, ev l (x + u * h) (y + v * h) = ev l x y + h * (u * ev (dX l) x y + v * ev (dY l) x y) + h * h * R
  | [] => ⟨0, by
    show (0 : Int) = 0 + h * (u * ev (dX []) x y + v * ev (dY []) x y) + h * h * 0
    rw [show ev (dX []) x y = 0 from rfl, show ev (dY []) x y = 0 from rfl]
    grind⟩
  | a :: l => by
    obtain ⟨R, e⟩ := ev_step x y u v h l
    obtain ⟨S, e2⟩ := pow_step x u h l.length
    refine ⟨a * S + v * (u * ev (dX l) x y + v * ev (dY l) x y) + (y + v * h) * R, ?_⟩
    rw [ev_cons, ev_cons, ev_dX_cons, ev_dY_cons, e, e2]
    generalize ev (dX l) x y = EX
    generalize ev (dY l) x y = EY
    generalize ev l x y = E
    generalize x ^ (l.length - 1) = A
    generalize x ^ l.length = B
    generalize (l.length : Int) = n
    grind
theorem step_eq {p q : Int} (H : ∀ h : Int, ∃ R, h * p = h * q + h * h * R) : p = q := by
  obtain ⟨R, e⟩ := H (((p - q).natAbs + 1 : Nat) : Int)
  have hp : (((p - q).natAbs + 1 : Nat) : Int) ≠ 0 := by omega
  have e2 : p = q + (((p - q).natAbs + 1 : Nat) : Int) * R := by
    refine Int.eq_of_mul_eq_mul_left hp ?_
    rw [Int.mul_add, ← Int.mul_assoc]
    exact e
  have hd : (((p - q).natAbs + 1 : Nat) : Int) ∣ p - q := ⟨R, by omega⟩
  have hz := Nat.eq_zero_of_dvd_of_lt (Int.natAbs_dvd_natAbs.mpr hd) (by rw [Int.natAbs_natCast]; omega)
  omega
/-! ### the laying -/
def L : Nat → List Int → List Int → List Int
  | 0, f, g => ml f g
  | t + 1, f, g => zs (-1) (L t (dX f) (dY g)) (L t (dY f) (dX g))
/-! ### sums -/
def su : Nat → (Nat → Int) → Int
  | 0, _ => 0
  | n + 1, φ => su n φ + φ n
/-- how many lots -/
def ch : Nat → Nat → Nat
  | _, 0 => 1
  | 0, _ + 1 => 0
  | n + 1, k + 1 => ch n k + ch n (k + 1)
end K06

set_option Elab.async false
set_option linter.all false
set_option maxRecDepth 100000
set_option maxHeartbeats 4000000
namespace K06
open PySem PySem.Spec PyProof.Rows L2 StX RZ MyR SlX OwnR OwnF EnumT GxR
theorem st_norm {S : TS} {D : Ends} {σ : L2.St} (σ' : L2.St) {H : Hp} (e : σ = σ') (h : S D σ' H) : S D σ H := e ▸ h
theorem gen_app (H : Hp) (F : Addr) (o : HO) {R : Hp → Prop} (h : ∀ H' : Hp, H' F = some o → (∀ b, b ≠ F → H' b = H b) → R H') : R (upd H F o) := h _ upd_same fun _ hb => upd_ne hb
/-! ### the first entry other than 0 -/
def nzr (l : List Int) : Bool := l.any (· != 0)
def fi (l : List Int) : Nat := l.findIdx (· != 0)
theorem fi_lt {l : List Int} (h : nzr l = true) : fi l < l.length := by
  unfold fi
  refine List.findIdx_lt_length_of_exists ?_
  obtain ⟨x, h1, h2⟩ := List.any_eq_true.mp h
  exact ⟨x, h1, h2⟩
theorem fi_ne {l : List Int} (h : nzr l = true) : co l (fi l) ≠ 0 := by
  have := List.findIdx_getElem (p := (· != 0)) (w := fi_lt h)
  rw [co_get (fi_lt h)]
  have h2 : (l[fi l]'(fi_lt h) != 0) = true := this
  simpa using h2
theorem fi_first {l : List Int} {i : Nat} {z : Int} (h1 : l[i]? = some z) (h2 : (z != 0) = true) (h3 : ∀ (j : Nat) (y : Int), j < i → l[j]? = some y → (y != 0) = false) : fi l = i := by
  obtain ⟨hi, e⟩ := List.getElem?_eq_some_iff.mp h1
  unfold fi
  refine (List.findIdx_eq hi).mpr ⟨by rw [e]; exact h2, fun j hj => ?_⟩
  exact h3 j _ hj (List.getElem?_eq_getElem (by omega))
theorem nzr_of {l : List Int} {i : Nat} {z : Int} (h1 : l[i]? = some z) (h2 : (z != 0) = true) : nzr l = true := List.any_eq_true.mpr ⟨z, List.mem_of_getElem? h1, h2⟩
theorem nzr_no {l : List Int} (h : ∀ (j : Nat) (z : Int), l[j]? = some z → (z != 0) = false) : nzr l = false := by
  cases e : nzr l with
  | false => rfl
  | true =>
    obtain ⟨x, h1, h2⟩ := List.any_eq_true.mp e
    obtain ⟨j, hj, ej⟩ := List.getElem_of_mem h1
    rw [h j x (by rw [← ej]; exact List.getElem?_eq_getElem hj)] at h2
    cases h2
theorem nzr_co {l : List Int} (h : nzr l = false) (k : Nat) : co l k = 0 := by
  by_cases hk : k < l.length
  · have := List.any_eq_false.mp h l[k] (List.getElem_mem hk)
    rw [co_get hk]
    simpa using this
  · exact co_far (by omega)
theorem nzr_iff {l : List Int} : nzr l = true ↔ ∃ k, k < l.length ∧ co l k ≠ 0 := by
  constructor
  · intro h
    exact ⟨fi l, fi_lt h, fi_ne h⟩
  · rintro ⟨k, hk, hz⟩
    cases e : nzr l with
    | true => rfl
    | false => exact absurd (nzr_co e k) hz
theorem cont_nzr (l : List Int) : cont l = 0 ↔ nzr l = false := by
  have h := any_cont l
  unfold nzr
  constructor
  · intro e
    rw [decide_eq_true e] at h
    simpa using h
  · intro e
    rw [e] at h
    exact of_decide_eq_true h.symm
theorem sm_of_le {x y : Int} (h : sm y) (k : x.natAbs ≤ y.natAbs) : sm x := Nat.lt_of_le_of_lt k h
/-! ### tables of code objects -/
def Tg (Ps : List Addr) (H : Hp) : Prop := ∀ P ∈ Ps, TabG H P
def Sts (Ps : List Addr) (H H' : Hp) : Prop := ∀ b o, b ∉ Ps → H b = some o → H' b = some o
/-- all but the dice at d and the tables Ps stays -/
def Sy (d : Addr) (Ps : List Addr) (H H' : Hp) : Prop := ∀ b o, b ≠ d → b ∉ Ps → H b = some o → H' b = some o
theorem Sts.rf (Ps : List Addr) (H : Hp) : Sts Ps H H := fun _ _ _ e => e
theorem Sts.of {Ps : List Addr} {H H' : Hp} (s : Same H H') : Sts Ps H H' := fun b o _ h => s b o h
theorem Sts.trans {Ps : List Addr} {H H1 H2 : Hp} (s : Sts Ps H H1) (t : Sts Ps H1 H2) : Sts Ps H H2 := fun b o n h => t b o n (s b o n h)
theorem Sy.rf (d : Addr) (Ps : List Addr) (H : Hp) : Sy d Ps H H := fun _ _ _ _ e => e
theorem Sy.of {d : Addr} {Ps : List Addr} {H H' : Hp} (s : Same H H') : Sy d Ps H H' := fun b o _ _ h => s b o h
theorem Sy.ofD {d : Addr} {Ps : List Addr} {H H' : Hp} (s : Sx d H H') : Sy d Ps H H' := fun b o n _ h => s b o n h
theorem Sy.ofP {d : Addr} {Ps : List Addr} {H H' : Hp} (s : Sts Ps H H') : Sy d Ps H H' := fun b o _ n h => s b o n h
theorem Sy.trans {d : Addr} {Ps : List Addr} {H H1 H2 : Hp} (s : Sy d Ps H H1) (t : Sy d Ps H1 H2) : Sy d Ps H H2 := fun b o n m h => t b o n m (s b o n m h)
theorem tabS {P : Addr} {H H' : Hp} (t : TabG H P) (s : Same H H') : TabG H' P := by
  obtain ⟨ps, h, k⟩ := t
  exact ⟨ps, s _ _ h, k⟩
theorem Tg.same {Ps : List Addr} {H H' : Hp} (t : Tg Ps H) (s : Same H H') : Tg Ps H' := fun P m => tabS (t P m) s
theorem Tg.sx {Ps : List Addr} {d : Addr} {H H' : Hp} (t : Tg Ps H) (s : Sx d H H') (hd : Dc H d) : Tg Ps H' := fun P m => by
  obtain ⟨ps, h, k⟩ := t P m
  obtain ⟨x, y, z, e⟩ := hd
  refine ⟨ps, s _ _ (fun q => ?_) h, k⟩
  rw [q, e] at h
  cases h
theorem Tg.ne {Ps : List Addr} {H : Hp} {a : Addr} {o : HO} (t : Tg Ps H) (h : H a = some o) (ho : ∀ ps, o ≠ .tbl ps) : a ∉ Ps := fun m => by
  obtain ⟨ps, e, _⟩ := t a m
  rw [h] at e
  exact ho ps (Option.some.inj e)
theorem tbd_sts {Ps : List Addr} {P : Addr} {H H' : Hp} (t : Tabbed P H H') (h : P ∈ Ps) : Sts Ps H H' := fun b o nb e => (t.2 b (fun z => nb (z ▸ h))).trans e
theorem tbd_tg {Ps : List Addr} {P : Addr} {H H' : Hp} (t : Tabbed P H H') (g : Tg Ps H) : Tg Ps H' := fun P' m => by
  by_cases e : P' = P
  · rw [e]
    exact t.1
  · obtain ⟨ps, h, k⟩ := g P' m
    exact ⟨ps, (t.2 P' e).trans h, k⟩
theorem Sts.tup {Ps : List Addr} {H H' : Hp} {t : Addr} {xs : List V} (s : Sts Ps H H') (g : Tg Ps H) (h : H t = some (.tup xs)) : H' t = some (.tup xs) := s _ _ (g.ne h fun _ e => by cases e) h
theorem Sts.lst {Ps : List Addr} {H H' : Hp} {t : Addr} {xs : List V} (s : Sts Ps H H') (g : Tg Ps H) (h : H t = some (.lst xs)) : H' t = some (.lst xs) := s _ _ (g.ne h fun _ e => by cases e) h
theorem Sts.fo {Ps : List Addr} {C a : Addr} {H H' : Hp} {l : List Int} (s : Sts Ps H H') (g : Tg Ps H) (h : Fo C H a l) : Fo C H' a l := by
  obtain ⟨dx, t, e1, e2, e3⟩ := h
  exact ⟨dx, t, s _ _ (g.ne e1 fun _ e => by cases e) e1, s _ _ (g.ne e2 fun _ e => by cases e) e2, s _ _ (g.ne e3 fun _ e => by cases e) e3⟩
theorem Sts.dc {Ps : List Addr} {d : Addr} {H H' : Hp} (s : Sts Ps H H') (g : Tg Ps H) (h : Dc H d) : Dc H' d := by
  obtain ⟨x, y, z, e⟩ := h
  exact ⟨x, y, z, s _ _ (g.ne e fun _ e => by cases e) e⟩
/-- dice and the tables -/
structure Dp (d : Addr) (Ps : List Addr) (H : Hp) : Prop where
  dd : Dc H d
  tt : Tg Ps H
theorem Dp.same {d : Addr} {Ps : List Addr} {H H' : Hp} (D : Dp d Ps H) (s : Same H H') : Dp d Ps H' := ⟨D.dd.same s, D.tt.same s⟩
theorem Dp.sx {d : Addr} {Ps : List Addr} {H H' : Hp} (D : Dp d Ps H) (s : Sx d H H') (h : Dc H' d) : Dp d Ps H' := ⟨h, D.tt.sx s D.dd⟩
theorem Dp.sp {d : Addr} {Ps : List Addr} {H H' : Hp} (D : Dp d Ps H) (s : Sts Ps H H') (h : Tg Ps H') : Dp d Ps H' := ⟨s.dc D.tt D.dd, h⟩
theorem Dp.tup {d : Addr} {Ps : List Addr} {H H' : Hp} {t : Addr} {xs : List V} (D : Dp d Ps H) (s : Sy d Ps H H') (h : H t = some (.tup xs)) : H' t = some (.tup xs) := s _ _ (dc_ne D.dd h) (D.tt.ne h fun _ e => by cases e) h
theorem Dp.fo {d : Addr} {Ps : List Addr} {H H' : Hp} {C a : Addr} {l : List Int} (D : Dp d Ps H) (s : Sy d Ps H H') (h : Fo C H a l) : Fo C H' a l := by
  obtain ⟨dx, t, e1, e2, e3⟩ := h
  obtain ⟨x, y, z, e⟩ := D.dd
  have nd : ∀ {b o}, H b = some o → (∀ l, o ≠ .lst l) → b ≠ d := fun h1 h2 q => by
    rw [q, e] at h1
    exact h2 _ (Option.some.inj h1).symm
  exact ⟨dx, t, s _ _ (nd e1 fun _ e => by cases e) (D.tt.ne e1 fun _ e => by cases e) e1, s _ _ (nd e2 fun _ e => by cases e) (D.tt.ne e2 fun _ e => by cases e) e2, s _ _ (nd e3 fun _ e => by cases e) (D.tt.ne e3 fun _ e => by cases e) e3⟩
theorem script_Sy {K : PySem.W.Frag} {d a : Addr} {Ps : List Addr} {H H' : Hp} {o : HO} {xs : List V} (s : Sy d Ps (upd H d o) H') (n : H d = none) (t : Tg Ps H) (h : SqL K H a xs) : SqL K H' a xs := by
  rcases h with (h | ⟨u, h⟩) | h
  · have ne : a ≠ d := ne_of_none h n
    exact .inl (.inl (s a _ ne (t.ne h fun _ e => by cases e) (by rw [upd_ne ne]; exact h)))
  · have ne : a ≠ d := ne_of_none h n
    exact .inl (.inr ⟨u, s a _ ne (t.ne h fun _ e => by cases e) (by rw [upd_ne ne]; exact h)⟩)
  · exact .inr h
def spLawT (K : PySem.W.Frag) (Ps : List Addr) : Sp := fun vs H Q _ => ∃ (a : Addr) (ns : List Int), vs = [.ref a] ∧ SqL K H a (ns.map V.int) ∧ ns.length ≤ 63 ∧ Tg Ps H ∧ ∀ H', Q (.bl true) H'
theorem cutV_map (xs : List Int) (lo hi : Option Int) : cutV (xs.map V.int) lo hi = ((xs.drop (HT.sIx xs.length 0 lo)).take (HT.sIx xs.length xs.length hi - HT.sIx xs.length 0 lo)).map V.int := by
  unfold cutV
  rw [List.length_map, List.map_take, List.map_drop]
theorem cut_row {K : PySem.W.Frag} {a : Addr} {H : Hp} {xs : List Int} {lo hi : Option Int} {Q : VK} (ha : H a = some (tp xs)) (q : ∀ p H', Same H H' → H' p = some (tp ((xs.drop (HT.sIx xs.length 0 lo)).take (HT.sIx xs.length xs.length hi - HT.sIx xs.length 0 lo))) → Q (.ref p) H') : rSlA K (.ref a) lo hi H Q := by
  refine ⟨a, _, rfl, SqT.of ha, fun e => ?_, fun _ p hp => ?_⟩
  · rw [List.length_map] at e
    refine q a H (Same.rf _) ?_
    rw [e.1, e.2, List.drop_zero, Nat.sub_zero, List.take_length]
    exact ha
  · refine q p _ (same_upd0 hp) ?_
    rw [upd_same, cutV_map]
theorem take_row {K : PySem.W.Frag} {a : Addr} {H : Hp} {xs : List Int} {i : Nat} {z : Int} {Q : VK} (ha : H a = some (tp xs)) (hi : i ≤ xs.length) (hz : z = (i : Int)) (q : ∀ p H', Same H H' → H' p = some (tp (xs.take i)) → Q (.ref p) H') : rSlA K (.ref a) none (some z) H Q := by
  subst hz
  refine cut_row ha fun p H' s k => q p H' s ?_
  rw [HT.sIx_none, HT.sIx_nat, Nat.sub_zero, List.drop_zero, Nat.min_eq_left hi] at k
  exact k
end K06

set_option Elab.async false
set_option linter.all false
set_option maxRecDepth 100000
set_option maxHeartbeats 4000000
namespace K06
open PySem PySem.Spec PyProof.Rows L2 StX RZ MyR SlX OwnR OwnF EnumT GxR
/-! ### dividing rows -/
/-- what is left behind i turns -/
def rmd (xs ys : List Int) : Nat → Nat → Int
  | 0 => co xs
  | i + 1 => fun k => rmd xs ys i k - (if i ≤ k then (rmd xs ys i (i + fi ys)).fdiv (co ys (fi ys)) * co ys (k - i) else 0)
def quo (xs ys : List Int) (i : Nat) : Int := (rmd xs ys i (i + fi ys)).fdiv (co ys (fi ys))
theorem rmd_succ (xs ys : List Int) (i k : Nat) : rmd xs ys (i + 1) k = rmd xs ys i k - (if i ≤ k then quo xs ys i * co ys (k - i) else 0) := rfl
theorem tb_snoc (n : Nat) (f : Nat → Int) : tb (n + 1) f = tb n f ++ [f n] := by
  unfold tb
  rw [List.range_succ, List.map_append]
  rfl
theorem rmd_sum (xs ys : List Int) (k : Nat) : ∀ i, rmd xs ys i k + cv (tb i (quo xs ys)) (co ys) k = co xs k
  | 0 => by
    show co xs k + cv [] _ _ = _
    rw [cv_nil, Int.add_zero]
  | i + 1 => by
    have h := rmd_sum xs ys k i
    rw [tb_snoc, cv_snoc, tb_len, rmd_succ]
    omega
theorem rmd_lead (xs ys : List Int) (i : Nat) : rmd xs ys (i + 1) (i + fi ys) = rmd xs ys i (i + fi ys) - quo xs ys i * co ys (fi ys) := by
  rw [rmd_succ, if_pos (by omega), show i + fi ys - i = fi ys by omega]
/-- how many turns there are -/
def mny (xs ys : List Int) : Nat := xs.length + 1 - ys.length
def GoodTo (xs ys : List Int) (i : Nat) : Prop := ∀ j, j < i → rmd xs ys (j + 1) (j + fi ys) = 0
instance (xs ys : List Int) (i : Nat) : Decidable (GoodTo xs ys i) := by unfold GoodTo; infer_instance
/-- the quotient of rows -/
def qd (xs ys : List Int) : Option (List Int) :=
  if xs.length < ys.length ∨ nzr (xs.take (fi ys)) = true then none
  else if GoodTo xs ys (mny xs ys) ∧ nzr (tb xs.length (rmd xs ys (mny xs ys))) = false then some (tb (mny xs ys) (quo xs ys)) else none
theorem qd_none1 {xs ys : List Int} (h : xs.length < ys.length ∨ nzr (xs.take (fi ys)) = true) : qd xs ys = none := by unfold qd; rw [if_pos h]
theorem qd_bad {xs ys : List Int} {j : Nat} (hj : j < mny xs ys) (h : rmd xs ys (j + 1) (j + fi ys) ≠ 0) : qd xs ys = none := by
  unfold qd
  by_cases h1 : xs.length < ys.length ∨ nzr (xs.take (fi ys)) = true
  · rw [if_pos h1]
  · rw [if_neg h1, if_neg fun g => h (g.1 j hj)]
theorem qd_left {xs ys : List Int} (h : nzr (tb xs.length (rmd xs ys (mny xs ys))) = true) : qd xs ys = none := by
  unfold qd
  by_cases h1 : xs.length < ys.length ∨ nzr (xs.take (fi ys)) = true
  · rw [if_pos h1]
  · rw [if_neg h1, if_neg fun g => by rw [h] at g; cases g.2]
theorem qd_some {xs ys : List Int} (h1 : ¬ (xs.length < ys.length ∨ nzr (xs.take (fi ys)) = true)) (h2 : GoodTo xs ys (mny xs ys)) (h3 : nzr (tb xs.length (rmd xs ys (mny xs ys))) = false) : qd xs ys = some (tb (mny xs ys) (quo xs ys)) := by
  unfold qd
  rw [if_neg h1, if_pos ⟨h2, h3⟩]
theorem qd_of {xs ys q : List Int} (h : qd xs ys = some q) : ys.length ≤ xs.length ∧ GoodTo xs ys (mny xs ys) ∧ nzr (tb xs.length (rmd xs ys (mny xs ys))) = false ∧ q = tb (mny xs ys) (quo xs ys) := by
  unfold qd at h
  by_cases h1 : xs.length < ys.length ∨ nzr (xs.take (fi ys)) = true
  · rw [if_pos h1] at h
    cases h
  · rw [if_neg h1] at h
    by_cases h2 : GoodTo xs ys (mny xs ys) ∧ nzr (tb xs.length (rmd xs ys (mny xs ys))) = false
    · rw [if_pos h2] at h
      exact ⟨Nat.le_of_not_lt fun z => h1 (.inl z), h2.1, h2.2, (Option.some.inj h).symm⟩
    · rw [if_neg h2] at h
      cases h
theorem qd_len {xs ys q : List Int} (h : qd xs ys = some q) : q.length = mny xs ys := by rw [(qd_of h).2.2.2, tb_len]
/-- the quotient's product is the row -/
theorem qd_ml {xs ys q : List Int} (ny : ys ≠ []) (h : qd xs ys = some q) : ml q ys = xs := by
  obtain ⟨h1, _, h3, rfl⟩ := qd_of h
  have ly := List.length_pos_iff.mpr ny
  have el : (ml (tb (mny xs ys) (quo xs ys)) ys).length = xs.length := by
    rw [ml_len, tb_len]
    unfold mny
    omega
  refine co_inj el fun k => ?_
  by_cases hk : k < xs.length
  · rw [co_ml ny]
    have h0 := nzr_co h3 k
    rw [co_tb, if_pos hk] at h0
    have := rmd_sum xs ys k (mny xs ys)
    omega
  · rw [co_far (by omega), co_far (by omega)]
theorem nzr_tb0 {n : Nat} {f : Nat → Int} (h : ∀ k, f k = 0) : nzr (tb n f) = false := by
  cases e : nzr (tb n f) with
  | false => rfl
  | true =>
    obtain ⟨k, hk, hz⟩ := nzr_iff.mp e
    rw [co_tb, h] at hz
    split at hz <;> exact absurd rfl hz
theorem rmd_bd {xs ys : List Int} {M B : Nat} (hx : ∀ z ∈ xs, z.natAbs ≤ M) (hy : ∀ z ∈ ys, z.natAbs ≤ B) : ∀ i k, (rmd xs ys i k).natAbs ≤ M * (1 + B) ^ i
  | 0, k => by
    rw [Nat.pow_zero, Nat.mul_one]
    show (co xs k).natAbs ≤ M
    rcases co_mem (l := xs) (k := k) with e | e
    · rw [e]; exact Nat.zero_le _
    · exact hx _ e
  | i + 1, k => by
    have h1 := rmd_bd hx hy i k
    have h2 := Nat.le_trans (Int.natAbs_fdiv_le_natAbs (rmd xs ys i (i + fi ys)) (co ys (fi ys))) (rmd_bd hx hy i (i + fi ys))
    have h3 : (co ys (k - i)).natAbs ≤ B := by
      rcases co_mem (l := ys) (k := k - i) with e | e
      · rw [e]; exact Nat.zero_le _
      · exact hy _ e
    rw [rmd_succ, Nat.pow_succ, ← Nat.mul_assoc, Nat.mul_add, Nat.mul_one]
    refine Nat.le_trans (Int.natAbs_sub_le _ _) (Nat.add_le_add h1 ?_)
    split
    · rw [Int.natAbs_mul]
      exact Nat.mul_le_mul h2 h3
    · exact Nat.zero_le _
theorem quo_bd {xs ys : List Int} {M B : Nat} (hx : ∀ z ∈ xs, z.natAbs ≤ M) (hy : ∀ z ∈ ys, z.natAbs ≤ B) (i : Nat) : (quo xs ys i).natAbs ≤ M * (1 + B) ^ i :=
  Nat.le_trans (Int.natAbs_fdiv_le_natAbs _ _) (rmd_bd hx hy i _)
/-- what is asked for dividing -/
structure QdOk (xs ys : List Int) : Prop where
  nz : nzr ys = true
  nx : xs ≠ []
  lx : xs.length ≤ 100
  ly : ys.length ≤ 100
  ex : ∃ M B : Nat, (∀ z ∈ xs, z.natAbs ≤ M) ∧ (∀ z ∈ ys, z.natAbs ≤ B) ∧ B < 2 ^ 4000 ∧ M * (1 + B) ^ (mny xs ys) < 2 ^ 4000
theorem QdOk.sy {xs ys : List Int} (h : QdOk xs ys) : ∀ z ∈ ys, sm z := by
  obtain ⟨M, B, h1, h2, h3, h4⟩ := h.ex
  exact fun z hz => Nat.lt_of_le_of_lt (h2 z hz) h3
theorem QdOk.sr {xs ys : List Int} (h : QdOk xs ys) {i : Nat} (hi : i ≤ mny xs ys) (k : Nat) : sm (rmd xs ys i k) := by
  obtain ⟨M, B, h1, h2, h3, h4⟩ := h.ex
  exact Nat.lt_of_le_of_lt (rmd_bd h1 h2 i k) (Nat.lt_of_le_of_lt (Nat.mul_le_mul_left M (Nat.pow_le_pow_right (by omega) hi)) h4)
theorem QdOk.sq {xs ys : List Int} (h : QdOk xs ys) {i : Nat} (hi : i ≤ mny xs ys) : sm (quo xs ys i) := sm_of_le (h.sr hi (i + fi ys)) (Int.natAbs_fdiv_le_natAbs _ _)
theorem QdOk.ny {xs ys : List Int} (h : QdOk xs ys) : ys ≠ [] := fun e => by
  have := h.nz
  rw [e] at this
  cases this
theorem QdOk.lead {xs ys : List Int} (h : QdOk xs ys) : co ys (fi ys) ≠ 0 := fi_ne h.nz
end K06

set_option Elab.async false
set_option linter.all false
set_option maxRecDepth 100000
set_option maxHeartbeats 4000000
namespace K06
open PySem PySem.Spec PyProof.Rows L2 StX RZ MyR SlX OwnR OwnF EnumT GxR
/-- the first entry other than 0, or 0 -/
def fo (l : List Int) : Int := if nzr l = true then co l (fi l) else 0
/-- a row, or none -/
def OV (H : Hp) (v : V) : Option (List Int) → Prop
  | none => v = .non
  | some q => ∃ t, v = .ref t ∧ H t = some (tp q)
theorem OV.same {H H' : Hp} {v : V} {r : Option (List Int)} (h : OV H v r) (s : Same H H') : OV H' v r := by
  cases r with
  | none => exact h
  | some q =>
    obtain ⟨t, e, k⟩ := h
    exact ⟨t, e, s _ _ k⟩
/-- points -/
structure Pt (u v : Int) : Prop where
  cop : Nat.gcd u.natAbs v.natAbs = 1
  pos : 0 < fo [u, v]
theorem Pt.ne {u v : Int} (h : Pt u v) : [u, v] ≠ [0, 0] := fun e => by
  have h1 := h.cop
  cases e
  cases h1
theorem fo_pair (u v : Int) : fo [u, v] = if u = 0 then v else u := by
  by_cases h : u = 0
  · subst h
    rw [if_pos rfl]
    by_cases h2 : v = 0
    · subst h2
      rfl
    · have e : nzr [0, v] = true := nzr_of (i := 1) rfl (by simpa using h2)
      unfold fo
      rw [if_pos e, fi_first (i := 1) (z := v) rfl (by simpa using h2) (fun j y hj hy => by
        have : j = 0 := by omega
        subst this
        cases hy
        rfl)]
      rfl
  · have e : nzr [u, v] = true := nzr_of (i := 0) rfl (by simpa using h)
    unfold fo
    rw [if_neg h, if_pos e, fi_first (i := 0) (z := u) rfl (by simpa using h) (fun j y hj hy => by omega)]
    rfl
theorem fi_line {u v : Int} (h : [u, v] ≠ [0, 0]) : nzr [v, -u] = true := by
  refine nzr_iff.mpr ?_
  by_cases hv : v = 0
  · refine ⟨1, by show 1 < 2; decide, fun e => h ?_⟩
    have : -u = 0 := e
    rw [hv, show u = 0 by omega]
  · exact ⟨0, by show 0 < 2; decide, hv⟩
section
variable {P : Program} {w : World} {K : PySem.W.Frag} {mg : Str → Option Value} {base : Heap} {Ps : List Addr}
def spFirstIx (Ps : List Addr) : Sp := fun vs H Q _ => ∃ (t : Addr) (l : List Int), vs = [.ref t] ∧ H t = some (tp l) ∧ Tg Ps H ∧ ∀ H', Sts Ps H H' → Tg Ps H' → Q (.int (if nzr l = true then (fi l : Int) else 0)) H'
theorem ok_first_index (T : Facts K mg) (TB_first_index : TabB base mg T.c_first_index T.P_first_index) (hP : T.P_first_index ∈ Ps) : FnOk P w K mg base CX0 1 T.f_first_index T.fd_first_index ["entries"] (spFirstIx Ps) := by
  refine HookT.okC T.F_first_index sc_first_index (fun vs H Q E h => ?_) (fun A outer s H vs Q E hr h => ?_)
  · obtain ⟨t, l, rfl, _⟩ := h
    rfl
  · obtain ⟨t, l, rfl, ht, hG, q⟩ := h
    refine ⟨_, (PSs.nox (pss_one (ps_ret (GenNx.pe_nextE hr (by rfl) T.z_next TB_first_index T.code_first_index (GenNx.GenS2.of rfl rfl (by decide +kernel) rfl rfl rfl (by decide)) (by rfl) T.z_enumerate (pa_cons (pv 0) pa_nil) (GenNx.test_ne0 rfl rfl))))), ?_⟩
    refine ⟨_, rfl, t, l, rfl, SqT.of ht, hG _ hP, fun r H2 hr2 hT => ?_⟩
    have q2 := q H2 (tbd_sts hT hP) (tbd_tg hT hG)
    rcases hr2 with ⟨h1, rfl⟩ | ⟨i, z, h1, h2, h3, rfl⟩
    · rw [nzr_no h1] at q2
      exact q2
    · rw [nzr_of h1 h2, if_pos rfl, fi_first h1 h2 h3] at q2
      exact q2
def spFirstOf (Ps : List Addr) : Sp := fun vs H Q _ => ∃ (t : Addr) (l : List Int), vs = [.ref t] ∧ H t = some (tp l) ∧ Tg Ps H ∧ ∀ H', Sts Ps H H' → Tg Ps H' → Q (.int (fo l)) H'
theorem ok_first_of (T : Facts K mg) (TB_first_of : TabB base mg T.c_first_of T.P_first_of) (hP : T.P_first_of ∈ Ps) : FnOk P w K mg base CX0 1 T.f_first_of T.fd_first_of ["numbers"] (spFirstOf Ps) := by
  refine HookT.okC T.F_first_of sc_first_of (fun vs H Q E h => ?_) (fun A outer s H vs Q E hr h => ?_)
  · obtain ⟨t, l, rfl, _⟩ := h
    rfl
  · obtain ⟨t, l, rfl, ht, hG, q⟩ := h
    refine ⟨_, (PSs.nox (pss_one (ps_ret (GenNx.pe_nextN hr (by rfl) T.z_next TB_first_of T.code_first_of (GenNx.genS_of rfl rfl (by decide +kernel) rfl rfl) (pv 0) (GenNx.test_ne0 rfl rfl))))), ?_⟩
    refine ⟨_, rfl, t, l, rfl, SqT.of ht, hG _ hP, fun r H2 hr2 hT => ?_⟩
    have q2 := q H2 (tbd_sts hT hP) (tbd_tg hT hG)
    unfold fo at q2
    rcases hr2 with ⟨h1, rfl⟩ | ⟨i, h1, h2, h3⟩
    · rw [nzr_no h1] at q2
      exact q2
    · rw [nzr_of h1 h2, if_pos rfl, fi_first h1 h2 h3, co_get (List.getElem?_eq_some_iff.mp h1).1, (List.getElem?_eq_some_iff.mp h1).2] at q2
      exact q2
def spAreWholes : Sp := fun vs H Q _ => ∃ (t : Addr) (ns : List Int), vs = [.ref t] ∧ H t = some (tp ns) ∧ ns.length ≤ 1000 ∧ ∀ H', Same H H' → Q (.bl true) H'
theorem ok_are_wholes (T : Facts K mg) : FnOk P w K mg base CX0 2 T.f_are_wholes T.fd_are_wholes ["value"] spAreWholes := by
  have G_is_whole : FnOk P w K mg base CX0 1 T.f_is_whole T.fd_is_whole ["value"] spWhole := ok_is_whole T
  refine T.F_are_wholes.ok sc_are_wholes (fun vs H Q E h => ?_) (fun cdv A outer s H vs Q E hr h => ?_)
  · obtain ⟨t, ns, rfl, _⟩ := h
    rfl
  · obtain ⟨t, ns, rfl, ht, hl, q⟩ := h
    refine ⟨_, (PSs.nox (pss_one (ps_ret (pe_and (pe_callB call_isi (by rfl) T.z_isinstance (by decide +kernel) (pa_cons (pv 0) (pa_cons (pe_bltn (v := .ty "tuple") (by rfl) T.z_tuple (by decide +kernel) rfl) pa_nil))) (pe_one (pe_callB (cr_all (by rfl)) (by rfl) T.z_all (by decide +kernel) (pa_cons (pe_lc (own := [("entry", 1)]) (g := (gName 1)) (tt := tYes) (by rfl) sc_are_wholes.nd (pi_tup (pv 0)) (blkOk_by (N := N_are_wholes) (sc := defScope s_are_wholes) (by decide +kernel)) (fun _ _ _ _ _ => (pg_name (i := 1) sc_are_wholes.nd rfl (.inl rfl))) (fun _ _ _ _ _ => pts_nil) (fun _ _ _ _ _ => (pe_call G_is_whole hr (by rfl) T.g_is_whole T.F_is_whole.kp T.b_is_whole .nil pass0 (pa_cons (pv 1) pa_nil)))) pa_nil))))))), ?_⟩
    refine ⟨_, rfl, .ref t, .ty "tuple", .type "tuple", .type "tuple", true, rfl, .ty "tuple", .base (.tup ht), kit_ty (show kitB "tuple" "tuple" = some true by decide +kernel), true, rfl, iteT ?_⟩
    refine ⟨_, rfl, t, rfl, ⟨_, SqT.of ht⟩, fun D hD => lc_tup (xs := ns.map V.int) (fun i H' => H' = upd H D (.lst (List.replicate i (V.bl true)))) rfl (fun i H' hi hP => ?_) (fun i x H' hi hP => ?_) (fun H' hP => ?_)⟩
    · rw [hP]
      exact SqT.of (same_upd0 hD _ _ ht)
    · subst hP
      rw [List.getElem?_map] at hi
      obtain ⟨y, hy, rfl⟩ := Option.map_eq_some_iff.mp hi
      have hlt : i < ns.length := (List.getElem?_eq_some_iff.mp hy).1
      refine ⟨rfl, ⟨_, rfl, y, rfl, _, upd_same, ?_, ?_⟩⟩
      · rw [List.length_replicate]
        exact small1000 (by omega)
      · rw [upd_upd, List.replicate_succ']
    · subst hP
      rw [List.length_map]
      refine ⟨D, List.replicate ns.length true, rfl, SqL.of (by rw [upd_same, List.map_replicate]), ?_⟩
      have e : (List.replicate ns.length true).all id = true := by
        rw [List.all_eq_true]
        intro x hx
        rw [(List.mem_replicate.mp hx).2]
        rfl
      rw [e]
      exact q _ (same_upd0 hD)
def spPoint1 (Ps : List Addr) : Sp := fun vs H Q _ => ∃ (t : Addr) (u v : Int), vs = [.ref t] ∧ H t = some (tp [u, v]) ∧ Pt u v ∧ Tg Ps H ∧ ∀ H', Sts Ps H H' → Tg Ps H' → Q (.bl true) H'
theorem ok_is_point_any (T : Facts K mg) (TB_first_of : TabB base mg T.c_first_of T.P_first_of) (hP : T.P_first_of ∈ Ps) : FnOk P w K mg base CX0 3 T.f_is_point_any T.fd_is_point_any ["value"] (spPoint1 Ps) := by
  have G_are_wholes := ok_are_wholes (P := P) (w := w) (base := base) T
  have G_first_of := ok_first_of (P := P) (w := w) (base := base) T TB_first_of hP
  refine T.F_is_point_any.ok sc_is_point_any (fun vs H Q E h => ?_) (fun cdv A outer s H vs Q E hr h => ?_)
  · obtain ⟨t, u, v, rfl, _⟩ := h
    rfl
  · obtain ⟨t, u, v, rfl, ht, hp, hG, q⟩ := h
    refine ⟨_, (PSs.nox (pss_cons (ps_if (pw_or (pt_not (pt_val (pe_call G_are_wholes hr (by rfl) T.g_are_wholes T.F_are_wholes.kp T.b_are_wholes .nil pass0 (pa_cons (pv 0) pa_nil)))) (pw_or (pt_cmpR op_ne (pe_callB call_len_seq (by rfl) T.z_len (by decide +kernel) (pa_cons (pv 0) pa_nil)) pe_int (nomark _)) (pw_or1 (pt_cmpR (op_eqD (hu64 hr)) (pv 0) (pe_tup (pa_cons pe_int (pa_cons pe_int pa_nil))) (nomark _))))).pt
      (pss_one (ps_ret pe_bl))
      pss_nil)
    (pss_one (ps_ret (pe_and (pe_cmpR op_eq (pe_callBfun cr_gcd (by rfl) T.m_gcd (pa_cons (pe_ix ix_tup (pv 0) pe_int (fun _ _ => rfl)) (pa_cons (pe_ix ix_tup (pv 0) pe_int (fun _ _ => rfl)) pa_nil))) pe_int (nomark _)) (pe_one (pe_cmpR op_gt (pe_call G_first_of (hr.mono (by decide)) (by rfl) T.g_first_of T.F_first_of.kp T.b_first_of .nil pass0 (pa_cons (pv 0) pa_nil)) pe_int (nomark _)))))))), ?_⟩
    refine ⟨_, rfl, t, _, rfl, ht, by show 2 ≤ 1000; decide, fun H1 s1 => ⟨true, rfl, iteF ⟨_, rfl, t, _, rfl, .inr (SqT.of (s1 _ _ ht)), rfl, _, rfl, iteF ?_⟩⟩⟩
    refine ⟨_, rfl, by show 2 ≤ sizeLine; decide, fun p n => gen_upd H1 p (tp [0, 0]) n fun H2 s2 f2 => eq_ints (SqT.of ((s1.trans s2) _ _ ht)) (SqT.of f2) ?_⟩
    rw [decide_eq_false hp.ne]
    have ht2 := (s1.trans s2) _ _ ht
    refine ⟨_, rfl, iteF ⟨_, rfl, t, _, 0, _, rfl, rfl, SqT.of ht2, atI_nat (j := 0) rfl, _, rfl, t, _, 1, _, rfl, rfl, SqT.of ht2, atI_nat (j := 1) rfl, u, v, rfl, rfl, ?_⟩⟩
    rw [decide_eq_true (show V.int ((Nat.gcd u.natAbs v.natAbs : Nat) : Int) = V.int 1 by rw [hp.cop]; rfl)]
    refine ⟨true, rfl, iteT ⟨_, rfl, t, _, rfl, ht2, hG.same (s1.trans s2), fun H3 s3 g3 => ⟨_, _, rfl, rfl, ?_⟩⟩⟩
    show Q (.bl (decide (0 < fo [u, v]))) H3
    rw [decide_eq_true hp.pos]
    exact q H3 ((Sts.of (s1.trans s2)).trans s3) g3
theorem ok_is_point (T : Facts K mg) (TB_first_of : TabB base mg T.c_first_of T.P_first_of) (hP : T.P_first_of ∈ Ps) : FnOk P w K mg base CX0 4 T.f_is_point T.fd_is_point ["value"] (fun vs H Q E => ∃ (t : Addr) (u v : Int), vs = [.ref t] ∧ H t = some (tp [u, v]) ∧ Sho u ∧ Sho v ∧ Pt u v ∧ Tg Ps H ∧ ∀ H', Sts Ps H H' → Tg Ps H' → Q (.bl true) H') := by
  have G_are_short : FnOk P w K mg base CX0 3 T.f_are_short T.fd_are_short ["value"] spAreShort := ok_are_short T
  have G_is_point_any := ok_is_point_any (P := P) (w := w) (base := base) T TB_first_of hP
  refine T.F_is_point.ok sc_is_point (fun vs H Q E h => ?_) (fun cdv A outer s H vs Q E hr h => ?_)
  · obtain ⟨t, u, v, rfl, _⟩ := h
    rfl
  · obtain ⟨t, u, v, rfl, ht, su, sv, hp, hG, q⟩ := h
    refine ⟨_, (PSs.nox (pss_one (ps_ret (pe_and (pe_call G_are_short hr (by rfl) T.g_are_short T.F_are_short.kp T.b_are_short .nil pass0 (pa_cons (pv 0) pa_nil)) (pe_one (pe_call G_is_point_any hr (by rfl) T.g_is_point_any T.F_is_point_any.kp T.b_is_point_any .nil pass0 (pa_cons (pv 0) pa_nil))))))), ?_⟩
    refine ⟨_, rfl, t, _, rfl, ht, by show 2 ≤ 1000; decide, fun z hz => ?_, fun H1 s1 => ⟨true, rfl, iteT ⟨_, rfl, t, u, v, rfl, s1 _ _ ht, hp, hG.same s1, fun H2 s2 g2 => q H2 ((Sts.of s1).trans s2) g2⟩⟩⟩
    simp only [List.mem_cons, List.not_mem_nil, or_false] at hz
    rcases hz with e | e <;> rw [e] <;> assumption
def spReqPoint (Ps : List Addr) : Sp := fun vs H Q _ => ∃ (t : Addr) (u v : Int), vs = [.ref t] ∧ H t = some (tp [u, v]) ∧ Sho u ∧ Sho v ∧ Pt u v ∧ Tg Ps H ∧ ∀ H', Sts Ps H H' → Tg Ps H' → Q .non H'
theorem ok_require_point (T : Facts K mg) (TB_first_of : TabB base mg T.c_first_of T.P_first_of) (hP : T.P_first_of ∈ Ps) : FnOk P w K mg base CX0 5 T.f_require_point T.fd_require_point ["value"] (spReqPoint Ps) := by
  have G_is_point := ok_is_point (P := P) (w := w) (base := base) T TB_first_of hP
  refine T.F_require_point.ok sc_require_point (fun vs H Q E h => ?_) (fun cdv A outer s H vs Q E hr h => ?_)
  · obtain ⟨t, u, v, rfl, _⟩ := h
    rfl
  · obtain ⟨t, u, v, rfl, ht, su, sv, hp, hG, q⟩ := h
    refine ⟨_, (PSs.nox (pss_one (ps_if (pt_not (pt_val (pe_call G_is_point hr (by rfl) T.g_is_point T.F_is_point.kp T.b_is_point .nil pass0 (pa_cons (pv 0) pa_nil))))
      (pss_one ps_never)
      pss_nil))), ?_⟩
    exact ⟨_, rfl, t, u, v, rfl, ht, su, sv, hp, hG, fun H1 s1 g1 => ⟨true, rfl, iteF (q H1 s1 g1)⟩⟩
def spLineIn : Sp := fun vs H Q _ => ∃ (t : Addr) (u v : Int), vs = [.ref t] ∧ H t = some (tp [u, v]) ∧ ∀ p H', Same H H' → H' p = some (tp [v, -u]) → Q (.ref p) H'
theorem ok_line_in (T : Facts K mg) : FnOk P w K mg base CX0 1 T.f_line_in T.fd_line_in ["point"] spLineIn := by
  refine T.F_line_in.ok sc_line_in (fun vs H Q E h => ?_) (fun cdv A outer s H vs Q E hr h => ?_)
  · obtain ⟨t, u, v, rfl, _⟩ := h
    rfl
  · obtain ⟨t, u, v, rfl, ht, q⟩ := h
    refine ⟨_, (PSs.nox (pss_one (ps_ret (pe_tup (pa_cons (pe_ix ix_tup (pv 0) pe_int (fun _ _ => rfl)) (pa_cons (pe_un un_neg (pe_ix ix_tup (pv 0) pe_int (fun _ _ => rfl))) pa_nil)))))), ?_⟩
    exact ⟨_, rfl, t, _, 1, _, rfl, rfl, SqT.of ht, atI_nat (j := 1) rfl, _, rfl, t, _, 0, _, rfl, rfl, SqT.of ht, atI_nat (j := 0) rfl, _, rfl, by show 2 ≤ sizeLine; decide, fun p n => gen_upd H p (tp [v, -u]) n fun H1 s1 f1 => q p H1 s1 f1⟩
def spQuot (Ps : List Addr) : Sp := fun vs H Q _ => ∃ (t u : Addr) (xs ys : List Int), vs = [.ref t, .ref u] ∧ H t = some (tp xs) ∧ H u = some (tp ys) ∧ QdOk xs ys ∧ Tg Ps H ∧ ∀ v H', Sts Ps H H' → Tg Ps H' → OV H' v (qd xs ys) → Q v H'
theorem ok_quotient_in (T : Facts K mg) (TB_first_index : TabB base mg T.c_first_index T.P_first_index) (hP : T.P_first_index ∈ Ps) : FnOk P w K mg base CX0 2 T.f_quotient_in T.fd_quotient_in ["one", "other"] (spQuot Ps) := by
  have G_first_index := ok_first_index (P := P) (w := w) (base := base) T TB_first_index hP
  refine T.F_quotient_in.ok sc_quotient_in (fun vs H Q E h => ?_) (fun cdv A outer s H vs Q E hr h => ?_)
  · obtain ⟨t, u, xs, ys, rfl, _⟩ := h
    rfl
  · obtain ⟨t, u, xs, ys, rfl, ht, hu, ok, hG, q⟩ := h
    refine ⟨_, (PSs.nox (pss_cons (ps_par (i := 2) (j := 3) (by rfl) sc_quotient_in.nd rfl rfl (by decide) rfl rfl (pa_cons (pe_op op_add (pe_op op_sub (pe_callB call_len_seq (by rfl) T.z_len (by decide +kernel) (pa_cons (pv 0) pa_nil)) (pe_callB call_len_seq (by rfl) T.z_len (by decide +kernel) (pa_cons (pv 1) pa_nil))) pe_int) (pa_cons (pe_call G_first_index hr (by rfl) T.g_first_index T.F_first_index.kp T.b_first_index .nil pass0 (pa_cons (pv 1) pa_nil)) pa_nil)) (by rfl))
    (pss_cons (ps_if (pw_or (pt_cmpR op_lt (pv 2) pe_int (nomark _)) (pw_or1 (pt_val (pe_callB (cr_anyTI (by rfl)) (by rfl) T.z_any (by decide +kernel) (pa_cons (pe_slice sl_tupA (pv 0) po_none (po_some (pv 3))) pa_nil))))).pt
      (pss_one (ps_ret pe_non))
      pss_nil)
    (pss_cons (ps_par (i := 4) (j := 5) (by rfl) sc_quotient_in.nd rfl rfl (by decide) rfl rfl (pa_cons (pe_callTy call_list_of (by rfl) T.z_list (by decide +kernel) (pa_cons (pv 0) pa_nil)) (pa_cons (pe_lst pa_nil) pa_nil)) (by rfl))
    (pss_cons (ps_for PassesOwn.never (by rfl) (pi_range1 (by rfl) T.z_range (pa_cons (pv 2) pa_nil)) (pg_name (i := 6) sc_quotient_in.nd rfl (.inl rfl))
      (pss_cons (ps_set (i := 7) sc_quotient_in.nd rfl (.inl rfl) (pe_op op_fdivZ (pe_ix ix_list (pv 4) (pe_op op_add (pv 6) (pv 3)) (fun _ _ => rfl)) (pe_ix ix_tup (pv 1) (pv 3) (fun _ _ => rfl))))
      (pss_cons (ps_for PassesOwn.never (by rfl) (pi_enumT (by rfl) T.z_enumerate (pa_cons (pv 1) pa_nil)) (pg_tup (by rfl) (pgs_cons (pg_name (i := 8) sc_quotient_in.nd rfl (.inl rfl)) (pgs_cons (pg_name (i := 9) sc_quotient_in.nd rfl (.inl rfl)) pgs_nil)))
        (pss_one (ps_augS (pv 4) (pe_op op_add (pv 6) (pv 8)) OwnC.get_list (pe_op op_mulW (pv 7) (pv 9)) ip_sub set_list)))
      (pss_cons (ps_if (pt_cmpR op_ne (pe_ix ix_list (pv 4) (pe_op op_add (pv 6) (pv 3)) (fun _ _ => rfl)) pe_int (nomark _))
        (pss_one (ps_ret pe_non))
        pss_nil)
      (pss_one (ps_expr (pe_bm PySem.F.plainAttrs_list PySem.F.slot_list_append PySem.F.type_list_append mt_append (pv 5) (pa_cons (pv 7) pa_nil))))))))
    (pss_one (ps_ret (pe_ifExp (pt_val (pe_callB (cr_anyLI (by rfl)) (by rfl) T.z_any (by decide +kernel) (pa_cons (pv 4) pa_nil))) pe_non (pe_tupleOf (by rfl) T.z_tuple (pv 5)))))))))), ?_⟩
    refine ⟨_, rfl, t, _, rfl, .inr (SqT.of ht), _, rfl, u, _, rfl, .inr (SqT.of hu), _, _, rfl, rfl, _, _, rfl, rfl, _, rfl, u, ys, rfl, hu, hG, fun H1 s1 g1 => ⟨_, _, rfl, ?_⟩⟩
    have ht1 := s1.tup hG ht
    have hu1 := s1.tup hG hu
    have lx := ok.lx
    have ly := ok.ly
    have lead := fi_lt ok.nz
    have lxp := List.length_pos_iff.mpr ok.nx
    by_cases c : (xs.length : Int) - (ys.length : Int) + 1 < 1
    · refine st_norm [some (.ref t), some (.ref u), some (.int ((xs.length : Int) - (ys.length : Int) + 1)), some (.int ((fi ys : Nat) : Int)), none, none, none, none, none, none] ?_ ?_
      · rw [ok.nz, if_pos rfl, List.length_map, List.length_map]
        rfl
      refine ⟨_, rfl, _, _, rfl, rfl, _, rfl, ?_⟩
      rw [decide_eq_true c]
      exact iteT (q _ H1 s1 g1 (by rw [qd_none1 (.inl (by omega))]; rfl))
    have hm : ys.length ≤ xs.length := by omega
    obtain ⟨m, em⟩ : ∃ m, m = mny xs ys := ⟨_, rfl⟩
    have em2 : m = xs.length + 1 - ys.length := em
    refine st_norm [some (.ref t), some (.ref u), some (.int (m : Int)), some (.int ((fi ys : Nat) : Int)), none, none, none, none, none, none] ?_ ?_
    · rw [ok.nz, if_pos rfl, List.length_map, List.length_map, show (m : Int) = (xs.length : Int) - (ys.length : Int) + 1 by omega]
      rfl
    refine ⟨_, rfl, _, _, rfl, rfl, _, rfl, ?_⟩
    rw [decide_eq_false (by omega)]
    refine iteF ⟨_, rfl, _, rfl, _, rfl, take_row (i := fi ys) ht1 (by omega) rfl fun p2 H2 s2 k2 => ?_⟩
    refine ⟨p2, _, rfl, SqT.of k2, ?_⟩
    have sx := s1.trans (Sts.of s2)
    cases hz : nzr (xs.take (fi ys)) with
    | true =>
      rw [show (xs.take (fi ys)).any (· != 0) = true from hz]
      exact ⟨_, rfl, iteT (q _ H2 sx (g1.same s2) (by rw [qd_none1 (.inr hz)]; rfl))⟩
    | false =>
    rw [show (xs.take (fi ys)).any (· != 0) = false from hz]
    have ht2 := s2 _ _ ht1
    have hu2 := s2 _ _ hu1
    have g2 := g1.same s2
    refine ⟨_, rfl, iteF ⟨_, rfl, t, _, rfl, .inr (SqT.of ht2), fun L nL => ⟨by show 0 ≤ sizeLine; exact Nat.zero_le _, fun F nF => ⟨_, _, rfl, ?_⟩⟩⟩⟩
    have nLF : F ≠ L := fun z => by rw [z, upd_same] at nF; cases nF
    have nF2 : H2 F = none := by rw [upd_ne nLF] at nF; exact nF
    have hx : xs.map V.int = tab xs.length (rmd xs ys 0) := by
      rw [tab_tb]
      congr 1
      exact (tb_co xs).symm
    have sm0 := ok.sy
    refine ⟨_, rfl, m, rfl, by omega, by omega, for_range (n := (m : Int).toNat) (fun i σ H' => ∃ y6 y7 y8 y9, σ = [some (.ref t), some (.ref u), some (.int (m : Int)), some (.int ((fi ys : Nat) : Int)), some (.ref L), some (.ref F), y6, y7, y8, y9] ∧ Same H2 H' ∧ H' L = some (.lst (tab xs.length (rmd xs ys i))) ∧ H' F = some (.lst (tab i (quo xs ys))) ∧ GoodTo xs ys i) ⟨none, none, none, none, rfl, (same_upd0 nL).trans (same_upd0 nF), ?_, ?_, fun j hj => by omega⟩ (fun i σ H3 hi hP => ?_) (fun σ H3 hP => ?_)⟩
    · rw [upd_ne (Ne.symm nLF), upd_same, hx]
    · rw [upd_same]
      rfl
    · obtain ⟨y6, y7, y8, y9, rfl, s3, hL, hF, gd⟩ := hP
      have hi : i < m := by omega
      have hu3 := s3 _ _ hu2
      have iLE : i + fi ys < xs.length := by omega
      have dl : CDivZ (rmd xs ys i (i + fi ys)) (co ys (fi ys)) := ⟨ok.lead, Nat.lt_trans (PySem.Flt.log2_lt_of (k := 4000) (by decide) (sm_co sm0 lead)) (by decide)⟩
      refine ⟨_, rfl, _, rfl, _, rfl, _, _, rfl, rfl, L, _, _, _, rfl, rfl, SqL.of hL, at_of (j := i + fi ys) (by omega) (tab_get iLE), _, rfl, _, rfl, u, _, _, _, rfl, rfl, SqT.of hu3, at_of rfl (get_int lead), _, _, rfl, rfl, dl, ?_⟩
      refine ⟨_, rfl, u, _, rfl, SqT.of hu3, for_enumT (xs := ys.map V.int) (fun j σ H' => ∃ y8 y9, σ = [some (.ref t), some (.ref u), some (.int (m : Int)), some (.int ((fi ys : Nat) : Int)), some (.ref L), some (.ref F), some (.int (0 + (i : Int))), some (.int (quo xs ys i)), y8, y9] ∧ Same H2 H' ∧ H' L = some (.lst (tab xs.length fun k => rmd xs ys i k - (if i ≤ k ∧ k < i + j then quo xs ys i * co ys (k - i) else 0))) ∧ H' F = some (.lst (tab i (quo xs ys)))) ⟨y8, y9, rfl, s3, ?_, hF⟩ (fun j σ H' hP => ?_) (fun j x B σ H4 hxj hP hB => ?_) (fun σ H4 hP => ?_)⟩
      · rw [hL]
        congr 2
        refine tab_ext fun k hk => ?_
        rw [if_neg (by omega), Int.sub_zero]
      · obtain ⟨y8, y9, _, s4, _⟩ := hP
        exact SqT.of (s4 _ _ hu2)
      · obtain ⟨y8, y9, rfl, s4, hL4, hF4⟩ := hP
        obtain ⟨hj, rfl⟩ := int_get hxj
        refine ⟨B, _, rfl, SqT.of upd_same, rfl, _, _, rfl, _, _, rfl, rfl, ?_⟩
        refine gen_upd H4 B _ hB (fun H5 s5 _ => ?_)
        have hL5 := s5 _ _ hL4
        have hF5 := s5 _ _ hF4
        have sq := ok.sq (i := i) (by omega)
        refine ⟨_, rfl, _, rfl, _, rfl, _, _, rfl, rfl, L, _, i + j, _, rfl, by show V.int ((0 : Int) + (i : Int) + (j : Int)) = _; congr 1; omega, SqL.of hL5, tab_get (by omega), ?_⟩
        refine ⟨_, rfl, _, rfl, _, _, rfl, rfl, sm_mul sq (sm_co sm0 hj), _, _, rfl, rfl, L, _, _, (i + j), rfl, rfl, hL5, ?_, ?_⟩
        · rw [tab_len]
          exact ix_at (by omega) (by omega)
        · refine ⟨_, _, rfl, fun b o e => ?_, ?_, ?_⟩
          · rw [upd_ne (ne_of_none e nL)]
            exact s5 _ _ (s4 _ _ e)
          · rw [upd_same]
            show some (HO.lst ((tab xs.length fun k => rmd xs ys i k - if i ≤ k ∧ k < i + j then quo xs ys i * co ys (k - i) else 0).set (i + j) (.int ((rmd xs ys i (i + j) - if i ≤ i + j ∧ i + j < i + j then quo xs ys i * co ys (i + j - i) else 0) - quo xs ys i * co ys j)))) = _
            rw [tab_set]
            congr 2
            refine tab_ext fun k hk => ?_
            by_cases z : k = i + j
            · subst z
              rw [if_pos rfl, if_neg (by omega), if_pos ⟨by omega, by omega⟩, show i + j - i = j by omega, Int.sub_zero]
            · rw [if_neg z]
              by_cases z2 : i ≤ k ∧ k < i + j
              · rw [if_pos z2, if_pos ⟨z2.1, by omega⟩]
              · rw [if_neg z2, if_neg (fun z3 => z2 ⟨z3.1, by omega⟩)]
          · rw [upd_ne nLF]
            exact hF5
      · obtain ⟨y8, y9, rfl, s4, hL4, hF4⟩ := hP
        rw [List.length_map, tab_ext (g := rmd xs ys (i + 1)) fun k hk => by
          rw [rmd_succ]
          by_cases z : i ≤ k
          · rw [if_pos z]
            by_cases z2 : k < i + ys.length
            · rw [if_pos ⟨z, z2⟩]
            · rw [if_neg (fun z3 => z2 z3.2), co_far (l := ys) (by omega), Int.mul_zero]
          · rw [if_neg z, if_neg (fun z3 => z z3.1)]] at hL4
        refine ⟨_, rfl, _, rfl, _, rfl, _, _, rfl, rfl, L, _, _, _, rfl, rfl, SqL.of hL4, at_of (j := i + fi ys) (by omega) (tab_get iLE), rfl, _, rfl, ?_⟩
        have sH := sx.trans (Sts.of s4)
        have g4 := g2.same s4
        by_cases c0 : rmd xs ys (i + 1) (i + fi ys) = 0
        · rw [c0]
          refine iteF ⟨_, rfl, .inl ⟨rfl, _, SqL.of hF4⟩, _, rfl, F, _, _, rfl, rfl, hF4, small1000 (by rw [tab_len]; omega), gen_app H4 F _ fun H5 e5 n5 => ?_⟩
          refine ⟨_, _, _, _, rfl, fun b o e => ?_, ?_, ?_, fun j hj => ?_⟩
          · rw [n5 _ (ne_of_none e nF2)]
            exact s4 _ _ e
          · rw [n5 _ (Ne.symm nLF)]
            exact hL4
          · rw [e5, tab_snoc]
          · by_cases e : j = i
            · rw [e]
              exact c0
            · exact gd j (by omega)
        · rw [decide_eq_false (fun e => c0 (V.int.inj e))]
          exact iteT (q _ H4 sH g4 (by rw [qd_bad (by omega) c0]; rfl))
    · obtain ⟨y6, y7, y8, y9, rfl, s3, hL, hF, gd⟩ := hP
      have em3 : (m : Int).toNat = m := by omega
      rw [em3] at hL hF gd
      rw [em] at hL hF gd
      have lL : SqL K H3 L ((tb xs.length (rmd xs ys (mny xs ys))).map V.int) := SqL.of (by rw [hL, tab_tb])
      have sH := sx.trans (Sts.of s3)
      have g3 := g2.same s3
      refine ⟨_, rfl, L, _, rfl, lL, ?_⟩
      cases hr : nzr (tb xs.length (rmd xs ys (mny xs ys))) with
      | true =>
        rw [show (tb xs.length (rmd xs ys (mny xs ys))).any (· != 0) = true from hr]
        exact ⟨_, rfl, iteT (q _ H3 sH g3 (by rw [qd_left hr]; rfl))⟩
      | false =>
        rw [show (tb xs.length (rmd xs ys (mny xs ys))).any (· != 0) = false from hr]
        rw [qd_some (fun z => z.elim (fun w => by omega) fun w => by rw [hz] at w; cases w) gd hr] at q
        have lF : SqL K H3 F ((tb (mny xs ys) (quo xs ys)).map V.int) := SqL.of (by rw [hF, tab_tb])
        exact ⟨_, rfl, iteF ⟨_, rfl, .inl ⟨F, _, rfl, lF, fun p n => q _ _ (sH.trans (Sts.of (same_upd0 n))) (g3.same (same_upd0 n)) ⟨p, rfl, upd_same⟩⟩⟩⟩
end
end K06

set_option Elab.async false
set_option linter.all false
set_option maxRecDepth 100000
set_option maxHeartbeats 4000000
namespace K06
open PySem PySem.Spec PyProof.Rows L2 StX RZ MyR SlX OwnR OwnF EnumT GxR
/-! ### how often a line divides -/
def tmF (ys : List Int) : Nat → List Int → Nat
  | 0, _ => 0
  | f + 1, xs => match qd xs ys with
    | none => 0
    | some q => tmF ys f q + 1
def tm (ys xs : List Int) : Nat := tmF ys xs.length xs
theorem tmF_none {ys xs : List Int} {n : Nat} (h : qd xs ys = none) : tmF ys n xs = 0 := by
  cases n with
  | zero => rfl
  | succ n =>
    unfold tmF
    rw [h]
theorem tm_none {ys xs : List Int} (h : qd xs ys = none) : tm ys xs = 0 := tmF_none h
theorem tm_some {ys xs q : List Int} (ly : ys.length = 2) (h : qd xs ys = some q) : tm ys xs = tm ys q + 1 := by
  have h1 := (qd_of h).1
  have h2 := qd_len h
  have h3 : q.length = xs.length + 1 - ys.length := h2
  have e : xs.length = q.length + 1 := by omega
  unfold tm
  rw [e]
  conv => lhs; unfold tmF
  rw [h]
theorem tm_zero {ys xs : List Int} (ly : ys.length = 2) : tm ys xs = 0 ↔ qd xs ys = none := by
  constructor
  · intro h
    cases e : qd xs ys with
    | none => rfl
    | some q =>
      rw [tm_some ly e] at h
      cases h
  · exact tm_none
/-- what is left to be counted -/
def tmO (ys : List Int) : Option (List Int) → Nat
  | none => 0
  | some q => tm ys q + 1
theorem tmO_qd {ys xs : List Int} (ly : ys.length = 2) : tmO ys (qd xs ys) = tm ys xs := by
  cases e : qd xs ys with
  | none => exact (tm_none e).symm
  | some q => exact (tm_some ly e).symm
structure TmOk (xs ys : List Int) : Prop where
  nz : nzr ys = true
  nx : xs ≠ []
  ly : ys.length = 2
  ex : ∃ n M B : Nat, n ≤ 100 ∧ xs.length ≤ n ∧ (∀ z ∈ xs, z.natAbs ≤ M) ∧ (∀ z ∈ ys, z.natAbs ≤ B) ∧ B < 2 ^ 4000 ∧ M * ((1 + B) ^ n) ^ xs.length < 2 ^ 4000
theorem TmOk.qk {xs ys : List Int} (h : TmOk xs ys) : QdOk xs ys := by
  obtain ⟨n, M, B, h1, h2, h3, h4, h5, h6⟩ := h.ex
  have ly := h.ly
  refine ⟨h.nz, h.nx, by omega, by omega, M, B, h3, h4, h5, Nat.lt_of_le_of_lt (Nat.mul_le_mul_left M ?_) h6⟩
  have e : mny xs ys ≤ n := by unfold mny; omega
  refine Nat.le_trans (Nat.pow_le_pow_right (by omega) e) ?_
  have lp := List.length_pos_iff.mpr h.nx
  have := Nat.pow_le_pow_right (n := (1 + B) ^ n) (Nat.pow_pos (by omega)) lp
  rw [Nat.pow_one] at this
  exact this
theorem TmOk.next {xs ys q : List Int} (h : TmOk xs ys) (e : qd xs ys = some q) : TmOk q ys := by
  obtain ⟨n, M, B, h1, h2, h3, h4, h5, h6⟩ := h.ex
  have ly := h.ly
  obtain ⟨g1, _, _, g4⟩ := qd_of e
  have g2 : q.length = xs.length + 1 - ys.length := qd_len e
  have e1 : xs.length = q.length + 1 := by omega
  refine ⟨h.nz, fun z => ?_, ly, n, M * (1 + B) ^ n, B, h1, by omega, fun z hz => ?_, h4, h5, ?_⟩
  · rw [z] at g2
    have : 0 = xs.length + 1 - ys.length := g2
    omega
  · rw [g4] at hz
    obtain ⟨i, hi, rfl⟩ := List.mem_map.mp hz
    have hi := List.mem_range.mp hi
    have hi2 : i < xs.length + 1 - ys.length := hi
    exact Nat.le_trans (quo_bd h3 h4 i) (Nat.mul_le_mul_left M (Nat.pow_le_pow_right (by omega) (by omega)))
  · rw [Nat.mul_assoc, Nat.mul_comm ((1 + B) ^ n), ← Nat.pow_succ, Nat.succ_eq_add_one, ← e1]
    exact h6
section
variable {P : Program} {w : World} {K : PySem.W.Frag} {mg : Str → Option Value} {base : Heap} {Ps : List Addr}
def tmMu (N : Nat) : L2.St → Hp → Nat
  | _ :: _ :: some (.int z) :: _, _ => N - z.toNat
  | _, _ => 0
def spTimes (Ps : List Addr) : Sp := fun vs H Q _ => ∃ (t p : Addr) (xs : List Int) (u v : Int), vs = [.ref t, .ref p] ∧ H t = some (tp xs) ∧ H p = some (tp [u, v]) ∧ TmOk xs [v, -u] ∧ Tg Ps H ∧ ∀ H', Sts Ps H H' → Tg Ps H' → Q (.int (tm [v, -u] xs : Nat)) H'
theorem ok_times_in (T : Facts K mg) (TB_first_index : TabB base mg T.c_first_index T.P_first_index) (hP : T.P_first_index ∈ Ps) : FnOk P w K mg base CX0 3 T.f_times_in T.fd_times_in ["entries", "point"] (spTimes Ps) := by
  have G_line_in := ok_line_in (P := P) (w := w) (base := base) T
  have G_quotient_in := ok_quotient_in (P := P) (w := w) (base := base) T TB_first_index hP
  refine T.F_times_in.ok sc_times_in (fun vs H Q E h => ?_) (fun cdv A outer s H vs Q E hr h => ?_)
  · obtain ⟨t, p, xs, u, v, rfl, _⟩ := h
    rfl
  · obtain ⟨t, p, xs, u, v, rfl, ht, hp, ok, hG, q⟩ := h
    refine ⟨_, (PSs.nox (pss_cons (ps_par (i := 2) (j := 3) (by rfl) sc_times_in.nd rfl rfl (by decide) rfl rfl (pa_cons pe_int (pa_cons (pe_call G_line_in (hr.mono (by decide)) (by rfl) T.g_line_in T.F_line_in.kp T.b_line_in .nil pass0 (pa_cons (pv 1) pa_nil)) pa_nil)) (by rfl))
    (pss_cons (ps_set (i := 4) sc_times_in.nd rfl (.inl rfl) (pe_call G_quotient_in hr (by rfl) T.g_quotient_in T.F_quotient_in.kp T.b_quotient_in .nil pass0 (pa_cons (pv 0) (pa_cons (pv 3) pa_nil))))
    (pss_cons (ps_while PassesOwn.never (pt_cmpR op_notN (pv 4) pe_non (nomark _))
      (pss_one (ps_par (i := 2) (j := 4) (by rfl) sc_times_in.nd rfl rfl (by decide) rfl rfl (pa_cons (pe_op op_add (pv 2) pe_int) (pa_cons (pe_call G_quotient_in hr (by rfl) T.g_quotient_in T.F_quotient_in.kp T.b_quotient_in .nil pass0 (pa_cons (pv 4) (pa_cons (pv 3) pa_nil))) pa_nil)) (by rfl))))
    (pss_one (ps_ret (pv 2))))))), ?_⟩
    refine ⟨_, rfl, p, u, v, rfl, hp, fun l1 H1 s1 k1 => ⟨_, _, rfl, ?_⟩⟩
    have ly : [v, -u].length = 2 := rfl
    have hG1 := hG.same s1
    refine ⟨_, rfl, _, rfl, t, l1, xs, [v, -u], rfl, s1 _ _ ht, k1, ok.qk, hG1, fun v2 H2 s2 g2 r2 => ?_⟩
    obtain ⟨ys, ey⟩ : ∃ ys, ys = [v, -u] := ⟨_, rfl⟩
    rw [← ey] at k1 ok r2 q ly
    refine while_by (fun σ H' => ∃ (k : Nat) (r : Option (List Int)) (x : V), σ = [some (.ref t), some (.ref p), some (.int (k : Int)), some (.ref l1), some x] ∧ OV H' x r ∧ k + tmO ys r = tm ys xs ∧ (∀ f, r = some f → TmOk f ys) ∧ Sts Ps H H' ∧ Tg Ps H' ∧ H' l1 = some (tp ys)) (fun σ _ => tmMu (tm ys xs + 1) σ H2) ⟨0, _, v2, rfl, r2, by rw [tmO_qd ly, Nat.zero_add], fun f e => ok.next e, (Sts.of s1).trans s2, g2, s2.tup hG1 k1⟩ (fun σ H3 hP => ?_) (fun σ H3 Q1 Q2 hQ h => ?_)
    · obtain ⟨k, r, x, rfl, rx, hk, hn, sH, g3, k3⟩ := hP
      cases r with
      | none =>
        have rx : x = .non := rx
        subst rx
        refine ⟨_, rfl, rfl, _, rfl, iteF ?_⟩
        have ek : k = tm ys xs := hk
        rw [← ek] at q
        exact ⟨_, rfl, q _ sH g3⟩
      | some f =>
        obtain ⟨a, rfl, kf⟩ := rx
        have nf := hn f rfl
        have hk : k + (tm ys f + 1) = tm ys xs := hk
        refine ⟨_, rfl, rfl, _, rfl, iteT ⟨_, rfl, _, _, rfl, rfl, _, rfl, _, rfl, a, l1, f, ys, rfl, kf, k3, nf.qk, g3, fun v4 H4 s4 g4 r4 => ⟨_, _, rfl, ?_⟩⟩⟩
        refine ⟨⟨k + 1, _, v4, rfl, r4, by rw [tmO_qd ly]; omega, fun f2 e => nf.next e, sH.trans s4, g4, s4.tup g3 k3⟩, ?_⟩
        show tm ys xs + 1 - ((k : Int) + 1).toNat < tm ys xs + 1 - (k : Int).toNat
        omega
    · obtain ⟨v, e, e0, b, e1, h⟩ := h
      exact ⟨v, e, e0, b, e1, hQ _ _ h⟩
def spLineOf (C : Addr) (Ps : List Addr) : Sp := fun vs H Q _ => ∃ (t : Addr) (u v : Int), vs = [.ref t] ∧ H t = some (tp [u, v]) ∧ Sho u ∧ Sho v ∧ Pt u v ∧ Tg Ps H ∧ ∀ p H', Sts Ps H H' → Tg Ps H' → Fo C H' p [v, -u] → Q (.ref p) H'
theorem ok_line_of (T : Facts K mg) (TB_first_of : TabB base mg T.c_first_of T.P_first_of) (hP : T.P_first_of ∈ Ps) : FnOk P w K mg base CX0 8 T.f_line_of T.fd_line_of ["point"] (spLineOf T.C_Form Ps) := by
  have G_require_point := ok_require_point (P := P) (w := w) (base := base) T TB_first_of hP
  have G_line_in := ok_line_in (P := P) (w := w) (base := base) T
  have G_form_of : FnOk P w K mg base CX0 7 T.f_form_of T.fd_form_of ["entries"] (spMake T.C_Form) := ok_form_of T
  refine T.F_line_of.ok sc_line_of (fun vs H Q E h => ?_) (fun cdv A outer s H vs Q E hr h => ?_)
  · obtain ⟨t, u, v, rfl, _⟩ := h
    rfl
  · obtain ⟨t, u, v, rfl, ht, su, sv, hp, hG, q⟩ := h
    refine ⟨_, (PSs.nox (pss_cons (ps_expr (pe_call G_require_point (hr.mono (by decide)) (by rfl) T.g_require_point T.F_require_point.kp T.b_require_point .nil pass0 (pa_cons (pv 0) pa_nil)))
    (pss_one (ps_ret (pe_call G_form_of hr (by rfl) T.g_form_of T.F_form_of.kp T.b_form_of .nil pass0 (pa_cons (pe_call G_line_in (hr.mono (by decide)) (by rfl) T.g_line_in T.F_line_in.kp T.b_line_in .nil pass0 (pa_cons (pv 0) pa_nil)) pa_nil)))))), ?_⟩
    exact ⟨_, rfl, t, u, v, rfl, ht, su, sv, hp, hG, fun H1 s1 g1 => ⟨_, rfl, t, u, v, rfl, s1.tup hG ht, fun p H2 s2 k2 => ⟨p, _, rfl, k2, fun a H3 s3 n3 f3 => q a H3 (s1.trans (Sts.of (s2.trans s3))) (g1.same (s2.trans s3)) f3⟩⟩⟩
def spTimesAt (C : Addr) (Ps : List Addr) : Sp := fun vs H Q _ => ∃ (a t : Addr) (xs : List Int) (u v : Int), vs = [.ref a, .ref t] ∧ Fo C H a xs ∧ nzr xs = true ∧ H t = some (tp [u, v]) ∧ Sho u ∧ Sho v ∧ Pt u v ∧ TmOk xs [v, -u] ∧ Tg Ps H ∧ ∀ H', Sts Ps H H' → Tg Ps H' → Q (.int (tm [v, -u] xs : Nat)) H'
theorem ok_Form_times_at (T : Facts K mg) (TB_first_index : TabB base mg T.c_first_index T.P_first_index) (TB_first_of : TabB base mg T.c_first_of T.P_first_of) (hP : T.P_first_index ∈ Ps) (hP2 : T.P_first_of ∈ Ps) : FnOk P w K mg base CX0 6 T.f_Form_times_at T.fd_Form_times_at ["self", "point"] (spTimesAt T.C_Form Ps) := by
  have G_require_point := ok_require_point (P := P) (w := w) (base := base) T TB_first_of hP2
  have G_times_in := ok_times_in (P := P) (w := w) (base := base) T TB_first_index hP
  have G_Form_is_zero : FnOk P w K mg base CX0 2 T.f_Form_is_zero T.fd_Form_is_zero ["self"] (spIsZ T.C_Form) := ok_Form_is_zero T
  refine T.F_Form_times_at.ok sc_Form_times_at (fun vs H Q E h => ?_) (fun cdv A outer s H vs Q E hr h => ?_)
  · obtain ⟨a, t, xs, u, v, rfl, _⟩ := h
    rfl
  · obtain ⟨a, t, xs, u, v, rfl, fa, nz, ht, su, sv, hp, ok, hG, q⟩ := h
    refine ⟨_, (PSs.nox (pss_cons (ps_expr (pe_call G_require_point hr (by rfl) T.g_require_point T.F_require_point.kp T.b_require_point .nil pass0 (pa_cons (pv 1) pa_nil)))
    (pss_cons (ps_if (pt_val (pe_prp (pv 0) T.oc_Form T.pr_Form_is_zero G_Form_is_zero T.b_Form_is_zero (hr.mono (by decide))))
      (pss_one ps_never)
      pss_nil)
    (pss_one (ps_ret (pe_call G_times_in (hr.mono (by decide)) (by rfl) T.g_times_in T.F_times_in.kp T.b_times_in .nil pass0 (pa_cons (pe_sl (pv 0)) (pa_cons (pv 1) pa_nil)))))))), ?_⟩
    refine ⟨_, rfl, t, u, v, rfl, ht, su, sv, hp, hG, fun H1 s1 g1 => ?_⟩
    have fa1 := s1.fo hG fa
    obtain ⟨dx, r, ha, hr⟩ := fa1.slt
    refine ⟨_, rfl, prop_zero fa1 ?_⟩
    rw [show xs.any (· != 0) = true from nz]
    exact ⟨_, rfl, iteF ⟨_, rfl, a, T.C_Form, dx, T.a_own_entries, _, 0, .ref r, rfl, ha, T.oc_Form.scl, T.sl_own_entries, rfl, _, rfl, r, t, xs, u, v, rfl, hr, s1.tup hG ht, ok, g1, fun H2 s2 g2 => q H2 (s1.trans s2) g2⟩⟩
end
end K06

set_option Elab.async false
set_option linter.all false
set_option maxRecDepth 100000
set_option maxHeartbeats 4000000
namespace K06
open PySem PySem.Spec PyProof.Rows L2 StX RZ MyR SlX OwnR OwnF EnumT GxR
/-! ### drawn points -/
theorem pos_of {C y : Int} (h : 0 < C * y) (hc : 0 < C) : 0 < y := by
  rw [Int.mul_comm] at h
  exact Int.pos_of_mul_pos_left h hc
theorem pt_prim {u v x y : Int} (h : [u, v] ≠ [0, 0]) (e : prim [u, v] = [x, y]) : Pt x y := by
  have hc : cont [u, v] = Nat.gcd u.natAbs v.natAbs := by
    show Nat.gcd u.natAbs (Nat.gcd v.natAbs 0) = _
    rw [Nat.gcd_zero_right]
  have hz : cont [u, v] ≠ 0 := fun z => by
    rw [hc] at z
    obtain ⟨a, b⟩ := Nat.gcd_eq_zero_iff.mp z
    exact h (by rw [Int.natAbs_eq_zero.mp a, Int.natAbs_eq_zero.mp b])
  have hp : part [u, v] ≠ 0 := fun z => hz (by rw [← part_abs, z]; rfl)
  have hd : ∀ z ∈ [u, v], part [u, v] ∣ z := fun z hz => Int.natAbs_dvd_natAbs.mp (by rw [part_abs]; exact Int.natAbs_dvd_natAbs.mpr (cont_dvd [u, v] z hz))
  obtain ⟨k, ek⟩ := hd u (by simp)
  obtain ⟨l, el⟩ := hd v (by simp)
  unfold prim at e
  rw [if_neg hp] at e
  have e1 : u.fdiv (part [u, v]) = x := by
    have := congrArg (fun z => co z 0) e
    exact this
  have e2 : v.fdiv (part [u, v]) = y := by
    have := congrArg (fun z => co z 1) e
    exact this
  have f1 : x = k := by
    rw [← e1]
    generalize part [u, v] = pt at ek hp
    rw [ek]
    exact Int.mul_fdiv_cancel_left _ hp
  have f2 : y = l := by
    rw [← e2]
    generalize part [u, v] = pt at el hp
    rw [el]
    exact Int.mul_fdiv_cancel_left _ hp
  subst f1 f2
  constructor
  · have a1 := congrArg Int.natAbs ek
    have a2 := congrArg Int.natAbs el
    rw [Int.natAbs_mul, part_abs] at a1 a2
    have a3 := hc
    rw [a1, a2, Nat.gcd_mul_left] at a3
    refine Nat.eq_of_mul_eq_mul_left (Nat.pos_of_ne_zero hz) ?_
    rw [← a3, Nat.mul_one]
  · rw [fo_pair]
    have hs : part [u, v] = (cont [u, v] : Int) * sg [u, v] := rfl
    have hcp : (0 : Int) < (cont [u, v] : Int) := by omega
    generalize (cont [u, v] : Int) = C at hs hcp
    by_cases cu : u = 0
    · have x0 : x = 0 := by
        generalize part [u, v] = pt at ek hp
        rw [cu] at ek
        rcases Int.mul_eq_zero.mp ek.symm with z | z
        · exact absurd z hp
        · exact z
      rw [if_pos x0]
      have v0 : v ≠ 0 := fun z => h (by rw [cu, z])
      have hsg : sg [u, v] = if 0 < v then 1 else -1 := by
        unfold sg
        rw [if_pos cu]
        unfold sg
        rw [if_neg v0]
      rw [hsg] at hs
      rw [hs] at el
      by_cases c : 0 < v
      · rw [if_pos c, Int.mul_one] at el
        exact pos_of (by rw [← el]; exact c) hcp
      · rw [if_neg c] at el
        have : 0 < C * y := by
          have e3 : C * -1 * y = -(C * y) := by grind
          rw [e3] at el
          omega
        exact pos_of this hcp
    · have x0 : x ≠ 0 := fun z => cu (by rw [ek, z, Int.mul_zero])
      rw [if_neg x0]
      have hsg : sg [u, v] = if 0 < u then 1 else -1 := by
        unfold sg
        rw [if_neg cu]
      rw [hsg] at hs
      rw [hs] at ek
      by_cases c : 0 < u
      · rw [if_pos c, Int.mul_one] at ek
        exact pos_of (by rw [← ek]; exact c) hcp
      · rw [if_neg c] at ek
        have : 0 < C * x := by
          have e3 : C * -1 * x = -(C * x) := by grind
          rw [e3] at ek
          omega
        exact pos_of this hcp
theorem nzr_ml {l m : List Int} (nl : nzr l = true) (nm : nzr m = true) : nzr (ml l m) = true := by
  have hl : l ≠ [] := fun e => by rw [e] at nl; cases nl
  have hm : m ≠ [] := fun e => by rw [e] at nm; cases nm
  cases e : nzr (ml l m) with
  | true => rfl
  | false =>
    have h := (cont_nzr _).mpr e
    rw [cont_ml hl hm] at h
    rcases Nat.mul_eq_zero.mp h with z | z
    · rw [(cont_nzr _).mp z] at nl
      cases nl
    · rw [(cont_nzr _).mp z] at nm
      cases nm
section
variable {P : Program} {w : World} {K : PySem.W.Frag} {mg : Str → Option Value} {base : Heap}
def spPointP : Sp := fun vs H Q _ => ∃ (d : Addr) (m : Nat), vs = [.ref d, .int m] ∧ Dc H d ∧ 1 ≤ m ∧ m ≤ 1000 ∧ ∀ p H' u v, Sx d H H' → Dc H' d → H' p = some (tp [u, v]) → u.natAbs ≤ m → v.natAbs ≤ m → Pt u v → Q (.ref p) H'
theorem ok_law_pointP (T : Facts K mg) : FnOk P w K mg base CX0 4 T.f_law_point T.fd_law_point ["_law_dice_here", "_law_most"] spPointP := by
  have G_law_near : FnOk P w K mg base CX0 2 T.f_law_near T.fd_law_near ["_law_dice_here", "_law_most"] spNear := ok_law_near T
  have G_law_plain : FnOk P w K mg base CX0 3 T.f_law_plain T.fd_law_plain ["_law_form_here"] spPrim := ok_law_plain T
  refine T.F_law_point.ok sc_law_point (fun vs H Q E h => ?_) (fun cdv A outer s H vs Q E hr h => ?_)
  · obtain ⟨d, m, rfl, _⟩ := h
    rfl
  · obtain ⟨d, m, rfl, hd, h1, h2, q⟩ := h
    refine ⟨_, (PSs.nox (pss_cons (ps_par (i := 2) (j := 3) (by rfl) sc_law_point.nd rfl rfl (by decide) rfl rfl (pa_cons (pe_call G_law_near (hr.mono (by decide)) (by rfl) T.g_law_near T.F_law_near.kp T.b_law_near .nil pass0 (pa_cons (pv 0) (pa_cons (pv 1) pa_nil))) (pa_cons (pe_call G_law_near (hr.mono (by decide)) (by rfl) T.g_law_near T.F_law_near.kp T.b_law_near .nil pass0 (pa_cons (pv 0) (pa_cons (pv 1) pa_nil))) pa_nil)) (by rfl))
    (pss_one (ps_ret (pe_ifExp (pt_cmpR (op_neD (hu64 hr)) (pe_tup (pa_cons (pv 2) (pa_cons (pv 3) pa_nil))) (pe_tup (pa_cons pe_int (pa_cons pe_int pa_nil))) (nomark _)) (pe_call G_law_plain hr (by rfl) T.g_law_plain T.F_law_plain.kp T.b_law_plain .nil pass0 (pa_cons (pe_tup (pa_cons (pv 2) (pa_cons (pv 3) pa_nil))) pa_nil)) (pe_tup (pa_cons pe_int (pa_cons pe_int pa_nil)))))))), ?_⟩
    have e15 : (10 : Int) ^ 15 = 1000000000000000 := by decide
    have z2 : 2 ≤ sizeLine := by decide
    refine ⟨_, rfl, _, rfl, d, m, rfl, hd, by omega, by rw [e15]; omega, fun u H1 u1 u2 s1 d1 => ⟨_, rfl, _, rfl, d, m, rfl, d1, by omega, by rw [e15]; omega, fun v H2 v1 v2 s2 d2 => ⟨_, _, rfl, ?_⟩⟩⟩
    have s12 := s1.trans s2
    refine ⟨_, rfl, _, rfl, z2, fun p1 n1 => gen_upd H2 p1 (tp [u, v]) n1 fun H3 s3 f3 => ⟨z2, fun p2 n2 => gen_upd H3 p2 (tp [0, 0]) n2 fun H4 s4 f4 => ?_⟩⟩
    refine ne_ints (xs := [u, v]) (ys := [0, 0]) (SqT.of (s4 _ _ f3)) (SqT.of f4) ?_
    have d4 := d2.same (s3.trans s4)
    have s14 : Sx d H H4 := s12.trans (Sx.of (s3.trans s4))
    by_cases c : [u, v] = [0, 0]
    · rw [decide_eq_true c]
      refine ⟨_, rfl, iteF ⟨z2, fun p3 n3 => gen_upd H4 p3 (tp [1, 0]) n3 fun H5 s5 f5 => ?_⟩⟩
      exact q p3 H5 1 0 (s14.trans (Sx.of s5)) (d4.same s5) f5 (by show 1 ≤ m; omega) (by show 0 ≤ m; omega) ⟨rfl, by rw [fo_pair]; decide⟩
    · rw [decide_eq_false c]
      refine ⟨_, rfl, iteT ⟨_, rfl, _, rfl, z2, fun p3 n3 => gen_upd H4 p3 (tp [u, v]) n3 fun H5 s5 f5 => ?_⟩⟩
      have hb : ∀ x ∈ [u, v], x.natAbs ≤ m := fun x hx => by
        simp only [List.mem_cons, List.not_mem_nil, or_false] at hx
        rcases hx with e | e <;> rw [e] <;> omega
      refine ⟨p3, [u, v], rfl, f5, by show 2 ≤ 1000; omega, fun x hx => Nat.lt_of_le_of_lt (hb x hx) (Nat.lt_of_le_of_lt h2 (by decide)), fun p H6 s6 hp => ?_⟩
      have hl := prim_len [u, v]
      have hm := prim_mem hb
      have hpt : ∀ x y, prim [u, v] = [x, y] → Pt x y := fun x y e => pt_prim c e
      generalize prim [u, v] = r at hp hl hm hpt
      match r, hl with
      | [x, y], _ => exact q p H6 x y (s14.trans (Sx.of (s5.trans s6))) (d4.same (s5.trans s6)) hp (hm x (by simp)) (hm y (by simp)) (hpt x y rfl)
end
end K06

set_option Elab.async false
set_option linter.all false
set_option maxRecDepth 100000
set_option maxHeartbeats 4000000
namespace K06
open PySem PySem.Spec PyProof.Rows L2 StX RZ MyR SlX OwnR OwnF EnumT GxR
theorem bd_small_pow {n : Nat} (h : n ≤ 8) : Bd (pow [1, 1] n) n (2 ^ 50) := (bd_pow (l := [1, 1]) (b := 2) ⟨rfl, by decide⟩ n).mono (Nat.pow_le_pow_right (by decide) (by omega))
theorem nzr_pow {l : List Int} (h : nzr l = true) : ∀ n, nzr (pow l n) = true
  | 0 => rfl
  | n + 1 => nzr_ml (nzr_pow h n) h
section
variable {P : Program} {w : World} {K : PySem.W.Frag} {mg : Str → Option Value} {base : Heap} {Ps : List Addr}
def spLive : Sp := fun vs H Q _ => ∃ (d : Addr) (n : Nat), vs = [.ref d, .int n] ∧ Dc H d ∧ n ≤ 8 ∧ ∀ p H' l, Sx d H H' → Dc H' d → H' p = some (tp l) → Bd l n (2 ^ 50) → nzr l = true → Q (.ref p) H'
theorem ok_law_live_form (T : Facts K mg) : FnOk P w K mg base CX0 6 T.f_law_live_form T.fd_law_live_form ["_law_dice_here", "_law_degree"] spLive := by
  have G_law_form := ok_law_form (P := P) (w := w) (base := base) T
  have G_law_shared := ok_law_shared (P := P) (w := w) (base := base) T
  have G_law_power := ok_law_power (P := P) (w := w) (base := base) T
  refine T.F_law_live_form.ok sc_law_live_form (fun vs H Q E h => ?_) (fun cdv A outer s H vs Q E hr h => ?_)
  · obtain ⟨d, n, rfl, _⟩ := h
    rfl
  · obtain ⟨d, n, rfl, hd, hn, q⟩ := h
    refine ⟨_, (PSs.nox (pss_cons (ps_set (i := 2) sc_law_live_form.nd rfl (.inl rfl) (pe_call G_law_form hr (by rfl) T.g_law_form T.F_law_form.kp T.b_law_form .nil pass0 (pa_cons (pv 0) (pa_cons (pv 1) pa_nil))))
    (pss_one (ps_ret (pe_ifExp (pt_cmpR op_gt (pe_call G_law_shared (hr.mono (by decide)) (by rfl) T.g_law_shared T.F_law_shared.kp T.b_law_shared .nil pass0 (pa_cons (pv 2) pa_nil)) pe_int (nomark _)) (pv 2) (pe_call G_law_power (hr.mono (by decide)) (by rfl) T.g_law_power T.F_law_power.kp T.b_law_power .nil pass0 (pa_cons (pe_tup (pa_cons pe_int (pa_cons pe_int pa_nil))) (pa_cons (pv 1) pa_nil)))))))), ?_⟩
    refine ⟨_, rfl, _, rfl, d, n, rfl, hd, by omega, fun p H1 l s1 d1 hp bl => ⟨_, rfl, p, l, rfl, hp, _, _, rfl, rfl, _, rfl, ?_⟩⟩
    cases hz : nzr l with
    | true =>
      rw [decide_eq_true (show (0 : Int) < (cont l : Nat) from by
        have : cont l ≠ 0 := fun e => by
          have := (cont_nzr l).mp e
          rw [hz] at this
          cases this
        omega)]
      exact iteT ⟨_, rfl, q p H1 l s1 d1 hp (bl.mono (by decide)) hz⟩
    | false =>
      rw [decide_eq_false (show ¬ (0 : Int) < (cont l : Nat) from by
        rw [(cont_nzr l).mpr hz]
        omega)]
      have b11 : ∀ i, i ≤ 8 → Bd (pow [1, 1] i) i (2 ^ 50) := fun i hi => bd_small_pow hi
      refine iteF ⟨by show 2 ≤ sizeLine; decide, fun p2 n2 => gen_upd H1 p2 (tp [1, 1]) n2 fun H2 s2 k2 => ⟨_, rfl, p2, [1, 1], n, rfl, k2, by simp, by show 2 ≤ 100; decide, fun x hx => ?_, fun i hi => ⟨((b11 i (by omega)).rw (by omega) (by decide +kernel)).ne, ((b11 i (by omega)).rw (by omega) (by decide +kernel)).len, ((b11 i (by omega)).rw (by omega) (by decide +kernel)).sm⟩, by omega, fun p3 H3 s3 k3 => ?_⟩⟩
      · simp only [List.mem_cons, List.not_mem_nil, or_false] at hx
        rcases hx with e | e <;> rw [e] <;> (show (1 : Int).natAbs < 2 ^ 4000; decide +kernel)
      · exact q p3 H3 _ (s1.trans (Sx.of (s2.trans s3))) (d1.same (s2.trans s3)) k3 (b11 n hn) (nzr_pow rfl n)
end
theorem Fo.sl {C a : Addr} {H : Hp} {ns : List Int} (h : Fo C H a ns) : Slt H a C h.slt.choose [some (.ref h.slt.choose_spec.choose)] := h.slt.choose_spec.choose_spec.1
end K06

set_option Elab.async false
set_option linter.all false
set_option maxRecDepth 100000
set_option maxHeartbeats 4000000
/-! lines that divide forms: the plain law -/
namespace K06
theorem cv_low {g : Nat → Int} {k : Nat} (h : ∀ j, j ≤ k → g j = 0) (l : List Int) : cv l g k = 0 := by
  rw [cv_congr (h := fun _ => 0) l k h, cv_zeroF]
theorem cv_take {g : Nat → Int} {f : Nat} (h : ∀ j, j < f → g j = 0) : ∀ (q : List Int) (i : Nat), i < q.length → cv q g (i + f) = cv (q.take i) g (i + f) + co q i * g f
  | [], i, hi => absurd hi (Nat.not_lt_zero i)
  | x :: xs, 0, _ => by
    show cv (x :: xs) g (0 + f) = 0 + x * g f
    rw [Nat.zero_add, Int.zero_add]
    cases f with
    | zero => exact cv_zero x xs g
    | succ f => rw [cv_succ, cv_low (fun j hj => h j (by omega)), Int.add_zero]
  | x :: xs, i + 1, hi => by
    rw [show i + 1 + f = (i + f) + 1 by omega, List.take_succ_cons, cv_succ, cv_succ, cv_take h xs i (by rw [List.length_cons] at hi; omega)]
    show _ = x * g (i + f + 1) + cv (xs.take i) g (i + f) + co xs i * g f
    omega
/-- who divides, finds the factor -/
theorem qd_self2 {q ys : List Int} (hq : q ≠ []) (hy : nzr ys = true) : qd (ml q ys) ys = some q := by
  have ny : ys ≠ [] := fun e => by rw [e] at hy; cases hy
  have lq := List.length_pos_iff.mpr hq
  have ly := List.length_pos_iff.mpr ny
  have lm := ml_len q ys
  have em : mny (ml q ys) ys = q.length := by unfold mny; omega
  have low : ∀ j, j < fi ys → co ys j = 0 := fun j hj => by
    have h1 : j < ys.findIdx (· != 0) := hj
    have := List.not_of_lt_findIdx h1
    have hl : j < ys.length := Nat.lt_trans hj (fi_lt hy)
    rw [co_get hl]
    simpa using this
  have key : ∀ i, i ≤ q.length → (∀ k, rmd (ml q ys) ys i k = cv q (co ys) k - cv (q.take i) (co ys) k) := by
    intro i
    induction i with
    | zero =>
      intro _ k
      show co (ml q ys) k = cv q (co ys) k - cv [] (co ys) k
      rw [co_ml ny, cv_nil, Int.sub_zero]
    | succ i ih =>
      intro hi k
      have ih := ih (by omega)
      have eq : quo (ml q ys) ys i = co q i := by
        unfold quo
        rw [ih, cv_take low q i (by omega)]
        have : cv (q.take i) (co ys) (i + fi ys) + co q i * co ys (fi ys) - cv (q.take i) (co ys) (i + fi ys) = co q i * co ys (fi ys) := by omega
        rw [this]
        exact Int.mul_fdiv_cancel _ (fi_ne hy)
      rw [rmd_succ, eq, ih, show q.take (i + 1) = q.take i ++ [co q i] by rw [co_get (by omega)]; exact (List.take_append_getElem (by omega)).symm, cv_snoc, List.length_take, Nat.min_eq_left (by omega)]
      omega
  have zero : ∀ k, rmd (ml q ys) ys (mny (ml q ys) ys) k = 0 := fun k => by
    rw [em, key _ (Nat.le_refl _), List.take_length]
    omega
  rw [qd_some (fun z => z.elim (fun w => by omega) fun w => ?_) (fun j hj => ?_) (nzr_tb0 zero)]
  · congr 1
    rw [em]
    refine co_inj (tb_len _ _) fun k => ?_
    rw [co_tb]
    by_cases hk : k < q.length
    · rw [if_pos hk]
      unfold quo
      rw [key k (by omega), cv_take low q k hk]
      have : cv (q.take k) (co ys) (k + fi ys) + co q k * co ys (fi ys) - cv (q.take k) (co ys) (k + fi ys) = co q k * co ys (fi ys) := by omega
      rw [this]
      exact Int.mul_fdiv_cancel _ (fi_ne hy)
    · rw [if_neg hk, co_far (by omega)]
  · obtain ⟨k, hk, hz⟩ := nzr_iff.mp w
    rw [List.length_take] at hk
    rw [co_take (by omega), co_ml ny, cv_low (fun j hj => low j (by omega))] at hz
    exact hz rfl
  · rw [em] at hj
    rw [rmd_lead]
    unfold quo
    rw [key j (by omega), cv_take low q j hj]
    have : cv (q.take j) (co ys) (j + fi ys) + co q j * co ys (fi ys) - cv (q.take j) (co ys) (j + fi ys) = co q j * co ys (fi ys) := by omega
    rw [this, Int.mul_fdiv_cancel _ (fi_ne hy)]
    omega
theorem tm_ml {q : List Int} {u v : Int} (hq : q ≠ []) (hL : nzr [v, -u] = true) : tm [v, -u] (ml q [v, -u]) = tm [v, -u] q + 1 := tm_some rfl (qd_self2 hq hL)
theorem ev_line (u v x y : Int) : ev [v, -u] x y = v * x - u * y := by
  rw [ev2]
  grind
theorem tm_nz {r : List Int} {u v : Int} (h : ev r u v ≠ 0) (hL : nzr [v, -u] = true) : tm [v, -u] r = 0 := by
  refine (tm_zero rfl).mpr ?_
  cases e : qd r [v, -u] with
  | none => rfl
  | some q =>
    exfalso
    have e2 := qd_ml (by simp) e
    by_cases hq : q = []
    · subst hq
      have l0 := qd_len e
      have h1 := (qd_of e).1
      have : [v, -u].length = 2 := rfl
      unfold mny at l0
      rw [this] at l0 h1
      rw [List.length_nil] at l0
      omega
    · refine h ?_
      rw [← e2, ev_ml hq (by simp), ev_line]
      have : v * u - u * v = 0 := by grind
      rw [this, Int.mul_zero]
/-- l is the line of (u, v), k times, and a form that is not 0 there -/
structure Fac (l : List Int) (u v : Int) (k : Nat) (r : List Int) : Prop where
  eq : l = ml (pow [v, -u] k) r
  nz : ev r u v ≠ 0
  ne : r ≠ []
theorem line_ne (u v : Int) : ([v, -u] : List Int) ≠ [] := by simp
theorem pow_line_ne (u v : Int) (k : Nat) : pow [v, -u] k ≠ [] := pow_ne (line_ne u v) k
theorem Fac.len {l r : List Int} {u v : Int} {k : Nat} (F : Fac l u v k r) : l.length = k + r.length := by
  rw [F.eq, ml_len, pow_len rfl]
  omega
theorem Fac.ln {l r : List Int} {u v : Int} {k : Nat} (F : Fac l u v k r) : l ≠ [] := by
  rw [F.eq]
  exact ml_ne (pow_line_ne u v k) F.ne
theorem Fac.ev {l r : List Int} {u v : Int} {k : Nat} (F : Fac l u v k r) (x y : Int) : ev l x y = (v * x - u * y) ^ k * ev r x y := by
  rw [F.eq, ev_ml (pow_line_ne u v k) F.ne, ev_pow (line_ne u v), ev_line]
theorem tm_pow {r : List Int} {u v : Int} (hr : r ≠ []) (h : ev r u v ≠ 0) (hL : nzr [v, -u] = true) : ∀ k, tm [v, -u] (ml (pow [v, -u] k) r) = k
  | 0 => by
    show tm [v, -u] (ml [1] r) = 0
    rw [ml_comm, ml_one]
    exact tm_nz h hL
  | k + 1 => by
    have e : ml (pow [v, -u] (k + 1)) r = ml (ml (pow [v, -u] k) r) [v, -u] := by
      show ml (ml (pow [v, -u] k) [v, -u]) r = _
      rw [ml_assoc (pow_line_ne u v k) (line_ne u v) hr, ml_comm [v, -u] r, ← ml_assoc (pow_line_ne u v k) hr (line_ne u v)]
    rw [e, tm_ml (ml_ne (pow_line_ne u v k) hr) hL, tm_pow hr h hL k]
theorem Fac.tm {l r : List Int} {u v : Int} {k : Nat} (F : Fac l u v k r) (hL : nzr [v, -u] = true) : tm [v, -u] l = k := by
  rw [F.eq]
  exact tm_pow F.ne F.nz hL k
/-- a form that is 0 at a point is divided by its line -/
theorem div_line {u v : Int} (hp : Pt u v) : ∀ (n : Nat) (l : List Int), l.length = n + 1 → ev l u v = 0 → ∃ q, q.length = n ∧ l = ml q [v, -u]
  | 0, [a], _, h => by
    rw [ev_cons] at h
    have h : a * u ^ 0 + v * 0 = 0 := h
    rw [Int.pow_zero] at h
    have a0 : a = 0 := by omega
    refine ⟨[], rfl, ?_⟩
    rw [a0]
    rfl
  | n + 1, a :: b :: r, hl, h => by
    have hlr : r.length = n := by
      rw [List.length_cons, List.length_cons] at hl
      omega
    rw [ev_cons] at h
    by_cases hv : v = 0
    · -- the point (1, 0)
      subst hv
      have hu : u.natAbs = 1 := by
        have := hp.cop
        simpa using this
      have u0 : u ≠ 0 := fun z => by rw [z] at hu; cases hu
      have a0 : a = 0 := by
        rw [Int.zero_mul, Int.add_zero] at h
        rcases Int.mul_eq_zero.mp h with z | z
        · exact z
        · exact absurd (pow_zero z) u0
      have uu : u * u = 1 := by
        have : u = 1 ∨ u = -1 := by omega
        rcases this with z | z <;> rw [z] <;> decide
      refine ⟨(b :: r).map (-u * ·), by rw [List.length_map, List.length_cons, hlr], ?_⟩
      refine co_inj (by rw [ml_len, List.length_map, List.length_cons, List.length_cons]; show r.length + 1 + 1 = r.length + 1 + 2 - 1; omega) fun k => ?_
      rw [co_ml (by simp), cv_comm, cv_cons]
      rw [a0]
      cases k with
      | zero =>
        show (0 : Int) = 0 * _ + 0
        rw [Int.zero_mul]
        rfl
      | succ k =>
        show co (b :: r) k = 0 * _ + cv [-u] (co ((b :: r).map (-u * ·))) k
        rw [cv_cons]
        have : sh (cv [] (co ((b :: r).map (-u * ·)))) k = 0 := by cases k <;> rfl
        rw [this, Int.zero_mul, show co ((b :: r).map (-u * ·)) k = -u * co (b :: r) k from co_map (-u) (b :: r) k]
        have : -u * (-u * co (b :: r) k) = (u * u) * co (b :: r) k := by grind
        rw [this, uu]
        omega
    · have hd : v ∣ a := by
        have h1 : v ∣ a * u ^ (b :: r).length := ⟨-(ev (b :: r) u v), by rw [Int.mul_neg]; omega⟩
        have h2 := Int.natAbs_dvd_natAbs.mpr h1
        rw [Int.natAbs_mul, Int.natAbs_pow] at h2
        have h3 : Nat.Coprime v.natAbs (u.natAbs ^ (b :: r).length) := Nat.Coprime.pow_right _ (Nat.Coprime.symm hp.cop)
        exact Int.natAbs_dvd_natAbs.mp (Nat.Coprime.dvd_of_dvd_mul_right h3 h2)
      obtain ⟨c, hc⟩ := hd
      have h0 : ev ((b + c * u) :: r) u v = 0 := by
        rw [ev_cons]
        have e1 : ev (b :: r) u v = b * u ^ r.length + v * ev r u v := ev_cons _ _ _ _
        rw [e1, hc, List.length_cons, Int.pow_succ] at h
        have : v * ((b + c * u) * u ^ r.length + v * ev r u v) = 0 := by
          generalize u ^ r.length = A at *
          generalize ev r u v = B at *
          grind
        exact (Int.mul_eq_zero.mp this).resolve_left hv
      obtain ⟨q, hq, e⟩ := div_line hp n ((b + c * u) :: r) (by rw [List.length_cons, hlr]) h0
      refine ⟨c :: q, by rw [List.length_cons, hq], ?_⟩
      refine co_inj (by rw [ml_len, List.length_cons, List.length_cons, List.length_cons, hlr, hq]; show n + 1 + 1 = n + 1 + 2 - 1; omega) fun k => ?_
      rw [co_ml (by simp), cv_cons]
      cases k with
      | zero =>
        show a = c * v + 0
        rw [hc]
        grind
      | succ k =>
        have ek := congrArg (fun z => co z k) e
        rw [show co (ml q [v, -u]) k = cv q (co [v, -u]) k from co_ml (by simp) k] at ek
        show co (b :: r) k = c * co [-u] k + cv q (co [v, -u]) k
        rw [← ek]
        cases k with
        | zero =>
          show b = c * -u + (b + c * u)
          grind
        | succ k =>
          show co r k = c * co [] k + co r k
          show co r k = c * 0 + co r k
          omega
theorem fac_exists {u v : Int} (hp : Pt u v) : ∀ (n : Nat) (l : List Int), l.length = n + 1 → nzr l = true → ∃ k r, Fac l u v k r
  | n, l, hl, hz => by
    by_cases h : ev l u v = 0
    · obtain ⟨q, hq, e⟩ := div_line hp n l hl h
      cases n with
      | zero =>
        exfalso
        have : q = [] := List.length_eq_zero_iff.mp hq
        subst this
        rw [e] at hz
        exact absurd hz (by show ¬ (false = true); decide)
      | succ n =>
        have nq : nzr q = true := by
          cases c : nzr q with
          | true => rfl
          | false =>
            obtain ⟨k, hk, hk2⟩ := nzr_iff.mp hz
            rw [e, co_ml (by simp), cv_comm, cv_low fun j _ => nzr_co c j] at hk2
            exact absurd rfl hk2
        obtain ⟨k, r, F⟩ := fac_exists hp n q hq nq
        refine ⟨k + 1, r, ?_, F.nz, F.ne⟩
        rw [e]
        conv => lhs; rw [F.eq]
        show _ = ml (ml (pow [v, -u] k) [v, -u]) r
        rw [ml_assoc (pow_line_ne u v k) (line_ne u v) F.ne, ml_comm [v, -u] r, ← ml_assoc (pow_line_ne u v k) F.ne (line_ne u v)]
    · have ne : l ≠ [] := fun z => by rw [z] at hl; cases hl
      refine ⟨0, l, ?_, h, ne⟩
      show l = ml [1] l
      rw [ml_comm, ml_one]
theorem fac_of {u v : Int} (hp : Pt u v) {l : List Int} (hz : nzr l = true) : ∃ k r, Fac l u v k r := by
  have : l ≠ [] := fun e => by rw [e] at hz; cases hz
  have := List.length_pos_iff.mpr this
  exact fac_exists hp (l.length - 1) l (by omega) hz
theorem Fac.ml {l m r s : List Int} {u v : Int} {k j : Nat} (F : Fac l u v k r) (G : Fac m u v j s) : Fac (ml l m) u v (k + j) (ml r s) := by
  refine ⟨ev_inj ?_ fun x y => ?_, ?_, ml_ne F.ne G.ne⟩
  · have l1 := F.len
    have l2 := G.len
    have := List.length_pos_iff.mpr F.ne
    have := List.length_pos_iff.mpr G.ne
    rw [ml_len, ml_len, pow_len rfl, ml_len]
    omega
  · rw [ev_ml F.ln G.ln, F.ev, G.ev, ev_ml (pow_line_ne u v _) (ml_ne F.ne G.ne), ev_ml F.ne G.ne, ev_pow (line_ne u v), ev_line, Int.pow_add]
    grind
  · rw [ev_ml F.ne G.ne]
    exact Int.mul_ne_zero F.nz G.nz
theorem Pt.nzl {u v : Int} (h : Pt u v) : nzr [v, -u] = true := fi_line h.ne
/-- numbers are added in products -/
theorem tm_add {u v : Int} (hp : Pt u v) {l m : List Int} (hl : nzr l = true) (hm : nzr m = true) : tm [v, -u] (ml l m) = tm [v, -u] l + tm [v, -u] m := by
  obtain ⟨k, r, F⟩ := fac_of hp hl
  obtain ⟨j, s, G⟩ := fac_of hp hm
  rw [F.tm hp.nzl, G.tm hp.nzl, (F.ml G).tm hp.nzl]
/-- it is a root exactly if the form is 0 there -/
theorem tm_pos {u v : Int} (hp : Pt u v) {l : List Int} (hl : nzr l = true) : 0 < tm [v, -u] l ↔ ev l u v = 0 := by
  obtain ⟨k, r, F⟩ := fac_of hp hl
  rw [F.tm hp.nzl, F.ev, show v * u - u * v = 0 by grind]
  cases k with
  | zero =>
    rw [Int.pow_zero, Int.one_mul]
    exact ⟨fun h => absurd h (Nat.lt_irrefl 0), fun h => absurd h F.nz⟩
  | succ k =>
    rw [Int.pow_succ, Int.mul_zero, Int.zero_mul]
    exact ⟨fun _ => rfl, fun _ => Nat.succ_pos k⟩
theorem pow0 {c : Int} (h : c ≠ 0) (n : Nat) : c ^ n ≠ 0 := fun z => h (pow_zero z)
/-- numbers go along with changes -/
theorem tm_changed {u v u' v' g a b c d : Int} (hp : Pt u v) (hp' : Pt u' v') (hd : a * d - b * c ≠ 0) (h1 : d * u - b * v = g * u') (h2 : a * v - c * u = g * v') {l : List Int} (hl : nzr l = true) :
    tm [v', -u'] (changed [a, b] [c, d] l) = tm [v, -u] l := by
  obtain ⟨k, r, F⟩ := fac_of hp hl
  have g0 : g ≠ 0 := fun z => by
    rw [z, Int.zero_mul] at h1 h2
    have e1 : (a * d - b * c) * u = 0 := by
      have : (a * d - b * c) * u = a * (d * u - b * v) + b * (a * v - c * u) := by grind
      rw [this, h1, h2]
      omega
    have e2 : (a * d - b * c) * v = 0 := by
      have : (a * d - b * c) * v = c * (d * u - b * v) + d * (a * v - c * u) := by grind
      rw [this, h1, h2]
      omega
    have u0 := (Int.mul_eq_zero.mp e1).resolve_left hd
    have v0 := (Int.mul_eq_zero.mp e2).resolve_left hd
    exact hp.ne (by rw [u0, v0])
  have lr := List.length_pos_iff.mpr F.ne
  have nc : changed [a, b] [c, d] r ≠ [] := fun z => by
    have := changed_len (X := [a, b]) (Y := [c, d]) rfl rfl F.ne
    rw [z] at this
    rw [← this] at lr
    exact absurd lr (Nat.lt_irrefl 0)
  have G : Fac (changed [a, b] [c, d] l) u' v' k ((changed [a, b] [c, d] r).map (g ^ k * ·)) := by
    refine ⟨ev_inj ?_ fun x y => ?_, fun z => ?_, fun z => nc (List.map_eq_nil_iff.mp z)⟩
    · rw [changed_len rfl rfl F.ln, ml_len, pow_len rfl, List.length_map, changed_len rfl rfl F.ne, F.len]
      omega
    · rw [ev_changed rfl rfl F.ln, F.ev, ev_ml (pow_line_ne u' v' k) (fun z => nc (List.map_eq_nil_iff.mp z)), ev_map, ev_changed rfl rfl F.ne, ev_pow (line_ne u' v'), ev_line, ev2, ev2]
      have : v * (a * x + b * y) - u * (c * x + d * y) = g * (v' * x - u' * y) := by
        have e1 : g * (v' * x - u' * y) = (g * v') * x - (g * u') * y := by grind
        rw [e1, ← h1, ← h2]
        grind
      rw [this, Int.mul_pow]
      grind
    · rw [ev_map] at z
      have z := (Int.mul_eq_zero.mp z).resolve_left (pow0 g0 k)
      have hom := evF_hom g (co (changed [a, b] [c, d] r)) u' v' (changed [a, b] [c, d] r).length
      have z2 : evF (changed [a, b] [c, d] r).length (co (changed [a, b] [c, d] r)) u' v' = 0 := z
      rw [z2, Int.mul_zero] at hom
      have e3 : ev (changed [a, b] [c, d] r) (g * u') (g * v') = 0 := (Int.mul_eq_zero.mp hom).resolve_left g0
      rw [ev_changed rfl rfl F.ne, ← h1, ← h2, ev2, ev2, show a * (d * u - b * v) + b * (a * v - c * u) = (a * d - b * c) * u by grind, show c * (d * u - b * v) + d * (a * v - c * u) = (a * d - b * c) * v by grind] at e3
      have hom2 := evF_hom (a * d - b * c) (co r) u v r.length
      have e4 : evF r.length (co r) ((a * d - b * c) * u) ((a * d - b * c) * v) = 0 := e3
      rw [e4, Int.mul_zero] at hom2
      exact F.nz ((Int.mul_eq_zero.mp hom2.symm).resolve_left (pow0 hd _))
  rw [F.tm hp.nzl, G.tm hp'.nzl]
/-- points with one line are the same -/
theorem Pt.inj {u v u' v' : Int} (h : Pt u v) (h' : Pt u' v') (e : v * u' - u * v' = 0) : u' = u ∧ v' = v := by
  have c1 := h.cop
  have c2 := h'.cop
  have p1 := h.pos
  have p2 := h'.pos
  rw [fo_pair] at p1 p2
  by_cases hu : u = 0
  · subst hu
    rw [Nat.gcd_eq_right (show v.natAbs ∣ (0 : Int).natAbs from ⟨0, rfl⟩)] at c1
    rw [if_pos rfl] at p1
    have v1 : v = 1 := by omega
    subst v1
    have : u' = 0 := by omega
    subst this
    rw [Nat.gcd_eq_right (show v'.natAbs ∣ (0 : Int).natAbs from ⟨0, rfl⟩)] at c2
    rw [if_pos rfl] at p2
    exact ⟨rfl, by omega⟩
  · have hd : u ∣ u' := by
      have h1 : u ∣ v * u' := ⟨v', by omega⟩
      have h2 := Int.natAbs_dvd_natAbs.mpr h1
      rw [Int.natAbs_mul] at h2
      exact Int.natAbs_dvd_natAbs.mp (Nat.Coprime.dvd_of_dvd_mul_left c1 h2)
    obtain ⟨k, hk⟩ := hd
    have hv : v' = v * k := by
      have : u * v' = u * (v * k) := by
        rw [hk] at e
        grind
      exact Int.eq_of_mul_eq_mul_left hu this
    rw [hk, hv, Int.natAbs_mul, Int.natAbs_mul, Nat.gcd_mul_right, c1, Nat.one_mul] at c2
    rw [if_neg hu] at p1
    have k0 : k ≠ 0 := fun z => by rw [z] at c2; cases c2
    rw [if_neg (show u' ≠ 0 from fun z => by rw [hk] at z; rcases Int.mul_eq_zero.mp z with z | z; exact hu z; exact k0 z), hk] at p2
    have k1 : 0 < k := Int.pos_of_mul_pos_right p2 p1
    have : k = 1 := by omega
    rw [hk, hv, this]
    exact ⟨by omega, by omega⟩
/-! ### points of products -/
/-- a point, as a row -/
def PL (p : List Int) : Prop := ∃ u v : Int, p = [u, v] ∧ Pt u v
/-- its line -/
def ln (p : List Int) : List Int := [co p 1, -co p 0]
theorem PL.nzl {p : List Int} (h : PL p) : nzr (ln p) = true := by
  obtain ⟨u, v, rfl, hp⟩ := h
  exact hp.nzl
theorem ln_ne (p : List Int) : ln p ≠ [] := by unfold ln; simp
theorem ev_ln_ne {p q : List Int} (hp : PL p) (hq : PL q) (n : p ≠ q) : ev (ln p) (co q 0) (co q 1) ≠ 0 := by
  obtain ⟨u, v, rfl, hp⟩ := hp
  obtain ⟨u', v', rfl, hq⟩ := hq
  intro z
  have z : ev [v, -u] u' v' = 0 := z
  rw [ev_line] at z
  obtain ⟨e1, e2⟩ := hp.inj hq z
  exact n (by rw [e1, e2])
theorem tm_line {p q : List Int} (hp : PL p) (hq : PL q) : tm (ln q) (ln p) = if p = q then 1 else 0 := by
  by_cases e : p = q
  · rw [if_pos e, e]
    obtain ⟨u, v, rfl, hq⟩ := hq
    show tm [v, -u] [v, -u] = 1
    have := tm_pow (r := [1]) (u := u) (v := v) (by simp) (by rw [ev_one]; decide) hq.nzl 1
    rw [ml_one] at this
    have e2 : pow [v, -u] 1 = [v, -u] := by
      show ml [1] _ = _
      rw [ml_comm, ml_one]
    rw [e2] at this
    exact this
  · rw [if_neg e]
    have h := ev_ln_ne hp hq e
    obtain ⟨u, v, rfl, hq⟩ := hq
    exact tm_nz h hq.nzl
theorem tm_addL {q : List Int} (hq : PL q) {l m : List Int} (hl : nzr l = true) (hm : nzr m = true) : tm (ln q) (ml l m) = tm (ln q) l + tm (ln q) m := by
  obtain ⟨u, v, rfl, hq⟩ := hq
  exact tm_add hq hl hm
theorem tm_oneL {q : List Int} (hq : PL q) : tm (ln q) [1] = 0 := by
  obtain ⟨u, v, rfl, hq⟩ := hq
  exact tm_nz (by rw [ev_one]; decide) hq.nzl
/-- the product of the lines of some points -/
def lprod (ps : List (List Int)) : List Int := (ps.map ln).foldl ml [1]
theorem nzr_foldl : ∀ (ls : List (List Int)) (l : List Int), nzr l = true → (∀ m ∈ ls, nzr m = true) → nzr (ls.foldl ml l) = true
  | [], l, h, _ => h
  | m :: ls, l, h, hm => nzr_foldl ls _ (nzr_ml h (hm m (.head _))) fun x hx => hm x (.tail _ hx)
theorem tm_foldl {q : List Int} (hq : PL q) : ∀ (ps : List (List Int)) (l : List Int), nzr l = true → (∀ p ∈ ps, PL p) → tm (ln q) ((ps.map ln).foldl ml l) = tm (ln q) l + ps.count q
  | [], l, _, _ => by rw [List.count_nil, Nat.add_zero]; rfl
  | p :: ps, l, h, hp => by
    have pp := hp p (.head _)
    rw [List.map_cons, List.foldl_cons, tm_foldl hq ps _ (nzr_ml h pp.nzl) fun x hx => hp x (.tail _ hx), tm_addL hq h pp.nzl, tm_line pp hq, List.count_cons]
    by_cases e : p = q
    · rw [if_pos e, if_pos (by rw [e]; exact beq_self_eq_true q)]
      omega
    · rw [if_neg e, if_neg (fun z => e (eq_of_beq z))]
      omega
theorem tm_lprod {q : List Int} (hq : PL q) {ps : List (List Int)} (h : ∀ p ∈ ps, PL p) : tm (ln q) (lprod ps) = ps.count q := by
  unfold lprod
  rw [tm_foldl hq ps _ rfl h, tm_oneL hq, Nat.zero_add]
theorem nzr_lprod {ps : List (List Int)} (h : ∀ p ∈ ps, PL p) : nzr (lprod ps) = true := nzr_foldl _ _ rfl fun m hm => by
  obtain ⟨p, hp, rfl⟩ := List.mem_map.mp hm
  exact (h p hp).nzl
theorem nzr_powL {l : List Int} (h : nzr l = true) : ∀ n, nzr (pow l n) = true
  | 0 => rfl
  | n + 1 => nzr_ml (nzr_powL h n) h
/-- a form of a degree has at most so many roots -/
theorem tm_sum : ∀ (ps : List (List Int)) (l : List Int), nzr l = true → (∀ p ∈ ps, PL p) → ps.Nodup → (ps.map fun p => tm (ln p) l).sum + 1 ≤ l.length
  | [], l, h, _, _ => by
    have : l ≠ [] := fun e => by rw [e] at h; cases h
    have := List.length_pos_iff.mpr this
    show 0 + 1 ≤ _
    omega
  | p :: ps, l, h, hp, nd => by
    have pp := hp p (.head _)
    have pp' : PL p := pp
    obtain ⟨u, v, ep, hpt⟩ := pp
    obtain ⟨k, r, F⟩ := fac_of hpt h
    have el : ln p = [v, -u] := by rw [ep]; rfl
    have nr : nzr r = true := by
      cases c : nzr r with
      | true => rfl
      | false =>
        exact absurd (ev_zero (fun z hz => by
          obtain ⟨i, hi, e⟩ := List.getElem_of_mem hz
          rw [← e, ← co_get hi]
          exact nzr_co c i) u v) F.nz
    have ih := tm_sum ps r nr (fun x hx => hp x (.tail _ hx)) (List.nodup_cons.mp nd).2
    have e : (ps.map fun q => tm (ln q) l) = ps.map fun q => tm (ln q) r := List.map_congr_left fun q hq => by
      have pq := hp q (.tail _ hq)
      have np : p ≠ q := fun z => (List.nodup_cons.mp nd).1 (z ▸ hq)
      have hev := ev_ln_ne pp' pq np
      rw [F.eq, ← el, tm_addL pq (nzr_powL pp'.nzl k) nr]
      obtain ⟨u', v', eq', hq'⟩ := pq
      have : tm (ln q) (pow (ln p) k) = 0 := by
        have h2 : ev (pow (ln p) k) u' v' ≠ 0 := by
          rw [ev_pow (ln_ne p)]
          rw [eq'] at hev
          exact pow0 hev k
        rw [eq']
        exact tm_nz h2 hq'.nzl
      rw [this, Nat.zero_add]
    have et : tm (ln p) l = k := by
      rw [el]
      exact F.tm hpt.nzl
    rw [List.map_cons, List.sum_cons, et, e]
    have := F.len
    omega
end K06

set_option Elab.async false
set_option linter.all false
set_option maxRecDepth 100000
set_option maxHeartbeats 4000000
/-! how often a point is a root, by derived forms: the plain law -/
namespace K06
/-- values of the derived forms, if the values are told by those of other forms -/
theorem dX_of {a b c d : List Int} {u v α β : Int} (h : ∀ x y, ev a x y = (v * x - u * y) * ev b x y + α * ev c x y + β * ev d x y) (x y : Int) :
    ev (dX a) x y = (v * x - u * y) * ev (dX b) x y + v * ev b x y + α * ev (dX c) x y + β * ev (dX d) x y := by
  refine step_eq fun k => ?_
  obtain ⟨R1, e1⟩ := ev_step x y 1 0 k a
  obtain ⟨R2, e2⟩ := ev_step x y 1 0 k b
  obtain ⟨R3, e3⟩ := ev_step x y 1 0 k c
  obtain ⟨R4, e4⟩ := ev_step x y 1 0 k d
  rw [h, e2, e3, e4, h] at e1
  refine ⟨(v * x - u * y) * R2 + v * ev (dX b) x y + v * k * R2 + α * R3 + β * R4 - R1, ?_⟩
  generalize ev (dX a) x y = A at *
  generalize ev (dX b) x y = B at *
  generalize ev (dX c) x y = C at *
  generalize ev (dX d) x y = D at *
  generalize ev b x y = B0 at *
  generalize ev c x y = C0 at *
  generalize ev d x y = D0 at *
  grind
theorem dY_of {a b c d : List Int} {u v α β : Int} (h : ∀ x y, ev a x y = (v * x - u * y) * ev b x y + α * ev c x y + β * ev d x y) (x y : Int) :
    ev (dY a) x y = (v * x - u * y) * ev (dY b) x y - u * ev b x y + α * ev (dY c) x y + β * ev (dY d) x y := by
  refine step_eq fun k => ?_
  obtain ⟨R1, e1⟩ := ev_step x y 0 1 k a
  obtain ⟨R2, e2⟩ := ev_step x y 0 1 k b
  obtain ⟨R3, e3⟩ := ev_step x y 0 1 k c
  obtain ⟨R4, e4⟩ := ev_step x y 0 1 k d
  rw [h, e2, e3, e4, h] at e1
  refine ⟨(v * x - u * y) * R2 - u * ev (dY b) x y - u * k * R2 + α * R3 + β * R4 - R1, ?_⟩
  generalize ev (dY a) x y = A at *
  generalize ev (dY b) x y = B at *
  generalize ev (dY c) x y = C at *
  generalize ev (dY d) x y = D at *
  generalize ev b x y = B0 at *
  generalize ev c x y = C0 at *
  generalize ev d x y = D0 at *
  grind
theorem dd_ml {g : List Int} (hg : g ≠ []) (u v : Int) : ∀ (j i : Nat) (x y : Int), ev (dd i j (ml [v, -u] g)) x y = (v * x - u * y) * ev (dd i j g) x y + ((i : Int) * v) * ev (dd (i - 1) j g) x y + (-((j : Int) * u)) * ev (dd i (j - 1) g) x y
  | 0, 0, x, y => by
    show ev (ml [v, -u] g) x y = (v * x - u * y) * ev g x y + ((0 : Nat) : Int) * v * ev g x y + -(((0 : Nat) : Int) * u) * ev g x y
    rw [ev_ml (line_ne u v) hg, ev_line]
    generalize ev g x y = G
    grind
  | 0, i + 1, x, y => by
    have ih := dX_of (dd_ml hg u v 0 i) x y
    show ev (dX (dd i 0 (ml [v, -u] g))) x y = _
    rw [ih]
    show _ = (v * x - u * y) * ev (dX (dd i 0 g)) x y + ((i + 1 : Nat) : Int) * v * ev (dd i 0 g) x y + -(((0 : Nat) : Int) * u) * ev (dd (i + 1) 0 g) x y
    cases i with
    | zero =>
      generalize ev (dX (dd 0 0 g)) x y = A
      generalize ev (dX (dd (0 - 1) 0 g)) x y = A'
      generalize ev (dX (dd 0 (0 - 1) g)) x y = A''
      generalize ev (dd (0 + 1) 0 g) x y = B
      generalize ev (dd 0 0 g) x y = C
      grind
    | succ i =>
      show _ + ((i + 1 : Nat) : Int) * v * ev (dd (i + 1) 0 g) x y + _ = _
      generalize ev (dX (dd (i + 1) 0 g)) x y = A
      generalize ev (dX (dd (i + 1) (0 - 1) g)) x y = A''
      generalize ev (dd (i + 1 + 1) 0 g) x y = B
      generalize ev (dd (i + 1) 0 g) x y = C
      have : ((i + 1 + 1 : Nat) : Int) = ((i + 1 : Nat) : Int) + 1 := by omega
      rw [this]
      grind
  | j + 1, i, x, y => by
    have ih := dY_of (dd_ml hg u v j i) x y
    show ev (dY (dd i j (ml [v, -u] g))) x y = _
    rw [ih]
    show _ = (v * x - u * y) * ev (dY (dd i j g)) x y + ((i : Nat) : Int) * v * ev (dY (dd (i - 1) j g)) x y + -(((j + 1 : Nat) : Int) * u) * ev (dd i j g) x y
    cases j with
    | zero =>
      generalize ev (dY (dd i 0 g)) x y = A
      generalize ev (dY (dd (i - 1) 0 g)) x y = A'
      generalize ev (dY (dd i (0 - 1) g)) x y = A''
      generalize ev (dd i 0 g) x y = C
      grind
    | succ j =>
      show _ + -(((j + 1 : Nat) : Int) * u) * ev (dd i (j + 1) g) x y = _
      generalize ev (dY (dd i (j + 1) g)) x y = A
      generalize ev (dY (dd (i - 1) (j + 1) g)) x y = A'
      generalize ev (dd i (j + 1) g) x y = C
      have : ((j + 1 + 1 : Nat) : Int) = ((j + 1 : Nat) : Int) + 1 := by omega
      rw [this]
      grind
/-- all forms derived t times are 0 at a point -/
def Az (l : List Int) (u v : Int) (t : Nat) : Prop := ∀ i, i ≤ t → ev (dd (t - i) i l) u v = 0
theorem az_line {g : List Int} (hg : g ≠ []) {u v : Int} : Az (ml [v, -u] g) u v 0 := fun i hi => by
  have : i = 0 := by omega
  subst this
  show ev (ml [v, -u] g) u v = 0
  rw [ev_ml (line_ne u v) hg, ev_line, show v * u - u * v = 0 by grind, Int.zero_mul]
theorem az_succ {g : List Int} (hg : g ≠ []) {u v : Int} (hp : Pt u v) (t : Nat) : Az (ml [v, -u] g) u v (t + 1) ↔ Az g u v t := by
  have key : ∀ i, i ≤ t + 1 → ev (dd (t + 1 - i) i (ml [v, -u] g)) u v = ((t + 1 - i : Nat) : Int) * v * ev (dd (t - i) i g) u v + -((i : Int) * u) * ev (dd (t + 1 - i) (i - 1) g) u v := fun i hi => by
    rw [dd_ml hg, show v * u - u * v = 0 by grind, Int.zero_mul, Int.zero_add, show t + 1 - i - 1 = t - i by omega]
  constructor
  · intro h
    have h2 : ∀ i, i ≤ t + 1 → ((t + 1 - i : Nat) : Int) * v * ev (dd (t - i) i g) u v + -((i : Int) * u) * ev (dd (t + 1 - i) (i - 1) g) u v = 0 := fun i hi => by rw [← key i hi]; exact h i hi
    by_cases hu : u = 0
    · have hv : v ≠ 0 := fun z => hp.ne (by rw [hu, z])
      intro i hi
      have h3 := h2 i (by omega)
      rw [hu, Int.mul_zero, Int.neg_zero, Int.zero_mul, Int.add_zero] at h3
      rw [hu]
      exact (Int.mul_eq_zero.mp h3).resolve_left (Int.mul_ne_zero (by omega) hv)
    · -- from the last one down
      have main : ∀ n, n ≤ t → ev (dd n (t - n) g) u v = 0 := by
        intro n
        induction n with
        | zero =>
          intro _
          have h3 := h2 (t + 1) (Nat.le_refl _)
          rw [show t + 1 - (t + 1) = 0 by omega, show t + 1 - 1 = t by omega, show ((0 : Nat) : Int) = 0 from rfl, Int.zero_mul, Int.zero_mul, Int.zero_add] at h3
          rw [Nat.sub_zero]
          exact (Int.mul_eq_zero.mp h3).resolve_left (fun z => by
            have := Int.mul_ne_zero (show ((t + 1 : Nat) : Int) ≠ 0 by omega) hu
            omega)
        | succ n ih =>
          intro hn
          have ih := ih (by omega)
          have h3 := h2 (t - n) (by omega)
          rw [show t - (t - n) = n by omega, show t + 1 - (t - n) = n + 1 by omega, ih, Int.mul_zero, Int.zero_add, show t - n - 1 = t - (n + 1) by omega] at h3
          exact (Int.mul_eq_zero.mp h3).resolve_left (fun z => by
            have := Int.mul_ne_zero (show ((t - n : Nat) : Int) ≠ 0 by omega) hu
            omega)
      intro i hi
      have := main (t - i) (by omega)
      rw [show t - (t - i) = i by omega] at this
      exact this
  · intro h i hi
    rw [key i hi]
    have e1 : ((t + 1 - i : Nat) : Int) * v * ev (dd (t - i) i g) u v = 0 := by
      by_cases c : i ≤ t
      · rw [h i c, Int.mul_zero]
      · rw [show t + 1 - i = 0 by omega, show ((0 : Nat) : Int) = 0 from rfl, Int.zero_mul, Int.zero_mul]
    have e2 : -((i : Int) * u) * ev (dd (t + 1 - i) (i - 1) g) u v = 0 := by
      by_cases c : i = 0
      · rw [c, show ((0 : Nat) : Int) = 0 from rfl, Int.zero_mul, Int.neg_zero, Int.zero_mul]
      · have := h (i - 1) (by omega)
        rw [show t - (i - 1) = t + 1 - i by omega] at this
        rw [this, Int.mul_zero]
    rw [e1, e2]
    rfl
theorem az_pow {r : List Int} {u v : Int} (hp : Pt u v) (hr : r ≠ []) (hz : ev r u v ≠ 0) : ∀ k, (∀ t, t < k → Az (ml (pow [v, -u] k) r) u v t) ∧ ¬ Az (ml (pow [v, -u] k) r) u v k
  | 0 => by
    refine ⟨fun t ht => absurd ht (Nat.not_lt_zero t), fun h => hz ?_⟩
    have := h 0 (Nat.le_refl 0)
    have e : ml (pow [v, -u] 0) r = r := by
      show ml [1] r = r
      rw [ml_comm, ml_one]
    rw [e] at this
    exact this
  | k + 1 => by
    have e : ml (pow [v, -u] (k + 1)) r = ml [v, -u] (ml (pow [v, -u] k) r) := by
      show ml (ml (pow [v, -u] k) [v, -u]) r = _
      rw [ml_comm (pow [v, -u] k) [v, -u], ml_assoc (line_ne u v) (pow_line_ne u v k) hr]
    have ne := ml_ne (pow_line_ne u v k) hr
    obtain ⟨h1, h2⟩ := az_pow hp hr hz k
    rw [e]
    refine ⟨fun t ht => ?_, fun h => h2 ((az_succ ne hp k).mp h)⟩
    cases t with
    | zero => exact az_line ne
    | succ t => exact (az_succ ne hp t).mpr (h1 t (by omega))
/-- the number of times is the first order at which some derived form is not 0 -/
theorem tm_az {l : List Int} {u v : Int} (hp : Pt u v) (hl : nzr l = true) : tm [v, -u] l < l.length ∧ (∀ t, t < tm [v, -u] l → Az l u v t) ∧ ¬ Az l u v (tm [v, -u] l) := by
  obtain ⟨k, r, F⟩ := fac_of hp hl
  have h := az_pow hp F.ne F.nz k
  rw [← F.eq] at h
  rw [F.tm hp.nzl]
  have := F.len
  have := List.length_pos_iff.mpr F.ne
  exact ⟨by omega, h⟩
end K06

set_option Elab.async false
set_option linter.all false
set_option maxRecDepth 100000
set_option maxHeartbeats 4000000
namespace K06
open PySem PySem.Spec PyProof.Rows L2 StX RZ MyR SlX OwnR OwnF EnumT GxR
/-! ### rows of tuples as data -/
def TD (ls : List (List Int)) : List PyData := ls.map fun l => .tuple (l.map PyData.int)
theorem lay_td : ∀ ls : List (List Int), PyData.canLayAll0 (TD ls) = true
  | [] => rfl
  | l :: r => by
    show (PyData.canLay0 (.tuple (l.map PyData.int)) && PyData.canLayAll0 (TD r)) = true
    rw [lay_td r, show PyData.canLay0 (.tuple (l.map PyData.int)) = PyData.canLayAll0 (l.map PyData.int) from rfl, lay_ints]
    rfl
theorem depth_td : ∀ ls : List (List Int), PyData.depthAll (TD ls) ≤ 1
  | [] => Nat.zero_le _
  | l :: r => by
    show max (PyData.depth (.tuple (l.map PyData.int))) (PyData.depthAll (TD r)) ≤ 1
    have h := depth_td r
    rw [show PyData.depth (.tuple (l.map PyData.int)) = PyData.depthAll (l.map PyData.int) + 1 from rfl, depth_ints]
    omega
theorem shaped_ltd (ls : List (List Int)) : SeqAt.shaped (.list (TD ls)) = true := by
  unfold SeqAt.shaped
  rw [show PyData.canLay0 (.list (TD ls)) = PyData.canLayAll0 (TD ls) from rfl, lay_td]
  rw [show PyData.depth (.list (TD ls)) = PyData.depthAll (TD ls) + 1 from rfl, decide_eq_true (show PyData.depthAll (TD ls) + 1 ≤ 64 by have := depth_td ls; omega)]
  rfl
theorem shaped_tup (l : List Int) : SeqAt.shaped (.tuple (l.map PyData.int)) = true := by
  unfold SeqAt.shaped
  rw [show PyData.canLay0 (.tuple (l.map PyData.int)) = PyData.canLayAll0 (l.map PyData.int) from rfl, lay_ints]
  rw [show PyData.depth (.tuple (l.map PyData.int)) = PyData.depthAll (l.map PyData.int) + 1 from rfl, depth_ints]
  rfl
theorem eqv_ltd (ls : List (List Int)) : PyData.eqv (.list (TD ls)) (.list (TD ls)) = true := SeqAt.eqv_refl _ (lay_td ls)
theorem dpAll_qs {K : PySem.W.Frag} {H : Hp} : ∀ (qs : List (Addr × List Int)), (∀ q ∈ qs, H q.1 = some (tp q.2)) → DpAll K H (qs.map fun q => V.ref q.1) (TD (qs.map (·.2)))
  | [], _ => .nil
  | q :: qs, h => .cons (.tup (SqT.of (h q (.head _))) (dpAll_ints _)) (dpAll_qs qs fun x hx => h x (.tail _ hx))
theorem any_td (p : List Int) : ∀ ls : List (List Int), (TD ls).any (fun z => PyData.eqv z (.tuple (p.map PyData.int))) = decide (p ∈ ls)
  | [] => by
    rw [decide_eq_false (by simp)]
    rfl
  | l :: r => by
    show (PyData.eqv (.tuple (l.map PyData.int)) (.tuple (p.map PyData.int)) || (TD r).any fun z => PyData.eqv z (.tuple (p.map PyData.int))) = _
    rw [any_td p r, eqv_ints]
    by_cases h : l = p
    · rw [decide_eq_true h, decide_eq_true (show p ∈ l :: r by rw [h]; exact .head _)]
      rfl
    · rw [decide_eq_false h]
      by_cases h2 : p ∈ r
      · rw [decide_eq_true h2, decide_eq_true (show p ∈ l :: r from .tail _ h2)]
        rfl
      · rw [decide_eq_false h2, decide_eq_false (show ¬ p ∈ l :: r from fun z => by
          rcases List.mem_cons.mp z with e | e
          · exact h e.symm
          · exact h2 e)]
        rfl
theorem count_td (p : List Int) : ∀ ls : List (List Int), (TD ls).countP (fun z => PyData.eqv z (.tuple (p.map PyData.int))) = ls.count p
  | [] => rfl
  | l :: r => by
    show ((.tuple (l.map PyData.int)) :: TD r).countP _ = _
    rw [List.countP_cons, count_td p r, List.count_cons, eqv_ints]
    by_cases h : l = p
    · rw [if_pos (decide_eq_true h), if_pos (by rw [h]; exact beq_self_eq_true p)]
    · rw [if_neg (by rw [decide_eq_false h]; decide), if_neg (fun z => h (eq_of_beq z))]
/-- rows in the heap -/
def Qs (H : Hp) (qs : List (Addr × List Int)) : Prop := ∀ q ∈ qs, H q.1 = some (tp q.2)
theorem Qs.same {H H' : Hp} {qs : List (Addr × List Int)} (h : Qs H qs) (s : Same H H') : Qs H' qs := fun q hq => s _ _ (h q hq)
theorem Qs.sx {H H' : Hp} {d : Addr} {qs : List (Addr × List Int)} (h : Qs H qs) (hd : Dc H d) (s : Sx d H H') : Qs H' qs := fun q hq => s _ _ (dc_ne hd (h q hq)) (h q hq)
theorem Qs.sp {Ps : List Addr} {H H' : Hp} {qs : List (Addr × List Int)} (h : Qs H qs) (g : Tg Ps H) (s : Sts Ps H H') : Qs H' qs := fun q hq => s.tup g (h q hq)
theorem Qs.y {d : Addr} {Ps : List Addr} {H H' : Hp} {qs : List (Addr × List Int)} (h : Qs H qs) (D : Dp d Ps H) (s : Sy d Ps H H') : Qs H' qs := fun q hq => D.tup s (h q hq)
theorem qs_get {qs : List (Addr × List Int)} {i : Nat} {x : V} (h : (qs.map fun q => V.ref q.1)[i]? = some x) : ∃ q, qs[i]? = some q ∧ q ∈ qs ∧ x = .ref q.1 ∧ i < qs.length := by
  rw [List.getElem?_map] at h
  obtain ⟨q, hq, rfl⟩ := Option.map_eq_some_iff.mp h
  exact ⟨q, hq, List.mem_of_getElem? hq, rfl, (List.getElem?_eq_some_iff.mp hq).1⟩
theorem Tg.updL {Ps : List Addr} {H : Hp} {D : Addr} {xs : List V} {o : HO} (t : Tg Ps H) (h : H D = some (.lst xs)) : Tg Ps (upd H D o) := fun P m => by
  obtain ⟨ps, e, k⟩ := t P m
  refine ⟨ps, ?_, k⟩
  rw [upd_ne (fun z => by rw [z, h] at e; cases e)]
  exact e
theorem bd2' {u v : Int} {m : Nat} (h1 : u.natAbs ≤ m) (h2 : v.natAbs ≤ m) : Bd [v, -u] 1 (2 * m) := by
  have := bd_line h1 h2
  rw [Int.zero_sub] at this
  exact this
/-- a point with small integers -/
def PM (m : Nat) (p : List Int) : Prop := ∃ u v : Int, p = [u, v] ∧ Pt u v ∧ u.natAbs ≤ m ∧ v.natAbs ≤ m
theorem PM.pl {m : Nat} {p : List Int} (h : PM m p) : PL p := by
  obtain ⟨u, v, e, h, _⟩ := h
  exact ⟨u, v, e, h⟩
theorem PM.mono {m n : Nat} {p : List Int} (h : PM m p) (l : m ≤ n) : PM n p := by
  obtain ⟨u, v, e, h, h1, h2⟩ := h
  exact ⟨u, v, e, h, by omega, by omega⟩
theorem bd_ln {m : Nat} {p : List Int} (h : PM m p) : Bd (ln p) 1 (2 * m) := by
  obtain ⟨u, v, rfl, _, h1, h2⟩ := h
  exact bd2' h1 h2
section
variable {P : Program} {w : World} {K : PySem.W.Frag} {mg : Str → Option Value} {base : Heap} {Ps : List Addr}
theorem lprod_snoc (ps : List (List Int)) (p : List Int) : lprod (ps ++ [p]) = ml (lprod ps) (ln p) := by
  unfold lprod
  rw [List.map_append, List.foldl_append]
  rfl
def spOfPoints (C : Addr) (Ps : List Addr) : Sp := fun vs H Q _ => ∃ (t : Addr) (qs : List (Addr × List Int)), vs = [.ref C, .ref t] ∧ H t = some (.tup (qs.map fun q => V.ref q.1)) ∧ Qs H qs ∧ (∀ q ∈ qs, PM 1000 q.2) ∧ qs.length ≤ 40 ∧ (∀ i, i ≤ qs.length → Rw (lprod ((qs.take i).map (·.2)))) ∧ Tg Ps H ∧ ∀ p H', Sts Ps H H' → Tg Ps H' → Fo C H' p (lprod (qs.map (·.2))) → Q (.ref p) H'
theorem sho_small {u : Int} (h : u.natAbs ≤ 1000) : Sho u := Nat.lt_of_le_of_lt h (by decide)
theorem ok_Form_of_points (T : Facts K mg) (TB_first_of : TabB base mg T.c_first_of T.P_first_of) (hP : T.P_first_of ∈ Ps) : FnOk P w K mg base CX0 7 T.f_Form_of_points T.fd_Form_of_points ["cls", "points"] (spOfPoints T.C_Form Ps) := by
  have G_is_point := ok_is_point (P := P) (w := w) (base := base) T TB_first_of hP
  have G_line_in := ok_line_in (P := P) (w := w) (base := base) T
  have G_product_in := ok_product_in (P := P) (w := w) (base := base) T
  have G_Told_init : FnOk P w K mg base CX0 1 T.f_Told_init T.fd_Told_init ["self", "row"] (spTold T.C_Told) := ok_Told_init T
  have G_Form_init : FnOk P w K mg base CX0 5 T.f_Form_init T.fd_Form_init ["self", "entries"] (spForm T.C_Told T.C_Form) := ok_Form_init T
  refine T.F_Form_of_points.ok sc_Form_of_points (fun vs H Q E h => ?_) (fun cdv A outer s H vs Q E hr h => ?_)
  · obtain ⟨t, qs, rfl, _⟩ := h
    rfl
  · obtain ⟨t, qs, rfl, ht, hq, hm, hl, hr', hG, q⟩ := h
    refine ⟨_, (PSs.nox (pss_cons (ps_if (pw_or (pt_not (pt_val (pe_callB call_isi (by rfl) T.z_isinstance (by decide +kernel) (pa_cons (pv 1) (pa_cons (pe_bltn (v := .ty "tuple") (by rfl) T.z_tuple (by decide +kernel) rfl) pa_nil))))) (pw_or (pt_cmpR op_gt (pe_callB call_len_seq (by rfl) T.z_len (by decide +kernel) (pa_cons (pv 1) pa_nil)) (pe_glob (v := .int 40) (by rfl) T.c_MAX_POINTS.choose_spec ⟨_, rfl⟩) (nomark _)) (pw_or1 (pt_not (pt_val (pe_callB (cr_all (by rfl)) (by rfl) T.z_all (by decide +kernel) (pa_cons (pe_lc (own := [("point", 2)]) (g := (gName 2)) (tt := tYes) (by rfl) sc_Form_of_points.nd (pi_tup (pv 1)) (blkOk_by (N := N_Form_of_points) (sc := defScope s_Form_of_points) (by decide +kernel)) (fun _ _ _ _ _ => (pg_name (i := 2) sc_Form_of_points.nd rfl (.inl rfl))) (fun _ _ _ _ _ => pts_nil) (fun _ _ _ _ _ => (pe_call G_is_point (hr.mono (by decide)) (by rfl) T.g_is_point T.F_is_point.kp T.b_is_point .nil pass0 (pa_cons (pv 2) pa_nil)))) pa_nil))))))).pt
      (pss_one ps_never)
      pss_nil)
    (pss_cons (ps_set (i := 3) sc_Form_of_points.nd rfl (.inl rfl) (pe_tup (pa_cons pe_int pa_nil)))
    (pss_cons (ps_for PassesOwn.never (by rfl) (pi_tup (pv 1)) (pg_name (i := 2) sc_Form_of_points.nd rfl (.inl rfl))
      (pss_one (ps_set (i := 3) sc_Form_of_points.nd rfl (.inl rfl) (pe_call G_product_in (hr.mono (by decide)) (by rfl) T.g_product_in T.F_product_in.kp T.b_product_in .nil pass0 (pa_cons (pv 3) (pa_cons (pe_call G_line_in (hr.mono (by decide)) (by rfl) T.g_line_in T.F_line_in.kp T.b_line_in .nil pass0 (pa_cons (pv 2) pa_nil)) pa_nil))))))
    (pss_one (ps_ret (OwnC.pe_makeV (i := 0) T.mk_Form G_Form_init (hr.mono (by decide)) T.b_Form_init rfl (by first | exact Or.inl rfl | exact Or.inr (Or.inl rfl) | exact Or.inr (Or.inr rfl)) (pa_cons (pe_make T.mk_Told G_Told_init (hr.mono (by decide)) (by rfl) T.g_Told T.b_Told_init .nil pass0 (pa_cons (pv 3) pa_nil)) pa_nil)))))))), ?_⟩
    refine ⟨_, rfl, .ref t, .ty "tuple", .type "tuple", .type "tuple", true, rfl, .ty "tuple", .base (.tup ht), kit_ty (show kitB "tuple" "tuple" = some true by decide +kernel), true, rfl, iteF ?_⟩
    refine ⟨_, rfl, t, _, rfl, .inr (SqT.of ht), _, _, rfl, rfl, _, rfl, ?_⟩
    rw [List.length_map, decide_eq_false (show ¬ ((40 : Int) < qs.length) by omega)]
    refine iteF ⟨_, rfl, t, rfl, ⟨_, SqT.of ht⟩, fun D hD => lc_tup (xs := qs.map fun q => V.ref q.1) (fun i H' => Sts Ps H H' ∧ Tg Ps H' ∧ H' D = some (.lst (List.replicate i (V.bl true)))) ⟨Sts.of (same_upd0 hD), hG.same (same_upd0 hD), upd_same⟩ (fun i H' _ hP => SqT.of (hP.1.tup hG ht)) (fun i x H' hx hP => ?_) (fun H1 hP => ?_)⟩
    · obtain ⟨sH, gH, hL⟩ := hP
      obtain ⟨z, _, hz, rfl, hi⟩ := qs_get hx
      obtain ⟨u, v, e, hp, hu, hv⟩ := hm z hz
      have kz := sH.tup hG (hq z hz)
      rw [e] at kz
      refine ⟨rfl, _, rfl, z.1, u, v, rfl, kz, sho_small hu, sho_small hv, hp, gH, fun H2 s2 g2 => ⟨_, s2.lst gH hL, ?_, fun b o nb e => ?_, ?_, ?_⟩⟩
      · rw [List.length_replicate]
        exact small1000 (by omega)
      · rw [upd_ne (ne_of_none e hD)]
        exact s2 b o nb (sH b o nb e)
      · exact g2.updL (s2.lst gH hL)
      · rw [upd_same, List.replicate_succ']
    · obtain ⟨s1, g1, hL⟩ := hP
      rw [List.length_map] at hL
      refine ⟨D, List.replicate qs.length true, rfl, SqL.of (by rw [hL, List.map_replicate]), ?_⟩
      rw [show (List.replicate qs.length true).all id = true from by
        rw [List.all_eq_true]
        intro x hx
        rw [(List.mem_replicate.mp hx).2]
        rfl]
      refine ⟨true, rfl, iteF ?_⟩
      have ht1 := s1.tup hG ht
      have hq1 := hq.sp hG s1
      refine ⟨by show 1 ≤ sizeLine; decide, fun p0 n0 => gen_upd H1 p0 (tp [1]) n0 fun H2 s2 k2 => ?_⟩
      refine ⟨_, rfl, t, rfl, ⟨_, SqT.of (s2 _ _ ht1)⟩, for_tup (xs := qs.map fun q => V.ref q.1) (fun i σ H' => ∃ y2 r, σ = [some (.ref T.C_Form), some (.ref t), y2, some (.ref r)] ∧ Same H2 H' ∧ H' r = some (tp (lprod ((qs.take i).map (·.2))))) ⟨none, p0, rfl, Same.rf _, k2⟩ (fun i σ H' _ hP => ?_) (fun i x σ H' hx hP => ?_) (fun σ H3 hP => ?_)⟩
      · obtain ⟨y2, r, _, sH, _⟩ := hP
        exact SqT.of (sH _ _ (s2 _ _ ht1))
      · obtain ⟨y2, r, rfl, sH, kr⟩ := hP
        obtain ⟨z, ez, hz, rfl, hi⟩ := qs_get hx
        obtain ⟨u, v, e, hp, hu, hv⟩ := hm z hz
        have kz := (s2.trans sH) _ _ (hq1 z hz)
        rw [e] at kz
        have R := hr' i (by omega)
        have RL : Rw (ln z.2) := (bd_ln (hm z hz)).rw (by decide) (by decide +kernel)
        rw [e] at RL
        have RL : Rw [v, -u] := RL
        refine ⟨_, rfl, _, rfl, z.1, u, v, rfl, kz, fun l1 H4 s4 k4 => ⟨r, l1, _, _, rfl, s4 _ _ kr, k4, R.ne, RL.ne, R.len, RL.len, R.sm, RL.sm, fun p5 H5 s5 _ k5 => ⟨_, p5, rfl, sH.trans (s4.trans s5), ?_⟩⟩⟩
        rw [show qs.take (i + 1) = qs.take i ++ [z] from by rw [List.take_add_one, ez]; rfl, List.map_append, List.map_cons, List.map_nil, lprod_snoc, e]
        exact k5
      · obtain ⟨y2, p2, rfl, sH, h2⟩ := hP
        rw [List.length_map, List.take_length] at h2
        refine ⟨rfl, _, rfl, ?_⟩
        refine fun x dx hx hdx hne => ⟨x, dx, .ref p2, rfl, .inl ⟨upd_same, rfl⟩, rfl, ?_⟩
        have sA : Same H3 (slH (upd (upd H3 dx (.own x)) x (.ins T.C_Told dx [])) x T.C_Told dx [some (.ref p2)]) := made hx hdx hne (Same.rf _)
        have y1 : Slt (slH (upd (upd H3 dx (.own x)) x (.ins T.C_Told dx [])) x T.C_Told dx [some (.ref p2)]) x T.C_Told dx [some (.ref p2)] := slH_slt hne
        generalize slH (upd (upd H3 dx (.own x)) x (.ins T.C_Told dx [])) x T.C_Told dx [some (.ref p2)] = H4 at sA y1 ⊢
        refine fun x2 dx2 hx2 hdx2 hne2 => ⟨x2, dx2, x, p2, rfl, .inl ⟨upd_same, rfl⟩, .inl ⟨dx, ?_⟩, fun H5 s5 => ⟨rfl, ?_⟩⟩
        · exact slt_upd (slt_upd y1 hdx2) (by rw [upd_ne (Ne.symm hne2)]; exact hx2)
        · have s6 : Same H4 (slH H5 x2 T.C_Form dx2 [some (.ref p2)]) := made hx2 hdx2 hne2 s5
          have sv := s2.trans (sH.trans (sA.trans s6))
          refine q x2 _ (s1.trans (Sts.of sv)) (g1.same sv) ⟨dx2, p2, upd_same, ?_, s6 _ _ (sA _ _ h2)⟩
          unfold slH
          rw [upd_ne hne2, upd_same]
end
end K06

set_option Elab.async false
set_option linter.all false
set_option maxRecDepth 100000
set_option maxHeartbeats 4000000
namespace K06
open PySem PySem.Spec PyProof.Rows L2 StX RZ MyR SlX OwnR OwnF EnumT GxR
section
variable {P : Program} {w : World} {K : PySem.W.Frag} {mg : Str → Option Value} {base : Heap} {Ps : List Addr}
theorem none_of {H H' : Hp} {p : Addr} (s : Same H H') (n : H' p = none) : H p = none := by
  cases e : H p with
  | none => rfl
  | some o => rw [s _ _ e] at n; cases n
def spPoints : Sp := fun vs H Q _ => ∃ (d : Addr) (n m : Nat), vs = [.ref d, .int n, .int m] ∧ Dc H d ∧ n ≤ 10 ∧ 1 ≤ m ∧ m ≤ 1000 ∧ ∀ p H' (qs : List (Addr × List Int)), Sx d H H' → Dc H' d → p ≠ d → H' p = some (.lst (qs.map fun q => V.ref q.1)) → Qs H' qs → (∀ q ∈ qs, PM m q.2) → (qs.map (·.2)).Nodup → qs.length ≤ n → (1 ≤ n → qs ≠ []) → Q (.ref p) H'
theorem ok_law_points (T : Facts K mg) : FnOk P w K mg base CX0 5 T.f_law_points T.fd_law_points ["_law_dice_here", "_law_many", "_law_most"] spPoints := by
  have G_law_point := ok_law_pointP (P := P) (w := w) (base := base) T
  refine T.F_law_points.ok sc_law_points (fun vs H Q E h => ?_) (fun cdv A outer s H vs Q E hr h => ?_)
  · obtain ⟨d, n, m, rfl, _⟩ := h
    rfl
  · obtain ⟨d, n, m, rfl, hd, hn, hm1, hm, q⟩ := h
    refine ⟨_, (PSs.nox (pss_cons (ps_set (i := 3) sc_law_points.nd rfl (.inl rfl) (pe_lst pa_nil))
    (pss_cons (ps_for PassesOwn.never (by rfl) (pi_range1 (by rfl) T.z_range (pa_cons (pv 1) pa_nil)) (pg_name (i := 4) sc_law_points.nd rfl (.inl rfl))
      (pss_cons (ps_set (i := 5) sc_law_points.nd rfl (.inl rfl) (pe_call G_law_point hr (by rfl) T.g_law_point T.F_law_point.kp T.b_law_point .nil pass0 (pa_cons (pv 0) (pa_cons (pv 2) pa_nil))))
      (pss_one (ps_set (i := 3) sc_law_points.nd rfl (.inl rfl) (pe_op op_cat (pv 3) (pe_op op_rep (pe_lst (pa_cons (pv 5) pa_nil)) (pe_callTy call_int1 (by rfl) T.z_int (by decide +kernel) (pa_cons (pe_cmpR (op_notInD (TupC.hu65 hr)) (pv 5) (pv 3) (by rfl)) pa_nil))))))))
    (pss_one (ps_ret (pv 3)))))), ?_⟩
    have z0 : 0 ≤ sizeLine := Nat.zero_le _
    have z1 : 1 ≤ sizeLine := by decide
    refine ⟨z0, fun L0 nL0 => gen_upd H L0 (.lst []) nL0 fun H1 s1 k1 => ⟨_, rfl, n, rfl, by omega, by omega, for_range (n := (n : Int).toNat) (fun i σ H' => ∃ L y4 y5, ∃ qs : List (Addr × List Int), σ = [some (.ref d), some (.int n), some (.int m), some (.ref L), y4, y5] ∧ Sx d H H' ∧ Dc H' d ∧ L ≠ d ∧ H' L = some (.lst (qs.map fun q => V.ref q.1)) ∧ Qs H' qs ∧ (∀ q ∈ qs, PM m q.2) ∧ (qs.map (·.2)).Nodup ∧ qs.length ≤ i ∧ (1 ≤ i → qs ≠ [])) ⟨L0, none, none, [], rfl, Sx.of s1, hd.same s1, hd.ne nL0, k1, (fun q hq => by cases hq), (fun q hq => by cases hq), .nil, Nat.le_refl _, fun h => absurd h (by decide)⟩ (fun i σ H2 hi hP => ?_) (fun σ H2 hP => ?_)⟩⟩
    · obtain ⟨L, y4, y5, qs, rfl, s2, d2, nL, k2, hq, hp, nd, hl, hne⟩ := hP
      refine ⟨_, rfl, _, rfl, d, m, rfl, d2, hm1, hm, fun p H3 u v s3 d3 k3 hu hv hpt => ?_⟩
      have kL : H3 L = some (.lst (qs.map fun q => V.ref q.1)) := s3 _ _ nL k2
      have hq3 := hq.sx d2 s3
      have pm : PM m [u, v] := ⟨u, v, rfl, hpt, hu, hv⟩
      refine ⟨_, rfl, _, rfl, z1, fun a na => gen_upd H3 a (.lst [.ref p]) na fun H4 s4 k4 => ⟨_, rfl, _, rfl, _, TD (qs.map (·.2)), .tup (SqT.of (s4 _ _ k3)) (dpAll_ints _), .lst (SqL.of (s4 _ _ kL)) (dpAll_qs qs (hq3.same s4)), shaped_tup _, shaped_ltd _, .inr ⟨_, rfl, ?_⟩⟩⟩
      rw [any_td]
      have l10 : qs.length < 100 := by omega
      have sl := small1000 (n := qs.length) (by omega)
      have new : ∀ (bs : List (Addr × List Int)), bs.length ≤ 1 → (∀ b ∈ bs, b = (p, [u, v])) → (bs = [] → [u, v] ∈ qs.map (·.2)) → (bs ≠ [] → ¬ [u, v] ∈ qs.map (·.2)) → ∀ M H5, Same H3 H5 → H5 M = some (.lst ((qs ++ bs).map fun q => V.ref q.1)) → H3 M = none → ∃ L y4 y5, ∃ qs : List (Addr × List Int), [some (V.ref d), some (.int n), some (.int m), some (.ref M), some (.int (0 + (i : Int))), some (.ref p)] = [some (.ref d), some (.int n), some (.int m), some (.ref L), y4, y5] ∧ Sx d H H5 ∧ Dc H5 d ∧ L ≠ d ∧ H5 L = some (.lst (qs.map fun q => V.ref q.1)) ∧ Qs H5 qs ∧ (∀ q ∈ qs, PM m q.2) ∧ (qs.map (·.2)).Nodup ∧ qs.length ≤ i + 1 ∧ (1 ≤ i + 1 → qs ≠ []) := fun bs lb hb hb0 hb1 M H5 s5 kM nM => by
        refine ⟨M, _, _, qs ++ bs, rfl, (s2.trans s3).trans (Sx.of s5), d3.same s5, d3.ne nM, kM, fun z hz => ?_, fun z hz => ?_, ?_, by rw [List.length_append]; omega, fun _ => ?_⟩
        · rcases List.mem_append.mp hz with e | e
          · exact s5 _ _ (hq3 z e)
          · rw [hb z e]
            exact s5 _ _ k3
        · rcases List.mem_append.mp hz with e | e
          · exact hp z e
          · rw [hb z e]
            exact pm
        · cases bs with
          | nil => rw [List.append_nil]; exact nd
          | cons b r =>
            have : r = [] := List.length_eq_zero_iff.mp (by rw [List.length_cons] at lb; omega)
            subst this
            rw [hb b (.head _), List.map_append]
            refine List.nodup_append.mpr ⟨nd, by simp, fun x hx y hy => ?_⟩
            simp only [List.map_cons, List.map_nil, List.mem_cons, List.not_mem_nil, or_false] at hy
            rw [hy]
            intro z
            exact hb1 (by simp) (z ▸ hx)
        · cases bs with
          | nil =>
            have := hb0 rfl
            intro z
            rw [List.append_nil] at z
            rw [z] at this
            cases this
          | cons b r => simp
      by_cases c : [u, v] ∈ qs.map (·.2)
      · rw [decide_eq_true c]
        refine ⟨a, 0, _, rfl, rfl, k4, by decide, by decide, by show 1 * 0 ≤ sizeLine; decide, fun b nb => gen_upd H4 b (.lst []) nb fun H5 s5 k5 => ⟨L, b, _, _, rfl, rfl, (s4.trans s5) _ _ kL, k5, by rw [List.length_map]; exact Nat.le_of_lt sl, fun M nM => ?_⟩⟩
        rw [List.append_nil]
        refine gen_upd H5 M _ nM fun H6 s6 k6 => new [] (by decide) (fun b hb => by cases hb) (fun _ => c) (fun h => absurd rfl h) M H6 ((s4.trans s5).trans s6) (by rw [List.append_nil]; exact k6) (none_of (s4.trans s5) nM)
      · rw [decide_eq_false c]
        refine ⟨a, 1, _, rfl, rfl, k4, by decide, by decide, by show 1 * 1 ≤ sizeLine; decide, fun b nb => gen_upd H4 b (.lst [.ref p]) nb fun H5 s5 k5 => ⟨L, b, _, _, rfl, rfl, (s4.trans s5) _ _ kL, k5, by rw [List.length_map]; exact Nat.succ_le_of_lt sl, fun M nM => ?_⟩⟩
        refine gen_upd H5 M _ nM fun H6 s6 k6 => new [(p, [u, v])] (Nat.le_refl 1) (fun b hb => by simpa using hb) (fun h => by cases h) (fun _ => c) M H6 ((s4.trans s5).trans s6) (by rw [List.map_append]; exact k6) (none_of (s4.trans s5) nM)
    · obtain ⟨L, y4, y5, qs, rfl, s2, d2, nL, k2, hq, hp, nd, hl, hne⟩ := hP
      rw [Int.toNat_natCast] at hl hne
      exact ⟨_, rfl, q L H2 qs s2 d2 nL k2 hq hp nd hl hne⟩
end
end K06

set_option Elab.async false
set_option linter.all false
set_option maxRecDepth 100000
set_option maxHeartbeats 4000000
namespace K06
open PySem PySem.Spec PyProof.Rows L2 StX RZ MyR SlX OwnR OwnF EnumT GxR
theorem eqv_nil : ∀ ls : List (List Int), PyData.eqv (.list (TD ls)) (.list []) = decide (ls = [])
  | [] => rfl
  | _ :: _ => rfl
section
variable {P : Program} {w : World} {K : PySem.W.Frag} {mg : Str → Option Value} {base : Heap} {Ps : List Addr}
structure OfOk (l : List Int) (u v : Int) : Prop where
  nz : nzr l = true
  len : l.length ≤ 90
  dok : ∀ i j, i + j + 1 ≤ l.length → DdOk i j l
  vb : ∀ i j, i + j + 1 ≤ l.length → ∃ M, Vb (dd i j l) u v M
def spOften : Sp := fun vs H Q _ => ∃ (t p : Addr) (l : List Int) (u v : Int), vs = [.ref t, .ref p] ∧ H t = some (tp l) ∧ H p = some (tp [u, v]) ∧ Pt u v ∧ OfOk l u v ∧ ∀ H', Same H H' → Q (.int (tm [v, -u] l : Nat)) H'
theorem ok_law_often (T : Facts K mg) : FnOk P w K mg base CX0 3 T.f_law_often T.fd_law_often ["_law_entries", "_law_point_here"] spOften := by
  have G_law_derived := ok_law_derived (P := P) (w := w) (base := base) T
  have G_law_value := ok_law_value (P := P) (w := w) (base := base) T
  refine T.F_law_often.ok sc_law_often (fun vs H Q E h => ?_) (fun cdv A outer s H vs Q E hr h => ?_)
  · obtain ⟨t, p, l, u, v, rfl, _⟩ := h
    rfl
  · obtain ⟨t, p, l, u, v, rfl, ht, hp, pt, ok, q⟩ := h
    refine ⟨_, (PSs.nox (pss_cons (ps_par (i := 2) (j := 3) (by rfl) sc_law_often.nd rfl rfl (by decide) rfl rfl (pa_cons pe_int (pa_cons (pe_op op_sub (pe_callB call_len_seq (by rfl) T.z_len (by decide +kernel) (pa_cons (pv 0) pa_nil)) pe_int) pa_nil)) (by rfl))
    (pss_cons (ps_for PassesOwn.never (by rfl) (pi_range1 (by rfl) T.z_range (pa_cons (pe_op op_add (pv 3) pe_int) pa_nil)) (pg_name (i := 4) sc_law_often.nd rfl (.inr rfl))
      (pss_cons (ps_setLc (i := 5) (own := [("_law_at", 6)]) (g := (gName 6)) (tt := tYes) rfl sc_law_often.nd rfl rfl (sw_true rfl rfl rfl (by decide +kernel)) (pi_range1 (by rfl) T.z_range (pa_cons (pe_op op_add (pv 4) pe_int) pa_nil)) (blkOk_by (N := N_law_often) (sc := defScope s_law_often) (by decide +kernel)) (fun _ _ _ _ _ => (pg_name (i := 6) sc_law_often.nd rfl (.inl rfl))) (fun _ _ _ _ _ => pts_nil) (fun _ _ _ _ _ => (pe_call G_law_derived hr (by rfl) T.g_law_derived T.F_law_derived.kp T.b_law_derived .nil pass0 (pa_cons (pv 0) (pa_cons (pe_op op_sub (pv 4) (pv 6)) (pa_cons (pv 6) pa_nil))))))
      (pss_cons (ps_if (pt_cmpR (op_neD (hu64 hr)) (pe_lc (own := [("_law_one", 7)]) (g := (gName 7)) (by rfl) sc_law_often.nd (pi_list (pv 5)) (blkOk_by (N := N_law_often) (sc := defScope s_law_often) (by decide +kernel)) (fun _ _ _ _ _ => (pg_name (i := 7) sc_law_often.nd rfl (.inl rfl))) (fun _ _ _ _ _ => (pts_one (pt_cmpR op_ne (pe_call G_law_value (hr.mono (by decide)) (by rfl) T.g_law_value T.F_law_value.kp T.b_law_value .nil pass0 (pa_cons (pv 7) (pa_cons (pe_ix (ix_tup : IxR _ (rIxT K)) (pv 1) pe_int (fun _ _ => rfl)) (pa_cons (pe_ix (ix_tup : IxR _ (rIxT K)) (pv 1) pe_int (fun _ _ => rfl)) pa_nil)))) pe_int (nomark _)))) (fun _ _ _ _ _ => (pv 7))) (pe_lst pa_nil) (nomark _))
        (pss_one (ps_ret (pv 2)))
        pss_nil)
      (pss_one (ps_set (i := 2) sc_law_often.nd rfl (.inl rfl) (pe_op op_add (pv 2) pe_int))))))
    (pss_one (ps_ret (pv 2)))))), ?_⟩
    have hl := ok.len
    have z0 : 0 ≤ sizeLine := Nat.zero_le _
    obtain ⟨tm1, tm2, tm3⟩ := tm_az pt ok.nz
    obtain ⟨k, ek⟩ : ∃ k, k = tm [v, -u] l := ⟨_, rfl⟩
    rw [← ek] at q tm1 tm2 tm3
    have lp : 1 ≤ l.length := by omega
    refine ⟨_, rfl, t, _, rfl, .inr (SqT.of ht), _, _, rfl, rfl, ?_⟩
    rw [List.length_map]
    refine ⟨_, _, rfl, _, rfl, _, _, rfl, rfl, _, rfl, by omega, by omega, for_range (n := ((l.length : Int) - 1 + 1).toNat) (fun i σ H' => ∃ y4 y5, σ = [some (.ref t), some (.ref p), some (.int (i : Int)), some (.int ((l.length : Int) - 1)), y4, y5, none, none] ∧ Same H H' ∧ i ≤ k) ⟨none, none, rfl, Same.rf _, Nat.zero_le _⟩ (fun i σ H1 hi hP => ?_) (fun σ H1 hP => ?_)⟩
    · obtain ⟨y4, y5, rfl, s1, ik⟩ := hP
      have hi : i < l.length := by omega
      have ei : (0 : Int) + (i : Int) + 1 = ((i + 1 : Nat) : Int) := by omega
      refine ⟨_, rfl, _, _, rfl, rfl, _, rfl, by omega, by omega, fun D hD => lc_range (n := ((0 : Int) + (i : Int) + 1).toNat) (fun j H' => Same H1 H' ∧ ∃ qs : List (Addr × List Int), H' D = some (.lst (qs.map fun q => V.ref q.1)) ∧ Qs H' qs ∧ qs.map (·.2) = (List.range j).map fun a => dd (i - a) a l) ⟨same_upd0 hD, [], upd_same, (fun q hq => by cases hq), rfl⟩ (fun j H2 hj hP => ?_) (fun H2 hP => ?_)⟩
      · obtain ⟨s2, qs, k2, hq, eq⟩ := hP
        have hj : j ≤ i := by omega
        have e1 : ((0 : Int) + (i : Int)) - (0 + (j : Int)) = ((i - j : Nat) : Int) := by omega
        have lq : qs.length = j := by
          have := congrArg List.length eq
          rw [List.length_map, List.length_map, List.length_range] at this
          exact this
        refine ⟨rfl, _, rfl, _, rfl, _, rfl, _, _, rfl, rfl, _, rfl, t, l, i - j, j, ?_, (s1.trans s2) _ _ ht, ok.dok (i - j) j (by omega), fun p3 H3 s3 k3 => ?_⟩
        · show [V.ref t, V.int ((0 : Int) + (i : Int) - (0 + (j : Int))), V.int (0 + (j : Int))] = _
          rw [e1, Int.zero_add]
        refine ⟨_, s3 _ _ k2, by rw [List.length_map, lq]; exact small1000 (by omega), fun b o e => ?_, qs ++ [(p3, dd (i - j) j l)], ?_, ?_, ?_⟩
        · rw [upd_ne (ne_of_none e hD)]
          exact s3 _ _ (s2 _ _ e)
        · rw [upd_same, List.map_append]
          rfl
        · have nD : ∀ {b : Addr} {xs : List V}, H3 b = some (.tup xs) → b ≠ D := fun h e => by
            rw [e, s3 _ _ k2] at h
            cases h
          intro z hz
          rcases List.mem_append.mp hz with e | e
          · have := s3 _ _ (hq z e)
            rw [upd_ne (nD this)]
            exact this
          · have : z = (p3, dd (i - j) j l) := by simpa using e
            rw [this, upd_ne (nD k3)]
            exact k3
        · rw [List.map_append, eq, List.range_succ, List.map_append]
          rfl
      · obtain ⟨s2, qs, k2, hq, eq⟩ := hP
        rw [show ((0 : Int) + (i : Int) + 1).toNat = i + 1 by omega] at eq
        have lq : qs.length = i + 1 := by
          have := congrArg List.length eq
          rw [List.length_map, List.length_map, List.length_range] at this
          exact this
        have eqj : ∀ (j : Nat) (z : Addr × List Int), qs[j]? = some z → z.2 = dd (i - j) j l := fun j z hz => by
          have h1 : (qs.map (·.2))[j]? = some z.2 := by rw [List.getElem?_map, hz]; rfl
          have hj : j < i + 1 := by
            have := (List.getElem?_eq_some_iff.mp hz).1
            omega
          rw [eq, List.getElem?_map, List.getElem?_range hj] at h1
          exact (Option.some.inj h1).symm
        have hp2 := (s1.trans s2) _ _ hp
        refine ⟨_, rfl, D, rfl, ⟨_, SqL.of k2⟩, fun D2 hD2 => lc_list (xs := qs.map fun q => V.ref q.1) (fun j H' => Same H2 H' ∧ ∃ zs : List (Addr × List Int), H' D2 = some (.lst (zs.map fun q => V.ref q.1)) ∧ Qs H' zs ∧ zs.length ≤ j ∧ zs.map (·.2) = ((qs.take j).map (·.2)).filter fun f => ev f u v != 0) ⟨same_upd0 hD2, [], upd_same, (fun q hq => by cases hq), Nat.le_refl _, rfl⟩ (fun j H' _ hP => SqL.of (hP.1 _ _ k2)) (fun j x H3 hx hP => ?_) (fun H3 hP => ?_)⟩
        · obtain ⟨s3, zs, k3, hz, lz, ez⟩ := hP
          obtain ⟨z, ezj, hzm, rfl, hj⟩ := qs_get hx
          have e := eqj j z ezj
          have kz := s3 _ _ (hq z hzm)
          obtain ⟨M, vb⟩ := ok.vb (i - j) j (by omega)
          rw [← e] at vb
          have dk := ok.dok (i - j) j (by omega)
          have sz : ∀ w ∈ z.2, sm w := fun w hw => dk.sy j (Nat.le_refl _) w (by
            rw [e] at hw
            exact hw)
          have nD : D2 ≠ z.1 := fun h => by rw [h, kz] at k3; cases k3
          refine ⟨rfl, _, rfl, _, rfl, p, _, 0, _, rfl, rfl, SqT.of (s3 _ _ hp2), atI_nat (j := 0) rfl, _, rfl, p, _, 1, _, rfl, rfl, SqT.of (s3 _ _ hp2), atI_nat (j := 1) rfl, z.1, z.2, u, v, M, rfl, kz, sz, vb, fun H4 s4 => ?_⟩
          have etk : (qs.take (j + 1)).map (·.2) = (qs.take j).map (·.2) ++ [z.2] := by
            rw [List.take_add_one, ezj, List.map_append]
            rfl
          refine ⟨rfl, _, rfl, ?_⟩
          by_cases c : ev z.2 u v = 0
          · rw [c]
            refine iteF ⟨s3.trans s4, zs, s4 _ _ k3, hz.same s4, by omega, ?_⟩
            rw [etk, List.filter_append, ez, List.filter_cons_of_neg (by rw [c]; decide), List.filter_nil, List.append_nil]
          · rw [decide_eq_false (fun h => c (V.int.inj h))]
            refine iteT ⟨_, rfl, _, s4 _ _ k3, by rw [List.length_map]; exact small1000 (by omega), fun b o e => ?_, zs ++ [z], ?_, ?_, by rw [List.length_append]; show zs.length + 1 ≤ _; omega, ?_⟩
            · rw [upd_ne (ne_of_none e hD2)]
              exact s4 _ _ (s3 _ _ e)
            · rw [upd_same, List.map_append]
              rfl
            · intro y hy
              have key : H4 y.1 = some (tp y.2) := by
                rcases List.mem_append.mp hy with e | e
                · exact s4 _ _ (hz y e)
                · rw [show y = z by simpa using e]
                  exact s4 _ _ kz
              rw [upd_ne (fun h => by rw [h, s4 _ _ k3] at key; cases key)]
              exact key
            · rw [etk, List.filter_append, List.map_append, ez, List.filter_cons_of_pos (by simpa using c), List.filter_nil]
              rfl
        · obtain ⟨s3, zs, k3, hz, lz, ez⟩ := hP
          rw [List.length_map, List.take_length] at ez
          rw [List.length_map] at lz
          have s03 := s1.trans (s2.trans s3)
          refine ⟨z0, fun E0 nE => gen_upd H3 E0 (.lst []) nE fun H4 s4 f4 => ⟨.list (TD (zs.map (·.2))), .list [], .lst (SqL.of (s4 _ _ k3)) (dpAll_qs zs (hz.same s4)), .lst (SqL.of f4) .nil, shaped_ltd _, shaped_ltd [], ?_⟩⟩
          rw [eqv_nil, ez, eq]
          by_cases c : Az l u v i
          · have : ((List.range (i + 1)).map fun a => dd (i - a) a l).filter (fun f => ev f u v != 0) = [] := by
              refine List.filter_eq_nil_iff.mpr fun f hf => ?_
              obtain ⟨a, ha, rfl⟩ := List.mem_map.mp hf
              rw [c a (by have := List.mem_range.mp ha; omega)]
              decide
            rw [decide_eq_true this]
            have ne : i ≠ k := fun e => tm3 (e ▸ c)
            exact ⟨_, rfl, iteF ⟨_, rfl, _, _, rfl, rfl, _, _, rfl, s03.trans s4, by omega⟩⟩
          · have ek2 : i = k := by
              rcases Nat.lt_or_ge i k with h | h
              · exact absurd (tm2 i h) c
              · omega
            have : ¬ ((List.range (i + 1)).map fun a => dd (i - a) a l).filter (fun f => ev f u v != 0) = [] := fun h => by
              refine c fun a ha => ?_
              have := List.filter_eq_nil_iff.mp h (dd (i - a) a l) (List.mem_map.mpr ⟨a, List.mem_range.mpr (by omega), rfl⟩)
              simpa using this
            rw [decide_eq_false this, ek2]
            exact ⟨_, rfl, iteT ⟨_, rfl, q H4 (s03.trans s4)⟩⟩
    · obtain ⟨y4, y5, rfl, s1, ik⟩ := hP
      exfalso
      omega
end
end K06

set_option Elab.async false
set_option linter.all false
set_option maxRecDepth 100000
set_option maxHeartbeats 4000000
namespace K06
open PySem PySem.Spec PyProof.Rows L2 StX RZ MyR SlX OwnR OwnF EnumT GxR
/-! ### sizes -/
theorem PM.cs {m : Nat} {p : List Int} (h : PM m p) : ∃ u v : Int, p = [u, v] ∧ Pt u v ∧ u.natAbs ≤ m ∧ v.natAbs ≤ m ∧ ln p = [v, -u] := by
  obtain ⟨u, v, e, h, h1, h2⟩ := h
  exact ⟨u, v, e, h, h1, h2, by rw [e]; rfl⟩
theorem tk6 {xs : List Int} {n : Nat} {u v : Int} (hx : Bd xs n (2 ^ 120)) (hn : n ≤ 13) (hp : Pt u v) (hu : u.natAbs ≤ 16) (hv : v.natAbs ≤ 16) : TmOk xs [v, -u] := by
  refine ⟨hp.nzl, hx.ne, rfl, 14, 2 ^ 120, 16, by omega, by rw [hx.len]; omega, hx.mem, fun z hz => ?_, by decide +kernel, ?_⟩
  · simp only [List.mem_cons, List.not_mem_nil, or_false] at hz
    rcases hz with e | e <;> rw [e] <;> omega
  · have lx := hx.len
    exact Nat.lt_of_le_of_lt (Nat.mul_le_mul_left _ (Nat.pow_le_pow_right (by decide +kernel) (show xs.length ≤ 14 by omega))) (by decide +kernel)
theorem of6 {xs : List Int} {n : Nat} {u v : Int} (hx : Bd xs n (2 ^ 120)) (hn : n ≤ 13) (hz : nzr xs = true) (hu : u.natAbs ≤ 16) (hv : v.natAbs ≤ 16) : OfOk xs u v := by
  have lx := hx.len
  have big : ∀ k, k ≤ 14 → xs.length ^ k * nm xs ≤ 2 ^ 176 := fun k hk => by
    have h1 : xs.length ^ k ≤ 16 ^ 14 := Nat.le_trans (Nat.pow_le_pow_left (by omega) k) (Nat.pow_le_pow_right (by decide) hk)
    exact Nat.le_trans (Nat.mul_le_mul h1 hx.nm) (by decide +kernel)
  refine ⟨hz, by omega, fun i j hij => ddOk_of hij (by omega) (Nat.lt_of_le_of_lt (big _ (by omega)) (by decide +kernel)), fun i j hij => ⟨16, hu, hv, by decide, ?_, ?_⟩⟩
  · have l1 := dd_len i j xs
    have h1 := Nat.le_trans (nm_dd i j xs (by omega)) (big (i + j) (by omega))
    exact Nat.lt_of_le_of_lt (Nat.mul_le_mul h1 (Nat.pow_le_pow_right (by decide) (show (dd i j xs).length ≤ 14 by omega))) (by decide +kernel)
  · have l1 := dd_len i j xs
    exact Nat.lt_of_le_of_lt (Nat.pow_le_pow_right (by decide) (show (dd i j xs).length + 1 ≤ 15 by omega)) (by decide +kernel)
theorem bd_lprod {m : Nat} {ps : List (List Int)} (h : ∀ p ∈ ps, PM m p) : Bd (lprod ps) ps.length ((2 * m) ^ ps.length) := by
  have key : ∀ (ps : List (List Int)) (l : List Int) (k b : Nat), Bd l k b → (∀ p ∈ ps, PM m p) → Bd ((ps.map ln).foldl ml l) (k + ps.length) (b * (2 * m) ^ ps.length) := by
    intro ps
    induction ps with
    | nil => intro l k b hl _; rw [List.length_nil, Nat.pow_zero, Nat.mul_one]; exact hl
    | cons p r ih =>
      intro l k b hl hp
      have := ih _ _ _ (bd_ml hl (bd_ln (hp p (.head _)))) fun x hx => hp x (.tail _ hx)
      rw [List.length_cons, show k + (r.length + 1) = k + 1 + r.length by omega, Nat.pow_succ, Nat.mul_comm (_ ^ _) (2 * m), ← Nat.mul_assoc]
      exact this
  have := key ps [1] 0 1 bd_one h
  rw [Nat.zero_add, Nat.one_mul] at this
  exact this
theorem bd_lprod8 {ps : List (List Int)} (h : ∀ p ∈ ps, PM 3 p) (hl : ps.length ≤ 8) : Bd (lprod ps) ps.length (2 ^ 21) := (bd_lprod h).mono (Nat.le_trans (Nat.pow_le_pow_right (by decide) hl) (by decide +kernel))
theorem allP_ln (ps : List (List Int)) (i : Nat) : allP (ps.map ln) i = lprod (ps.take i) := by
  unfold allP lprod
  rw [List.map_take]
theorem Dp.lst {d : Addr} {Ps : List Addr} {H H' : Hp} {L : Addr} {xs : List V} (D : Dp d Ps H) (s : Sy d Ps H H') (n : L ≠ d) (h : H L = some (.lst xs)) : H' L = some (.lst xs) := s _ _ n (D.tt.ne h fun _ e => by cases e) h
theorem Dp.tb {d : Addr} {Ps : List Addr} {H H' : Hp} {t : Addr} {X Y : List Int} (D : Dp d Ps H) (s : Sy d Ps H H') (h : Tb H t X Y) : Tb H' t X Y := by
  obtain ⟨r0, r1, h1, h2, h3⟩ := h
  exact ⟨r0, r1, D.tup s h1, D.tup s h2, D.tup s h3⟩
/-- the law's lists and rows -/
structure Rk (H : Hp) (d L1 L2 te : Addr) (qs ss : List (Addr × List Int)) (e : List Int) : Prop where
  n1 : L1 ≠ d
  n2 : L2 ≠ d
  k1 : H L1 = some (.lst (qs.map fun q => V.ref q.1))
  k2 : H L2 = some (.lst (ss.map fun q => V.ref q.1))
  q1 : Qs H qs
  q2 : Qs H ss
  ke : H te = some (tp e)
theorem Rk.y {H H' : Hp} {d L1 L2 te : Addr} {Ps : List Addr} {qs ss : List (Addr × List Int)} {e : List Int} (R : Rk H d L1 L2 te qs ss e) (D : Dp d Ps H) (s : Sy d Ps H H') : Rk H' d L1 L2 te qs ss e :=
  ⟨R.n1, R.n2, D.lst s R.n1 R.k1, D.lst s R.n2 R.k2, R.q1.y D s, R.q2.y D s, D.tup s R.ke⟩
structure Rq (C : Addr) (H : Hp) (d L1 L2 te tm a1 a2 a3 tt : Addr) (qs ss ws : List (Addr × List Int)) (e m f X Y : List Int) : Prop where
  R : Rk H d L1 L2 te qs ss e
  km : H tm = some (tp m)
  F1 : Fo C H a1 e
  F2 : Fo C H a2 m
  F3 : Fo C H a3 f
  tb : Tb H tt X Y
  qw : Qs H ws
theorem Rq.y {C d L1 L2 te tm a1 a2 a3 tt : Addr} {H H' : Hp} {Ps : List Addr} {qs ss ws : List (Addr × List Int)} {e m f X Y : List Int} (R : Rq C H d L1 L2 te tm a1 a2 a3 tt qs ss ws e m f X Y) (D : Dp d Ps H) (s : Sy d Ps H H') : Rq C H' d L1 L2 te tm a1 a2 a3 tt qs ss ws e m f X Y :=
  ⟨R.R.y D s, D.tup s R.km, D.fo s R.F1, D.fo s R.F2, D.fo s R.F3, D.tb s R.tb, R.qw.y D s⟩
theorem prim_pair {x y : Int} (h : [x, y] ≠ [0, 0]) : ∃ u v g : Int, prim [x, y] = [u, v] ∧ x = g * u ∧ y = g * v ∧ Pt u v ∧ (∀ m : Nat, x.natAbs ≤ m → y.natAbs ≤ m → u.natAbs ≤ m ∧ v.natAbs ≤ m) := by
  have hl := prim_len [x, y]
  have hpt : ∀ u v, prim [x, y] = [u, v] → Pt u v := fun u v e => pt_prim h e
  have hm : ∀ m : Nat, x.natAbs ≤ m → y.natAbs ≤ m → ∀ z ∈ prim [x, y], z.natAbs ≤ m := fun m h1 h2 => prim_mem fun z hz => by
    simp only [List.mem_cons, List.not_mem_nil, or_false] at hz
    rcases hz with e | e <;> rw [e] <;> assumption
  have hc : cont [x, y] = Nat.gcd x.natAbs y.natAbs := by
    show Nat.gcd x.natAbs (Nat.gcd y.natAbs 0) = _
    rw [Nat.gcd_zero_right]
  have hz : cont [x, y] ≠ 0 := fun z => by
    rw [hc] at z
    obtain ⟨a, b⟩ := Nat.gcd_eq_zero_iff.mp z
    exact h (by rw [Int.natAbs_eq_zero.mp a, Int.natAbs_eq_zero.mp b])
  have hp : part [x, y] ≠ 0 := fun z => hz (by rw [← part_abs, z]; rfl)
  have hd : ∀ z ∈ [x, y], part [x, y] ∣ z := fun z hz => Int.natAbs_dvd_natAbs.mp (by rw [part_abs]; exact Int.natAbs_dvd_natAbs.mpr (cont_dvd [x, y] z hz))
  have e0 : prim [x, y] = [x.fdiv (part [x, y]), y.fdiv (part [x, y])] := by
    unfold prim
    rw [if_neg hp]
    rfl
  refine ⟨_, _, part [x, y], e0, ?_, ?_, hpt _ _ e0, fun m h1 h2 => ⟨hm m h1 h2 _ (by rw [e0]; simp), hm m h1 h2 _ (by rw [e0]; simp)⟩⟩
  · obtain ⟨k, ek⟩ := hd x (by simp)
    generalize part [x, y] = pt at ek hp
    rw [ek, Int.mul_fdiv_cancel_left _ hp]
  · obtain ⟨k, ek⟩ := hd y (by simp)
    generalize part [x, y] = pt at ek hp
    rw [ek, Int.mul_fdiv_cancel_left _ hp]
theorem smS {x : Int} (h : x.natAbs ≤ 1000) : sm x := Nat.lt_of_le_of_lt h (by decide +kernel)
def rowAt (H : Hp) (a : Addr) : List Int := match H a with
  | some (.tup xs) => xs.map fun v => match v with
    | .int i => i
    | _ => 0
  | _ => []
theorem rowAt_tp {H : Hp} {a : Addr} {l : List Int} (h : H a = some (tp l)) : rowAt H a = l := by
  unfold rowAt
  rw [h]
  show (l.map V.int).map _ = l
  rw [List.map_map]
  exact List.map_id l
theorem plain_ints : ∀ l : List Int, PyData.plainAll (l.map PyData.int) = true
  | [] => rfl
  | _ :: r => by
    show (true && PyData.plainAll (r.map PyData.int)) = true
    rw [plain_ints r]
    rfl
theorem plain_tup (l : List Int) : PyData.plain (.tuple (l.map PyData.int)) = true := plain_ints l
theorem plain_td : ∀ ls : List (List Int), PyData.plainAll (TD ls) = true
  | [] => rfl
  | l :: r => by
    show (PyData.plain (.tuple (l.map PyData.int)) && PyData.plainAll (TD r)) = true
    rw [plain_td r, plain_tup]
    rfl
section
variable {P : Program} {w : World} {K : PySem.W.Frag} {mg : Str → Option Value} {base : Heap} {Ps : List Addr}
def spRtP (Ps : List Addr) : Sp := fun vs H Q _ => ∃ (d : Addr), vs = [.ref d] ∧ Dp d Ps H ∧ ∀ H', Sy d Ps H H' → Dp d Ps H' → Q (.bl true) H'
theorem ok_law_right (T : Facts K mg) (TB_first_index : TabB base mg T.c_first_index T.P_first_index) (TB_first_of : TabB base mg T.c_first_of T.P_first_of) (hP : T.P_first_index ∈ Ps) (hP2 : T.P_first_of ∈ Ps) : FnOk P w K mg base CX0 9 T.f_law_right T.fd_law_right ["_law_dice_here"] (spRtP Ps) := by
  have G_law_roll : FnOk P w K mg base CX0 1 T.f_law_roll T.fd_law_roll ["_law_dice_here", "_law_total"] spRoll2 := (ok_law_roll T).imp roll2
  have G_law_pick : FnOk P w K mg base CX0 2 T.f_law_pick T.fd_law_pick ["_law_dice_here", "_law_items"] spPick2 := (ok_law_pick T).imp pick2
  have G_law_live_form := ok_law_live_form (P := P) (w := w) (base := base) T
  have G_law_points := ok_law_points (P := P) (w := w) (base := base) T
  have G_law_all_product := ok_law_all_product (P := P) (w := w) (base := base) T
  have G_law_line := ok_law_line (P := P) (w := w) (base := base) T
  have G_law_plain : FnOk P w K mg base CX0 3 T.f_law_plain T.fd_law_plain ["_law_form_here"] spPrim := ok_law_plain T
  have G_law_table := ok_law_table (P := P) (w := w) (base := base) T
  have G_law_often := ok_law_often (P := P) (w := w) (base := base) T
  have G_law_point := ok_law_pointP (P := P) (w := w) (base := base) T
  have G_Form_init := ok_Form_init (P := P) (w := w) (base := base) T
  have G_Form_mul := ok_Form_mul (P := P) (w := w) (base := base) T
  have G_Form_entries := ok_Form_entries (P := P) (w := w) (base := base) T
  have G_Form_degree := ok_Form_degree (P := P) (w := w) (base := base) T
  have G_Form_value := ok_Form_value (P := P) (w := w) (base := base) T
  have G_Form_changed := ok_Form_changed (P := P) (w := w) (base := base) T
  have G_Form_times_at := ok_Form_times_at (P := P) (w := w) (base := base) T TB_first_index TB_first_of hP hP2
  have G_Form_of_points := ok_Form_of_points (P := P) (w := w) (base := base) T TB_first_of hP2
  have G_line_of := ok_line_of (P := P) (w := w) (base := base) T TB_first_of hP2
  refine T.F_law_right.ok sc_law_right (fun vs H Q E h => ?_) (fun cdv A outer s H vs Q E hr h => ?_)
  · obtain ⟨d, rfl, _⟩ := h
    rfl
  · obtain ⟨d, rfl, D0, q⟩ := h
    have z2 : 2 ≤ sizeLine := by decide
    have lg : ∀ i : Nat, i < 100 → (i : Int).natAbs.log2 < 9000 := fun i hi => Nat.lt_trans (PySem.Flt.log2_lt_of (k := 10) (by decide) (by show i < 2 ^ 10; omega)) (by decide)
    refine ⟨_, (PSs.nox (pss_cons (ps_set (i := 1) sc_law_right.nd rfl (.inr rfl) (pe_call G_law_points (hr.mono (by decide)) (by rfl) T.g_law_points T.F_law_points.kp T.b_law_points .nil pass0 (pa_cons (pv 0) (pa_cons pe_int (pa_cons pe_int pa_nil)))))
    (pss_cons (ps_setLc (i := 2) (own := [("_law_turn", 3)]) (g := (gName 3)) (tt := tYes) rfl sc_law_right.nd rfl rfl (sw_true rfl rfl rfl (by decide +kernel)) (pi_range1 (by rfl) T.z_range (pa_cons (pe_call G_law_roll (hr.mono (by decide)) (by rfl) T.g_law_roll T.F_law_roll.kp T.b_law_roll .nil pass0 (pa_cons (pv 0) (pa_cons pe_int pa_nil))) pa_nil)) (blkOk_by (N := N_law_right) (sc := defScope s_law_right) (by decide +kernel)) (fun _ _ _ _ _ => (pg_name (i := 3) sc_law_right.nd rfl (.inl rfl))) (fun _ _ _ _ _ => pts_nil) (fun _ _ _ _ _ => (pe_call G_law_pick (hr.mono (by decide)) (by rfl) T.g_law_pick T.F_law_pick.kp T.b_law_pick .nil pass0 (pa_cons (pv 0) (pa_cons (pv 1) pa_nil)))))
    (pss_cons (ps_set (i := 4) sc_law_right.nd rfl (.inl rfl) (pe_call G_law_all_product (hr.mono (by decide)) (by rfl) T.g_law_all_product T.F_law_all_product.kp T.b_law_all_product .nil pass0 (pa_cons (pe_lc (own := [("_law_point_here", 5)]) (g := (gName 5)) (tt := tYes) (by rfl) sc_law_right.nd (pi_list (pv 2)) (blkOk_by (N := N_law_right) (sc := defScope s_law_right) (by decide +kernel)) (fun _ _ _ _ _ => (pg_name (i := 5) sc_law_right.nd rfl (.inl rfl))) (fun _ _ _ _ _ => pts_nil) (fun _ _ _ _ _ => (pe_call G_law_line (hr.mono (by decide)) (by rfl) T.g_law_line T.F_law_line.kp T.b_law_line .nil pass0 (pa_cons (pv 5) pa_nil)))) pa_nil)))
    (pss_cons (ps_if (pt_cmpR (op_neD (hu64 hr)) (pe_prp (OwnC.pe_cmF (pe_glob (v := .ref T.C_Form) (by rfl) T.g_Form rfl) T.cm_Form_of_points G_Form_of_points T.b_Form_of_points (hr.mono (by decide)) (pa_cons (pe_tupleOf (by rfl) T.z_tuple (pv 2)) pa_nil)) T.oc_Form T.pr_Form_entries G_Form_entries T.b_Form_entries (hr.mono (by decide))) (pv 4) (nomark _))
      (pss_one (ps_ret pe_bl))
      pss_nil)
    (pss_cons (ps_if (pt_cmpR (op_neD (hu64 hr)) (pe_lc (own := [("_law_point_here", 5)]) (g := (gName 5)) (tt := tYes) (by rfl) sc_law_right.nd (pi_list (pv 1)) (blkOk_by (N := N_law_right) (sc := defScope s_law_right) (by decide +kernel)) (fun _ _ _ _ _ => (pg_name (i := 5) sc_law_right.nd rfl (.inl rfl))) (fun _ _ _ _ _ => pts_nil) (fun _ _ _ _ _ => (pe_prp (pe_call G_line_of hr (by rfl) T.g_line_of T.F_line_of.kp T.b_line_of .nil pass0 (pa_cons (pv 5) pa_nil)) T.oc_Form T.pr_Form_entries G_Form_entries T.b_Form_entries (hr.mono (by decide))))) (pe_lc (own := [("_law_point_here", 5)]) (g := (gName 5)) (tt := tYes) (by rfl) sc_law_right.nd (pi_list (pv 1)) (blkOk_by (N := N_law_right) (sc := defScope s_law_right) (by decide +kernel)) (fun _ _ _ _ _ => (pg_name (i := 5) sc_law_right.nd rfl (.inl rfl))) (fun _ _ _ _ _ => pts_nil) (fun _ _ _ _ _ => (pe_call G_law_line (hr.mono (by decide)) (by rfl) T.g_law_line T.F_law_line.kp T.b_law_line .nil pass0 (pa_cons (pv 5) pa_nil)))) (nomark _))
      (pss_one (ps_ret pe_bl))
      pss_nil)
    (pss_cons (ps_set (i := 6) sc_law_right.nd rfl (.inl rfl) (pe_call G_law_live_form (hr.mono (by decide)) (by rfl) T.g_law_live_form T.F_law_live_form.kp T.b_law_live_form .nil pass0 (pa_cons (pv 0) (pa_cons (pe_call G_law_roll (hr.mono (by decide)) (by rfl) T.g_law_roll T.F_law_roll.kp T.b_law_roll .nil pass0 (pa_cons (pv 0) (pa_cons pe_int pa_nil))) pa_nil))))
    (pss_cons (ps_par3 (i := 7) (j := 8) (l := 9) (by rfl) sc_law_right.nd rfl rfl rfl (by decide) (by decide) (by decide) rfl rfl rfl (pa_cons (pe_make T.mk_Form G_Form_init (hr.mono (by decide)) (by rfl) T.g_Form T.b_Form_init .nil pass0 (pa_cons (pv 4) pa_nil)) (pa_cons (pe_make T.mk_Form G_Form_init (hr.mono (by decide)) (by rfl) T.g_Form T.b_Form_init .nil pass0 (pa_cons (pv 6) pa_nil)) (pa_cons (pe_call G_law_table (hr.mono (by decide)) (by rfl) T.g_law_table T.F_law_table.kp T.b_law_table .nil pass0 (pa_cons (pv 0) (pa_cons pe_int pa_nil))) pa_nil))) (by rfl))
    (pss_cons (ps_par (i := 10) (j := 11) (by rfl) sc_law_right.nd rfl rfl (by decide) rfl rfl (pa_cons (pe_op (op_mulO T.oc_Form T.mt_Form_mul G_Form_mul T.b_Form_mul (hr.mono (by decide))) (pv 7) (pv 8)) (pa_cons pe_int pa_nil)) (by rfl))
    (pss_cons (ps_for PassesOwn.never (by rfl) (pi_list (pe_op op_cat (pv 1) (pe_lst (pa_cons (pe_call G_law_point (hr.mono (by decide)) (by rfl) T.g_law_point T.F_law_point.kp T.b_law_point .nil pass0 (pa_cons (pv 0) (pa_cons pe_int pa_nil))) (pa_cons (pe_tup (pa_cons pe_int (pa_cons pe_int pa_nil))) (pa_cons (pe_tup (pa_cons pe_int (pa_cons pe_int pa_nil))) pa_nil)))))) (pg_name (i := 5) sc_law_right.nd rfl (.inl rfl))
      (pss_cons (ps_set (i := 12) sc_law_right.nd rfl (.inl rfl) (pe_lst (pa_cons (pe_mSl (pv 7) T.oc_Form T.mt_Form_times_at T.F_Form_times_at.kp G_Form_times_at T.b_Form_times_at (hr.mono (by decide)) (pa_cons (pv 5) pa_nil)) (pa_cons (pe_mSl (pv 8) T.oc_Form T.mt_Form_times_at T.F_Form_times_at.kp G_Form_times_at T.b_Form_times_at (hr.mono (by decide)) (pa_cons (pv 5) pa_nil)) (pa_cons (pe_mSl (pv 10) T.oc_Form T.mt_Form_times_at T.F_Form_times_at.kp G_Form_times_at T.b_Form_times_at (hr.mono (by decide)) (pa_cons (pv 5) pa_nil)) pa_nil)))))
      (pss_cons (ps_if (pw_or (pt_cmpR op_ne (pe_ix ix_list (pv 12) pe_int (fun _ _ => rfl)) (pe_bm PySem.F.plainAttrs_list PySem.F.slot_list_count PySem.F.type_list_count (TupC.mt_countD (TupC.hu65 hr)) (pv 2) (pa_cons (pv 5) pa_nil)) (nomark _)) (pw_or (pt_cmpR op_ne (pe_ix ix_list (pv 12) pe_int (fun _ _ => rfl)) (pe_call G_law_often (hr.mono (by decide)) (by rfl) T.g_law_often T.F_law_often.kp T.b_law_often .nil pass0 (pa_cons (pv 4) (pa_cons (pv 5) pa_nil))) (nomark _)) (pw_or1 (pt_cmpR op_ne (pe_ix ix_list (pv 12) pe_int (fun _ _ => rfl)) (pe_call G_law_often (hr.mono (by decide)) (by rfl) T.g_law_often T.F_law_often.kp T.b_law_often .nil pass0 (pa_cons (pv 6) (pa_cons (pv 5) pa_nil))) (nomark _))))).pt
        (pss_one (ps_ret pe_bl))
        pss_nil)
      (pss_cons (ps_if (pt_cmpR op_ne (pe_ix ix_list (pv 12) pe_int (fun _ _ => rfl)) (pe_op op_add (pe_ix ix_list (pv 12) pe_int (fun _ _ => rfl)) (pe_ix ix_list (pv 12) pe_int (fun _ _ => rfl))) (nomark _))
        (pss_one (ps_ret pe_bl))
        pss_nil)
      (pss_cons (ps_if (pt_cmpR op_ne (pe_cmpR op_gt (pe_ix ix_list (pv 12) pe_int (fun _ _ => rfl)) pe_int (nomark _)) (pe_cmpR op_eq (pe_mSl (pv 10) T.oc_Form T.mt_Form_value T.F_Form_value.kp G_Form_value T.b_Form_value (hr.mono (by decide)) (pa_cons (pe_ix ix_tup (pv 5) pe_int (fun _ _ => rfl)) (pa_cons (pe_ix ix_tup (pv 5) pe_int (fun _ _ => rfl)) pa_nil))) pe_int (nomark _)) (nomark _))
        (pss_one (ps_ret pe_bl))
        pss_nil)
      (pss_cons (ps_set (i := 13) sc_law_right.nd rfl (.inl rfl) (pe_op op_sub (pe_op op_mulW (pe_ix ix_tup (pe_ix ix_tup (pv 9) pe_int (fun _ _ => rfl)) pe_int (fun _ _ => rfl)) (pe_ix ix_tup (pv 5) pe_int (fun _ _ => rfl))) (pe_op op_mulW (pe_ix ix_tup (pe_ix ix_tup (pv 9) pe_int (fun _ _ => rfl)) pe_int (fun _ _ => rfl)) (pe_ix ix_tup (pv 5) pe_int (fun _ _ => rfl)))))
      (pss_cons (ps_set (i := 14) sc_law_right.nd rfl (.inl rfl) (pe_op op_sub (pe_op op_mulW (pe_ix ix_tup (pe_ix ix_tup (pv 9) pe_int (fun _ _ => rfl)) pe_int (fun _ _ => rfl)) (pe_ix ix_tup (pv 5) pe_int (fun _ _ => rfl))) (pe_op op_mulW (pe_ix ix_tup (pe_ix ix_tup (pv 9) pe_int (fun _ _ => rfl)) pe_int (fun _ _ => rfl)) (pe_ix ix_tup (pv 5) pe_int (fun _ _ => rfl)))))
      (pss_one (ps_if (pt_cmpR op_ne (pe_mSl (pe_mSl (pv 10) T.oc_Form T.mt_Form_changed T.F_Form_changed.kp G_Form_changed T.b_Form_changed hr (pa_cons (pv 9) pa_nil)) T.oc_Form T.mt_Form_times_at T.F_Form_times_at.kp G_Form_times_at T.b_Form_times_at (hr.mono (by decide)) (pa_cons (pe_call G_law_plain (hr.mono (by decide)) (by rfl) T.g_law_plain T.F_law_plain.kp T.b_law_plain .nil pass0 (pa_cons (pe_tup (pa_cons (pv 13) (pa_cons (pv 14) pa_nil))) pa_nil)) pa_nil)) (pe_ix ix_list (pv 12) pe_int (fun _ _ => rfl)) (nomark _))
        (pss_one (ps_ret pe_bl))
        pss_nil)))))))))
    (pss_cons (ps_for PassesOwn.never (by rfl) (pi_list (pe_callB (TupC.cr_sortedTP (by rfl)) (by rfl) T.z_sorted (by decide +kernel) (pa_cons (pe_callTy (cr_setOfT (by rfl) (hu64 hr)) (by rfl) T.z_set (by decide +kernel) (pa_cons (pe_op op_cat (pv 1) (pe_lst (pa_cons (pe_tup (pa_cons pe_int (pa_cons pe_int pa_nil))) (pa_cons (pe_tup (pa_cons pe_int (pa_cons pe_int pa_nil))) (pa_cons (pe_tup (pa_cons pe_int (pa_cons pe_int pa_nil))) (pa_cons (pe_tup (pa_cons pe_int (pa_cons (pe_un un_neg pe_int) pa_nil))) pa_nil)))))) pa_nil)) pa_nil))) (pg_name (i := 5) sc_law_right.nd rfl (.inl rfl))
      (pss_one (ps_set (i := 11) sc_law_right.nd rfl (.inl rfl) (pe_op op_add (pv 11) (pe_mSl (pv 10) T.oc_Form T.mt_Form_times_at T.F_Form_times_at.kp G_Form_times_at T.b_Form_times_at (hr.mono (by decide)) (pa_cons (pv 5) pa_nil))))))
    (pss_one (ps_ret (pe_cmpR op_le (pv 11) (pe_prp (pv 10) T.oc_Form T.pr_Form_degree G_Form_degree T.b_Form_degree (hr.mono (by decide))) (nomark _))))))))))))))), ?_⟩
    refine ⟨_, rfl, d, 4, 3, rfl, D0.dd, by decide, by decide, by decide, fun L1 H1 qs s1 d1 n1 k1 hq1 hp1 nd1 lq1 ne1 => ?_⟩
    have D1 := D0.sx s1 d1
    have ne1 := ne1 (by decide)
    refine ⟨_, rfl, d, 9, rfl, d1, by decide, lg 9 (by decide), fun r H2 hr2 s2 d2 => ?_⟩
    have hr2 : (r : Int) < 9 := hr2
    have D2 := D1.sx s2 d2
    have k1 := D1.lst (Sy.ofD s2) n1 k1
    have hq1 := hq1.sx d1 s2
    refine ⟨r, rfl, by omega, by omega, fun L2 nL2 => lc_range (n := (r : Int).toNat) (fun j H' => Sx d H2 H' ∧ Dc H' d ∧ ∃ ss : List (Addr × List Int), H' L2 = some (.lst (ss.map fun q => V.ref q.1)) ∧ ss.length = j ∧ ∀ s ∈ ss, s ∈ qs) ⟨Sx.of (same_upd0 nL2), d2.same (same_upd0 nL2), [], upd_same, rfl, fun q hq => by cases hq⟩ (fun j H' hj hP => ?_) (fun H3 hP => ?_)⟩
    · obtain ⟨s3, d3, ss, k3, ls, hs⟩ := hP
      have nL := d2.ne nL2
      have lq : 0 < qs.length := List.length_pos_iff.mpr ne1
      refine ⟨rfl, _, rfl, _, rfl, d, L1, _, rfl, d3, s3 _ _ n1 k1, n1, by rw [List.length_map]; exact lq, by rw [List.length_map]; omega, fun v H4 hv s4 d4 => ?_⟩
      obtain ⟨z, hz, rfl⟩ := List.mem_map.mp hv
      refine ⟨_, s4 _ _ nL k3, by rw [List.length_map]; exact small1000 (by omega), fun b o nb e => ?_, ?_, ss ++ [z], ?_, ?_, fun y hy => ?_⟩
      · rw [upd_ne (ne_of_none e nL2)]
        exact s4 _ _ nb (s3 _ _ nb e)
      · obtain ⟨x, y, z, e⟩ := d4
        exact ⟨x, y, z, by rw [upd_ne (Ne.symm nL)]; exact e⟩
      · rw [upd_same, List.map_append]
        rfl
      · rw [List.length_append, ls]
        rfl
      · rcases List.mem_append.mp hy with e | e
        · exact hs y e
        · rw [show y = z by simpa using e]
          exact hz
    obtain ⟨s3, d3, ss, k3, ls, hs⟩ := hP
    rw [Int.toNat_natCast] at ls
    have n2 := d2.ne nL2
    have D3 := D2.sx s3 d3
    have sI : Sy d Ps H H3 := (Sy.ofD s1).trans ((Sy.ofD s2).trans (Sy.ofD s3))
    have k1 := s3 _ _ n1 k1
    have hq1 := hq1.sx d2 s3
    have hq2 : Qs H3 ss := fun z hz => hq1 z (hs z hz)
    have hp2 : ∀ z ∈ ss, PM 3 z.2 := fun z hz => hp1 z (hs z hz)
    have h1000 : ∀ {i : Nat}, i ≤ 1000 → i ≤ sizeLine := fun h => Nat.le_trans h (by decide)
    clear s1 s2 s3 d1 d2 D0 D1 D2 nL2 hr2
    have lr : r ≤ 8 := by omega
    -- the entries
    refine ⟨_, rfl, L2, rfl, ⟨_, SqL.of k3⟩, fun D hD => lc_list (xs := ss.map fun q => V.ref q.1) (fun j H' => Same H3 H' ∧ ∃ rs : List Addr, H' D = some (.lst (rs.map V.ref)) ∧ rs.length = j ∧ ∀ i (h : i < rs.length) (h2 : i < ss.length), H' rs[i] = some (tp (ln (ss[i].2)))) ⟨same_upd0 hD, [], upd_same, rfl, fun i h => absurd h (Nat.not_lt_zero i)⟩ (fun j H' _ hP => SqL.of (hP.1 _ _ k3)) (fun j x H' hx hP => ?_) (fun H4 hP => ?_)⟩
    · obtain ⟨s4, rs, k4, lrs, hrs⟩ := hP
      obtain ⟨z, ez, hz, rfl, hj⟩ := qs_get hx
      obtain ⟨u, v, e, hpt, hu, hv, el⟩ := (hp2 z hz).cs
      have kz := s4 _ _ (hq2 z hz)
      rw [e] at kz
      refine ⟨rfl, _, rfl, z.1, u, v, rfl, kz, fun p np => gen_upd H' p _ np fun H5 s5 k5 => ?_⟩
      have nD : ∀ {b : Addr} {xs : List V}, H5 b = some (.tup xs) → b ≠ D := fun h e => by
        rw [e, s5 _ _ k4] at h
        cases h
      refine ⟨_, s5 _ _ k4, by rw [List.length_map]; exact small1000 (by omega), fun b o e => ?_, rs ++ [p], ?_, ?_, fun i h h2 => ?_⟩
      · rw [upd_ne (ne_of_none e hD)]
        exact s5 _ _ (s4 _ _ e)
      · rw [upd_same, List.map_append]
        rfl
      · rw [List.length_append, lrs]
        rfl
      · have key : H5 (rs ++ [p])[i] = some (tp (ln (ss[i].2))) := by
          by_cases c : i < rs.length
          · rw [List.getElem_append_left c]
            exact s5 _ _ (hrs i c h2)
          · have ei : i = j := by
              rw [List.length_append] at h
              have : [p].length = 1 := rfl
              omega
            subst ei
            rw [List.getElem_append_right (by omega)]
            have : (ss[i]'h2) = z := (List.getElem?_eq_some_iff.mp ez).2
            rw [this, el]
            simp only [lrs, Nat.sub_self, List.getElem_cons_zero]
            rw [k5, Int.zero_sub]
        rw [upd_ne (nD key)]
        exact key
    · obtain ⟨s4, rs, k4, lrs, hrs⟩ := hP
      rw [List.length_map] at lrs
      obtain ⟨ps, eps⟩ : ∃ ps, ps = ss.map (·.2) := ⟨_, rfl⟩
      have lps : ps.length = r := by rw [eps, List.length_map, ls]
      have hps : ∀ p ∈ ps, PM 3 p := fun p hp => by
        rw [eps] at hp
        obtain ⟨z, hz, rfl⟩ := List.mem_map.mp hp
        exact hp2 z hz
      have rwL : ∀ i, Rw (lprod (ps.take i)) := fun i => by
        have h1 : (ps.take i).length ≤ 8 := by rw [List.length_take]; omega
        exact (bd_lprod8 (fun p hp => hps p (List.mem_of_mem_take hp)) h1).rw (by omega) (by decide +kernel)
      refine ⟨D, rs, ps.map ln, rfl, k4, by rw [lrs, List.length_map, lps, ls], fun i h h2 => ?_, fun i h => ?_, fun te H5 s5 ke => ?_⟩
      · rw [List.length_map] at h
        have h3 : i < ss.length := by omega
        refine ⟨?_, ?_⟩
        · rw [hrs i h2 h3]
          simp only [List.getElem_map, eps]
        · rw [List.getElem_map]
          exact (bd_ln (hps _ (List.getElem_mem _))).rw (by decide) (by decide +kernel)
      · rw [allP_ln]
        exact rwL i
      rw [allP_ln, List.length_map, List.take_length] at ke
      have be : Bd (lprod ps) r (2 ^ 21) := by
        have := bd_lprod8 hps (by omega)
        rw [lps] at this
        exact this
      have nze : nzr (lprod ps) = true := nzr_lprod fun p hp => (hps p hp).pl
      have R : Rk H5 d L1 L2 te qs ss (lprod ps) := ⟨n1, n2, (s4.trans s5) _ _ k1, (s4.trans s5) _ _ k3, hq1.same (s4.trans s5), hq2.same (s4.trans s5), ke⟩
      have D5 := D3.same (s4.trans s5)
      have sI := sI.trans (Sy.of (s4.trans s5))
      clear s4 s5 k4 hrs lrs rs hD D k1 k3 hq1 hq2 ke D3 n1 n2
      obtain ⟨e, ee⟩ : ∃ e, e = lprod ps := ⟨_, rfl⟩
      rw [← ee] at R be nze
      dsimp only []
      refine ⟨rfl, _, rfl, .inl ⟨L2, _, rfl, SqL.of R.k2, fun p6 n6 => gen_upd H5 p6 _ n6 fun H6 s6 k6 => ?_⟩⟩
      have eps2 : ∀ i, (ss.take i).map (·.2) = ps.take i := fun i => by rw [eps, List.map_take]
      refine ⟨p6, ss, rfl, k6, R.q2.same s6, fun z hz => (hp2 z hz).mono (by decide), by omega, fun i _ => by rw [eps2]; exact rwL i, D5.tt.same s6, fun a7 H7 s7 g7 F7 => prop_ent F7 fun t7 k7 => ?_⟩
      rw [← eps, ← ee] at k7
      have s57 : Sy d Ps H5 H7 := (Sy.of s6).trans (Sy.ofP s7)
      have R := R.y D5 s57
      have D7 : Dp d Ps H7 := (D5.same s6).sp s7 g7
      have sI := sI.trans s57
      clear s57 s6 s7 k6 F7 D5 g7
      refine ⟨_, rfl, ne_ints (SqT.of k7) (SqT.of R.ke) ?_⟩
      rw [decide_eq_true rfl]
      refine ⟨false, rfl, iteF ?_⟩
      clear k7
      have lqs : qs.length ≤ 4 := lq1
      refine ⟨_, rfl, L1, rfl, ⟨_, SqL.of R.k1⟩, fun D hD => lc_list (xs := qs.map fun q => V.ref q.1) (fun j H' => Sts Ps H7 H' ∧ Tg Ps H' ∧ ∃ zs : List (Addr × List Int), H' D = some (.lst (zs.map fun q => V.ref q.1)) ∧ Qs H' zs ∧ zs.length = j ∧ zs.map (·.2) = ((qs.take j).map (·.2)).map ln) ⟨Sts.of (same_upd0 hD), D7.tt.same (same_upd0 hD), [], upd_same, (fun q hq => by cases hq), rfl, rfl⟩ (fun j H' _ hP => SqL.of (hP.1.lst D7.tt R.k1)) (fun j x H' hx hP => ?_) (fun H8 hP => ?_)⟩
      · obtain ⟨s8, g8, zs, k8, hz8, lz, ez⟩ := hP
        obtain ⟨z, ezj, hz, rfl, hj⟩ := qs_get hx
        obtain ⟨u, v, e', hpt, hu, hv, el⟩ := (hp1 z hz).cs
        have kz := s8.tup D7.tt (R.q1 z hz)
        rw [e'] at kz
        refine ⟨rfl, _, rfl, z.1, u, v, rfl, kz, sho_small (by omega), sho_small (by omega), hpt, g8, fun a9 H9 s9 g9 F9 => prop_ent F9 fun t9 k9 => ?_⟩
        have k8' := s9.lst g8 k8
        refine ⟨_, k8', by rw [List.length_map, lz]; exact small1000 (by omega), fun b o nb e => ?_, g9.updL k8', zs ++ [(t9, [v, -u])], ?_, fun y hy => ?_, ?_, ?_⟩
        · rw [upd_ne (ne_of_none e hD)]
          exact s9 b o nb (s8 b o nb e)
        · rw [upd_same, List.map_append]
          rfl
        · have key : H9 y.1 = some (tp y.2) := by
            rcases List.mem_append.mp hy with e | e
            · exact hz8.sp g8 s9 y e
            · rw [show y = (t9, [v, -u]) by simpa using e]
              exact k9
          rw [upd_ne (fun h => by rw [h, k8'] at key; cases key)]
          exact key
        · rw [List.length_append, lz]
          rfl
        · rw [List.map_append, ez, List.take_add_one, ezj, List.map_append, List.map_append]
          show _ ++ [[v, -u]] = _ ++ [ln z.2]
          rw [el]
      obtain ⟨s8, g8, zs, k8, hz8, lz, ez⟩ := hP
      rw [List.length_map] at lz
      rw [List.length_map, List.take_length] at ez
      have R := R.y D7 (Sy.ofP s8)
      have D8 := D7.sp s8 g8
      have sI := sI.trans (Sy.ofP s8)
      clear s8 g8 D7 hD
      refine ⟨_, rfl, L1, rfl, ⟨_, SqL.of R.k1⟩, fun D' hD' => lc_list (xs := qs.map fun q => V.ref q.1) (fun j H' => Same H8 H' ∧ ∃ zs : List (Addr × List Int), H' D' = some (.lst (zs.map fun q => V.ref q.1)) ∧ Qs H' zs ∧ zs.length = j ∧ zs.map (·.2) = ((qs.take j).map (·.2)).map ln) ⟨same_upd0 hD', [], upd_same, (fun q hq => by cases hq), rfl, rfl⟩ (fun j H' _ hP => SqL.of (hP.1 _ _ R.k1)) (fun j x H' hx hP => ?_) (fun H9 hP => ?_)⟩
      · obtain ⟨s9, ys, k9, hy9, ly, ey⟩ := hP
        obtain ⟨z, ezj, hz, rfl, hj⟩ := qs_get hx
        obtain ⟨u, v, e', hpt, hu, hv, el⟩ := (hp1 z hz).cs
        have kz := s9 _ _ (R.q1 z hz)
        rw [e'] at kz
        refine ⟨rfl, _, rfl, z.1, u, v, rfl, kz, fun p np => gen_upd H' p _ np fun H10 s10 k10 => ?_⟩
        have k9' := s10 _ _ k9
        refine ⟨_, k9', by rw [List.length_map, ly]; exact small1000 (by omega), fun b o e => ?_, ys ++ [(p, [v, -u])], ?_, fun y hy => ?_, ?_, ?_⟩
        · rw [upd_ne (ne_of_none e hD')]
          exact s10 _ _ (s9 _ _ e)
        · rw [upd_same, List.map_append]
          rfl
        · have key : H10 y.1 = some (tp y.2) := by
            rcases List.mem_append.mp hy with e | e
            · exact s10 _ _ (hy9 y e)
            · rw [show y = (p, [v, -u]) by simpa using e]
              show H10 p = some (tp [v, -u])
              rw [k10, Int.zero_sub]
          rw [upd_ne (fun h => by rw [h, k9'] at key; cases key)]
          exact key
        · rw [List.length_append, ly]
          rfl
        · rw [List.map_append, ey, List.take_add_one, ezj, List.map_append, List.map_append]
          show _ ++ [[v, -u]] = _ ++ [ln z.2]
          rw [el]
      obtain ⟨s9, ys, k9, hy9, ly, ey⟩ := hP
      rw [List.length_map, List.take_length] at ey
      refine ⟨.list (TD (zs.map (·.2))), .list (TD (ys.map (·.2))), .lst (SqL.of (s9 _ _ k8)) (dpAll_qs zs (hz8.same s9)), .lst (SqL.of k9) (dpAll_qs ys hy9), shaped_ltd _, shaped_ltd _, ?_⟩
      rw [ez, ey, eqv_ltd]
      refine ⟨false, rfl, iteF ?_⟩
      have R := R.y D8 (Sy.of s9)
      have D9 := D8.same s9
      have sI := sI.trans (Sy.of s9)
      clear s9 k9 k8 hz8 hy9 ey ez ly lz ys zs D8 hD' D' D
      refine ⟨_, rfl, _, rfl, d, 4, rfl, D9.dd, by decide, lg 4 (by decide), fun n10 H10 hn10 s10 d10 => ⟨d, n10, rfl, d10, by omega, fun tm H11 m s11 d11 km bm nzm => ?_⟩⟩
      have hn10 : (n10 : Int) < 4 := hn10
      have s911 : Sy d Ps H9 H11 := (Sy.ofD s10).trans (Sy.ofD s11)
      have R := R.y D9 s911
      have D11 := (D9.sx s10 d10).sx s11 d11
      have sI := sI.trans s911
      clear s911 s10 s11 d10 d11 D9
      have le := be.len
      have lm := bm.len
      have Te : Tr e := be.tr (by omega) (by decide +kernel)
      have Tm : Tr m := bm.tr (by omega) (by decide +kernel)
      refine ⟨_, rfl, fun a1 dx x1 x2 x3 => mkF x1 x2 x3 R.ke Te.pos (by omega) Te.sho fun H12 s12 F1 => ⟨_, rfl, fun a2 dx x1 x2 x3 => mkF x1 x2 x3 (s12 _ _ km) Tm.pos (by omega) Tm.sho fun H13 s13 F2 => ⟨_, rfl, d, 2, rfl, (D11.same (s12.trans s13)).dd, by decide, by decide, fun tt H14 a b c e' s14 d14 tb ha hb hc he hdet => ⟨_, _, _, rfl, ?_⟩⟩⟩⟩
      have s1114 : Sy d Ps H11 H14 := (Sy.of (s12.trans s13)).trans (Sy.ofD s14)
      have R := R.y D11 s1114
      have D13 := D11.same (s12.trans s13)
      have F1 := D13.fo (Sy.ofD s14) (F1.same s13)
      have F2 := D13.fo (Sy.ofD s14) F2
      have km := D11.tup s1114 km
      have D14 := D13.sx s14 d14
      have sI := sI.trans s1114
      clear s1114 s12 s13 s14 d14 D11 D13
      refine ⟨_, rfl, _, rfl, mul_forms F1 F2 Te.rw Tm.rw (by omega) fun a3 H15 s15 F3 => ⟨_, _, rfl, ?_⟩⟩
      have R := R.y D14 (Sy.of s15)
      have D15 := D14.same s15
      have F1 := F1.same s15
      have F2 := F2.same s15
      have tb := tb.same s15
      have km := s15 _ _ km
      have sI := sI.trans (Sy.of s15)
      clear s15 D14
      have bb : Bd (ml e m) (r + n10) (2 ^ 21 * 2 ^ 50) := bd_ml be bm
      have nzb : nzr (ml e m) = true := nzr_ml nze nzm
      obtain ⟨f, ef⟩ : ∃ f, f = ml e m := ⟨_, rfl⟩
      rw [← ef] at F3 bb nzb
      have lf := bb.len
      refine st_norm [some (.ref d), some (.ref L1), some (.ref L2), none, some (.ref te), none, some (.ref tm), some (.ref a1), some (.ref a2), some (.ref tt), some (.ref a3), some (.int 0), none, none, none] rfl ?_
      refine ⟨_, rfl, _, rfl, d, 4, rfl, D15.dd, by decide, by decide, fun p16 H16 u0 v0 s16 d16 k16 hu0 hv0 hp0 => ⟨z2, fun p17 n17 => gen_upd H16 p17 (tp [1, 0]) n17 fun H17 s17 k17 => ⟨z2, fun p18 n18 => gen_upd H17 p18 (tp [0, 1]) n18 fun H18 s18 k18 => ⟨by show 3 ≤ sizeLine; decide, fun L19 n19 => gen_upd H18 L19 (.lst [.ref p16, .ref p17, .ref p18]) n19 fun H19 s19 k19 => ?_⟩⟩⟩⟩
      have R16 := R.y D15 (Sy.ofD s16)
      refine ⟨L1, L19, _, _, rfl, rfl, (s17.trans (s18.trans s19)) _ _ R16.k1, k19, by rw [List.length_map]; exact h1000 (by show qs.length + 3 ≤ 1000; omega), fun L20 n20 => gen_upd H19 L20 _ n20 fun H20 s20 k20 => ?_⟩
      have s1520 : Sy d Ps H15 H20 := (Sy.ofD s16).trans (Sy.of (s17.trans (s18.trans (s19.trans s20))))
      have D16 := D15.sx s16 d16
      have nL20 : L20 ≠ d := (D16.same (s17.trans (s18.trans s19))).dd.ne n20
      have D20 := D16.same (s17.trans (s18.trans (s19.trans s20)))
      have R := R.y D15 s1520
      have F1 := D15.fo s1520 F1
      have F2 := D15.fo s1520 F2
      have F3 := D15.fo s1520 F3
      have tb := D15.tb s1520 tb
      have km := D15.tup s1520 km
      have sI := sI.trans s1520
      obtain ⟨ws, ews⟩ : ∃ ws, ws = qs ++ [(p16, [u0, v0]), (p17, [1, 0]), (p18, [0, 1])] := ⟨_, rfl⟩
      have k20 : H20 L20 = some (.lst (ws.map fun q => V.ref q.1)) := by
        rw [k20, ews, List.map_append]
        rfl
      have hqw : Qs H20 ws := fun z hz => by
        rw [ews] at hz
        rcases List.mem_append.mp hz with e | e
        · exact R.q1 z e
        · simp only [List.mem_cons, List.not_mem_nil, or_false] at e
          rcases e with e | e | e <;> rw [e]
          · exact (s17.trans (s18.trans (s19.trans s20))) _ _ k16
          · exact (s18.trans (s19.trans s20)) _ _ k17
          · exact (s19.trans s20) _ _ k18
      have hpw : ∀ z ∈ ws, PM 4 z.2 := fun z hz => by
        rw [ews] at hz
        rcases List.mem_append.mp hz with e | e
        · exact (hp1 z e).mono (by decide)
        · simp only [List.mem_cons, List.not_mem_nil, or_false] at e
          rcases e with e | e | e <;> rw [e]
          · exact ⟨u0, v0, rfl, hp0, hu0, hv0⟩
          · exact ⟨1, 0, rfl, ⟨rfl, by rw [fo_pair]; decide⟩, by decide, by decide⟩
          · exact ⟨0, 1, rfl, ⟨rfl, by rw [fo_pair]; decide⟩, by decide, by decide⟩
      clear s1520 s16 s17 s18 s19 s20 k16 k17 k18 k19 R16 D15 D16 d16 n17 n18 n19 n20
      have RQ : Rq T.C_Form H20 d L1 L2 te tm a1 a2 a3 tt qs ss ws e m f [a, b] [c, e'] := ⟨R, km, F1, F2, F3, tb, hqw⟩
      clear R km F1 F2 F3 tb hqw
      have z3 : 3 ≤ sizeLine := by decide
      have be' : Bd e r (2 ^ 120) := be.mono (by decide +kernel)
      have bm' : Bd m n10 (2 ^ 120) := bm.mono (by decide +kernel)
      have bf' : Bd f (r + n10) (2 ^ 120) := bb.mono (by decide +kernel)
      refine ⟨L20, rfl, ⟨_, SqL.of k20⟩, for_list (xs := ws.map fun q => V.ref q.1) (fun j σ H' => ∃ y5 y12 y13 y14, σ = [some (.ref d), some (.ref L1), some (.ref L2), none, some (.ref te), y5, some (.ref tm), some (.ref a1), some (.ref a2), some (.ref tt), some (.ref a3), some (.int 0), y12, y13, y14] ∧ Sy d Ps H20 H' ∧ Dp d Ps H') ⟨none, none, none, none, rfl, Sy.rf _ _ _, D20⟩ (fun j σ H' _ hP => ?_) (fun j x σ H21 hx hP => ?_) (fun σ H21 hP => ?_)⟩
      · obtain ⟨y5, y12, y13, y14, _, sH, _⟩ := hP
        exact SqL.of (D20.lst sH nL20 k20)
      · obtain ⟨y5, y12, y13, y14, rfl, s21, D21⟩ := hP
        obtain ⟨z, ezj, hz, rfl, hj⟩ := qs_get hx
        obtain ⟨u, v, ez, hpt, hu, hv, el⟩ := (hpw z hz).cs
        have Q1 := RQ.y D20 s21
        have kz := Q1.qw z hz
        rw [ez] at kz
        have su := sho_small (u := u) (by omega)
        have sv := sho_small (u := v) (by omega)
        have u16 : u.natAbs ≤ 16 := by omega
        have v16 : v.natAbs ≤ 16 := by omega
        have t1 := tk6 be' (by omega) hpt u16 v16
        have t2 := tk6 bm' (by omega) hpt u16 v16
        have t3 := tk6 bf' (by omega) hpt u16 v16
        refine ⟨_, rfl, a1, _, _, rfl, Q1.F1.sl, _, rfl, a1, z.1, e, u, v, rfl, Q1.F1, nze, kz, su, sv, hpt, t1, D21.tt, fun H22 s22 g22 => ?_⟩
        have Q2 := Q1.y D21 (Sy.ofP s22)
        have D22 := D21.sp s22 g22
        refine ⟨_, rfl, a2, _, _, rfl, Q2.F2.sl, _, rfl, a2, z.1, m, u, v, rfl, Q2.F2, nzm, s22.tup D21.tt kz, su, sv, hpt, t2, D22.tt, fun H23 s23 g23 => ?_⟩
        have Q3 := Q2.y D22 (Sy.ofP s23)
        have D23 := D22.sp s23 g23
        refine ⟨_, rfl, a3, _, _, rfl, Q3.F3.sl, _, rfl, a3, z.1, f, u, v, rfl, Q3.F3, nzb, s23.tup D22.tt (s22.tup D21.tt kz), su, sv, hpt, t3, D23.tt, fun H24 s24 g24 => ⟨z3, fun Lt nLt => gen_upd H24 Lt _ nLt fun H25 s25 k25 => ?_⟩⟩
        have Q4 := Q3.y D23 (Sy.ofP s24)
        have D24 := D23.sp s24 g24
        have D25 := D24.same s25
        have Q5 := Q4.y D24 (Sy.of s25)
        have nLt2 : Lt ≠ d := D24.dd.ne nLt
        have s2125 : Sy d Ps H21 H25 := (Sy.ofP s22).trans ((Sy.ofP s23).trans ((Sy.ofP s24).trans (Sy.of s25)))
        have kz := D21.tup s2125 kz
        have s2025 := s21.trans s2125
        clear s2125 s21 s22 s23 s24 s25 g22 g23 g24 Q1 Q2 Q3 Q4 D21 D22 D23 D24 nLt t1 t2 t3
        have c1 : K06.tm [v, -u] e = ps.count [u, v] := by
          rw [ee]
          exact tm_lprod (q := [u, v]) ⟨u, v, rfl, hpt⟩ fun p hp => (hps p hp).pl
        have c2 : K06.tm [v, -u] f = K06.tm [v, -u] e + K06.tm [v, -u] m := by
          rw [ef]
          exact tm_add hpt nze nzm
        have c3 := tm_pos hpt nzb
        obtain ⟨T1, eT1⟩ : ∃ t, t = K06.tm [v, -u] e := ⟨_, rfl⟩
        obtain ⟨T2, eT2⟩ : ∃ t, t = K06.tm [v, -u] m := ⟨_, rfl⟩
        obtain ⟨T3, eT3⟩ : ∃ t, t = K06.tm [v, -u] f := ⟨_, rfl⟩
        rw [← eT1, ← eT2, ← eT3] at k25
        rw [← eT1] at c1 c2
        rw [← eT2, ← eT3] at c2
        rw [← eT3] at c3
        dsimp only [gName]
        refine st_norm [some (.ref d), some (.ref L1), some (.ref L2), none, some (.ref te), some (.ref z.1), some (.ref tm), some (.ref a1), some (.ref a2), some (.ref tt), some (.ref a3), some (.int 0), some (.ref Lt), y13, y14] rfl ?_
        have at0 : ∀ {H : Hp}, H Lt = some (.lst [.int T1, .int T2, .int T3]) → SqL K H Lt [.int T1, .int T2, .int T3] := fun h => SqL.of h
        refine ⟨_, rfl, Lt, _, 0, _, rfl, rfl, SqL.of k25, atI_nat (j := 0) rfl, _, rfl, .inl ⟨rfl, _, SqL.of Q5.R.k2⟩, _, rfl, L2, .ref z.1, .tuple ([u, v].map PyData.int), TD (ss.map (·.2)), rfl, rfl, .lst (SqL.of Q5.R.k2) (dpAll_qs ss Q5.R.q2), .tup (SqT.of kz) (dpAll_ints _), plain_td _, plain_tup _, ?_, ?_⟩
        · rw [show (PyData.tuple ([u, v].map PyData.int)).depth = PyData.depthAll ([u, v].map PyData.int) + 1 from rfl, depth_ints]
          decide
        dsimp only []
        rw [count_td, ← eps, ← c1]
        refine ⟨rfl, _, rfl, ?_⟩
        rw [decide_eq_true rfl]
        refine iteF ⟨_, rfl, Lt, _, 0, _, rfl, rfl, SqL.of k25, atI_nat (j := 0) rfl, _, rfl, _, rfl, te, z.1, e, u, v, rfl, Q5.R.ke, kz, hpt, of6 be' (by omega) nze u16 v16, fun H26 s26 => ?_⟩
        rw [← eT1]
        refine ⟨rfl, _, rfl, ?_⟩
        rw [decide_eq_true rfl]
        refine iteF ⟨_, rfl, Lt, _, 1, _, rfl, rfl, SqL.of (s26 _ _ k25), atI_nat (j := 1) rfl, _, rfl, _, rfl, tm, z.1, m, u, v, rfl, s26 _ _ Q5.km, s26 _ _ kz, hpt, of6 bm' (by omega) nzm u16 v16, fun H27 s27 => ?_⟩
        rw [← eT2]
        refine ⟨rfl, _, rfl, ?_⟩
        rw [decide_eq_true rfl]
        have s2527 : Same H25 H27 := s26.trans s27
        have Q7 := Q5.y D25 (Sy.of s2527)
        have D27 := D25.same s2527
        have k27 := s2527 _ _ k25
        have kz := s2527 _ _ kz
        have s2027 := s2025.trans (Sy.of s2527)
        clear s26 s27 s2527 s2025 k25 Q5 D25
        refine iteF ?_
        refine ⟨_, rfl, Lt, _, 2, _, rfl, rfl, SqL.of k27, atI_nat (j := 2) rfl, _, rfl, Lt, _, 0, _, rfl, rfl, SqL.of k27, atI_nat (j := 0) rfl, _, rfl, Lt, _, 1, _, rfl, rfl, SqL.of k27, atI_nat (j := 1) rfl, _, _, rfl, rfl, rfl, _, rfl, ?_⟩
        rw [decide_eq_true (congrArg V.int (show ((T3 : Nat) : Int) = (T1 : Int) + (T2 : Int) by omega))]
        refine iteF ?_
        have Vf : Vb f u v 4 := ⟨hu, hv, by decide, by
          refine Nat.lt_of_le_of_lt (Nat.mul_le_mul bf'.nm (Nat.pow_le_pow_right (by decide) (show f.length ≤ 12 by omega))) (by decide +kernel), Nat.lt_of_le_of_lt (Nat.pow_le_pow_right (by decide) (show f.length + 1 ≤ 13 by omega)) (by decide +kernel)⟩
        have smf : ∀ z ∈ f, sm z := (bf'.rw (by omega) (by decide +kernel)).sm
        refine ⟨_, rfl, Lt, _, 2, _, rfl, rfl, SqL.of k27, atI_nat (j := 2) rfl, _, _, rfl, rfl, _, rfl, a3, _, _, rfl, Q7.F3.sl, _, rfl, z.1, _, 0, _, rfl, rfl, SqT.of kz, atI_nat (j := 0) rfl, _, rfl, z.1, _, 1, _, rfl, rfl, SqT.of kz, atI_nat (j := 1) rfl, a3, f, u, v, 4, rfl, Q7.F3, smf, Vf, su, sv, fun H28 s28 => ⟨rfl, rfl, _, rfl, ?_⟩⟩
        have e28 : (decide ((0 : Int) < (T3 : Int))) = decide (V.int (ev f u v) = V.int 0) := by
          refine decide_eq_decide.mpr ⟨fun h => ?_, fun h => ?_⟩
          · rw [c3.mp (by omega)]
          · have := c3.mpr (V.int.inj h)
            omega
        rw [decide_eq_true (show V.bl (decide ((0 : Int) < (T3 : Int))) = V.bl (decide (V.int (ev f u v) = V.int 0)) from congrArg V.bl e28)]
        refine iteF ?_
        have Q8 := Q7.y D27 (Sy.of s28)
        have D28 := D27.same s28
        have k28 := s28 _ _ k27
        have kz := s28 _ _ kz
        have s2028 := s2027.trans (Sy.of s28)
        clear s28 s2027 Q7 D27 k27 e28
        obtain ⟨r0, r1, h1, h2, h3⟩ := Q8.tb
        have sma : sm a := smS (by omega)
        have smb : sm b := smS (by omega)
        have smc : sm c := smS (by omega)
        have sme : sm e' := smS (by omega)
        have smu : sm u := smS (by omega)
        have smv : sm v := smS (by omega)
        refine ⟨_, rfl, tt, _, 1, _, rfl, rfl, SqT.of h1, atI_nat (j := 1) rfl, r1, _, 1, _, rfl, rfl, SqT.of h3, atI_nat (j := 1) rfl, _, rfl, z.1, _, 0, _, rfl, rfl, SqT.of kz, atI_nat (j := 0) rfl, _, _, rfl, rfl, sm_mul sme smu, _, rfl, tt, _, 0, _, rfl, rfl, SqT.of h1, atI_nat (j := 0) rfl, r0, _, 1, _, rfl, rfl, SqT.of h2, atI_nat (j := 1) rfl, _, rfl, z.1, _, 1, _, rfl, rfl, SqT.of kz, atI_nat (j := 1) rfl, _, _, rfl, rfl, sm_mul smb smv, _, _, rfl, rfl, ?_⟩
        refine ⟨_, rfl, tt, _, 0, _, rfl, rfl, SqT.of h1, atI_nat (j := 0) rfl, r0, _, 0, _, rfl, rfl, SqT.of h2, atI_nat (j := 0) rfl, _, rfl, z.1, _, 1, _, rfl, rfl, SqT.of kz, atI_nat (j := 1) rfl, _, _, rfl, rfl, sm_mul sma smv, _, rfl, tt, _, 1, _, rfl, rfl, SqT.of h1, atI_nat (j := 1) rfl, r1, _, 0, _, rfl, rfl, SqT.of h3, atI_nat (j := 0) rfl, _, rfl, z.1, _, 0, _, rfl, rfl, SqT.of kz, atI_nat (j := 0) rfl, _, _, rfl, rfl, sm_mul smc smu, _, _, rfl, rfl, ?_⟩
        dsimp only [gName]
        obtain ⟨x, ex⟩ : ∃ x, x = e' * u - b * v := ⟨_, rfl⟩
        obtain ⟨y, ey⟩ : ∃ y, y = a * v - c * u := ⟨_, rfl⟩
        refine st_norm [some (.ref d), some (.ref L1), some (.ref L2), none, some (.ref te), some (.ref z.1), some (.ref tm), some (.ref a1), some (.ref a2), some (.ref tt), some (.ref a3), some (.int 0), some (.ref Lt), some (.int x), some (.int y)] (by rw [ex, ey]; rfl) ?_
        have m8 : ∀ {p q : Int}, p.natAbs ≤ 2 → q.natAbs ≤ 4 → (p * q).natAbs ≤ 8 := fun h1 h2 => by
          rw [Int.natAbs_mul]
          exact Nat.mul_le_mul h1 h2
        have bx : x.natAbs ≤ 16 := by
          rw [ex]
          have := m8 he hu
          have := m8 hb hv
          omega
        have by_ : y.natAbs ≤ 16 := by
          rw [ey]
          have := m8 ha hv
          have := m8 hc hu
          omega
        have xy0 : [x, y] ≠ [0, 0] := fun z => by
          have x0 : x = 0 := by have := congrArg (fun l => co l 0) z; exact this
          have y0 : y = 0 := by have := congrArg (fun l => co l 1) z; exact this
          rw [x0] at ex
          rw [y0] at ey
          have e1 : (a * e' - b * c) * u = 0 := by
            have : (a * e' - b * c) * u = a * (e' * u - b * v) + b * (a * v - c * u) := by grind
            rw [this, ← ex, ← ey]
            omega
          have e2 : (a * e' - b * c) * v = 0 := by
            have : (a * e' - b * c) * v = c * (e' * u - b * v) + e' * (a * v - c * u) := by grind
            rw [this, ← ex, ← ey]
            omega
          have u0 := (Int.mul_eq_zero.mp e1).resolve_left hdet
          have v0 := (Int.mul_eq_zero.mp e2).resolve_left hdet
          exact hpt.ne (by rw [u0, v0])
        obtain ⟨u', v', g, eprim, egx, egy, hpt', hbd⟩ := prim_pair xy0
        obtain ⟨bu', bv'⟩ := hbd 16 bx by_
        have bX : Bd [a, b] 1 4 := bd_pair ha hb
        have bY : Bd [c, e'] 1 4 := bd_pair hc he
        have bch : Bd (changed [a, b] [c, e'] f) (r + n10) (2 ^ 120) := (changed_bd bX bY bb).mono (Nat.le_trans (Nat.mul_le_mul_left _ (Nat.pow_le_pow_right (by decide) (show r + n10 ≤ 11 by omega))) (by decide +kernel))
        have okc : ChOk [a, b] [c, e'] f.tail [co f 0] [1] := changed_ok (by decide) bX bY bb (by omega) (Nat.lt_of_le_of_lt (Nat.mul_le_mul_left _ (Nat.pow_le_pow_right (by decide) (show r + n10 ≤ 11 by omega))) (by decide +kernel))
        have pr : ∀ {p q : Int}, p.natAbs ≤ 2 → q.natAbs ≤ 2 → Pr2 [p, q] := fun h1 h2 => ⟨rfl, fun x hx => by
          simp only [List.mem_cons, List.not_mem_nil, or_false] at hx
          rcases hx with e | e <;> rw [e]
          · exact sho_small (by omega)
          · exact sho_small (by omega)⟩
        have nzch : nzr (changed [a, b] [c, e'] f) = true := by
          show (changed [a, b] [c, e'] f).any (· != 0) = true
          rw [changed_zero hdet bb.ne]
          exact nzb
        refine ⟨_, rfl, a3, _, _, rfl, Q8.F3.sl, _, rfl, a3, tt, f, [a, b], [c, e'], rfl, Q8.F3, Q8.tb, bb.ne, by omega, pr ha hb, pr hc he, okc, fun a9 H29 s29 F9 => ⟨a9, _, _, rfl, F9.sl, ?_⟩⟩
        refine ⟨_, rfl, _, rfl, z2, fun p30 n30 => gen_upd H29 p30 (tp [x, y]) n30 fun H30 s30 k30 => ⟨p30, [x, y], rfl, k30, by show 2 ≤ 1000; decide, fun z hz => ?_, fun p31 H31 s31 k31 => ?_⟩⟩
        · simp only [List.mem_cons, List.not_mem_nil, or_false] at hz
          rcases hz with e | e <;> rw [e]
          · exact smS (by omega)
          · exact smS (by omega)
        rw [eprim] at k31
        have s2831 := s29.trans (s30.trans s31)
        have D31 := D28.same s2831
        refine ⟨a9, p31, _, u', v', rfl, F9.same (s30.trans s31), nzch, k31, sho_small (by omega), sho_small (by omega), hpt', tk6 bch (by omega) hpt' bu' bv', D31.tt, fun H32 s32 g32 => ?_⟩
        have k32 := s32.lst D31.tt (s2831 _ _ k28)
        refine ⟨_, rfl, Lt, _, 2, _, rfl, rfl, SqL.of k32, atI_nat (j := 2) rfl, rfl, _, rfl, ?_⟩
        have efin : K06.tm [v', -u'] (changed [a, b] [c, e'] f) = T3 := by
          rw [eT3]
          exact tm_changed hpt hpt' hdet (by rw [← ex, egx]) (by rw [← ey, egy]) nzb
        rw [efin, decide_eq_true rfl]
        exact iteF ⟨_, _, _, _, rfl, s2028.trans ((Sy.of s2831).trans (Sy.ofP s32)), D31.sp s32 g32⟩
      · obtain ⟨y5, y12, y13, y14, rfl, s21, D21⟩ := hP
        have Q1 := RQ.y D20 s21
        have sI := sI.trans s21
        clear RQ D20 s21 k20
        have z4 : 4 ≤ sizeLine := by decide
        refine ⟨_, rfl, z2, fun p1 m1 => gen_upd H21 p1 (tp [1, 0]) m1 fun H22 s22 k22 => ⟨z2, fun p2 m2 => gen_upd H22 p2 (tp [0, 1]) m2 fun H23 s23 k23 => ⟨z2, fun p3 m3 => gen_upd H23 p3 (tp [1, 1]) m3 fun H24 s24 k24 => ⟨_, rfl, z2, fun p4 m4 => gen_upd H24 p4 (tp [1, -1]) m4 fun H25 s25 k25 => ⟨z4, fun L5 m5 => gen_upd H25 L5 (.lst [.ref p1, .ref p2, .ref p3, .ref p4]) m5 fun H26 s26 k26 => ?_⟩⟩⟩⟩⟩
        have v25 := s25.trans s26
        have v24 := s24.trans v25
        have v23 := s23.trans v24
        have v22 := s22.trans v23
        refine ⟨L1, L5, _, _, rfl, rfl, v22 _ _ Q1.R.k1, k26, by rw [List.length_map]; exact h1000 (by show qs.length + 4 ≤ 1000; omega), fun L6 m6 => gen_upd H26 L6 _ m6 fun H27 s27 k27 => ?_⟩
        obtain ⟨ks, eks⟩ : ∃ ks, ks = qs ++ [(p1, [1, 0]), (p2, [0, 1]), (p3, [1, 1]), (p4, [1, -1])] := ⟨_, rfl⟩
        have k27 : H27 L6 = some (.lst (ks.map fun q => V.ref q.1)) := by
          rw [k27, eks, List.map_append]
          rfl
        have hqk : Qs H27 ks := fun z hz => by
          rw [eks] at hz
          rcases List.mem_append.mp hz with e | e
          · exact (v22.trans s27) _ _ (Q1.R.q1 z e)
          · simp only [List.mem_cons, List.not_mem_nil, or_false] at e
            rcases e with e | e | e | e <;> rw [e]
            · exact (v23.trans s27) _ _ k22
            · exact (v24.trans s27) _ _ k23
            · exact (v25.trans s27) _ _ k24
            · exact (s26.trans s27) _ _ k25
        have hpk : ∀ z ∈ ks, PM 3 z.2 := fun z hz => by
          rw [eks] at hz
          rcases List.mem_append.mp hz with e | e
          · exact hp1 z e
          · simp only [List.mem_cons, List.not_mem_nil, or_false] at e
            rcases e with e | e | e | e <;> rw [e]
            · exact ⟨1, 0, rfl, ⟨rfl, by rw [fo_pair]; decide⟩, by decide, by decide⟩
            · exact ⟨0, 1, rfl, ⟨rfl, by rw [fo_pair]; decide⟩, by decide, by decide⟩
            · exact ⟨1, 1, rfl, ⟨rfl, by rw [fo_pair]; decide⟩, by decide, by decide⟩
            · exact ⟨1, -1, rfl, ⟨rfl, by rw [fo_pair]; decide⟩, by decide, by decide⟩
        have lk : ks.length < 64 := by
          rw [eks, List.length_append]
          show qs.length + 4 < 64
          omega
        have F3 := Q1.F3.same (v22.trans s27)
        have D27 := D21.same (v22.trans s27)
        have sI := sI.trans (Sy.of (v22.trans s27))
        clear v22 v23 v24 v25 s22 s23 s24 s25 s26 s27 k22 k23 k24 k25 k26 D21 Q1 m1 m2 m3 m4 m5 m6
        refine ⟨L6, ks, rfl, SqL.of k27, fun p hp => SqT.of (hqk p hp), lk, fun S L nS sub _ => gen_upd H27 S _ nS fun H28 s28 k28 => ?_⟩
        have hqk := hqk.same s28
        refine ⟨S, L, rfl, k28, fun p hp => ?_, fun zs p6 perm lL nd n6 => gen_upd H28 p6 _ n6 fun H29 s29 k29 => ?_⟩
        · have hpp := sub p hp
          obtain ⟨u, v, ez, _⟩ := hpk p hpp
          have kz := hqk p hpp
          rw [ez] at kz
          exact ⟨u, v, ez, SqT.of kz⟩
        have hqk := hqk.same s29
        have F3 := F3.same (s28.trans s29)
        have D29 := D27.same (s28.trans s29)
        have sI := sI.trans (Sy.of (s28.trans s29))
        have np6 : p6 ≠ d := (D27.same s28).dd.ne n6
        clear s28 s29 k28 D27 n6
        have inL : ∀ z ∈ zs, ∃ q ∈ L, q.1 = z := fun z hz => by
          obtain ⟨q, h1, h2⟩ := List.mem_map.mp (perm.mem_iff.mp hz)
          exact ⟨q, h1, h2⟩
        refine ⟨p6, rfl, ⟨_, SqL.of k29⟩, for_list (xs := zs.map V.ref) (fun j σ H' => ∃ y5, σ = [some (.ref d), some (.ref L1), some (.ref L2), none, some (.ref te), y5, some (.ref tm), some (.ref a1), some (.ref a2), some (.ref tt), some (.ref a3), some (.int (((zs.take j).map fun a => K06.tm (ln (rowAt H29 a)) f).sum : Nat)), y12, y13, y14] ∧ Sy d Ps H29 H' ∧ Dp d Ps H') ⟨y5, rfl, Sy.rf _ _ _, D29⟩ (fun j σ H' _ hP => ?_) (fun j x σ H30 hx hP => ?_) (fun σ H30 hP => ?_)⟩
        · obtain ⟨y5, _, sH, _⟩ := hP
          exact SqL.of (D29.lst sH np6 k29)
        · obtain ⟨y5, rfl, s30, D30⟩ := hP
          rw [List.getElem?_map] at hx
          obtain ⟨z, ez, rfl⟩ := Option.map_eq_some_iff.mp hx
          obtain ⟨q1, hq1L, eq1⟩ := inL z (List.mem_of_getElem? ez)
          have hkk := sub q1 hq1L
          obtain ⟨u, v, e1, hpt, hu, hv, el⟩ := (hpk q1 hkk).cs
          have kz := hqk q1 hkk
          have er : rowAt H29 z = [u, v] := by
            rw [← eq1, rowAt_tp kz, e1]
          rw [e1, eq1] at kz
          have kz := D29.tup s30 kz
          refine ⟨_, rfl, _, rfl, a3, _, _, rfl, (D29.fo s30 F3).sl, _, rfl, a3, z, f, u, v, rfl, D29.fo s30 F3, nzb, kz, sho_small (by omega), sho_small (by omega), hpt, tk6 bf' (by omega) hpt (by omega) (by omega), D30.tt, fun H31 s31 g31 => ⟨_, _, rfl, rfl, ?_⟩⟩
          refine ⟨some (.ref z), ?_, s30.trans (Sy.ofP s31), D30.sp s31 g31⟩
          rw [List.take_add_one, ez, List.map_append, List.sum_append]
          show _ = [some (V.ref d), some (.ref L1), some (.ref L2), none, some (.ref te), some (.ref z), some (.ref tm), some (.ref a1), some (.ref a2), some (.ref tt), some (.ref a3), some (.int (((((zs.take j).map fun a => K06.tm (ln (rowAt H29 a)) f).sum + (K06.tm (ln (rowAt H29 z)) f + 0) : Nat)) : Int)), y12, y13, y14]
          rw [er, Nat.add_zero, Int.natCast_add]
          rfl
        · obtain ⟨y5, rfl, s30, D30⟩ := hP
          rw [List.length_map, List.take_length]
          have e1 : (zs.map fun a => K06.tm (ln (rowAt H29 a)) f).sum = ((L.map (·.2)).map fun p => K06.tm (ln p) f).sum := by
            rw [(perm.map fun a => K06.tm (ln (rowAt H29 a)) f).sum_nat, List.map_map, List.map_map]
            congr 1
            refine List.map_congr_left fun q hq => ?_
            show K06.tm (ln (rowAt H29 q.1)) f = K06.tm (ln q.2) f
            rw [rowAt_tp (hqk q (sub q hq))]
          have e2 := tm_sum (L.map (·.2)) f nzb (fun p hp => by
            obtain ⟨q, hq, rfl⟩ := List.mem_map.mp hp
            exact (hpk q (sub q hq)).pl) nd
          rw [← e1] at e2
          have F3 := D29.fo s30 F3
          refine ⟨_, rfl, _, rfl, prop_deg F3 ⟨_, _, rfl, rfl, ?_⟩⟩
          dsimp only []
          rw [decide_eq_true (by omega)]
          exact q H30 (sI.trans s30) D30
end
end K06

set_option Elab.async false
set_option linter.all false
set_option maxRecDepth 100000
set_option maxHeartbeats 4000000
namespace K06
open PySem PySem.Spec PyProof.Rows L2 StX RZ MyR SlX OwnR OwnF EnumT GxR
theorem pt_of {u v : Int} (h1 : Nat.gcd u.natAbs v.natAbs = 1) (h2 : 0 < fo [u, v]) : Pt u v := ⟨h1, h2⟩
theorem pm_of {m : Nat} {u v : Int} (h : Pt u v) (h1 : u.natAbs ≤ m) (h2 : v.natAbs ≤ m) : PM m [u, v] := ⟨u, v, rfl, h, h1, h2⟩
section
variable {P : Program} {w : World} {K : PySem.W.Frag} {mg : Str → Option Value} {base : Heap} {Ps : List Addr}
theorem ok_law (T : Facts K mg) (TB_first_index : TabB base mg T.c_first_index T.P_first_index) (TB_first_of : TabB base mg T.c_first_of T.P_first_of) : FnOk P w K mg base CX0 10 T.f_law T.fd_law ["_law_script"] (spLawT K [T.P_first_index, T.P_first_of]) := by
  have hP : T.P_first_index ∈ [T.P_first_index, T.P_first_of] := by simp
  have hP2 : T.P_first_of ∈ [T.P_first_index, T.P_first_of] := by simp
  generalize [T.P_first_index, T.P_first_of] = Ps at hP hP2
  have G_law_dice : FnOk P w K mg base CX0 1 T.f_law_dice T.fd_law_dice ["_law_script", "_law_spot"] (spDice K) := ok_law_dice T
  have G_law_right := ok_law_right (P := P) (w := w) (base := base) T TB_first_index TB_first_of hP hP2
  have G_Form_init := ok_Form_init (P := P) (w := w) (base := base) T
  have G_Form_entries := ok_Form_entries (P := P) (w := w) (base := base) T
  have G_Form_times_at := ok_Form_times_at (P := P) (w := w) (base := base) T TB_first_index TB_first_of hP hP2
  have G_Form_of_points := ok_Form_of_points (P := P) (w := w) (base := base) T TB_first_of hP2
  have G_line_of := ok_line_of (P := P) (w := w) (base := base) T TB_first_of hP2
  refine T.F_law.ok sc_law (fun vs H Q E h => ?_) (fun cdv A outer s H vs Q E hr h => ?_)
  · obtain ⟨a, ns, rfl, _⟩ := h
    rfl
  · obtain ⟨a, ns, rfl, hS, hlen, hT, q⟩ := h
    refine ⟨_, (PSs.nox (pss_cons (ps_for PassesOwn.never (by rfl) (pi_range1 (by rfl) T.z_range (pa_cons (pe_callB (call_max2 (by rfl)) (by rfl) T.z_max (by decide +kernel) (pa_cons pe_int (pa_cons (pe_callB (call_min2 (by rfl)) (by rfl) T.z_min (by decide +kernel) (pa_cons pe_int (pa_cons (pe_callB call_len_seq (by rfl) T.z_len (by decide +kernel) (pa_cons (pv 0) pa_nil)) pa_nil))) pa_nil))) pa_nil)) (pg_name (i := 1) sc_law.nd rfl (.inl rfl))
      (pss_one (ps_if (pt_not (pt_val (pe_call G_law_right hr (by rfl) T.g_law_right T.F_law_right.kp T.b_law_right .nil pass0 (pa_cons (pe_call G_law_dice (hr.mono (by decide)) (by rfl) T.g_law_dice T.F_law_dice.kp T.b_law_dice .nil pass0 (pa_cons (pv 0) (pa_cons (pv 1) pa_nil))) pa_nil))))
        (pss_one (ps_ret pe_bl))
        pss_nil)))
    (pss_cons (ps_set (i := 2) sc_law.nd rfl (.inl rfl) (pe_make T.mk_Form G_Form_init (hr.mono (by decide)) (by rfl) T.g_Form T.b_Form_init .nil pass0 (pa_cons (pe_tup (pa_cons pe_int (pa_cons pe_int (pa_cons pe_int (pa_cons pe_int pa_nil))))) pa_nil)))
    (pss_cons (ps_set (i := 3) sc_law.nd rfl (.inl rfl) (pe_lst (pa_cons (pe_prp (pe_call G_line_of (hr.mono (by decide)) (by rfl) T.g_line_of T.F_line_of.kp T.b_line_of .nil pass0 (pa_cons (pe_tup (pa_cons pe_int (pa_cons (pe_un un_neg pe_int) pa_nil))) pa_nil)) T.oc_Form T.pr_Form_entries G_Form_entries T.b_Form_entries (hr.mono (by decide))) (pa_cons (pe_prp (OwnC.pe_cmF (pe_glob (v := .ref T.C_Form) (by rfl) T.g_Form rfl) T.cm_Form_of_points G_Form_of_points T.b_Form_of_points (hr.mono (by decide)) (pa_cons (pe_tup (pa_cons (pe_tup (pa_cons pe_int (pa_cons pe_int pa_nil))) (pa_cons (pe_tup (pa_cons pe_int (pa_cons (pe_un un_neg pe_int) pa_nil))) pa_nil))) pa_nil)) T.oc_Form T.pr_Form_entries G_Form_entries T.b_Form_entries (hr.mono (by decide))) (pa_cons (pe_prp (OwnC.pe_cmF (pe_glob (v := .ref T.C_Form) (by rfl) T.g_Form rfl) T.cm_Form_of_points G_Form_of_points T.b_Form_of_points (hr.mono (by decide)) (pa_cons (pe_tup pa_nil) pa_nil)) T.oc_Form T.pr_Form_entries G_Form_entries T.b_Form_entries (hr.mono (by decide))) pa_nil)))))
    (pss_cons (ps_if (pw_or (pt_cmpR (op_neD (hu64 hr)) (pv 3) (pe_lst (pa_cons (pe_tup (pa_cons (pe_un un_neg pe_int) (pa_cons (pe_un un_neg pe_int) pa_nil))) (pa_cons (pe_tup (pa_cons (pe_un un_neg pe_int) (pa_cons (pe_un un_neg pe_int) (pa_cons pe_int pa_nil)))) (pa_cons (pe_tup (pa_cons pe_int pa_nil)) pa_nil)))) (nomark _)) (pw_or1 (pt_cmpR (op_neD (hu64 hr)) (pe_lst (pa_cons (pe_mSl (pv 2) T.oc_Form T.mt_Form_times_at T.F_Form_times_at.kp G_Form_times_at T.b_Form_times_at (hr.mono (by decide)) (pa_cons (pe_tup (pa_cons pe_int (pa_cons (pe_un un_neg pe_int) pa_nil))) pa_nil)) (pa_cons (pe_mSl (pv 2) T.oc_Form T.mt_Form_times_at T.F_Form_times_at.kp G_Form_times_at T.b_Form_times_at (hr.mono (by decide)) (pa_cons (pe_tup (pa_cons pe_int (pa_cons pe_int pa_nil))) pa_nil)) (pa_cons (pe_mSl (pv 2) T.oc_Form T.mt_Form_times_at T.F_Form_times_at.kp G_Form_times_at T.b_Form_times_at (hr.mono (by decide)) (pa_cons (pe_tup (pa_cons pe_int (pa_cons pe_int pa_nil))) pa_nil)) pa_nil)))) (pe_lst (pa_cons pe_int (pa_cons pe_int (pa_cons pe_int pa_nil)))) (nomark _)))).pt
      (pss_one (ps_ret pe_bl))
      pss_nil)
    (pss_one (ps_ret (pe_and (pe_cmpR op_eq (pe_mSl (OwnC.pe_cmF (pe_glob (v := .ref T.C_Form) (by rfl) T.g_Form rfl) T.cm_Form_of_points G_Form_of_points T.b_Form_of_points (hr.mono (by decide)) (pa_cons (pe_op op_repT (pe_tup (pa_cons (pe_tup (pa_cons pe_int (pa_cons pe_int pa_nil))) pa_nil)) pe_int) pa_nil)) T.oc_Form T.mt_Form_times_at T.F_Form_times_at.kp G_Form_times_at T.b_Form_times_at (hr.mono (by decide)) (pa_cons (pe_tup (pa_cons pe_int (pa_cons pe_int pa_nil))) pa_nil)) pe_int (nomark _)) (pe_one (pe_cmpR op_eq (pe_mSl (pe_make T.mk_Form G_Form_init (hr.mono (by decide)) (by rfl) T.g_Form T.b_Form_init .nil pass0 (pa_cons (pe_tup (pa_cons pe_int pa_nil)) pa_nil)) T.oc_Form T.mt_Form_times_at T.F_Form_times_at.kp G_Form_times_at T.b_Form_times_at (hr.mono (by decide)) (pa_cons (pe_tup (pa_cons pe_int (pa_cons pe_int pa_nil))) pa_nil)) pe_int (nomark _))))))))))), ?_⟩
    refine ⟨.ref a, rfl, a, _, rfl, .inl hS, 4, _, rfl, 1, _, rfl, _, rfl, ?_⟩
    rw [List.length_map]
    obtain ⟨n, hn, hn0⟩ : ∃ n : Int, (if (if ((ns.length : Nat) : Int) < 4 then ((ns.length : Nat) : Int) else 4) > 1 then (if ((ns.length : Nat) : Int) < 4 then ((ns.length : Nat) : Int) else 4) else 1) = n ∧ 0 ≤ n ∧ n ≤ 4 := ⟨_, rfl, by split <;> split <;> omega, by split <;> split <;> omega⟩
    rw [hn]
    refine ⟨by omega, by omega, for_range (n := n.toNat) (fun i σ H' => ∃ y1, σ = [some (.ref a), y1, none, none] ∧ SqL K H' a (ns.map V.int) ∧ Tg Ps H') ⟨none, rfl, hS, hT⟩ (fun i σ H1 hi hP => ?_) (fun σ H1 hP => ?_)⟩
    · obtain ⟨y1, rfl, h1, p1⟩ := hP
      refine ⟨.ref a, rfl, _, rfl, a, ns, i, ?_, h1, fun d x y z nd => ?_⟩
      · show [V.ref a, V.int (0 + (i : Int))] ++ [] = _
        rw [Int.zero_add]
        rfl
      have D1 : Dp d Ps (upd H1 d (dice x y z)) := ⟨⟨x, y, z, upd_same⟩, p1.same (same_upd0 nd)⟩
      exact ⟨d, rfl, D1, fun H2 s2 D2 => ⟨true, rfl, iteF ⟨_, rfl, script_Sy s2 nd p1 h1, D2.tt⟩⟩⟩
    · obtain ⟨y1, rfl, h1, p1⟩ := hP
      have z0 : 0 ≤ sizeLine := Nat.zero_le _
      have z1 : 1 ≤ sizeLine := by decide
      have z2 : 2 ≤ sizeLine := by decide
      have z3 : 3 ≤ sizeLine := by decide
      have z4 : 4 ≤ sizeLine := by decide
      have pA : Pt 1 (-1) := pt_of (by decide) (by rw [fo_pair]; decide)
      have pB : Pt 0 1 := pt_of (by decide) (by rw [fo_pair]; decide)
      have pC : Pt 1 0 := pt_of (by decide) (by rw [fo_pair]; decide)
      have pD : Pt 1 5 := pt_of (by decide) (by rw [fo_pair]; decide)
      have bA : Bd [1, 2, 1, 0] 3 4 := ⟨rfl, by decide⟩
      have sho : ∀ z ∈ ([1, 2, 1, 0] : List Int), Sho z := fun z hz => Nat.lt_of_le_of_lt (bA.mem z hz) (by decide)
      refine ⟨z4, fun p2 m2 => gen_upd H1 p2 (tp [1, 2, 1, 0]) m2 fun H2 s2 k2 => fun a2 dx x1 x2 x3 => mkF x1 x2 x3 k2 (by decide) (by decide) sho fun H3 s3 F2 => ?_⟩
      have p3 := p1.same (s2.trans s3)
      clear s2 s3 k2 p1
      refine ⟨_, rfl, z2, fun p4 m4 => gen_upd H3 p4 (tp [1, -1]) m4 fun H4 s4 k4 => ⟨p4, 1, -1, rfl, k4, sho_small (by decide), sho_small (by decide), pA, p3.same s4, fun a5 H5 s5 g5 F5 => prop_ent F5 fun t5 k5 => ?_⟩⟩
      have F2 := s5.fo (p3.same s4) (F2.same s4)
      refine ⟨rfl, z2, fun p6 m6 => gen_upd H5 p6 (tp [0, 1]) m6 fun H6 s6 k6 => ⟨_, rfl, z2, fun p7 m7 => gen_upd H6 p7 (tp [1, -1]) m7 fun H7 s7 k7 => ⟨z2, fun p8 m8 => gen_upd H7 p8 (.tup [.ref p6, .ref p7]) m8 fun H8 s8 k8 => ?_⟩⟩⟩
      have e8 : H8 p8 = some (.tup ([(p6, [0, 1]), (p7, [1, -1])].map fun q : Addr × List Int => V.ref q.1)) := k8
      have mPM : ∀ {m : Nat} {u v : Int}, Pt u v → u.natAbs ≤ m → v.natAbs ≤ m → PM m [u, v] := fun h h1 h2 => pm_of h h1 h2
      have h2p : ∀ q ∈ [(p6, ([0, 1] : List Int)), (p7, [1, -1])], PM 1000 q.2 := fun q hq => by
        simp only [List.mem_cons, List.not_mem_nil, or_false] at hq
        rcases hq with e | e <;> rw [e]
        · exact mPM pB (by decide) (by decide)
        · exact mPM pA (by decide) (by decide)
      have rws : ∀ ps : List (List Int), ps.length ≤ 40 → (∀ p ∈ ps, PM 5 p) → Rw (lprod ps) := fun ps h hp => (bd_lprod hp).rw (by omega) (Nat.lt_of_le_of_lt (Nat.pow_le_pow_right (by decide) h) (by decide +kernel))
      refine ⟨p8, _, rfl, e8, fun q hq => ?_, h2p, by show 2 ≤ 40; decide, fun i hi => rws _ ?_ ?_, g5.same (s6.trans (s7.trans s8)), fun a9 H9 s9 g9 F9 => prop_ent F9 fun t9 k9 => ?_⟩
      · simp only [List.mem_cons, List.not_mem_nil, or_false] at hq
        rcases hq with e | e <;> rw [e]
        · exact (s7.trans s8) _ _ k6
        · exact s8 _ _ k7
      · rw [List.length_map, List.length_take]
        show min i 2 ≤ 40
        omega
      · intro p hp
        obtain ⟨q, hq, rfl⟩ := List.mem_map.mp hp
        have hq := List.mem_of_mem_take hq
        simp only [List.mem_cons, List.not_mem_nil, or_false] at hq
        rcases hq with e | e <;> rw [e]
        · exact mPM pB (by decide) (by decide)
        · exact mPM pA (by decide) (by decide)
      have g8 := g5.same (s6.trans (s7.trans s8))
      have k5 := s9.tup g8 ((s6.trans (s7.trans s8)) _ _ k5)
      have F2 := s9.fo g8 (F2.same (s6.trans (s7.trans s8)))
      clear s6 s7 s8 s9 k6 k7 k8 e8 g5 g8 F5 F9 s5 s4 k4 h2p
      have e9 : lprod ([(p6, ([0, 1] : List Int)), (p7, [1, -1])].map (·.2)) = [-1, -1, 0] := by
        show lprod [[0, 1], [1, -1]] = _
        decide +kernel
      rw [e9] at k9
      refine ⟨rfl, z0, fun p10 m10 => gen_upd H9 p10 (.tup []) m10 fun H10 s10 k10 => ⟨p10, [], rfl, k10, (fun q hq => by cases hq), (fun q hq => by cases hq), by decide, fun i hi => rws _ (by rw [List.take_nil]; decide) (fun p hp => by rw [List.take_nil] at hp; cases hp), g9.same s10, fun a11 H11 s11 g11 F11 => prop_ent F11 fun t11 k11 => ?_⟩⟩
      have e11 : lprod (([] : List (Addr × List Int)).map (·.2)) = [1] := rfl
      rw [e11] at k11
      have k5 := s11.tup (g9.same s10) (s10 _ _ k5)
      have k9 := s11.tup (g9.same s10) (s10 _ _ k9)
      have F2 := s11.fo (g9.same s10) (F2.same s10)
      clear s10 s11 g9 k10 F11
      refine ⟨z3, fun L12 m12 => gen_upd H11 L12 (.lst [.ref t5, .ref t9, .ref t11]) m12 fun H12 s12 k12 => ?_⟩
      refine ⟨_, rfl, _, rfl, _, rfl, z2, fun p13 m13 => gen_upd H12 p13 (tp [-1, -1]) m13 fun H13 s13 k13 => ⟨_, rfl, _, rfl, z3, fun p14 m14 => gen_upd H13 p14 (tp [-1, -1, 0]) m14 fun H14 s14 k14 => ⟨z1, fun p15 m15 => gen_upd H14 p15 (tp [1]) m15 fun H15 s15 k15 => ⟨z3, fun L16 m16 => gen_upd H15 L16 (.lst [.ref p13, .ref p14, .ref p15]) m16 fun H16 s16 k16 => ?_⟩⟩⟩⟩
      have v15 := s15.trans s16
      have v14 := s14.trans v15
      have v13 := s13.trans v14
      have v12 := s12.trans v13
      refine ⟨.list (TD [[-1, -1], [-1, -1, 0], [1]]), .list (TD [[-1, -1], [-1, -1, 0], [1]]), .lst (SqL.of (v13 _ _ k12)) (dpAll_qs [(t5, [-1, -1]), (t9, [-1, -1, 0]), (t11, [1])] fun q hq => ?_), .lst (SqL.of k16) (dpAll_qs [(p13, [-1, -1]), (p14, [-1, -1, 0]), (p15, [1])] fun q hq => ?_), shaped_ltd _, shaped_ltd _, ?_⟩
      · simp only [List.mem_cons, List.not_mem_nil, or_false] at hq
        rcases hq with e | e | e <;> rw [e]
        · exact v12 _ _ k5
        · exact v12 _ _ k9
        · exact v12 _ _ k11
      · simp only [List.mem_cons, List.not_mem_nil, or_false] at hq
        rcases hq with e | e | e <;> rw [e]
        · exact v14 _ _ k13
        · exact v15 _ _ k14
        · exact s16 _ _ k15
      rw [eqv_ltd]
      refine ⟨false, rfl, iteF ?_⟩
      have g16 := g11.same v12
      have F2 := F2.same v12
      clear v12 v13 v14 v15 s12 s13 s14 s15 s16 k12 k13 k14 k15 k16 k5 k9 k11 g11
      have bA' : Bd [1, 2, 1, 0] 3 (2 ^ 120) := bA.mono (by decide +kernel)
      have e1 : tm [-1, -1] [1, 2, 1, 0] = 2 := by decide +kernel
      have e2 : tm [1, 0] [1, 2, 1, 0] = 1 := by decide +kernel
      have e3 : tm [0, -1] [1, 2, 1, 0] = 0 := by decide +kernel
      refine ⟨_, rfl, a2, _, _, rfl, F2.sl, _, rfl, z2, fun p17 m17 => gen_upd H16 p17 (tp [1, -1]) m17 fun H17 s17 k17 => ⟨a2, p17, _, 1, -1, rfl, F2.same s17, rfl, k17, sho_small (by decide), sho_small (by decide), pA, tk6 bA' (by decide) pA (by decide) (by decide), g16.same s17, fun H18 s18 g18 => ?_⟩⟩
      have F2 := s18.fo (g16.same s17) (F2.same s17)
      refine ⟨_, rfl, a2, _, _, rfl, F2.sl, z2, fun p19 m19 => gen_upd H18 p19 (tp [0, 1]) m19 fun H19 s19 k19 => ⟨a2, p19, _, 0, 1, rfl, F2.same s19, rfl, k19, sho_small (by decide), sho_small (by decide), pB, tk6 bA' (by decide) pB (by decide) (by decide), g18.same s19, fun H20 s20 g20 => ?_⟩⟩
      have F2 := s20.fo (g18.same s19) (F2.same s19)
      refine ⟨_, rfl, a2, _, _, rfl, F2.sl, z2, fun p21 m21 => gen_upd H20 p21 (tp [1, 0]) m21 fun H21 s21 k21 => ⟨a2, p21, _, 1, 0, rfl, F2.same s21, rfl, k21, sho_small (by decide), sho_small (by decide), pC, tk6 bA' (by decide) pC (by decide) (by decide), g20.same s21, fun H22 s22 g22 => ?_⟩⟩
      refine ⟨z3, fun L23 m23 => gen_upd H22 L23 (.lst ([2, 1, 0].map V.int)) m23 fun H23 s23 k23 => ⟨z3, fun L24 m24 => gen_upd H23 L24 (.lst ([2, 1, 0].map V.int)) m24 fun H24 s24 k24 => ?_⟩⟩
      refine ne_lints (xs := [2, 1, 0]) (ys := [2, 1, 0]) (SqL.of (s24 _ _ k23)) (SqL.of k24) ?_
      rw [decide_eq_true rfl]
      refine ⟨false, rfl, iteF ?_⟩
      have g24 := g22.same (s23.trans s24)
      clear s17 s18 s19 s20 s21 s22 s23 s24 k17 k19 k21 k23 k24 F2 g16 g18 g20 g22 p3 h1 hS
      refine ⟨rfl, z2, fun p25 m25 => gen_upd H24 p25 (tp [1, 0]) m25 fun H25 s25 k25 => ⟨z1, fun p26 m26 => gen_upd H25 p26 (.tup [.ref p25]) m26 fun H26 s26 k26 => ?_⟩⟩
      refine ⟨p26, 40, _, rfl, rfl, SqT.of k26, by simp, by decide, by decide, by show 1 ≤ 1000; decide, fun p27 m27 => gen_upd H26 p27 _ m27 fun H27 s27 k27 => ?_⟩
      obtain ⟨qs, eqs⟩ : ∃ qs : List (Addr × List Int), qs = List.replicate 40 (p25, [1, 0]) := ⟨_, rfl⟩
      have k27 : H27 p27 = some (.tup (qs.map fun q => V.ref q.1)) := by
        rw [k27, eqs]
        rfl
      have mq : ∀ q ∈ qs, q = (p25, [1, 0]) := fun q hq => by
        rw [eqs] at hq
        exact List.eq_of_mem_replicate hq
      have lq : qs.length = 40 := by rw [eqs, List.length_replicate]
      have mq2 : ∀ p ∈ qs.map (·.2), PM 1 p := fun p hp => by
        obtain ⟨q, hq, rfl⟩ := List.mem_map.mp hp
        rw [mq q hq]
        exact mPM pC (by decide) (by decide)
      refine ⟨p27, qs, rfl, k27, fun q hq => ?_, fun q hq => ?_, by omega, fun i hi => rws _ ?_ fun p hp => ?_, g24.same (s25.trans (s26.trans s27)), fun a28 H28 s28 g28 F28 => ⟨a28, _, _, rfl, F28.sl, ?_⟩⟩
      · rw [mq q hq]
        exact (s26.trans s27) _ _ k25
      · rw [mq q hq]
        exact mPM pC (by decide) (by decide)
      · rw [List.length_map, List.length_take]
        omega
      · rw [List.map_take] at hp
        exact (mq2 p (List.mem_of_mem_take hp)).mono (by decide)
      have bL := bd_lprod mq2
      rw [List.length_map, lq] at bL
      have tk40 : TmOk (lprod (qs.map (·.2))) [0, -1] := by
        refine ⟨rfl, bL.ne, rfl, 41, 2 ^ 40, 1, by decide, by rw [bL.len]; decide, bL.mem, fun z hz => ?_, by decide +kernel, by rw [bL.len]; decide +kernel⟩
        simp only [List.mem_cons, List.not_mem_nil, or_false] at hz
        rcases hz with e | e <;> rw [e] <;> decide
      have e40 : tm [0, -1] (lprod (qs.map (·.2))) = 40 := by
        have := tm_lprod (q := [1, 0]) ⟨1, 0, rfl, pC⟩ (ps := qs.map (·.2)) fun p hp => (mq2 p hp).pl
        rw [show ln [1, 0] = [0, -1] from rfl] at this
        rw [this, eqs, List.map_replicate]
        exact List.count_replicate_self
      refine ⟨z2, fun p29 m29 => gen_upd H28 p29 (tp [1, 0]) m29 fun H29 s29 k29 => ⟨a28, p29, _, 1, 0, rfl, F28.same s29, nzr_lprod (fun p hp => (mq2 p hp).pl), k29, sho_small (by decide), sho_small (by decide), pC, tk40, g28.same s29, fun H30 s30 g30 => ⟨rfl, ?_⟩⟩⟩
      rw [e40, decide_eq_true (show V.int ((40 : Nat) : Int) = V.int 40 from rfl)]
      refine ⟨true, rfl, iteT ?_⟩
      refine ⟨z1, fun p31 m31 => gen_upd H30 p31 (tp [3]) m31 fun H31 s31 k31 => fun a32 dx x1 x2 x3 => mkF x1 x2 x3 k31 (by decide) (by decide) (fun z hz => ?_) fun H32 s32 F32 => ⟨a32, _, _, rfl, F32.sl, z2, fun p33 m33 => gen_upd H32 p33 (tp [1, 5]) m33 fun H33 s33 k33 => ⟨a32, p33, _, 1, 5, rfl, F32.same s33, rfl, k33, sho_small (by decide), sho_small (by decide), pD, ?_, g30.same (s31.trans (s32.trans s33)), fun H34 s34 g34 => ⟨rfl, ?_⟩⟩⟩⟩
      · rw [show z = 3 by simpa using hz]
        exact sho_small (by decide)
      · exact tk6 (n := 0) ⟨rfl, by decide +kernel⟩ (by decide) pD (by decide) (by decide)
      · have e3 : tm [5, -1] [3] = 0 := by decide +kernel
        rw [e3, decide_eq_true (show V.int ((0 : Nat) : Int) = V.int 0 from rfl)]
        exact q H34
end
end K06

set_option Elab.async false
set_option linter.all false
set_option maxRecDepth 100000
set_option maxHeartbeats 0
namespace K06
open PySem PySem.Spec PyProof.Rows L2
theorem facts {l : PySem.W.OpenLaw} {w : World} {K : PySem.W.Frag} {h : Heap} {mg : Str → Option Value} {f : Addr} (X : K.In h) (G : h.Ns mainGlobals mg) (hfa : mg ("law" : Str) = some (.ref f)) (c : HookT.SaysGT faL fnL tfL exL h K) :
    LamX.LawAtS l w K CX0 10 63 "_law_script" mg f h := by
  obtain ⟨T⟩ := facts_of X G c.g
  have e := hfa.symm.trans T.g_law
  cases e
  have b := FunD.bindsA (ps := ["_law_script"]) T.F_law fun _ _ _ _ _ _ us hl => match us, hl with | [_], _ => rfl
  have key : ∀ p ∈ ([(T.c_first_index, T.P_first_index), (T.c_first_of, T.P_first_of)] : List (Addr × Addr)), ∃ q ∈ tfL, p = HookT.cTA K q := fun p hp => by
    simp only [List.mem_cons, List.not_mem_nil, or_false] at hp
    rcases hp with rfl | rfl
    · exact ⟨(HookG.At.glo "first_index"), by unfold tfL; simp, T.tab_first_index⟩
    · exact ⟨(HookG.At.glo "first_of"), by unfold tfL; simp, T.tab_first_of⟩
  refine ⟨T.fd_law, [(T.c_first_index, T.P_first_index), (T.c_first_of, T.P_first_of)], spLawT K [T.P_first_index, T.P_first_of], fun p hp => ?_, fun p hp => ?_, fun p hp => ?_, fun s v => b s [v] rfl, fun H a ns hl _ hH hS => ⟨a, ns, rfl, hS, hl, (fun P hP => by simp only [List.mem_cons, List.not_mem_nil, or_false] at hP; rcases hP with e | e <;> first | exact e ▸ HookT.tabG0 (hH (T.c_first_index, T.P_first_index) (by simp)) | exact e ▸ HookT.tabG0 (hH (T.c_first_of, T.P_first_of) (by simp))), fun _ => rfl⟩, fun base _ _ TB => ok_law T (have t := TB (T.c_first_index, T.P_first_index) (by simp); ⟨t.code, t.bm, t.gP⟩) (have t := TB (T.c_first_of, T.P_first_of) (by simp); ⟨t.code, t.bm, t.gP⟩)⟩
  · obtain ⟨q, hq, rfl⟩ := key p hp
    exact c.empty q hq
  · obtain ⟨q, hq, rfl⟩ := key p hp
    exact c.out q hq
  · obtain ⟨q, hq, rfl⟩ := key p hp
    exact PySem.W.codeHd_of_K X (c.hd q hq)
end K06
open PySem PySem.W PySem.Calls PyProof.Rows
theorem PySem.Challenge.cw_sourceforms_k06_whole_roots_and_lines_holds : PySem.Challenge.rw_sourceforms_k06_whole_roots_and_lines.Holds := by
  w_on; o_law
  refine HandSHeadRun.head_imp (r := OpenLaw.row PySem.Challenge.rw_sourceforms_k06_whole_roots_and_lines) (q := view (OpenLaw.row PySem.Challenge.rw_sourceforms_k06_whole_roots_and_lines).prog [0, 70]) (H := K06.hk) (ob := K06.ob) (M := 9000) (loose := K06.loose) (d := HandSHeadRun.topDef (OpenLaw.row PySem.Challenge.rw_sourceforms_k06_whole_roots_and_lines).prog 70) (kwd := []) K06.ob_eq K06.run (by kernel_rfl) (by kernel_rfl) (by kernel_rfl) (by rfl) (by first | assumption | decide +kernel) (by decide +kernel) ⟨rfl, rfl, rfl, rfl, rfl, by decide +kernel⟩ ?hw ?hc
  case hw => w_witness2
  case hc =>
    refine LamX.walk_ofTsE (l := PySem.Challenge.rw_sourceforms_k06_whole_roots_and_lines) (n := 63) (k := 10) (x := "_law_script") (CX := fun _ => L2.CX0) rfl (by decide) (by kernel_rfl) ⟨rfl, by decide, by decide⟩ ?F (fun _ _ _ _ _ z => z)
    intro w mg fa h Y G hmg0
    obtain ⟨K, KX, c⟩ := Y
    have hmg : mg ("law" : PySem.Str) = some (.ref fa) := by
      have e : (HandSHeadRun.topDef (OpenLaw.row PySem.Challenge.rw_sourceforms_k06_whole_roots_and_lines).prog 70).name = ("law" : PySem.Str) := by kernel_rfl
      rw [← e]
      exact hmg0
    exact ⟨K, KX, K06.facts KX G hmg c⟩
