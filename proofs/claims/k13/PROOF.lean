import PyProof.Rows.All
import Wide.All
import OpenK.AllK
import Wide.FinOn
import KE.KTupSum
import HandS.ForMost
import HandS.Wide
import HandS.Style
import HandS.Gcd
import KE.KMathG
import Flt.RightSqrt
import HandS.SlotsOwn
import HandS.IsInst
import KE.KOpsOwn
import KE.KCallOwn
import KE.KOwnIter
import OpenK.KMeth
import OpenK.KOps
import PyProof.InstNe
import HandS.OwnIter
import HandS.IterNext
import HandS.Defaults
import HandS.HeadHook2
import HandS.HeadNt
import HandS.Iter
import KE.GoesMore
import HandS.Codes
import HandS.Words
import HandS.Slots
import HandS.ClsMeth
import PyProof.ListIndex
import PyProof.TupleOfGen
import HandS.OwnEq
import PyProof.NeKinds
import HandS.List
import HandS.AnyAll
import HandS.ExcOwn
import KE.KDictIter
import PyProof.GenCompT
import HandS.HeadHook4
import HandS.HeadWalk
import HandS.TupMul
import HandS.Zip
import HandS.Comp
import KE.GoesZip
import HandS.Deep
import HandS.TupSets
import HandS.Sort
import KE.DataFind
import PyProof.MinMaxWalk
import PyProof.WalkInts
import PyProof.TupleOps
import PyProof.WalksMore
import KE.KMathGC
import HandS.Conv
import HandS.Star
import HandS.TupAny
import HandS.Evl
import HandS.WordsExc
import HandS.Head0
import HandS.Head1
import HandS.Head2
import HandS.Head3
import HandS.HeadEnd
import HandS.HeadHook1
import HandS.HeadHook3
import HandS.FStr
import KE.KEqSeq
import HandS.Flt
import HandS.TupLe
import PySem.Challenge.RW_sourceforms_k13_whole_tables_of_parts

set_option Elab.async false
set_option linter.all false
set_option maxRecDepth 100000
set_option maxHeartbeats 4000000
/-! rules of mine: a tuple turned round by a slice, the sum of a tuple -/
namespace MyR
open PySem PySem.Spec PyProof.Rows L2 HT
section
variable {prog : Program} {w : World} {A : Around} {E : Value → Shared → Prop} {s : Shared}
end
section
variable {X : Cx}
/-- // by any int other than 0 -/
def CDivZ (_ j : Int) : Prop := j ≠ 0 ∧ j.natAbs.log2 < 9000
theorem op_fdivZ : OpR X (binaryOp .FloorDiv) (rI CDivZ fun i j => .int (i.fdiv j)) := opI fun i j _ _ _ _ _ hc q =>
  floordiv_int hc.1 q (.inl (PyProof.noPylong_of_log2 hc.2))
end
end MyR

set_option Elab.async false
set_option linter.all false
set_option maxRecDepth 100000
set_option maxHeartbeats 2000000
/-! rules for instances with slots: own +, -, *, unary -, ==, !=, len, str -/
namespace OwnR
open PySem PySem.Spec PyProof.Rows L2 SlX
section
variable {X : Cx} {CX : CXT} {C g : Addr} {n : Nat} {sp : Sp} {E : XK}
end
end OwnR

set_option Elab.async false
set_option linter.all false
set_option maxRecDepth 100000
set_option maxHeartbeats 2000000
/-! list(x) of an instance with own __iter__ (an iterator over a tuple) and own __len__; iter of a tuple -/
namespace OwnR
open PySem PySem.Spec PyProof.Rows L2 SlX
/-- at it an iterator over the tuple at t, the next place is i -/
def ItT (t it : Addr) (i : Nat) : HO := .ext fun h => IsTupIter h it t i
section
variable {X : Cx} {CX : CXT} {pins : List (Addr × Obj)} {σ : L2.St} {H : Hp} {s : Shared} {C g gl t it q : Addr} {n i : Nat} {sp spl : Sp} {E : XK}
/-- what stands while the iterator's items are taken -/
structure Tk (K : PySem.W.Frag) (H0 H : Hp) (t it q : Addr) (ys : List V) (i : Nat) : Prop where
  at_ : H it = some (ItT t it i)
  tu : SqT K H t ys
  li : H q = some (.lst (ys.take i))
  st : ∀ b o, b ≠ it → b ≠ q → H0 b = some o → H b = some o
theorem slt_upd {a dx q : Addr} {vs : List (Option V)} {o : HO} (h : Slt H a C dx vs) (n : H q = none) : Slt (upd H q o) a C dx vs := by
  rcases h with ⟨h1, h2⟩ | ⟨h1, h2⟩
  · exact .inl ⟨by rw [upd_ne (ne_of_none h1 n)]; exact h1, h2⟩
  · exact .inr ⟨by rw [upd_ne (ne_of_none h1 n)]; exact h1, by rw [upd_ne (ne_of_none h2 n)]; exact h2⟩
end
end OwnR

set_option Elab.async false
set_option linter.all false
set_option maxRecDepth 100000
set_option maxHeartbeats 2000000
/-! a Hook that tells of defs found anywhere (a global, a class's method, a property's getter), and of classes with slots -/
namespace HookG
open PySem PySem.Spec PyProof.Rows L2 He
/-- the property f of the class at C -/
def prA (K : PySem.W.Frag) (C : Addr) (f : Str) : Addr := match PySem.W.recIn K (ma K C f) "property" with
  | some (.ref g :: _) => g
  | _ => 0
/-- where a def stands: a global; a method; a property's getter; a classmethod -/
inductive At where
  | glo (x : Str)
  | met (C m : Str)
  | prp (C f : Str)
  | cms (C m : Str)
def At.adr (K : PySem.W.Frag) : At → Addr
  | .glo x => ga K x
  | .met C m => ma K (ga K C) m
  | .prp C f => prA K (ga K C) f
  | .cms C m => He5.wf K (ga K C) "classmethod" m
structure GD where
  at_ : At
  name : Str
  qual : Str
  params : Arguments
  body : List Stmt
  scope : Scope
def fnA (K : PySem.W.Frag) (a : Addr) : FnW := match K.lookup a with
  | some ⟨_, _, .func fd, _⟩ => some (fd.name, fd.qualname, fd.params, fd.body, fd.scope, fd.globals, fd.closure, fd.builtins)
  | _ => none
def GD.val (d : GD) : FnW := some (d.name, d.qual, d.params, .stmts d.body, d.scope, mainGlobals, [], builtinsNs)
def GD.ok (K : PySem.W.Frag) (d : GD) : Bool := PySem.W.keepIn K (.ref (d.at_.adr K)) && (match K.lookup (d.at_.adr K) with
  | some ⟨_, _, .func fd, _⟩ => PySem.W.codeIn K fd.code d.qual && (dflB K fd.defaults [] && kwdB K fd.kwdefaults [])
  | _ => false)
theorem GD.funD {K : PySem.W.Frag} {d : GD} (e : fnA K (d.at_.adr K) = d.val) (c : d.ok K = true) : ∃ fd, FunD K d.name d.qual d.params d.body d.scope [] [] (d.at_.adr K) fd := by
  obtain ⟨kp, c2⟩ := ba c
  unfold fnA at e
  cases q : K.lookup (d.at_.adr K) with
  | none => rw [q] at c2; cases c2
  | some o =>
    obtain ⟨oc, od, dt, osl⟩ := o
    rw [q] at c2 e
    cases dt with
    | func fd =>
      obtain ⟨n1, n2, n3, n4, n5, n6, n7, n8, n9, n10, n11, n12, n13, n14, n15⟩ := fd
      have e2 : (some (n1, n2, n3, n4, n5, n6, n7, n15) : FnW) = some (d.name, d.qual, d.params, .stmts d.body, d.scope, mainGlobals, [], builtinsNs) := e
      simp only [Option.some.injEq, Prod.mk.injEq] at e2
      obtain ⟨h1, h2, h3, h4, h5, h6, h7, h8⟩ := e2
      subst h1 h2 h3 h4 h5 h6 h7 h8
      have c3 : (PySem.W.codeIn K n13 d.qual && (dflB K n8 [] && kwdB K n9 [])) = true := c2
      obtain ⟨k1, k2⟩ := ba c3
      obtain ⟨k3, k4⟩ := ba k2
      exact ⟨_, ⟨oc, od, n8, n9, n10, n11, n12, n13, n14, osl, rfl, q, k1, dflB_ok k3, kwdB_ok k4⟩, kp⟩
    | _ => cases c2
/-! ### facts of classes with slots -/
def dO {α : Type} [DecidableEq α] (a b : Option α) : Bool := decide (a = b)
theorem dO_ok {α : Type} [DecidableEq α] {a b : Option α} (h : dO a b = true) : a = b := of_decide_eq_true h
/-- the class at the module's name x: plain, with slots -/
def sclB (K : PySem.W.Frag) (x : Str) : Bool := PySem.W.plainGet K (ga K x) Str.empty && (PySem.W.isClsIn K (ga K x) && (PySem.W.plainOver K (ga K x) && eqO (PySem.W.findIn K (.ref (ga K x)) "__setattr__") (some (some (.builtin "object.__setattr__")))))
theorem sclB_ok {K : PySem.W.Frag} {x : Str} (h : sclB K x = true) : SlX.SCls K (ga K x) := by
  obtain ⟨c1, c⟩ := ba h
  obtain ⟨c2, c⟩ := ba c
  obtain ⟨c3, c4⟩ := ba c
  exact ⟨c1, c2, c3, eqO_ok c4⟩
def slotB (K : PySem.W.Frag) (x f : Str) (i : Nat) : Bool := eqO (PySem.W.findIn K (.ref (ga K x)) f) (some (some (.ref (ma K (ga K x) f)))) && (eqO (PySem.W.specialIn K (.ref (ma K (ga K x) f)) "__get__") (some (some (.builtin "member_descriptor.__get__"))) && (dO (PySem.W.takesIn K (.ref (ma K (ga K x) f))) (some true) && (dO (PySem.W.typeIn K (.ref (ma K (ga K x) f))) (some (.type "member_descriptor")) && dO (PySem.W.slotIn K (ma K (ga K x) f) (ga K x)) (some i))))
theorem slotB_ok {K : PySem.W.Frag} {x f : Str} {i : Nat} (h : slotB K x f i = true) (hi : i < 1000) : SlX.Slot1 K (ga K x) f (ma K (ga K x) f) i := by
  obtain ⟨c1, c⟩ := ba h
  obtain ⟨c2, c⟩ := ba c
  obtain ⟨c3, c⟩ := ba c
  obtain ⟨c4, c5⟩ := ba c
  exact ⟨eqO_ok c1, eqO_ok c2, dO_ok c3, dO_ok c4, dO_ok c5, hi⟩
def sisB (K : PySem.W.Frag) (x : Str) : Bool := eqO (PySem.W.findIn K (.ref (ga K x)) "__class__") (some (some (.builtin "object.__class__"))) && (eqO (PySem.W.specialIn K (.builtin "object.__class__") "__get__") (some (some (.builtin "getset_descriptor.__get__"))) && (dO (PySem.W.takesIn K (.builtin "object.__class__")) (some true) && dO (PySem.W.mroIn K (ga K x) (.type "object")) (some true)))
theorem sisB_ok {K : PySem.W.Frag} {x : Str} (h : sisB K x = true) : SlX.SIsi K (ga K x) := by
  obtain ⟨c1, c⟩ := ba h
  obtain ⟨c2, c⟩ := ba c
  obtain ⟨c3, c4⟩ := ba c
  exact ⟨eqO_ok c1, eqO_ok c2, dO_ok c3, dO_ok c4⟩
/-- a method: found in the class, a function -/
structure Mt (K : PySem.W.Frag) (C : Addr) (m : Str) (g : Addr) : Prop where
  at_ : PySem.W.findIn K (.ref C) m = some (some (.ref g))
  fn : PySem.W.isFn K (.ref g) = true
def mtB (K : PySem.W.Frag) (x m : Str) : Bool := eqO (PySem.W.findIn K (.ref (ga K x)) m) (some (some (.ref (ma K (ga K x) m)))) && PySem.W.isFn K (.ref (ma K (ga K x) m))
theorem mtB_ok {K : PySem.W.Frag} {x m : Str} (h : mtB K x m = true) : Mt K (ga K x) m (ma K (ga K x) m) := by
  obtain ⟨c1, c2⟩ := ba h
  exact ⟨eqO_ok c1, c2⟩
/-- a property, its getter at g -/
structure Pr (K : PySem.W.Frag) (C : Addr) (f : Str) (p g : Addr) : Prop where
  at_ : PySem.W.findIn K (.ref C) f = some (some (.ref p))
  get : PySem.W.specialIn K (.ref p) "__get__" = some (some (.builtin "property.__get__"))
  tk : PySem.W.takesIn K (.ref p) = some true
  rc : ∃ rest, PySem.W.recIn K p "property" = some (.ref g :: rest)
def recB (K : PySem.W.Frag) (p g : Addr) : Bool := match PySem.W.recIn K p "property" with
  | some (.ref a :: _) => decide (a = g)
  | _ => false
def prB (K : PySem.W.Frag) (x f : Str) : Bool := eqO (PySem.W.findIn K (.ref (ga K x)) f) (some (some (.ref (ma K (ga K x) f)))) && (eqO (PySem.W.specialIn K (.ref (ma K (ga K x) f)) "__get__") (some (some (.builtin "property.__get__"))) && (dO (PySem.W.takesIn K (.ref (ma K (ga K x) f))) (some true) && recB K (ma K (ga K x) f) (prA K (ga K x) f)))
theorem prB_ok {K : PySem.W.Frag} {x f : Str} (h : prB K x f = true) : Pr K (ga K x) f (ma K (ga K x) f) (prA K (ga K x) f) := by
  obtain ⟨c1, c⟩ := ba h
  obtain ⟨c2, c⟩ := ba c
  obtain ⟨c3, c4⟩ := ba c
  refine ⟨eqO_ok c1, eqO_ok c2, dO_ok c3, ?_⟩
  unfold recB at c4
  cases q : PySem.W.recIn K (ma K (ga K x) f) "property" with
  | none => rw [q] at c4; cases c4
  | some l =>
    rw [q] at c4
    cases l with
    | nil => cases c4
    | cons a r =>
      cases a with
      | ref b =>
        have e : b = prA K (ga K x) f := of_decide_eq_true c4
        rw [← e]
        exact ⟨r, rfl⟩
      | _ => cases c4
/-! ### the Hook -/
abbrev AlG : Type := Bool × List FnW
def obsG (fa : List Fa) (fn : List GD) (ex : PySem.W.Frag → Bool) (K : PySem.W.Frag) : AlG := ((fa.all fun f => f.ok K) && ((fn.all fun d => d.ok K) && ex K), fn.map fun d => fnA K (d.at_.adr K))
def valG (fn : List GD) : AlG := (true, fn.map GD.val)
def SaysG (fa : List Fa) (fn : List GD) (ex : PySem.W.Frag → Bool) (K : PySem.W.Frag) : Prop := obsG fa fn ex K = valG fn
section
variable {fa : List Fa} {fn : List GD} {ex : PySem.W.Frag → Bool} {K : PySem.W.Frag}
theorem SaysG.all (c : SaysG fa fn ex K) : ((fa.all fun f => f.ok K) && ((fn.all fun d => d.ok K) && ex K)) = true := congrArg (fun z : AlG => z.1) c
theorem SaysG.fact (c : SaysG fa fn ex K) (i : Nat) {f : Fa} (h : fa[i]? = some f := by rfl) : f.ok K = true := List.all_eq_true.mp (ba c.all).1 f (List.mem_of_getElem? h)
theorem SaysG.more (c : SaysG fa fn ex K) : ex K = true := (ba (ba c.all).2).2
theorem SaysG.def_ (c : SaysG fa fn ex K) (i : Nat) {d : GD} (h : fn[i]? = some d := by rfl) : ∃ fd, FunD K d.name d.qual d.params d.body d.scope [] [] (d.at_.adr K) fd := by
  have c2 := (ba (ba c.all).2).1
  have e : fn.map (fun d => fnA K (d.at_.adr K)) = fn.map GD.val := congrArg (fun z : AlG => z.2) c
  have e2 : (fn.map fun d => fnA K (d.at_.adr K))[i]? = (fn.map GD.val)[i]? := by rw [e]
  rw [List.getElem?_map, List.getElem?_map, h] at e2
  exact GD.funD (Option.some.inj e2) (List.all_eq_true.mp c2 d (List.mem_of_getElem? h))
end
end HookG

set_option Elab.async false
set_option linter.all false
set_option maxRecDepth 100000
set_option maxHeartbeats 2000000
/-! HookG's Hook over a lesser fragment: what the globals name, what is named by that, and so on; a function names its code and its defaults only -/
namespace HookG
open PySem PySem.Spec PyProof.Rows L2 He
def refsW (o : Obj) : List Addr := match o.data with
  | .func fd => refV fd.code ++ refV fd.defaults ++ refV fd.kwdefaults
  | _ => refsD o
def nxtW (g : Addr → Option Obj) (as : List Addr) : List Addr := as.flatMap fun a => match g a with
  | some o => refsW o
  | none => []
def levW (g : Addr → Option Obj) : Nat → List Addr → List Addr
  | 0, as => as
  | n + 1, as => as ++ levW g n (nxtW g as)
def asW (g : Addr → Option Obj) (n : Nat) : List Addr := levW g n [mainGlobals] ++ [cStatics]
end HookG

set_option Elab.async false
set_option linter.all false
set_option maxRecDepth 100000
set_option maxHeartbeats 2000000
/-! enumerate(t), t a tuple -/
namespace EnumT
open PySem PySem.Spec PyProof.Rows L2
open AutoSeq1 (wpAny_loadPart')
theorem meets_newT (l : Addr) (items : Array Value) (n : Nat) (dct : Option Addr) (sl : Array (Option Value)) :
    Meets (Builtin.«enumerate.__new__» ⟨[.type "enumerate", .ref l], []⟩) (fun _ R s => s.heap.get? l = some { cls := .type "tuple", dict := dct, data := .seq items n, slots := sl } ∧
      R (.ok (.ret (.ref (s.heap.push { cls := .type "tuple_iterator", data := .fields #[.ref l, .int 0 0] }).objs.size)))
        { s with heap := (s.heap.push { cls := .type "tuple_iterator", data := .fields #[.ref l, .int 0 0] }).push { cls := .type "enumerate", data := .fields #[.none, .bool false, .ref s.heap.objs.size, rawInt 0, .none, .none] } }) :=
  .of_wp fun prog w A R s h => by
    obtain ⟨hp, g, d, tk, os⟩ := s; obtain ⟨hl, h⟩ := h
    have hsub := sub_enumerate
    have hL : Heap.IsTuple (Shared.heap ⟨hp, g, d, tk, os⟩) l items := ⟨_, hl, rfl, n, rfl⟩
    wp_walk using wpAny_loadPart' hl
    refine wpAny_stack_any fun st => wpAny_pure ?_
    split
    · rename_i c _ _ _ _ _
      cases (c == Value.type "enumerate")
      · wp_walk using wpAny_loadPart' hl, wpAny_pyIter_tuple hL
        exact ⟨_, rfl, h⟩
      · wp_walk using wpAny_loadPart' hl, wpAny_pyIter_tuple hL
        exact ⟨_, rfl, h⟩
    · wp_walk using wpAny_loadPart' hl, wpAny_pyIter_tuple hL
      exact ⟨_, rfl, h⟩
section
variable {prog : Program} {w : World} {A : Around} {E : Value → Shared → Prop} {s : Shared}
theorem call_enumT {l : Addr} {items : Array Value} {Q : Value → Shared → Prop} (hL : s.heap.IsTuple l items)
    (h : ∀ h', IsEnum h' (s.heap.objs.size + 1) s.heap.objs.size 0 .none → h'.IsTupleIter s.heap.objs.size l 0 → h'.objs.size = s.heap.objs.size + 2 →
      (∀ b o, s.heap.get? b = some o → h'.get? b = some o) → Q (.ref (s.heap.objs.size + 1)) { s with heap := h' }) :
    wpAny (model prog w) A (call (.type "enumerate") [.ref l]) Q E s := by
  obtain ⟨⟨c, dct, dt, sl⟩, hl, hc, n, hd⟩ := hL
  replace hc : c = .type "tuple" := hc
  replace hd : dt = .seq items n := hd
  subst hc hd
  refine callType_new F.called_enumerate (by decide) (F.typeCall_enumerate_1 _) (F.newCall_enumerate_1 _) (fun obj => F.args_object_init_2 obj _) F.entry_enumerate_new
    (meets_newT l items n dct sl) ⟨hl, ?_⟩
  have hz : (s.heap.push { cls := .type "tuple_iterator", data := .fields #[.ref l, .int 0 0] }).objs.size = s.heap.objs.size + 1 := Heap.size_push ..
  show _ ∧ _
  rw [hz]
  have he : IsEnum ((s.heap.push { cls := .type "tuple_iterator", data := .fields #[.ref l, .int 0 0] }).push
      { cls := .type "enumerate", data := .fields #[.none, .bool false, .ref s.heap.objs.size, rawInt 0, .none, .none] }) (s.heap.objs.size + 1) s.heap.objs.size 0 .none := by
    have := Heap.get?_push_size (s.heap.push { cls := .type "tuple_iterator", data := .fields #[.ref l, .int 0 0] })
      (o := { cls := .type "enumerate", data := .fields #[.none, .bool false, .ref s.heap.objs.size, rawInt 0, .none, .none] }) rfl
    rw [hz] at this; exact this
  refine ⟨⟨_, he, rfl⟩, h _ he ⟨_, Heap.get?_push_of_some _ (Heap.get?_push_size _ rfl), rfl, rfl⟩ (by rw [Heap.size_push, hz]) fun b o x => Heap.get?_push_of_some _ (Heap.get?_push_of_some _ x)⟩
end
/-- the tuple at a, each item in a new pair -/
def IteT (K : PySem.W.Frag) (a : Addr) : It :=
  ⟨fun i H => ∃ (xs : List V) (x : V), SqT K H a xs ∧ xs[i]? = some x, fun i H v H' => ∃ T x, v = .ref T ∧ H T = none ∧ H' = upd H T (.tup [.int (i : Nat), x]) ∧ ∀ xs, SqT K H a xs → xs[i]? = some x, fun i H => ∃ xs : List V, SqT K H a xs ∧ xs.length = i⟩
theorem turn_enumT {P : Program} {w : World} {K : PySem.W.Frag} {elts : List Expr} {kk : Nat} {tpos : Pos} (a e it : Addr) (hait : a ≠ it) (hae : a ≠ e) :
    Turn P w K (.Tuple elts kk tpos) (IteT K a) [e, it] e (fun i h => (∃ old, IsEnum h e it ((i : Nat) : Int) old) ∧ h.IsTupleIter it a i ∧ e ≠ it) where
  mem := by simp
  obj := fun i h st b hb => by
    obtain ⟨⟨old, he⟩, ⟨o, ho, hc, hd⟩, _⟩ := st
    have e' : b = e ∨ b = it := by simpa using hb
    rcases e' with z | z
    · rw [z]; exact ⟨_, he, fun v q => nomatch q⟩
    · rw [z]; exact ⟨o, ho, fun v q => by rw [hd] at q; cases q⟩
  keep := fun i h h' st k => let ⟨⟨old, he⟩, hi, hne⟩ := st; ⟨⟨old, k e (by simp) _ he⟩, hi.at fun o q => k it (by simp) o q, hne⟩
  item := by
    intro X hP hw hK hc i pins s σ H E I hf st hg
    subst hP hw hK
    obtain ⟨⟨old, he⟩, hit, hne⟩ := st
    obtain ⟨xs, x, hq, hx⟩ := hg
    obtain ⟨its, rv, p, hz⟩ := I.tuple hq
    obtain ⟨u, hu, ru⟩ := rv.get hx
    have hel : e < s.heap.objs.size := Heap.lt_size he
    have hil : it < s.heap.objs.size := by obtain ⟨_, q, _⟩ := hit; exact Heap.lt_size q
    have pT : s.heap.IsTuple a its.toArray := p
    have hlt : i < its.toArray.size := by
      have := (List.getElem?_eq_some_iff.mp hu).1
      simpa using this
    refine wpAny_pyNext_enum_itemD (Draws.tuple (A := X.A.in1) (I.ok.hd hc) it a hait its.toArray) he ⟨hit, pT⟩ hlt hne (by simp [Ne.symm hae, hne]) fun x' h' tk hx' ho hit' hT hsz hk => ?_
    have hux : x' = u := by
      have h1 : its[i]? = some x' := by simpa using hx'
      rw [hu] at h1
      exact (Option.some.inj h1).symm
    subst hux
    refine ⟨_, rfl, wpAny_letOwnedTupleGo_enum (s := { s with heap := h', toks := tk + 1 }) ho fun h'' he' sb => ?_⟩
    have hT2 : h''.get? s.heap.objs.size = some { cls := .type "tuple", data := .seq #[.int i tk, x'] } := (sb.2 _ (Nat.ne_of_gt hel)).trans hT
    have new : ObjOk X.prog X.w (upd H s.heap.objs.size (.tup [.int (i : Nat), x])) h'' s.heap.objs.size (.tup [.int (i : Nat), x]) :=
      ⟨by show 2 ≤ sizeLine; decide, [.int i tk, x'], .cons ⟨_, rfl⟩ (.cons ru .nil), ⟨_, hT2, rfl, _, rfl⟩⟩
    have I1 : Inv X pins σ (upd H s.heap.objs.size (.tup [.int (i : Nat), x])) { s with heap := h'', toks := tk + 1 } :=
      I.turnedNew (ch := [e, it]) (fun b ob hb q => (sb.2 b (fun z => hb (by simp [z]))).trans (hk b ob (fun z => hb (by simp [z])) (fun z => hb (by simp [z])) q)) hf (Nat.le_refl _) new
    refine ⟨.ref s.heap.objs.size, _, I1, rfl, ⟨_, x, rfl, I.hok.fresh (Nat.le_refl _), rfl, fun ys hy => ?_⟩, ⟨⟨x', ?_⟩, hit'.1.at fun o q => (sb.2 it (Ne.symm hne)).trans q, hne⟩, fun b hb => ?_⟩
    · rw [show ys = xs from I.tuple_inj hy hq]
      exact hx
    · have e1 : ((i + 1 : Nat) : Int) = (i : Int) + 1 := by omega
      rw [e1]; exact he'
    · have hb' : b < s.heap.objs.size := by
        have e' : b = e ∨ b = it := by simpa using hb
        rcases e' with z | z
        · rw [z]; exact hel
        · rw [z]; exact hil
      rw [upd_ne (Nat.ne_of_lt hb')]
      exact (hf b hb).1
  done := by
    intro X hP hw hK hc i pins s σ H E I hf st hg
    subst hP hw hK
    obtain ⟨⟨old, he⟩, hit, hne⟩ := st
    obtain ⟨xs, hq, hx⟩ := hg
    obtain ⟨its, rv, p, hz⟩ := I.tuple hq
    obtain ⟨f0, f1, f2, f3, f4, f5⟩ := hf it (by simp)
    have hl := rv.length
    have hz2 : i = its.toArray.size := by rw [List.size_toArray]; omega
    subst hz2
    exact wpAny_pyNext_enum_endD (Draws.tuple (A := X.A.in1) (I.ok.hd hc) it a hait its.toArray) he ⟨hit, show s.heap.IsTuple a its.toArray from p⟩ fun h' eb => ⟨rfl, I.turned (t' := s.toks) (fun b o hb q => eb b o hb q) f0 f1 f3 f4 f5⟩
  self := fun A i s Q E st h => let ⟨⟨_, he⟩, _⟩ := st; wpAny_pyIter_enum he h
def iEnumT (K : PySem.W.Frag) (ta : TA) : TI := fun σ H R => ta σ H fun vs H1 => ∃ a xs, vs = [.ref a] ∧ SqT K H1 a xs ∧ R (IteT K a) H1
theorem pi_enumT {X : Cx} {e : Expr} {ta : TA} {p pos tpos : Pos} {elts : List Expr} {kk : Nat} (hg : Gl X "enumerate") (hm : X.mg "enumerate" = none) (ha : PA X [e] ta) (hs : starEach [e] X.env = [(false, eval e X.env)] := by rfl) :
    PI X (.Tuple elts kk tpos) (.Call (.Name "enumerate" p) [e] [] pos) (iEnumT X.K ta) := by
  refine ⟨fun pins s σ H R I h => ?_⟩
  refine Call_ (ld_blt I hg hm boot_enumerate (PyProof.Rows.callWith_type1 (thn (ha.run pos pins s σ H _ I h) fun us s1 ⟨vs, H1, I1, r1, q1⟩ => ?_) hs rfl))
  obtain ⟨a, xs, ex, hq, q⟩ := q1
  subst ex
  cases r1 with
  | cons r rr =>
    cases rr
    cases r
    obtain ⟨its, rv, p', hz⟩ := I1.tuple hq
    have hlt : a < s1.heap.objs.size := by obtain ⟨_, ho, _⟩ := p'; exact Heap.lt_size ho
    refine call_enumT (show s1.heap.IsTuple a its.toArray from p') fun h' he hit hsz hk => wpAny_pyIter_enum he ?_
    have I2 : Inv X pins σ H1 { s1 with heap := h' } := I1.kept (t' := s1.toks) hk
    refine ⟨s1.heap.objs.size + 1, [s1.heap.objs.size + 1, s1.heap.objs.size], _, _, H1, rfl, I2, turn_enumT a (s1.heap.objs.size + 1) s1.heap.objs.size (Nat.ne_of_lt hlt) (Nat.ne_of_lt (Nat.lt_succ_of_lt hlt)), ⟨⟨.none, he⟩, hit, Nat.succ_ne_self _⟩, fun b hb => ?_, q⟩
    have e' : b = s1.heap.objs.size + 1 ∨ b = s1.heap.objs.size := by simpa using hb
    have hle : s1.heap.objs.size ≤ b := by
      rcases e' with z | z
      · rw [z]; exact Nat.le_add_right _ _
      · rw [z]; exact Nat.le_refl _
    exact I1.fpOk hle (I1.hok.fresh hle)
/-- a loop over enumerate of a tuple -/
theorem for_enumT {K : PySem.W.Frag} {a : Addr} {xs : List V} {g : TG} {tb : TS} {D : Ends} {σ : L2.St} {H : Hp} (Pv : Nat → L2.St → Hp → Prop) (h0 : Pv 0 σ H) (hq : ∀ i σ H, Pv i σ H → SqT K H a xs)
    (hs : ∀ (i : Nat) (x : V) (T : Addr) (σ : L2.St) (H : Hp), xs[i]? = some x → Pv i σ H → H T = none → g (.ref T) σ (upd H T (.tup [.int (i : Nat), x])) fun σ2 H2 => tb { D with nx := Pv (i + 1), ct := Pv (i + 1), bk := D.nx } σ2 H2) (hd : ∀ σ H, Pv xs.length σ H → D.nx σ H) :
    ∃ W : Nat → Nat → L2.St → Hp → Prop, (∃ m, W 0 m σ H) ∧ ∀ i m σ H, W i m σ H →
      ((IteT K a).stop i H ∧ D.nx σ H) ∨ ((IteT K a).go i H ∧ ∃ N : L2.St → Hp → Prop, (∀ σ' H', N σ' H' → ∃ m', m' < m ∧ W (i + 1) m' σ' H') ∧ ∀ v H', (IteT K a).yld i H v H' → g v σ H' fun σ2 H2 => tb { D with nx := N, ct := N, bk := D.nx } σ2 H2) := by
  refine ⟨fun i m σ H => m = xs.length - i ∧ i ≤ xs.length ∧ Pv i σ H, ⟨xs.length, rfl, Nat.zero_le _, h0⟩, ?_⟩
  rintro i m σ H ⟨rfl, hi, p⟩
  have qx := hq i σ H p
  by_cases hlt : i < xs.length
  · have hx : xs[i]? = some xs[i] := List.getElem?_eq_getElem hlt
    refine .inr ⟨⟨xs, _, qx, hx⟩, Pv (i + 1), fun σ' H' p' => ⟨xs.length - (i + 1), by omega, rfl, hlt, p'⟩, fun v H' y => ?_⟩
    obtain ⟨T, x', rfl, hT, rfl, f1⟩ := y
    exact hs i x' T σ H (f1 xs qx) p hT
  · have e : i = xs.length := by omega
    subst e
    exact .inl ⟨⟨xs, qx, rfl⟩, hd σ H p⟩
end EnumT

set_option Elab.async false
set_option linter.all false
set_option maxRecDepth 100000
set_option maxHeartbeats 2000000
/-! a comprehension over enumerate(t), t a tuple -/
namespace EnumT
open PySem PySem.Spec PyProof.Rows L2
theorem lc_enumT {K : PySem.W.Frag} {a : Addr} {xs : List V} {g : TG} {tt : TT} {te : TE} {vs : List Nat} {σ : L2.St} {H1 : Hp} {D : Addr} {Qd : Hp → Prop} (Pv : Nat → Hp → Prop) (h0 : Pv 0 (upd H1 D (.lst []))) (hq : ∀ i H, i ≤ xs.length → Pv i H → SqT K H a xs)
    (hs : ∀ (i : Nat) (x : V) (T : Addr) (H : Hp), xs[i]? = some x → Pv i H → H T = none → g (.ref T) (wipe σ vs) (upd H T (.tup [.int (i : Nat), x])) fun σ2 H2 => wipe σ2 vs = wipe σ vs ∧ tt σ2 H2 fun b H3 =>
      if b = true then te σ2 H3 fun y H4 => ∃ acc, H4 D = some (.lst acc) ∧ acc.length < sizeLine ∧ Pv (i + 1) (upd H4 D (.lst (acc ++ [y]))) else Pv (i + 1) H3) (hd : ∀ H, Pv xs.length H → Qd H) :
    ∃ W : Nat → Nat → Hp → Prop, (∃ m, W 0 m (upd H1 D (.lst []))) ∧ ∀ i m H, W i m H →
      ((IteT K a).stop i H ∧ Qd H) ∨ ((IteT K a).go i H ∧ ∃ Nx : Hp → Prop, (∀ H', Nx H' → ∃ m', m' < m ∧ W (i + 1) m' H') ∧ ∀ x H', (IteT K a).yld i H x H' → g x (wipe σ vs) H' fun σ2 H2 => wipe σ2 vs = wipe σ vs ∧ tt σ2 H2 fun b H3 =>
        if b = true then te σ2 H3 fun y H4 => ∃ acc, H4 D = some (.lst acc) ∧ acc.length < sizeLine ∧ Nx (upd H4 D (.lst (acc ++ [y]))) else Nx H3) := by
  refine ⟨fun i m H => m = xs.length - i ∧ i ≤ xs.length ∧ Pv i H, ⟨xs.length, by simp, Nat.zero_le _, h0⟩, ?_⟩
  rintro i m H ⟨rfl, hi, p⟩
  have qx := hq i H hi p
  by_cases hlt : i < xs.length
  · have hx : xs[i]? = some xs[i] := List.getElem?_eq_getElem hlt
    refine .inr ⟨⟨xs, _, qx, hx⟩, Pv (i + 1), fun H' p' => ⟨xs.length - (i + 1), by omega, rfl, hlt, p'⟩, fun v H' y => ?_⟩
    obtain ⟨T, x', rfl, hT, rfl, f1⟩ := y
    exact hs i x' T H (f1 xs qx) p hT
  · have e : i = xs.length := by omega
    subst e
    exact .inl ⟨⟨xs, qx, rfl⟩, hd H p⟩
end EnumT

set_option Elab.async false
set_option linter.all false
set_option maxRecDepth 100000
set_option maxHeartbeats 2000000
/-! the rules of OwnR, OwnL, over the facts of HookG -/
namespace OwnF
open PySem PySem.Spec PyProof.Rows L2 He SlX OwnR HookG
/-- what is asked of a class with slots -/
structure OC (K : PySem.W.Frag) (C : Addr) : Prop where
  scl : SCls K C
  sis : SIsi K C
  first : PySem.W.selfFirst K C = true
  ne : PySem.W.findIn K (.ref C) "__ne__" = some (some (.builtin "object.__ne__"))
  ntup : PySem.W.notFirst K C (.type "tuple") = true
  rmul : PySem.W.findIn K (.ref C) "__rmul__" = some none
  imul : PySem.W.findIn K (.type "int") "__mul__" = some (some (.builtin "int.__mul__"))
  irmul : PySem.W.findIn K (.type "int") "__rmul__" = some (some (.builtin "int.__rmul__"))
  isub : PySem.W.subIn K (.type "int") (.ref C) = some false
  kself : PySem.W.kitOne K (.ref C) (.ref C) = some true
  ktup : PySem.W.kitOne K (.type "tuple") (.ref C) = some false
  kint : PySem.W.kitOne K (.type "int") (.ref C) = some false
def ocB (K : PySem.W.Frag) (x : Str) : Bool := sclB K x && (sisB K x && (PySem.W.selfFirst K (ga K x) && (eqO (PySem.W.findIn K (.ref (ga K x)) "__ne__") (some (some (.builtin "object.__ne__"))) && (PySem.W.notFirst K (ga K x) (.type "tuple") && (eqO (PySem.W.findIn K (.ref (ga K x)) "__rmul__") (some none) && (eqO (PySem.W.findIn K (.type "int") "__mul__") (some (some (.builtin "int.__mul__"))) && (eqO (PySem.W.findIn K (.type "int") "__rmul__") (some (some (.builtin "int.__rmul__"))) && (dO (PySem.W.subIn K (.type "int") (.ref (ga K x))) (some false) && (dO (PySem.W.kitOne K (.ref (ga K x)) (.ref (ga K x))) (some true) && (dO (PySem.W.kitOne K (.type "tuple") (.ref (ga K x))) (some false) && dO (PySem.W.kitOne K (.type "int") (.ref (ga K x))) (some false)))))))))))
theorem ocB_ok {K : PySem.W.Frag} {x : Str} (h : ocB K x = true) : OC K (ga K x) := by
  obtain ⟨c1, c⟩ := ba h
  obtain ⟨c2, c⟩ := ba c
  obtain ⟨c3, c⟩ := ba c
  obtain ⟨c4, c⟩ := ba c
  obtain ⟨c5, c⟩ := ba c
  obtain ⟨c6, c⟩ := ba c
  obtain ⟨c7, c⟩ := ba c
  obtain ⟨c8, c⟩ := ba c
  obtain ⟨c9, c⟩ := ba c
  obtain ⟨c10, c⟩ := ba c
  obtain ⟨c11, c12⟩ := ba c
  exact ⟨sclB_ok c1, sisB_ok c2, c3, eqO_ok c4, c5, eqO_ok c6, eqO_ok c7, eqO_ok c8, dO_ok c9, dO_ok c10, dO_ok c11, dO_ok c12⟩
theorem raw0 {P : Program} {w : World} {K : PySem.W.Frag} {mg : Str → Option Value} {base : Heap} {CX : CXT} {k : Nat} {f : Addr} {sp : Sp} {fd : FuncData} {ps : List Str} (F : FnOk P w K mg base CX k f fd ps sp) (hb : Binds K fd ps []) : FnR P w K mg base CX k f sp :=
  (F.raw hb .nil).imp fun vs H Q E h => by rw [List.append_nil]; exact h
section
variable {X : Cx} {C g gl pp : Addr} {n : Nat} {sp spl : Sp} {fd fdl : FuncData} {ps psl : List Str} {f : Str} {e : Expr} {pos : Pos} {ta : TE}
theorem hx0 : ∀ (H : Hp) (s : Shared) (e : Value) (s' : Shared), CX0 X.stack H s E0 e s' → False := fun _ _ _ _ h => h
theorem pe_prp (he : PE X e ta) (c : OC X.K C) (p : Pr X.K C f pp g) (F : FnOk X.prog X.w X.K X.mg X.base CX0 n g fd ps sp) (hb : Binds X.K fd ps []) (hr : Room (n + 1) X.A) (hb2 : attributeBase e f X.env (eval e X.env) = eval e X.env := by rfl) : PE X (.Attribute e f pos) (tPropSl C sp E0 ta) :=
  pe_propSl he c.scl p.at_ p.get p.tk p.rc (raw0 F hb) hr hx0 hb2
/-- isinstance(x, C): x of a plain type, or an instance -/
theorem call_isiF (C : Addr) : CallR X (.builtin "isinstance") (fun xs H Q => rIsi X.K xs H Q ∨ rIsiSl X.K (.ref C) xs H Q) := call_isi.or (call_isiSl (.ref C))
end
end OwnF

set_option Elab.async false
set_option linter.all false
set_option maxRecDepth 100000
set_option maxHeartbeats 2000000
/-! a method of an instance with slots -/
namespace OwnF
open PySem PySem.Spec PyProof.Rows L2 He SlX OwnR HookG
section
variable {X : Cx} {C g : Addr} {n : Nat} {sp : Sp} {fd : FuncData} {ps : List Str} {o e : Expr} {es : List Expr} {x : Str} {pos apos : Pos} {ta : TE} {t : TA}
end
end OwnF

set_option Elab.async false
set_option linter.all false
set_option maxRecDepth 100000
set_option maxHeartbeats 2000000
/-! classmethods, classes in local names, xs[i] op= e -/
namespace OwnC
open PySem PySem.Spec PyProof.Rows L2 He SlX OwnR HookG OwnF
/-- C.m is a classmethod: its record at p, its def at g -/
structure Cm (K : PySem.W.Frag) (C : Addr) (m : Str) (p g : Addr) : Prop where
  rd : ClX.CRead K C (.type "type")
  cm : ClX.CMet K C (.type "type") m p g
section
variable {X : Cx} {C p g f : Addr} {n i : Nat} {sp : Sp} {fd : FuncData} {ps : List Str} {o e : Expr} {es : List Expr} {m x : Str} {pos apos pp : Pos} {ta : TE} {t : TA}
/-- xs[i], read for xs[i] op= e -/
def rGetL (K : PySem.W.Frag) : R2 := fun x y H Q => ∃ a xs j v, x = .ref a ∧ y = .int ((j : Nat) : Int) ∧ SqL K H a xs ∧ xs[j]? = some v ∧ Q v H
theorem get_list : PGet X (rGetL X.K) := by
  intro pins s σ H x y v u Q I rx ry h
  obtain ⟨a, xs, j, z, rfl, rfl, hq, he, q⟩ := h
  cases rx
  obtain ⟨t, rfl⟩ := ry
  obtain ⟨its, r, pl, hz⟩ := I.list hq
  obtain ⟨w, ew, rw'⟩ := r.get he
  have hl := r.length
  have hn := line63
  have hj : j < xs.length := (List.getElem?_eq_some_iff.mp he).1
  exact wpAny_getItem_list pl.isList (by omega) (by omega) (x := w) (by rw [Int.toNat_natCast]; simpa using ew) ⟨z, H, I, rw', q⟩
end
end OwnC

set_option Elab.async false
set_option linter.all false
set_option maxRecDepth 100000
set_option maxHeartbeats 2000000
/-! tuple(x) of an instance with own __iter__ (an iterator over a tuple) and own __len__ -/
namespace OwnR
open PySem PySem.Spec PyProof.Rows L2 SlX
section
variable {X : Cx} {CX : CXT} {pins : List (Addr × Obj)} {σ : L2.St} {H : Hp} {s : Shared} {C g gl t it q : Addr} {n i : Nat} {sp spl : Sp} {E : XK}
end
section
variable {X : Cx} {C g gl : Addr} {n : Nat} {sp spl : Sp} {fd fdl : FuncData} {ps psl : List Str}
end
end OwnR

set_option Elab.async false
set_option linter.all false
set_option maxRecDepth 100000
set_option maxHeartbeats 2000000
/-! == and != of tuples of instances with slots, by their own ==, item by item alike -/
namespace OwnTE
open PySem PySem.Spec PyProof.Rows L2 SlX OwnR OwnF HookG
open PySem.SeqAt AutoSeq1 MeetsSeq MeetsSeq2 MeetsSeq3 GQ
section
variable {prog : Program} {w : World} {A : Around} {R : Result → Shared → Prop}
end
section
variable {prog : Program} {w : World} {A : Around} {E : Value → Shared → Prop} {s : Shared}
end
section
variable {X : Cx} {n : Nat} {C g : Addr} {fd : FuncData} {ps : List Str} {sp : Sp}
end
end OwnTE

set_option Elab.async false
set_option linter.all false
set_option maxRecDepth 100000
set_option maxHeartbeats 2000000
/-! sequences that may be a list or a tuple: len, index, enumerate -/
namespace SeqE
open PySem PySem.Spec PyProof.Rows L2
/-- at a a list or a tuple with these items -/
def Sq (H : Hp) (a : Addr) (xs : List V) : Prop := H a = some (.tup xs) ∨ H a = some (.lst xs)
theorem Sq.same {H H' : Hp} {a : Addr} {xs : List V} (h : Sq H a xs) (s : Same H H') : Sq H' a xs := h.elim (fun e => .inl (s _ _ e)) fun e => .inr (s _ _ e)
theorem Sq.upd {H : Hp} {a p : Addr} {o : HO} {xs : List V} (h : Sq H a xs) (hp : H p = none) : Sq (upd H p o) a xs := by
  refine h.elim (fun e => .inl ?_) fun e => .inr ?_ <;> rw [upd_ne (ne_of_none e hp)] <;> exact e
theorem ix_sq {K : PySem.W.Frag} {H : Hp} {a : Addr} {xs : List V} {i : Int} {v : V} {Q : VK} (h : Sq H a xs) (e : atI xs i = some v) (q : Q v H) : rIx K (.ref a) (.int i) H Q :=
  h.elim (fun x => .inr (.inl ⟨a, xs, i, v, rfl, rfl, SqT.of x, e, q⟩)) fun x => .inl ⟨a, xs, i, v, rfl, rfl, SqL.of x, e, q⟩
theorem PI_or {X : Cx} {tg it : Expr} {t1 t2 : TI} (h1 : PI X tg it t1) (h2 : PI X tg it t2) : PI X tg it (fun σ H R => t1 σ H R ∨ t2 σ H R) :=
  ⟨fun pins s σ H R I h => h.elim (h1.run pins s σ H R I) (h2.run pins s σ H R I)⟩
def iEnumS (K : PySem.W.Frag) (ta : TA) : TI := fun σ H R => iEnum K ta σ H R ∨ EnumT.iEnumT K ta σ H R
theorem pi_enumS {X : Cx} {e : Expr} {ta : TA} {p pos tpos : Pos} {elts : List Expr} {kk : Nat} (hg : Gl X "enumerate") (hm : X.mg "enumerate" = none) (ha : PA X [e] ta) (hs : starEach [e] X.env = [(false, eval e X.env)] := by rfl) :
    PI X (.Tuple elts kk tpos) (.Call (.Name "enumerate" p) [e] [] pos) (iEnumS X.K ta) :=
  PI_or (pi_enum hg hm ha hs) (EnumT.pi_enumT hg hm ha hs)
end SeqE

set_option Elab.async false
set_option linter.all false
set_option maxRecDepth 100000
set_option maxHeartbeats 2000000
/-! next(.. for .. in .. if .., default) -/
namespace GenNx
open PySem PySem.Spec PyProof.Rows L2 GxR EnumT
section
variable {prog : Program} {w : World} {A : Around} {E : Value → Shared → Prop} {s : Shared} {I : Addr} {fp wr : List Addr} {G : Array GenState → Array GenState → Prop} {n : Nat} {Pv : Nat → Value → Prop} {St : Nat → Shared → Prop}
/-- next(generator, default): the first item, or the default -/
theorem call_next_walkS {d : Value} {Q : Value → Shared → Prop} (W : WalksS prog w A.in1 I fp wr G n Pv St) (hT : s.TypeIs (.ref I) "generator") (st : St 0 s)
    (h1 : ∀ v s', 0 < n → Pv 0 v → Moved wr G s s' → Q v s') (h2 : ∀ s', n = 0 → Moved wr G s s' → Q d s') : wpAny (model prog w) A (call (.builtin "next") [.ref I, d]) Q E s := by
  refine Calls.call_function_entry (by decide +kernel) (by decide +kernel) PySem.W.kdk_entry_next (PySem.W.kdk_args_next2 _ _) ?_
  unfold Builtin.«next»
  refine wpAny_bind (m := someArgs "next" 1 2 _) (wpAny_of_eq (a := [Value.ref I, d]) (by first | rfl | kernel_rfl!) ?_)
  dsimp only
  refine wpAny_bind (wpAny_specialOf (name := Str.ofString "__next__") hT slot_gen_next.lookup ?_)
  refine wpAny_ite_split (fun hab => absurd hab (by decide)) (fun _ => ?_)
  by_cases hn : 0 < n
  · refine wpAny_bind (W.item 0 _ _ _ hn st fun v s' hv _ hm => ?_)
    exact wpAny_pure ⟨_, rfl, h1 v s' hn hv hm⟩
  · have e : n = 0 := by omega
    refine wpAny_bind (W.done _ _ _ (by rw [e]; exact st) fun s' hm => ?_)
    exact wpAny_pure ⟨_, rfl, h2 s' e hm⟩
end
/-- the generator expression's own scope: its names xa, xb -/
structure GenS2 (env : Env) (scope : Scope) (xa xb : Str) : Prop where
  kind : scope.kind = .function
  co : scope.isCoroutine = false
  cell : ∀ y ∈ scope.names, y.2 ≠ .cell
  dot : scope.names.lookup (".0" : Str) = some NameKind.local
  la : scope.names.lookup xa = some .local
  lb : scope.names.lookup xb = some .local
  ab : xa ≠ xb
  free : ∀ y ∈ scope.names, y.2 = .free → ∃ c, env.cells.lookup y.1 = some c
theorem GenS2.of {env : Env} {scope : Scope} {xa xb : Str} (h1 : scope.kind = .function) (h2 : scope.isCoroutine = false) (h3 : ∀ y ∈ scope.names, y.2 ≠ .cell ∧ y.2 ≠ .free) (h4 : scope.names.lookup (".0" : Str) = some NameKind.local) (h5 : scope.names.lookup xa = some .local) (h6 : scope.names.lookup xb = some .local) (h7 : xa ≠ xb) : GenS2 env scope xa xb :=
  ⟨h1, h2, fun y hy => (h3 y hy).1, h4, h5, h6, h7, fun y hy z => absurd z (h3 y hy).2⟩
theorem genS_of {env : Env} {scope : Scope} {x : Str} (h1 : scope.kind = .function) (h2 : scope.isCoroutine = false) (h3 : ∀ y ∈ scope.names, y.2 ≠ .cell ∧ y.2 ≠ .free) (h4 : scope.names.lookup (".0" : Str) = some NameKind.local) (h5 : scope.names.lookup x = some .local) : GxR.GenS env scope x :=
  ⟨h1, h2, fun y hy => (h3 y hy).1, h4, h5, fun y hy z => absurd z (h3 y hy).2⟩
/-- a test of the int in x -/
def TestI (prog : Program) (w : World) (scope : Scope) (x : Str) (c : Expr) (pb : Int → Bool) : Prop :=
  ∀ (cenv : Env) (A' : Around) (E' : Value → Shared → Prop) (i : Int) (t : Tok) (s₂ : Shared) (m₂ : Str → Option Value), cenv.scope = scope → s₂.heap.Ns cenv.locals m₂ → m₂ x = some (.int i t) →
    wpAny (model prog w) A' (isTrue c cenv (eval c cenv)) (fun ok s₃ => ok = pb i ∧ Keeps s₂ s₃) E' s₂
theorem test_ne0 {prog : Program} {w : World} {scope : Scope} {x : Str} {j : Nat} {p1 p2 p3 : Pos} (hk : scope.kind = .function) (hl : scope.names.lookup x = some .local) (hd : (x == ("__debug__" : Str)) = false := by decide) :
    TestI prog w scope x (.Compare (.Name x p1) [.NotEq] [.Constant (.int 0) j p2] p3) (fun i => i != 0) := by
  intro cenv A' E' i t s₂ m₂ hs hn hm
  refine wpAny_isTrue_Compare1 ?_
  refine wpAny_Name (wpAny_loadName_local (by rw [hs]; exact hk) (show cenv.scope.names.lookup x = some .local by rw [hs]; exact hl) hn hm ?_) hd
  refine wpAny_Constant_int ?_
  exact PySem.P.ne_int (wpAny_truthy_bool ⟨rfl, keeps_tok _ _⟩)
/-- the element is the int in x -/
theorem elt_name {prog : Program} {w : World} {cenv : Env} {A' : Around} {E' : Value → Shared → Prop} {x : Str} {p1 : Pos} {v : Value} {s₂ : Shared} {m₂ : Str → Option Value} {scope : Scope} (hs : cenv.scope = scope) (hk : scope.kind = .function) (hl : scope.names.lookup x = some .local) (hn : s₂.heap.Ns cenv.locals m₂) (hm : m₂ x = some v) (hd : (x == ("__debug__" : Str)) = false := by decide) :
    wpAny (model prog w) A' (eval (.Name x p1) cenv) (fun y s₃ => y = v ∧ Keeps s₂ s₃) E' s₂ :=
  wpAny_Name (wpAny_loadName_local (by rw [hs]; exact hk) (show cenv.scope.names.lookup x = some .local by rw [hs]; exact hl) hn hm ⟨rfl, keeps_refl _⟩) hd
theorem one_if {M : Model} {A : Around} {E : Value → Shared → Prop} {s : Shared} {c : Expr} {cenv : Env} {Q : Bool → Shared → Prop} (h : wpAny M A (isTrue c cenv (eval c cenv)) Q E s) :
    wpAny M A (forIn [c] true fun c r => if r = true then do let ok ← isTrue c cenv (eval c cenv); pure (ForInStep.yield ok) else pure (ForInStep.yield r)) Q E s := by
  simp only [List.forIn_cons, List.forIn_nil, if_true]
  exact wpAny_bind (wpAny_bind (wpAny_mono h (fun ok s' hq => wpAny_pure (wpAny_pure hq)) fun _ _ e => e))
section
variable {X : Cx} {pins : List (Addr × Obj)} {σ : L2.St} {H : Hp} {s : Shared}
/-- the generator g, ready to be asked, its j-th item is tied by F to the j-th place of js -/
def ReadyN (X : Cx) (pins : List (Addr × Obj)) (σ : L2.St) (H1 : Hp) (P : Addr) (js : List Nat) (F : Nat → Value → Prop) (g : Addr) (s5 : Shared) : Prop :=
  ∃ (fp wr : List Addr) (G : Array GenState → Array GenState → Prop) (St : Nat → Shared → Prop),
    WalksS X.prog X.w X.A.in1 g fp wr G js.length (fun j y => ∃ i, js[j]? = some i ∧ F i y) St ∧ St 0 s5 ∧ s5.TypeIs (.ref g) "generator" ∧
    ∀ s', Moved wr G s5 s' → ∃ H2, Tabbed P H1 H2 ∧ Inv X pins σ H2 s'
def pzL (pb : Int → Bool) (l : List Int) (i : Nat) : Bool := match l[i]? with
  | some z => pb z
  | none => false
theorem pzL_some {pb : Int → Bool} {l : List Int} {i : Nat} {z : Int} (h : l[i]? = some z) : pzL pb l i = pb z := by
  unfold pzL
  rw [h]
/-- an item of a row of ints, by values -/
theorem int_item {l : List Int} {its : List Value} (rv : Vals (l.map V.int) its) {i : Nat} {x : Value} (h : its[i]? = some x) : ∃ z t, l[i]? = some z ∧ x = .int z t := by
  have hl := rv.length
  have hi : i < its.length := (List.getElem?_eq_some_iff.mp h).1
  rw [List.length_map] at hl
  have hi2 : i < l.length := by omega
  obtain ⟨u, hu, ru⟩ := rv.get (i := i) (x := .int l[i]) (by rw [List.getElem?_map, List.getElem?_eq_getElem hi2]; rfl)
  obtain ⟨t, rfl⟩ := ru
  rw [h] at hu
  exact ⟨l[i], t, List.getElem?_eq_getElem hi2, Option.some.inj hu⟩
theorem passing_nil {pb : Int → Bool} {l : List Int} (h : (passing (pzL pb l) l.length 0).length = 0) : ∀ (j : Nat) (z : Int), l[j]? = some z → pb z = false := fun j z hj => by
  have e : passing (pzL pb l) l.length 0 = [] := List.eq_nil_of_length_eq_zero h
  have hlt : j < l.length := (List.getElem?_eq_some_iff.mp hj).1
  cases hb : pb z with
  | false => rfl
  | true =>
    have hm : j ∈ passing (pzL pb l) l.length 0 := by
      unfold passing
      rw [List.drop_zero]
      exact List.mem_filter.mpr ⟨List.mem_range.mpr hlt, by rw [pzL_some hj]; exact hb⟩
    rw [e] at hm
    cases hm
theorem passing_first {pb : Int → Bool} {l : List Int} {i : Nat} (h : (passing (pzL pb l) l.length 0)[0]? = some i) : ∃ z, l[i]? = some z ∧ pb z = true ∧ ∀ (j : Nat) (y : Int), j < i → l[j]? = some y → pb y = false := by
  unfold passing at h
  rw [List.drop_zero] at h
  have h2 : ((List.range l.length).filter (pzL pb l)).head? = some i := by rw [List.head?_eq_getElem?]; exact h
  rw [List.head?_filter] at h2
  have h3 := List.find?_eq_some_iff_getElem.mp h2
  obtain ⟨hp, k, hk, ek, hn⟩ := h3
  rw [List.getElem_range] at ek
  subst ek
  rw [List.length_range] at hk
  refine ⟨l[k], List.getElem?_eq_getElem hk, ?_, fun j y hj hy => ?_⟩
  · rw [pzL_some (List.getElem?_eq_getElem hk)] at hp
    exact hp
  · have := hn j hj
    rw [List.getElem_range, pzL_some hy] at this
    simpa using this
theorem gen_name {c P : Addr} {e ct : Expr} {x : Str} {px gpos : Pos} {scope : Scope} {pb : Int → Bool} {te : TE} {k : Nat} {p1 : Pos} {Q' : Value → Shared → Prop} {R : Addr → List Int → Hp → Prop}
    (hr : Room k X.A) (TB : TabB X.base X.mg c P) (hcode : X.env.code = .ref c) (S : GenS X.env scope x) (he : PE X e te)
    (htest : TestI X.prog X.w scope x ct pb) (hda : (x == ("__debug__" : Str)) = false)
    (hs : ∀ v, genFold e X.env v = pure v) (I : Inv X pins σ H s) (h : te σ H fun v H1 => ∃ (t : Addr) (l : List Int), v = .ref t ∧ SqT X.K H1 t (l.map V.int) ∧ TabG H1 P ∧ R t l H1)
    (hQ : ∀ t l H1 g s5, R t l H1 → ReadyN X pins σ H1 P (passing (pzL pb l) l.length 0) (fun i y => ∃ z u, l[i]? = some z ∧ y = .int z u) g s5 → Q' (.ref g) s5) :
    wpAny (model X.prog X.w) X.A (eval (.GeneratorExp (.Name x p1) [⟨.Name x px, e, [ct], 0⟩] scope gpos) X.env) Q' X.xe s := by
  refine wpAny_GeneratorExp_walksQ hr.hd S.co (closure_ok S.free) S.cell S.dot S.loc S.kind (by have := hr.dp; omega) ?_ hs
  refine thn (he.run pins s σ H _ I h) fun us s1 hv => ?_
  obtain ⟨vs, H1, I1, r1, t, l, rfl, hq, ⟨ps, hP, ht⟩, q1⟩ := hv
  obtain rfl : us = Value.ref t := r1
  · skip
    obtain ⟨its, rv, p', hz⟩ := I1.tuple hq
    have pT : s1.heap.IsTuple t its.toArray := p'
    have hlt : t < s1.heap.objs.size := by obtain ⟨_, ho, _⟩ := p'; exact Heap.lt_size ho
    refine wpAny_pyIter_tuple pT ?_
    have hk2 : ∀ b o, s1.heap.get? b = some o → (s1.heap.push { cls := .type "tuple_iterator", data := .fields #[.ref t, .int 0 0] }).get? b = some o := fun b o z => Heap.get?_push_of_some _ z
    have hit : (s1.heap.push { cls := .type "tuple_iterator", data := .fields #[.ref t, .int 0 0] }).IsTupleIter s1.heap.objs.size t 0 := ⟨_, Heap.get?_push_size _ rfl, rfl, rfl⟩
    have hsz2 : (s1.heap.push { cls := .type "tuple_iterator", data := .fields #[.ref t, .int 0 0] }).objs.size = s1.heap.objs.size + 1 := Heap.size_push ..
    generalize s1.heap.push { cls := .type "tuple_iterator", data := .fields #[.ref t, .int 0 0] } = h2 at hk2 hit hsz2 ⊢
    have hPs : s1.heap.get? P = some { cls := .none, data := .fields ps } := I1.hok P _ hP
    have hPlt : P < s1.heap.objs.size := Heap.lt_size hPs
    have hP2 : h2.get? P = some { cls := .none, data := .fields ps } := hk2 _ _ hPs
    have cd : PySem.W.CodeHd h2 c P := TB.code.keeps fun b u e => hk2 _ _ (I1.bk b u e)
    have lim2 : h2.NoLimit := I1.nolimit.keeps hk2
    have hll := rv.length
    rw [List.length_map] at hll
    have tP : t ≠ P := fun z => by
      obtain ⟨o, ho, _, n, hd⟩ := pT
      rw [z, hPs] at ho
      cases ho
      cases hd
    have hzn : its.toArray.size = l.length := by rw [List.size_toArray]; omega
    have WT : ∀ A' : Around, A'.handled = none → Walks X.prog X.w A' s1.heap.objs.size _ _ _ _ _ := fun A' hA => Walks.tuple (prog := X.prog) (w := X.w) (A := A') hA s1.heap.objs.size t (Nat.ne_of_lt hlt) its.toArray
    have cont : ∀ (code : Value) (h3 : Heap) (tk : Nat) (ps' : Array Value), Heap.ExtBut P h2 h3 → h2.objs.size ≤ h3.objs.size → h3.get? P = some { cls := .none, data := .fields ps' } → (∃ more, ps' = ps ++ more) → TriplesOk ps'.toList →
        wpAny (model X.prog X.w) X.A (builtinsFor X.env.globals X.env.builtins) (fun bi s₄ =>
          ∃ Ia fp wr n₀ Pf St₀ pz F, Value.ref s1.heap.objs.size = .ref Ia ∧ (∀ A' : Around, A'.handled = none → Walks X.prog X.w A' Ia fp wr n₀ Pf St₀) ∧ St₀ 0 s₄.heap ∧ (∀ b ∈ fp, b < s₄.heap.objs.size) ∧ s₄.heap.NoLimit ∧ cStatics ∉ wr ∧
            (∀ href : Heap, (∀ b o, s₄.heap.get? b = some o → href.get? b = some o) →
              QuietGen X.prog X.w (genEnv scope (cloFrom X.env.cells scope.names []) s₄.heap.objs.size code bi X.env) x [ct] (.Name x p1) (List.range s₄.heap.objs.size) wr Pf pz F href) ∧
            (∀ a h₅ tk gs, gs.bare = true → s₄.heap.objs.size < a → h₅.objs.size = a + 1 → (∀ b o, s₄.heap.get? b = some o → h₅.get? b = some o) →
              WalksS X.prog X.w X.A.in4 a (a :: s₄.heap.objs.size :: List.range s₄.heap.objs.size) (s₄.heap.objs.size :: wr) (GenOnlyQ s₄.gens.size) (passing pz n₀ 0).length
                (fun j y => ∃ i, (passing pz n₀ 0)[j]? = some i ∧ F i y) (GenAt X.prog X.w X.A.in4 a s₄.gens.size s₄.heap.objs.size (List.range s₄.heap.objs.size) wr pz n₀ F) →
              GenAt X.prog X.w X.A.in4 a s₄.gens.size s₄.heap.objs.size (List.range s₄.heap.objs.size) wr pz n₀ F 0 { s₄ with gens := s₄.gens.push gs, toks := tk, heap := h₅ } →
              Q' (.ref a) { s₄ with gens := s₄.gens.push gs, toks := tk, heap := h₅ })) X.xe { s1 with heap := h3, toks := tk } := by
      intro code h3 tk ps' hx hsz hP3 hmore ht3
      obtain ⟨bm, ob, e1, e2, e3, e4, e5, e6, e7, e8⟩ := TB.bm
      have hcP : cStatics ≠ P := fun e => by
        obtain ⟨_, hns, _⟩ := I1.nolimit
        obtain ⟨o', es, ep, ho, hd, _⟩ := hns
        rw [e, hPs] at ho
        cases ho
        cases hd
      have hcl : cStatics < s1.heap.objs.size := let ⟨_, hns, _⟩ := I1.nolimit; hns.lt
      have keep3 : ∀ b u, b ≠ P → s1.heap.get? b = some u → h3.get? b = some u := fun b u hb e => hx b u hb (hk2 _ _ e)
      have iP : s1.heap.objs.size ≠ P := fun z => Nat.lt_irrefl _ (z ▸ hPlt)
      have off : ∀ b, b < s1.heap.objs.size → b ∉ [s1.heap.objs.size] := fun b hb hm => by
        have hm' : b = s1.heap.objs.size := by simpa using hm
        exact Nat.ne_of_lt hb hm'
      refine wpAny_builtinsFor (m := X.mg) (by rw [I1.ok.glob]; exact (((I1.mod.glob.keeps I1.bk).keeps hk2).extBut hx TB.gP)) e1 e2 (keep3 _ _ e4 (I1.bk _ _ e5)) e6 e7 e8 ?_
      refine ⟨s1.heap.objs.size, _, _, _, _, _, pzL pb l, (fun i y => ∃ z u, l[i]? = some z ∧ y = .int z u), rfl, WT, ⟨hit.at fun o q => hx _ o iP q, pT.at fun o q => keep3 _ o tP q⟩, ?_, lim2.extBut hx hcP, off _ hcl, ?_, ?_⟩
      · intro b hb
        have hb' : b = s1.heap.objs.size ∨ b = t := by simpa using hb
        show b < h3.objs.size
        rcases hb' with z | z
        · rw [z]
          show s1.heap.objs.size < h3.objs.size
          omega
        · rw [z]
          exact Nat.lt_of_lt_of_le hlt (show s1.heap.objs.size ≤ h3.objs.size by omega)
      · intro href hhref
        refine ⟨fun A' E' i v s₂ m₂ hA hPv hn hm hk => ?_, fun A' E' i v s₂ m₂ hA hPv hp hn hm hk => ?_⟩
        · have hxi' : its[i]? = some v := by simpa using hPv
          obtain ⟨z, t2, hz1, rfl⟩ := int_item rv hxi'
          refine one_if (wpAny_mono (htest _ A' E' z t2 s₂ m₂ rfl hn hm) (fun ok s3 q => ⟨?_, q.2⟩) fun _ _ e => e)
          rw [pzL_some hz1]
          exact q.1
        · have hxi' : its[i]? = some v := by simpa using hPv
          obtain ⟨z, t2, hz1, rfl⟩ := int_item rv hxi'
          exact wpAny_mono (elt_name (scope := scope) rfl S.kind S.loc hn hm hda) (fun y s3 q => ⟨⟨z, t2, hz1, q.1⟩, q.2⟩) fun _ _ e => e
      · intro g h5 tk5 gs hgb hag hsz5 hk5 W5 hat
        rw [hzn] at W5
        refine hQ t l H1 g _ q1 ⟨_, _, _, _, W5.in4_1, ?_, hat.1.typeIs, fun s' hm => ?_⟩
        · rw [hzn] at hat
          exact hat
        · obtain ⟨more, em⟩ := hmore
          have nwr : ∀ b u, s1.heap.get? b = some u → b ∉ h3.objs.size :: [s1.heap.objs.size] := fun b u e hb => by
            have hl := Heap.lt_size e
            rcases List.mem_cons.mp hb with z | z
            · rw [z] at hl
              have h9 : (h3.objs.size : Nat) < s1.heap.objs.size := hl
              omega
            · exact off b hl z
          have J := inv_tab (more := more) (h' := s'.heap) (g' := s'.gens) (d' := s'.drawn) (t' := s'.toks) I1 hP (fun b u hb e => hm.heap b u (nwr b u e) (hk5 b u (keep3 b u hb e)))
            (by rw [← em]; exact hm.heap P _ (nwr P _ hPs) (hk5 P _ hP3)) (AllBare.movedS (I1.bare.push hgb) hm)
          rw [sh_eta s1 s' hm.os] at J
          refine ⟨upd H1 P (.tbl (ps ++ more)), ⟨⟨ps ++ more, upd_same, by rw [← em]; exact ht3⟩, fun b hb => upd_ne hb⟩, J⟩
    refine ⟨lim2, ?_⟩
    cases hf : codeAmong gpos ps.toList with
    | none =>
      refine wpAny_genexprCodeX hcode (cd.code hP2 ht) (cd.tab hP2) hf fun c' h' tk hx hge hlt hco' _ htab' _ => ?_
      obtain ⟨o1, vs, f1, tf, fl, tg, inF, tx, tt, op, _, _, _, _, _, _, _, _, _, htr, _⟩ := hco'
      exact cont _ h' tk _ hx (Nat.le_trans hge (Nat.le_of_lt hlt)) htab'.2 ⟨_, rfl⟩ htr
    | some cv =>
      refine wpAny_genexprCode_hit hcode (cd.code hP2 ht) hf ?_
      exact cont cv h2 s1.toks ps (Heap.ExtBut.refl _ _) (Nat.le_refl _) hP2 ⟨#[], by simp⟩ ht
/-- the first entry that the test lets pass, or the default -/
def FirstOf (pb : Int → Bool) (l : List Int) (d r : Int) : Prop :=
  ((∀ (j : Nat) (z : Int), l[j]? = some z → pb z = false) ∧ r = d) ∨ ∃ i : Nat, l[i]? = some r ∧ pb r = true ∧ ∀ (j : Nat) (y : Int), j < i → l[j]? = some y → pb y = false
end
end GenNx

set_option Elab.async false
set_option linter.all false
set_option maxRecDepth 100000
set_option maxHeartbeats 2000000
/-! next(x for x in xs if .., default), xs a list of ints -/
namespace GenNl
open PySem PySem.Spec PyProof.Rows L2 GxR EnumT GenNx
section
variable {X : Cx} {pins : List (Addr × Obj)} {σ : L2.St} {H : Hp} {s : Shared}
theorem gen_name {c P : Addr} {e ct : Expr} {x : Str} {px gpos : Pos} {scope : Scope} {pb : Int → Bool} {te : TE} {k : Nat} {p1 : Pos} {Q' : Value → Shared → Prop} {R : Addr → List Int → Hp → Prop}
    (hr : Room k X.A) (TB : TabB X.base X.mg c P) (hcode : X.env.code = .ref c) (S : GenS X.env scope x) (he : PE X e te)
    (htest : TestI X.prog X.w scope x ct pb) (hda : (x == ("__debug__" : Str)) = false)
    (hs : ∀ v, genFold e X.env v = pure v) (I : Inv X pins σ H s) (h : te σ H fun v H1 => ∃ (t : Addr) (l : List Int), v = .ref t ∧ SqL X.K H1 t (l.map V.int) ∧ TabG H1 P ∧ R t l H1)
    (hQ : ∀ t l H1 g s5, R t l H1 → ReadyN X pins σ H1 P (passing (pzL pb l) l.length 0) (fun i y => ∃ z u, l[i]? = some z ∧ y = .int z u) g s5 → Q' (.ref g) s5) :
    wpAny (model X.prog X.w) X.A (eval (.GeneratorExp (.Name x p1) [⟨.Name x px, e, [ct], 0⟩] scope gpos) X.env) Q' X.xe s := by
  refine wpAny_GeneratorExp_walksQ hr.hd S.co (closure_ok S.free) S.cell S.dot S.loc S.kind (by have := hr.dp; omega) ?_ hs
  refine thn (he.run pins s σ H _ I h) fun us s1 hv => ?_
  obtain ⟨vs, H1, I1, r1, t, l, rfl, hq, ⟨ps, hP, ht⟩, q1⟩ := hv
  obtain rfl : us = Value.ref t := r1
  · skip
    obtain ⟨its, rv, p0, hz⟩ := I1.list hq
    have p' := p0.isList
    have pT : s1.heap.IsList t its.toArray := p'
    have hlt : t < s1.heap.objs.size := by obtain ⟨_, ho, _⟩ := p'; exact Heap.lt_size ho
    refine wpAny_pyIter_list pT ?_
    have hk2 : ∀ b o, s1.heap.get? b = some o → (s1.heap.push { cls := .type "list_iterator", data := .fields #[.ref t, .int 0 0] }).get? b = some o := fun b o z => Heap.get?_push_of_some _ z
    have hit : (s1.heap.push { cls := .type "list_iterator", data := .fields #[.ref t, .int 0 0] }).IsListIter s1.heap.objs.size t 0 := ⟨_, Heap.get?_push_size _ rfl, rfl, rfl⟩
    have hsz2 : (s1.heap.push { cls := .type "list_iterator", data := .fields #[.ref t, .int 0 0] }).objs.size = s1.heap.objs.size + 1 := Heap.size_push ..
    generalize s1.heap.push { cls := .type "list_iterator", data := .fields #[.ref t, .int 0 0] } = h2 at hk2 hit hsz2 ⊢
    have hPs : s1.heap.get? P = some { cls := .none, data := .fields ps } := I1.hok P _ hP
    have hPlt : P < s1.heap.objs.size := Heap.lt_size hPs
    have hP2 : h2.get? P = some { cls := .none, data := .fields ps } := hk2 _ _ hPs
    have cd : PySem.W.CodeHd h2 c P := TB.code.keeps fun b u e => hk2 _ _ (I1.bk b u e)
    have lim2 : h2.NoLimit := I1.nolimit.keeps hk2
    have hll := rv.length
    rw [List.length_map] at hll
    have tP : t ≠ P := fun z => by
      obtain ⟨o, ho, _, n, hd⟩ := pT
      rw [z, hPs] at ho
      cases ho
      cases hd
    have hzn : its.toArray.size = l.length := by rw [List.size_toArray]; omega
    have WT : ∀ A' : Around, A'.handled = none → Walks X.prog X.w A' s1.heap.objs.size _ _ _ _ _ := fun A' hA => Walks.list (prog := X.prog) (w := X.w) (A := A') hA s1.heap.objs.size t (Nat.ne_of_lt hlt) its.toArray
    have cont : ∀ (code : Value) (h3 : Heap) (tk : Nat) (ps' : Array Value), Heap.ExtBut P h2 h3 → h2.objs.size ≤ h3.objs.size → h3.get? P = some { cls := .none, data := .fields ps' } → (∃ more, ps' = ps ++ more) → TriplesOk ps'.toList →
        wpAny (model X.prog X.w) X.A (builtinsFor X.env.globals X.env.builtins) (fun bi s₄ =>
          ∃ Ia fp wr n₀ Pf St₀ pz F, Value.ref s1.heap.objs.size = .ref Ia ∧ (∀ A' : Around, A'.handled = none → Walks X.prog X.w A' Ia fp wr n₀ Pf St₀) ∧ St₀ 0 s₄.heap ∧ (∀ b ∈ fp, b < s₄.heap.objs.size) ∧ s₄.heap.NoLimit ∧ cStatics ∉ wr ∧
            (∀ href : Heap, (∀ b o, s₄.heap.get? b = some o → href.get? b = some o) →
              QuietGen X.prog X.w (genEnv scope (cloFrom X.env.cells scope.names []) s₄.heap.objs.size code bi X.env) x [ct] (.Name x p1) (List.range s₄.heap.objs.size) wr Pf pz F href) ∧
            (∀ a h₅ tk gs, gs.bare = true → s₄.heap.objs.size < a → h₅.objs.size = a + 1 → (∀ b o, s₄.heap.get? b = some o → h₅.get? b = some o) →
              WalksS X.prog X.w X.A.in4 a (a :: s₄.heap.objs.size :: List.range s₄.heap.objs.size) (s₄.heap.objs.size :: wr) (GenOnlyQ s₄.gens.size) (passing pz n₀ 0).length
                (fun j y => ∃ i, (passing pz n₀ 0)[j]? = some i ∧ F i y) (GenAt X.prog X.w X.A.in4 a s₄.gens.size s₄.heap.objs.size (List.range s₄.heap.objs.size) wr pz n₀ F) →
              GenAt X.prog X.w X.A.in4 a s₄.gens.size s₄.heap.objs.size (List.range s₄.heap.objs.size) wr pz n₀ F 0 { s₄ with gens := s₄.gens.push gs, toks := tk, heap := h₅ } →
              Q' (.ref a) { s₄ with gens := s₄.gens.push gs, toks := tk, heap := h₅ })) X.xe { s1 with heap := h3, toks := tk } := by
      intro code h3 tk ps' hx hsz hP3 hmore ht3
      obtain ⟨bm, ob, e1, e2, e3, e4, e5, e6, e7, e8⟩ := TB.bm
      have hcP : cStatics ≠ P := fun e => by
        obtain ⟨_, hns, _⟩ := I1.nolimit
        obtain ⟨o', es, ep, ho, hd, _⟩ := hns
        rw [e, hPs] at ho
        cases ho
        cases hd
      have hcl : cStatics < s1.heap.objs.size := let ⟨_, hns, _⟩ := I1.nolimit; hns.lt
      have keep3 : ∀ b u, b ≠ P → s1.heap.get? b = some u → h3.get? b = some u := fun b u hb e => hx b u hb (hk2 _ _ e)
      have iP : s1.heap.objs.size ≠ P := fun z => Nat.lt_irrefl _ (z ▸ hPlt)
      have off : ∀ b, b < s1.heap.objs.size → b ∉ [s1.heap.objs.size] := fun b hb hm => by
        have hm' : b = s1.heap.objs.size := by simpa using hm
        exact Nat.ne_of_lt hb hm'
      refine wpAny_builtinsFor (m := X.mg) (by rw [I1.ok.glob]; exact (((I1.mod.glob.keeps I1.bk).keeps hk2).extBut hx TB.gP)) e1 e2 (keep3 _ _ e4 (I1.bk _ _ e5)) e6 e7 e8 ?_
      refine ⟨s1.heap.objs.size, _, _, _, _, _, pzL pb l, (fun i y => ∃ z u, l[i]? = some z ∧ y = .int z u), rfl, WT, ⟨hit.at fun o q => hx _ o iP q, pT.at fun o q => keep3 _ o tP q⟩, ?_, lim2.extBut hx hcP, off _ hcl, ?_, ?_⟩
      · intro b hb
        have hb' : b = s1.heap.objs.size ∨ b = t := by simpa using hb
        show b < h3.objs.size
        rcases hb' with z | z
        · rw [z]
          show s1.heap.objs.size < h3.objs.size
          omega
        · rw [z]
          exact Nat.lt_of_lt_of_le hlt (show s1.heap.objs.size ≤ h3.objs.size by omega)
      · intro href hhref
        refine ⟨fun A' E' i v s₂ m₂ hA hPv hn hm hk => ?_, fun A' E' i v s₂ m₂ hA hPv hp hn hm hk => ?_⟩
        · have hxi' : its[i]? = some v := by simpa using hPv
          obtain ⟨z, t2, hz1, rfl⟩ := int_item rv hxi'
          refine one_if (wpAny_mono (htest _ A' E' z t2 s₂ m₂ rfl hn hm) (fun ok s3 q => ⟨?_, q.2⟩) fun _ _ e => e)
          rw [pzL_some hz1]
          exact q.1
        · have hxi' : its[i]? = some v := by simpa using hPv
          obtain ⟨z, t2, hz1, rfl⟩ := int_item rv hxi'
          exact wpAny_mono (elt_name (scope := scope) rfl S.kind S.loc hn hm hda) (fun y s3 q => ⟨⟨z, t2, hz1, q.1⟩, q.2⟩) fun _ _ e => e
      · intro g h5 tk5 gs hgb hag hsz5 hk5 W5 hat
        rw [hzn] at W5
        refine hQ t l H1 g _ q1 ⟨_, _, _, _, W5.in4_1, ?_, hat.1.typeIs, fun s' hm => ?_⟩
        · rw [hzn] at hat
          exact hat
        · obtain ⟨more, em⟩ := hmore
          have nwr : ∀ b u, s1.heap.get? b = some u → b ∉ h3.objs.size :: [s1.heap.objs.size] := fun b u e hb => by
            have hl := Heap.lt_size e
            rcases List.mem_cons.mp hb with z | z
            · rw [z] at hl
              have h9 : (h3.objs.size : Nat) < s1.heap.objs.size := hl
              omega
            · exact off b hl z
          have J := inv_tab (more := more) (h' := s'.heap) (g' := s'.gens) (d' := s'.drawn) (t' := s'.toks) I1 hP (fun b u hb e => hm.heap b u (nwr b u e) (hk5 b u (keep3 b u hb e)))
            (by rw [← em]; exact hm.heap P _ (nwr P _ hPs) (hk5 P _ hP3)) (AllBare.movedS (I1.bare.push hgb) hm)
          rw [sh_eta s1 s' hm.os] at J
          refine ⟨upd H1 P (.tbl (ps ++ more)), ⟨⟨ps ++ more, upd_same, by rw [← em]; exact ht3⟩, fun b hb => upd_ne hb⟩, J⟩
    refine ⟨lim2, ?_⟩
    cases hf : codeAmong gpos ps.toList with
    | none =>
      refine wpAny_genexprCodeX hcode (cd.code hP2 ht) (cd.tab hP2) hf fun c' h' tk hx hge hlt hco' _ htab' _ => ?_
      obtain ⟨o1, vs, f1, tf, fl, tg, inF, tx, tt, op, _, _, _, _, _, _, _, _, _, htr, _⟩ := hco'
      exact cont _ h' tk _ hx (Nat.le_trans hge (Nat.le_of_lt hlt)) htab'.2 ⟨_, rfl⟩ htr
    | some cv =>
      refine wpAny_genexprCode_hit hcode (cd.code hP2 ht) hf ?_
      exact cont cv h2 s1.toks ps (Heap.ExtBut.refl _ _) (Nat.le_refl _) hP2 ⟨#[], by simp⟩ ht
/-- next((x for x in e if test of x), d) -/
def tNextL (K : PySem.W.Frag) (P : Addr) (pb : Int → Bool) (d : Int) (te : TE) : TE := fun σ H Q => te σ H fun v H1 => ∃ (t : Addr) (l : List Int), v = .ref t ∧ SqL K H1 t (l.map V.int) ∧ TabG H1 P ∧ ∀ r H2, FirstOf pb l d r → Tabbed P H1 H2 → Q (.int r) H2
theorem pe_nextL {c P : Addr} {e ct : Expr} {x : Str} {px gpos p pos dp : Pos} {jd : Nat} {scope : Scope} {pb : Int → Bool} {d : Int} {te : TE} {k : Nat} {p1 : Pos}
    (hr : Room k X.A) (hgn : Gl X "next") (hmn : X.mg "next" = none) (TB : TabB X.base X.mg c P) (hcode : X.env.code = .ref c) (S : GenS X.env scope x) (he0 : PE X e te)
    (htest : TestI X.prog X.w scope x ct pb) (hda : (x == ("__debug__" : Str)) = false := by decide)
    (hs : ∀ v, genFold e X.env v = pure v := by intro _; rfl)
    (he : starEach [.GeneratorExp (.Name x p1) [⟨.Name x px, e, [ct], 0⟩] scope gpos, .Constant (.int d) jd dp] X.env
      = (false, eval (.GeneratorExp (.Name x p1) [⟨.Name x px, e, [ct], 0⟩] scope gpos) X.env) :: starEach [.Constant (.int d) jd dp] X.env := by rfl)
    (he2 : starEach [.Constant (.int d) jd dp] X.env = [(false, eval (.Constant (.int d) jd dp) X.env)] := by rfl) :
    PE X (.Call (.Name "next" p) [.GeneratorExp (.Name x p1) [⟨.Name x px, e, [ct], 0⟩] scope gpos, .Constant (.int d) jd dp] [] pos) (tNextL X.K P pb d te) := by
  refine ⟨fun pins s σ H Q I h => ?_⟩
  refine wpAny_Call_Name_kw (ld_blt I hgn hmn boot_next ?_)
  refine PyProof.Rows.callWith_builtin1 ?_ he (by rw [he2]; rfl)
  rw [he, he2]
  show wpAny _ _ (spliced ((false, eval (.GeneratorExp (.Name x p1) [⟨.Name x px, e, [ct], 0⟩] scope gpos) X.env) :: (false, eval (.Constant (.int d) jd dp) X.env) :: [])) _ _ s
  refine Calls.spliced_cons (gen_name (R := fun t l H1 => ∀ r H2, FirstOf pb l d r → Tabbed P H1 H2 → Q (.int r) H2) hr TB hcode S he0 htest hda hs I h fun t l H1 g s5 hR hG => ?_)
  refine Calls.spliced_cons (wpAny_Constant_int (Calls.spliced_nil ?_))
  obtain ⟨fp, wr, G, St, W, hst5, hT, hI⟩ := hG
  have back : ∀ {s'}, Moved wr G { s5 with toks := s5.toks + 1 } s' → Moved wr G s5 s' := fun m => ⟨m.heap, m.gens, m.drawn, m.os, Nat.le_trans (Nat.le_succ _) m.toks⟩
  refine call_next_walkS W hT (W.frame 0 s5 s5.heap (s5.toks + 1) hst5 (Nat.le_succ _) fun _ _ _ z => z) (fun v s' hn hv hmv => ?_) (fun s' hn hmv => ?_)
  · obtain ⟨H2, hTb, J⟩ := hI s' (back hmv)
    obtain ⟨i, hi, y, u, hy, rfl⟩ := hv
    obtain ⟨z, hz1, hz2, hz3⟩ := passing_first hi
    rw [hy] at hz1
    cases hz1
    exact ⟨.int y, H2, J, ⟨u, rfl⟩, hR y H2 (.inr ⟨i, hy, hz2, hz3⟩) hTb⟩
  · obtain ⟨H2, hTb, J⟩ := hI s' (back hmv)
    exact ⟨.int d, H2, J, ⟨_, rfl⟩, hR d H2 (.inl ⟨passing_nil hn, rfl⟩) hTb⟩
end
end GenNl

set_option Elab.async false
set_option linter.all false
set_option maxRecDepth 100000
set_option maxHeartbeats 2000000
/-! HookW's Hook with defs that hold generator expressions: their code objects, the tables of these, empty at the start and left out of the fragment -/
namespace HookT
open PySem PySem.Spec PyProof.Rows L2 He HookG
/-- the code object of the function at a -/
def codA (K : PySem.W.Frag) (a : Addr) : Addr := match K.lookup a with
  | some ⟨_, _, .func fd, _⟩ => (match fd.code with
    | .ref c => c
    | _ => 0)
  | _ => 0
theorem code_of {K : PySem.W.Frag} {x qual : Str} {params : Arguments} {body : List Stmt} {scope : Scope} {dvs : List V} {kws : List (Str × V)} {f : Addr} {fd : FuncData} (F : FunD K x qual params body scope dvs kws f fd) : fd.code = .ref (codA K f) := by
  obtain ⟨oc, od, dV, kV, doc, pm, an, cdv, ct, osl, rfl, lk, hcd, _, _⟩ := F.ex
  obtain ⟨c, rfl⟩ := codeIn_ref hcd
  unfold codA
  rw [lk] <;> rfl
/-- FunD.ok with the code object known -/
theorem okC {P : Program} {w : World} {K : PySem.W.Frag} {mg : Str → Option Value} {base : Heap} {x qual : Str} {params : Arguments} {body : List Stmt} {scope : Scope} {dvs : List V} {kws : List (Str × V)} {f : Addr} {fd : FuncData} {CX : CXT} {N ps : List Str} {k : Nat} {sp : Sp}
    (F : FunD K x qual params body scope dvs kws f fd) (S : FnScope N ps scope) (len : ∀ vs H Q E, sp vs H Q E → vs.length = ps.length)
    (hbody : ∀ (A : Around) (outer : List Env) (s : Shared) (H : Hp) (vs : List V) (Q : VK) (E : XK), Room k (A.deeper (envOfC qual scope s.heap.objs.size f fd.code)) → sp vs H Q E →
      ∃ t, PSs (cxOf CX P w K mg base N qual scope f fd.code A outer s H E) body t ∧ t { nx := fun _ H' => Q .non H', rt := Q } (start N vs) H) : FnOk P w K mg base CX (k + 1) f fd ps sp := by
  obtain ⟨oc, od, dV, kV, doc, pm, an, cdv, ct, osl, rfl, lk, hcd, _, _⟩ := F.ex
  exact fn_of lk hcd S len fun A outer s H vs Q E hr hsp => hbody A outer s H vs Q E hr hsp
def cTA (K : PySem.W.Frag) (p : At) : Addr × Addr := (codA K (p.adr K), tabOf K (codA K (p.adr K)))
structure SaysGT (fa : List Fa) (fn : List GD) (tf : List At) (ex : PySem.W.Frag → Bool) (h : Heap) (K : PySem.W.Frag) : Prop where
  g : SaysG fa fn ex K
  hd : ∀ p ∈ tf, PySem.W.codeHdIn K (cTA K p).1 (cTA K p).2 = true
  out : ∀ p ∈ tf, K.lookup (cTA K p).2 = none
  empty : ∀ p ∈ tf, h.get? (cTA K p).2 = some { cls := .none, data := .fields #[] }
def tabsB (g : Addr → Option Obj) (tf : List At) (K : PySem.W.Frag) : Bool := tf.all fun p => PySem.W.codeHdIn K (cTA K p).1 (cTA K p).2 && (match g (cTA K p).2 with
  | some o => emptyTab o
  | none => false)
abbrev AlGT : Type := AlG × Bool
def obsGT (n : Nat) (fa : List Fa) (fn : List GD) (tf : List At) (ex : PySem.W.Frag → Bool) (g : Addr → Option Obj) : AlGT := (obsG fa fn ex (frT g (asW g n)), tabsB g tf (frT g (asW g n)))
theorem saysGT_of {n : Nat} {fa : List Fa} {fn : List GD} {tf : List At} {ex : PySem.W.Frag → Bool} {h : Heap} (e : obsGT n fa fn tf ex h.get? = (valG fn, true)) : SaysGT fa fn tf ex h (frT h.get? (asW h.get? n)) := by
  have e1 : obsG fa fn ex (frT h.get? (asW h.get? n)) = valG fn := congrArg (fun z : AlGT => z.1) e
  have e2 : tabsB h.get? tf (frT h.get? (asW h.get? n)) = true := congrArg (fun z : AlGT => z.2) e
  have key : ∀ p ∈ tf, PySem.W.codeHdIn (frT h.get? (asW h.get? n)) (cTA (frT h.get? (asW h.get? n)) p).1 (cTA (frT h.get? (asW h.get? n)) p).2 = true ∧ ∃ o, h.get? (cTA (frT h.get? (asW h.get? n)) p).2 = some o ∧ emptyTab o = true := fun p hp => by
    obtain ⟨h3, h4⟩ := ba (List.all_eq_true.mp e2 p hp)
    refine ⟨h3, ?_⟩
    cases q : h.get? (cTA (frT h.get? (asW h.get? n)) p).2 with
    | none =>
      rw [q] at h4
      cases h4
    | some o =>
      rw [q] at h4
      exact ⟨o, rfl, h4⟩
  exact ⟨e1, fun p hp => (key p hp).1, fun p hp => by
    obtain ⟨_, o, q, z⟩ := key p hp
    exact frT_none q z, fun p hp => by
    obtain ⟨_, o, q, z⟩ := key p hp
    rw [q, emptyTab_eq z]⟩
def hookT (n : Nat) (fa : List Fa) (fn : List GD) (tf : List At) (ex : PySem.W.Frag → Bool) : PySem.W.Hook where
  α := AlGT
  obs := fun s => obsGT n fa fn tf ex s.heap.get?
  val := fun _ => (valG fn, true)
  says := fun _ h => ∃ K : PySem.W.Frag, K.In h ∧ SaysGT fa fn tf ex h K
  of := fun _ _ e => ⟨_, frT_in, saysGT_of e⟩
  keeps := fun _ _ _ ⟨K, hK, c⟩ k => ⟨K, PySem.W.Frag.In.keeps hK k, ⟨c.g, c.hd, c.out, fun p hp => k _ _ (c.empty p hp)⟩⟩
theorem obsGT_eq {n : Nat} {fa : List Fa} {fn : List GD} {tf : List At} {ex : PySem.W.Frag → Bool} {g : Addr → Option Obj} {s : Shared} (h : ∀ a, g a = s.heap.get? a) : obsGT n fa fn tf ex g = (hookT n fa fn tf ex).obs s := by
  have e : g = s.heap.get? := funext h
  rw [e] <;> rfl
/-- a table at the start -/
theorem tabG0 {H : Hp} {P : Addr} (h : H P = some (.tbl #[])) : GxR.TabG H P := ⟨#[], h, True.intro⟩
end HookT

set_option Elab.async false
set_option linter.all false
set_option maxRecDepth 100000
set_option maxHeartbeats 2000000
/-! any of a list of ints -/
namespace OwnF
open PySem PySem.Spec PyProof.Rows L2 SlX OwnR
section
variable {X : Cx}
end
end OwnF

set_option Elab.async false
set_option linter.all false
set_option maxRecDepth 100000
set_option maxHeartbeats 4000000
/-! tuple * int, the int 1, too: the same tuple -/
namespace RepT
open PySem PySem.Spec PyProof.Rows L2
end RepT

set_option Elab.async false
set_option linter.all false
set_option maxRecDepth 100000
set_option maxHeartbeats 4000000
/-! tuple * int, the int 0, too: an empty tuple -/
namespace RepZ
open PySem PySem.Spec PyProof.Rows L2 RepT
end RepZ

set_option Elab.async false
set_option linter.all false
set_option maxRecDepth 100000
set_option maxHeartbeats 2000000
/-! zip of a list and a tuple -/
namespace ZipX
open PySem PySem.Spec PyProof.Rows L2 RZ
def StX (a b z TI TO i1 i2 : Addr) (i : Nat) (h : Heap) : Prop := IsZip h z TI TO .none ∧ IsPair h TI (.ref i1) (.ref i2) ∧ (∃ x y, IsPair h TO x y) ∧ h.IsListIter i1 a i ∧ h.IsTupleIter i2 b i
section
variable {prog : Program} {w : World} {A : Around} {E : Value → Shared → Prop} {s : Shared}
end
end ZipX

set_option Elab.async false
set_option linter.all false
set_option maxRecDepth 100000
/-! x *= n for ints -/
namespace AugM
open PySem PySem.Spec PyProof.Rows L2 MyR
variable {X : Cx}
theorem ip_mulW : PIp X .Mult (fun x y H Q => ∃ i j, x = .int i ∧ y = .int j ∧ CMulW i j ∧ Q (.int (i * j)) H) := by
  intro pins s σ H x y v u Q I r1 r2 h
  obtain ⟨i, j, e1, e2, hc, q⟩ := h
  subst e1; subst e2
  obtain ⟨t, rfl⟩ := r1
  obtain ⟨t', rfl⟩ := r2
  exact PyProof.Rows.imul_int ⟨.int _, H, I.tok _, ⟨_, rfl⟩, q⟩ hc.ok
end AugM

set_option Elab.async false
set_option linter.all false
set_option maxRecDepth 100000
set_option maxHeartbeats 2000000
/-! l.count(x) of data, sorted(set) of pairs of ints -/
namespace TupC
open PySem PySem.Spec PyProof.Rows L2
section
variable {X : Cx}
end
section
variable {P : Program} {w : World} {A : Around} {E : Value → Shared → Prop} {s : Shared}
end
section
variable {X : Cx}
end
end TupC

set_option Elab.async false
set_option linter.all false
set_option maxRecDepth 100000
/-! max(t) of a tuple of ints -/
namespace MaxT
open PySem PySem.Spec PyProof.Rows L2
section
variable {prog : Program} {w : World} {A : Around} {E : Value → Shared → Prop} {s : Shared}
end
section
variable {X : Cx}
end
end MaxT

set_option Elab.async false
set_option linter.all false
set_option maxRecDepth 100000
set_option maxHeartbeats 2000000
/-! // by an int of any size, where the quotient is not too great: fewer than 4500 bits -/
namespace FDivQ
open PySem PySem.Spec PyProof.Rows L2
theorem noPylong_quot {x y : Int} (h : x.natAbs.log2 ≤ y.natAbs.log2 + 4470) : Builtin.divisionGoesByPylong x y = false := by
  show (decide ((if y == 0 then 0 else y.natAbs.log2 / 30 + 1) > 300) && decide ((if x == 0 then 0 else x.natAbs.log2 / 30 + 1) > (if y == 0 then 0 else y.natAbs.log2 / 30 + 1) + 150)) = false
  by_cases hy : (y == 0) = true
  · rw [if_pos hy]
    rfl
  · rw [if_neg hy]
    by_cases hx : (x == 0) = true
    · rw [if_pos hx]
      simp
    · rw [if_neg hx]
      have : ¬ (x.natAbs.log2 / 30 + 1 > y.natAbs.log2 / 30 + 1 + 150) := by omega
      rw [decide_eq_false this, Bool.and_false]
/-- a divisor other than 0 of fewer than 9000 bits, or a quotient of fewer than some 4470 -/
def CDivQ (i j : Int) : Prop := j ≠ 0 ∧ (j.natAbs.log2 < 9000 ∨ i.natAbs.log2 ≤ j.natAbs.log2 + 4470)
theorem op_fdivQ {X : Cx} : OpR X (binaryOp .FloorDiv) (rI CDivQ fun i j => .int (i.fdiv j)) := opI fun i j _ _ _ _ _ hc q =>
  floordiv_int hc.1 q (.inl (hc.2.elim PyProof.noPylong_of_log2 noPylong_quot))
/-- an exact quotient below 2 ^ 4470 -/
theorem CDivQ.exact {i j q : Int} (hj : j ≠ 0) (e : i = q * j) (hq : q.natAbs < 2 ^ 4470) : CDivQ i j := by
  refine ⟨hj, .inr ?_⟩
  by_cases h0 : i.natAbs = 0
  · rw [h0, Nat.log2_zero]
    exact Nat.zero_le _
  · have h1 : j.natAbs ≠ 0 := by omega
    have h2 : i.natAbs < 2 ^ (4470 + (j.natAbs.log2 + 1)) := by
      rw [e, Int.natAbs_mul, Nat.pow_add]
      exact Nat.mul_lt_mul'' hq Nat.lt_log2_self
    have := (Nat.log2_lt h0).mpr h2
    omega
end FDivQ

set_option Elab.async false
set_option linter.all false
/-! list(xs) of a list or a tuple, the fragment named (for comprehensions) -/
namespace ListOf
open PySem PySem.Spec PyProof.Rows L2
def rListOf (K : PySem.W.Frag) : List V → Hp → VK → Prop := fun xs H Q => ∃ p ys, xs = [V.ref p] ∧ (SqL K H p ys ∨ SqT K H p ys) ∧ ∀ l, H l = none → Q (.ref l) (upd H l (.lst ys))
theorem call_list_ofK {X : Cx} {K : PySem.W.Frag} (e : X.K = K) : CallR X (.type "list") (rListOf K) := by
  subst e
  exact call_list_of
end ListOf

set_option Elab.async false
set_option linter.all false
set_option maxRecDepth 100000
/-! math.lcm of two ints below 2 ^ 64 -/
namespace LcmX
open PySem PySem.Spec PyProof.Rows L2
variable {X : Cx}
def rLcm : List V → Hp → VK → Prop := fun vs H Q => ∃ a b : Int, vs = [.int a, .int b] ∧ a.natAbs < 2 ^ 64 ∧ b.natAbs < 2 ^ 64 ∧ Q (.int ((Nat.lcm a.natAbs b.natAbs : Nat) : Int)) H
theorem cr_lcm : CallR X (.builtin "math.lcm") rLcm := by
  intro pins s σ H vs us Q I r h
  obtain ⟨a, b, rfl, ha, hb, q⟩ := h
  obtain ⟨t, u, rfl⟩ := Vals.int2 r
  exact PySem.W.mc_lcm ha hb fun _ => ⟨.int _, H, I.tok _, ⟨_, rfl⟩, q⟩
end LcmX

set_option Elab.async false
set_option linter.all false
set_option maxRecDepth 100000
/-! turns of a comprehension of two clauses over lists -/
namespace LcTwo
open PySem PySem.Spec PyProof.Rows L2
/-- the inner source, from any heap -/
theorem in_list {K : PySem.W.Frag} {a D : Addr} {xs : List V} {g : TG} {tt : TT} {te : TE} {vs : List Nat} {σ : L2.St} {H1 : Hp} {Nx : Hp → Prop} (Pv : Nat → Hp → Prop) (h0 : Pv 0 H1) (hl : ∀ i H, i ≤ xs.length → Pv i H → SqL K H a xs)
    (hs : ∀ (i : Nat) (x : V) (H : Hp), xs[i]? = some x → Pv i H → g x (wipe σ vs) H fun σ2 H2 => wipe σ2 vs = wipe σ vs ∧ tt σ2 H2 fun b H3 =>
      if b = true then te σ2 H3 fun y H4 => ∃ acc, H4 D = some (.lst acc) ∧ acc.length < sizeLine ∧ Pv (i + 1) (upd H4 D (.lst (acc ++ [y]))) else Pv (i + 1) H3) (hd : ∀ H, Pv xs.length H → Nx H) :
    ∃ W : Nat → Nat → Hp → Prop, (∃ m, W 0 m H1) ∧ ∀ i m H, W i m H →
      ((Itl K a).stop i H ∧ Nx H) ∨ ((Itl K a).go i H ∧ ∃ Nx1 : Hp → Prop, (∀ H', Nx1 H' → ∃ m', m' < m ∧ W (i + 1) m' H') ∧ ∀ x H', (Itl K a).yld i H x H' → g x (wipe σ vs) H' fun σ2 H2 => wipe σ2 vs = wipe σ vs ∧ tt σ2 H2 fun b H3 =>
        if b = true then te σ2 H3 fun y H4 => ∃ acc, H4 D = some (.lst acc) ∧ acc.length < sizeLine ∧ Nx1 (upd H4 D (.lst (acc ++ [y]))) else Nx1 H3) := by
  refine ⟨fun i m H => m = xs.length - i ∧ i ≤ xs.length ∧ Pv i H, ⟨xs.length, by simp, Nat.zero_le _, h0⟩, ?_⟩
  rintro i m H ⟨rfl, hi, p⟩
  have q := hl i H hi p
  by_cases hlt : i < xs.length
  · refine .inr ⟨⟨xs, xs[i], q, by simp [hlt]⟩, Pv (i + 1), fun H' p' => ⟨xs.length - (i + 1), by omega, rfl, hlt, p'⟩, fun x H' y => ?_⟩
    obtain ⟨e, y⟩ := y
    subst e
    exact hs i x _ (y xs q) p
  · have e : i = xs.length := by omega
    subst e
    exact .inl ⟨⟨xs, q, Nat.le_refl _⟩, hd H p⟩
/-- the outer source -/
theorem out_list {K : PySem.W.Frag} {a D : Addr} {xs : List V} {B : V → Hp → (Hp → Prop) → Prop} {H1 : Hp} {Qd : Hp → Prop} (Pv : Nat → Hp → Prop) (h0 : Pv 0 (upd H1 D (.lst []))) (hl : ∀ i H, i ≤ xs.length → Pv i H → SqL K H a xs)
    (hs : ∀ (i : Nat) (x : V) (H : Hp), xs[i]? = some x → Pv i H → B x H (Pv (i + 1))) (hd : ∀ H, Pv xs.length H → Qd H) :
    ∃ W : Nat → Nat → Hp → Prop, (∃ m, W 0 m (upd H1 D (.lst []))) ∧ ∀ i m H, W i m H →
      ((Itl K a).stop i H ∧ Qd H) ∨ ((Itl K a).go i H ∧ ∃ Nx : Hp → Prop, (∀ H', Nx H' → ∃ m', m' < m ∧ W (i + 1) m' H') ∧ ∀ x H', (Itl K a).yld i H x H' → B x H' Nx) := by
  refine ⟨fun i m H => m = xs.length - i ∧ i ≤ xs.length ∧ Pv i H, ⟨xs.length, by simp, Nat.zero_le _, h0⟩, ?_⟩
  rintro i m H ⟨rfl, hi, p⟩
  have q := hl i H hi p
  by_cases hlt : i < xs.length
  · refine .inr ⟨⟨xs, xs[i], q, by simp [hlt]⟩, Pv (i + 1), fun H' p' => ⟨xs.length - (i + 1), by omega, rfl, hlt, p'⟩, fun x H' y => ?_⟩
    obtain ⟨e, y⟩ := y
    subst e
    exact hs i x _ (y xs q) p
  · have e : i = xs.length := by omega
    subst e
    exact .inl ⟨⟨xs, q, Nat.le_refl _⟩, hd H p⟩
end LcTwo

set_option Elab.async false
set_option linter.all false
/-! linear algebra over the integers, up to factors: spans, independence, numbers of rows -/
namespace LA
/-- sums -/
def S : Nat → (Nat → Int) → Int
  | 0, _ => 0
  | n + 1, f => S n f + f n
theorem S_congr {f g : Nat → Int} : ∀ {n : Nat}, (∀ i, i < n → f i = g i) → S n f = S n g
  | 0, _ => rfl
  | n + 1, h => by
    show S n f + f n = S n g + g n
    rw [S_congr fun i hi => h i (Nat.lt_succ_of_lt hi), h n (Nat.lt_succ_self n)]
theorem S_zero {f : Nat → Int} {n : Nat} (h : ∀ i, i < n → f i = 0) : S n f = 0 := by
  induction n with
  | zero => rfl
  | succ n ih =>
    show S n f + f n = 0
    rw [ih fun i hi => h i (Nat.lt_succ_of_lt hi), h n (Nat.lt_succ_self n)]
    rfl
theorem S_add (f g : Nat → Int) : ∀ n, S n (fun i => f i + g i) = S n f + S n g
  | 0 => rfl
  | n + 1 => by
    show S n _ + (f n + g n) = (S n f + f n) + (S n g + g n)
    rw [S_add f g n]
    omega
theorem S_mul (c : Int) (f : Nat → Int) : ∀ n, S n (fun i => c * f i) = c * S n f
  | 0 => (Int.mul_zero c).symm
  | n + 1 => by
    show S n _ + c * f n = c * (S n f + f n)
    rw [S_mul c f n, Int.mul_add]
theorem S_mulr (c : Int) (f : Nat → Int) (n : Nat) : S n (fun i => f i * c) = S n f * c := by
  rw [Int.mul_comm (S n f) c, ← S_mul c f n]
  exact S_congr fun i _ => Int.mul_comm _ _
theorem S_swap (f : Nat → Nat → Int) (m : Nat) : ∀ n, S n (fun i => S m (fun k => f i k)) = S m (fun k => S n (fun i => f i k))
  | 0 => (S_zero fun i _ => rfl).symm
  | n + 1 => by
    show S n _ + S m _ = _
    rw [S_swap f m n, ← S_add]
    rfl
/-- one alone -/
theorem S_one {f : Nat → Int} {n p : Nat} (hp : p < n) (h : ∀ i, i < n → i ≠ p → f i = 0) : S n f = f p := by
  induction n with
  | zero => exact absurd hp (Nat.not_lt_zero _)
  | succ n ih =>
    show S n f + f n = f p
    by_cases c : p = n
    · subst c
      rw [S_zero fun i hi => h i (Nat.lt_succ_of_lt hi) (Nat.ne_of_lt hi), Int.zero_add]
    · rw [ih (by omega) fun i hi hne => h i (Nat.lt_succ_of_lt hi) hne, h n (Nat.lt_succ_self n) (Ne.symm c), Int.add_zero]
/-- all but one: i, or i + 1 from p on -/
def sk (p i : Nat) : Nat := if i < p then i else i + 1
theorem S_skip (f : Nat → Int) (p : Nat) : ∀ n, p ≤ n → S (n + 1) f = f p + S n fun i => f (sk p i)
  | 0, h => by
    have : p = 0 := by omega
    subst this
    show 0 + f 0 = f 0 + 0
    omega
  | n + 1, h => by
    by_cases c : p = n + 1
    · subst c
      show S (n + 1) f + f (n + 1) = _
      rw [Int.add_comm]
      congr 1
      exact S_congr fun i hi => by
        unfold sk
        rw [if_pos hi]
    · show S (n + 1) f + f (n + 1) = f p + (S n (fun i => f (sk p i)) + f (sk p n))
      rw [S_skip f p n (by omega), show sk p n = n + 1 by unfold sk; rw [if_neg (by omega)]]
      omega
/-- more vectors than columns: they hang on one another -/
theorem dep : ∀ (m n : Nat) (x : Nat → Nat → Int), m < n → ∃ y : Nat → Int, (∃ i, i < n ∧ y i ≠ 0) ∧ ∀ j, j < m → S n (fun i => y i * x i j) = 0
  | 0, n, x, h => ⟨fun _ => 1, ⟨0, h, by decide⟩, fun j hj => absurd hj (Nat.not_lt_zero _)⟩
  | m + 1, n, x, h => by
    by_cases c : ∀ i, i < n → x i m = 0
    · obtain ⟨y, hy, he⟩ := dep m n x (by omega)
      refine ⟨y, hy, fun j hj => ?_⟩
      by_cases e : j = m
      · subst e
        exact S_zero fun i hi => by rw [c i hi, Int.mul_zero]
      · exact he j (by omega)
    · obtain ⟨p, hp⟩ := Classical.not_forall.mp c
      obtain ⟨hpn, hp0⟩ : p < n ∧ x p m ≠ 0 := ⟨Classical.byContradiction fun z => hp fun a => absurd a z, fun z => hp fun _ => z⟩
      obtain ⟨n', rfl⟩ : ∃ n', n = n' + 1 := ⟨n - 1, by omega⟩
      obtain ⟨y, ⟨i0, hi0, hy0⟩, he⟩ := dep m n' (fun i j => x p m * x (sk p i) j - x (sk p i) m * x p j) (by omega)
      have back : ∀ i, (if sk p i < p then sk p i else sk p i - 1) = i ∧ sk p i ≠ p := fun i => by
        unfold sk
        by_cases z : i < p
        · rw [if_pos z, if_pos z]
          exact ⟨rfl, by omega⟩
        · rw [if_neg z, if_neg (by omega)]
          exact ⟨by omega, by omega⟩
      let Y : Nat → Int := fun k => if k = p then - S n' (fun i => y i * x (sk p i) m) else x p m * y (if k < p then k else k - 1)
      have Yp : Y p = - S n' (fun i => y i * x (sk p i) m) := if_pos rfl
      have Ys : ∀ i, Y (sk p i) = x p m * y i := fun i => by
        show (if sk p i = p then _ else _) = _
        rw [if_neg (back i).2, (back i).1]
      refine ⟨Y, ⟨sk p i0, by unfold sk; split <;> omega, by rw [Ys]; exact Int.mul_ne_zero hp0 hy0⟩, fun j hj => ?_⟩
      have e0 : S n' (fun i => Y (sk p i) * x (sk p i) j) = S n' (fun i => x p m * y i * x (sk p i) j) := S_congr fun i _ => by rw [Ys i]
      rw [S_skip _ p n' (by omega), e0]
      show Y p * x p j + _ = 0
      rw [Yp]
      have e1 : S n' (fun i => x p m * y i * x (sk p i) j) = S n' (fun i => y i * (x p m * x (sk p i) j - x (sk p i) m * x p j)) + S n' (fun i => y i * x (sk p i) m) * x p j := by
        rw [← S_mulr, ← S_add]
        exact S_congr fun i _ => by grind
      rw [e1]
      by_cases e : j = m
      · subst e
        rw [S_zero (f := fun i => y i * (x p j * x (sk p i) j - x (sk p i) j * x p j)) fun i _ => by rw [Int.mul_comm (x p j), Int.sub_self, Int.mul_zero]]
        grind
      · rw [he j (by omega)]
        grind
/-- v, times a number other than 0, is a sum of multiples of m rows -/
def Sp (w m : Nat) (B : Nat → Nat → Int) (v : Nat → Int) : Prop := ∃ c : Int, c ≠ 0 ∧ ∃ a : Nat → Int, ∀ j, j < w → c * v j = S m (fun k => a k * B k j)
def Ind (w n : Nat) (A : Nat → Nat → Int) : Prop := ∀ a : Nat → Int, (∀ j, j < w → S n (fun i => a i * A i j) = 0) → ∀ i, i < n → a i = 0
/-- independent rows are not more than rows whose span holds them -/
theorem steinitz {w n m : Nat} {A B : Nat → Nat → Int} (hI : Ind w n A) (h : ∀ i, i < n → Sp w m B (A i)) : n ≤ m := by
  by_cases c : n ≤ m
  · exact c
  · exfalso
    have h' : ∀ i, ∃ c : Int, i < n → c ≠ 0 ∧ ∃ a : Nat → Int, ∀ j, j < w → c * A i j = S m (fun k => a k * B k j) := fun i => by
      by_cases hi : i < n
      · obtain ⟨c, hc, a, ha⟩ := h i hi
        exact ⟨c, fun _ => ⟨hc, a, ha⟩⟩
      · exact ⟨0, fun z => absurd z hi⟩
    obtain ⟨C, hC⟩ := Classical.axiomOfChoice h'
    have h2 : ∀ i, ∃ a : Nat → Int, i < n → ∀ j, j < w → C i * A i j = S m (fun k => a k * B k j) := fun i => by
      by_cases hi : i < n
      · obtain ⟨_, a, ha⟩ := hC i hi
        exact ⟨a, fun _ => ha⟩
      · exact ⟨fun _ => 0, fun z => absurd z hi⟩
    obtain ⟨a, ha⟩ := Classical.axiomOfChoice h2
    obtain ⟨y, ⟨i0, hi0, hy⟩, he⟩ := dep m n a (by omega)
    have z := hI (fun i => y i * C i) (fun j hj => by
      have e1 : S n (fun i => y i * C i * A i j) = S n (fun i => S m (fun k => y i * a i k * B k j)) := S_congr fun i hi => by
        rw [Int.mul_assoc, ha i hi j hj, ← S_mul]
        exact S_congr fun k _ => by rw [Int.mul_assoc]
      rw [e1, S_swap]
      exact S_zero fun k hk => by rw [S_mulr, he k hk, Int.zero_mul]) i0 hi0
    exact Int.mul_ne_zero hy (hC i0 hi0).1 z
theorem Sp.own {w m : Nat} {B : Nat → Nat → Int} {k : Nat} (hk : k < m) : Sp w m B (B k) := ⟨1, by decide, fun i => if i = k then 1 else 0, fun j _ => by
  rw [Int.one_mul, S_one hk fun i _ hne => by
    show (if i = k then (1 : Int) else 0) * B i j = 0
    rw [if_neg hne, Int.zero_mul]]
  show B k j = (if k = k then (1 : Int) else 0) * B k j
  rw [if_pos rfl, Int.one_mul]⟩
theorem Sp.zero {w m : Nat} {B : Nat → Nat → Int} {v : Nat → Int} (h : ∀ j, j < w → v j = 0) : Sp w m B v := ⟨1, by decide, fun _ => 0, fun j hj => by
  rw [h j hj, S_zero fun i _ => Int.zero_mul _]
  rfl⟩
theorem Sp.lin {w m : Nat} {B : Nat → Nat → Int} {u v : Nat → Int} (α β : Int) (h : Sp w m B u) (g : Sp w m B v) : Sp w m B fun j => α * u j + β * v j := by
  obtain ⟨c, hc, a, ha⟩ := h
  obtain ⟨d, hd, b, hb⟩ := g
  refine ⟨c * d, Int.mul_ne_zero hc hd, fun k => α * d * a k + β * c * b k, fun j hj => ?_⟩
  have e : S m (fun k => (α * d * a k + β * c * b k) * B k j) = α * d * S m (fun k => a k * B k j) + β * c * S m (fun k => b k * B k j) := by
    rw [← S_mul, ← S_mul, ← S_add]
    exact S_congr fun k _ => by grind
  rw [e, ← ha j hj, ← hb j hj]
  grind
theorem Sp.div {w m : Nat} {B : Nat → Nat → Int} {u v : Nat → Int} {c : Int} (hc : c ≠ 0) (h : Sp w m B u) (e : ∀ j, j < w → c * v j = u j) : Sp w m B v := by
  obtain ⟨d, hd, a, ha⟩ := h
  exact ⟨d * c, Int.mul_ne_zero hd hc, a, fun j hj => by rw [Int.mul_assoc, e j hj]; exact ha j hj⟩
theorem Sp.sum {w m' : Nat} {B B' : Nat → Nat → Int} (a : Nat → Int) : ∀ {m : Nat}, (∀ k, k < m → Sp w m' B' (B k)) → Sp w m' B' fun j => S m (fun k => a k * B k j)
  | 0, _ => .zero fun j _ => rfl
  | m + 1, h => by
    have q := Sp.lin 1 (a m) (Sp.sum a fun k hk => h k (Nat.lt_succ_of_lt hk)) (h m (Nat.lt_succ_self m))
    exact .div (c := 1) (by decide) q fun j _ => by rw [Int.one_mul, Int.one_mul]; rfl
/-- what is in the span of rows that are in a span -/
theorem Sp.trans {w m m' : Nat} {B B' : Nat → Nat → Int} {v : Nat → Int} (h : Sp w m B v) (g : ∀ k, k < m → Sp w m' B' (B k)) : Sp w m' B' v := by
  obtain ⟨c, hc, a, ha⟩ := h
  exact .div hc (Sp.sum a g) ha
/-- one factor for all -/
theorem common {w r : Nat} {E A : Nat → Nat → Int} : ∀ {n : Nat}, (∀ i, i < n → Sp w r E (A i)) → ∃ c : Int, c ≠ 0 ∧ ∃ a : Nat → Nat → Int, ∀ i, i < n → ∀ j, j < w → c * A i j = S r (fun k => a i k * E k j)
  | 0, _ => ⟨1, by decide, fun _ _ => 0, fun i hi => absurd hi (Nat.not_lt_zero _)⟩
  | n + 1, h => by
    obtain ⟨c, hc, a, ha⟩ := common (n := n) fun i hi => h i (Nat.lt_succ_of_lt hi)
    obtain ⟨d, hd, b, hb⟩ := h n (Nat.lt_succ_self n)
    refine ⟨c * d, Int.mul_ne_zero hc hd, fun i k => if i = n then c * b k else d * a i k, fun i hi j hj => ?_⟩
    by_cases e : i = n
    · subst e
      rw [S_congr (g := fun k => c * (b k * E k j)) fun k _ => by
        show (if i = i then c * b k else d * a i k) * E k j = _
        rw [if_pos rfl, Int.mul_assoc], S_mul, ← hb j hj, Int.mul_assoc]
    · rw [S_congr (g := fun k => d * (a i k * E k j)) fun k _ => by
        show (if i = n then c * b k else d * a i k) * E k j = _
        rw [if_neg e, Int.mul_assoc], S_mul, ← ha i (by omega) j hj, Int.mul_comm c d, Int.mul_assoc]
/-- rows with leads: E i is the only one that is not 0 at its lead -/
structure Ech (w r : Nat) (E : Nat → Nat → Int) (lead : Nat → Nat) : Prop where
  lt : ∀ i, i < r → lead i < w
  nz : ∀ i, i < r → E i (lead i) ≠ 0
  z : ∀ i k, i < r → k < r → k ≠ i → E k (lead i) = 0
theorem Ech.ind {w r : Nat} {E : Nat → Nat → Int} {lead : Nat → Nat} (h : Ech w r E lead) : Ind w r E := fun a ha i hi => by
  have e := ha (lead i) (h.lt i hi)
  rw [S_one hi fun k hk hne => by rw [h.z i k hi hk hne, Int.mul_zero]] at e
  rcases Int.mul_eq_zero.mp e with z | z
  · exact z
  · exact absurd z (h.nz i hi)
/-- the rows of A have the base E -/
structure Base (w n : Nat) (A : Nat → Nat → Int) (r : Nat) (E : Nat → Nat → Int) : Prop where
  ind : Ind w r E
  of : ∀ k, k < r → Sp w n A (E k)
  to : ∀ i, i < n → Sp w r E (A i)
theorem Base.same {w n r r' : Nat} {A E E' : Nat → Nat → Int} (h : Base w n A r E) (g : Base w n A r' E') : r = r' :=
  Nat.le_antisymm (steinitz h.ind fun k hk => (h.of k hk).trans g.to) (steinitz g.ind fun k hk => (g.of k hk).trans h.to)
/-- columns have no greater number -/
theorem Base.col {w n r r' : Nat} {A E E' : Nat → Nat → Int} (h : Base w n A r E) (g : Base n w (fun j i => A i j) r' E') : r' ≤ r := by
  obtain ⟨c, hc, a, ha⟩ := common h.to
  refine steinitz g.ind fun k hk => (g.of k hk).trans (B' := fun k i => a i k) fun j hj => ⟨c, hc, fun k => E k j, fun i hi => ?_⟩
  rw [ha i hi j hj]
  exact S_congr fun k _ => Int.mul_comm _ _
theorem Base.turned {w n r r' : Nat} {A E E' : Nat → Nat → Int} (h : Base w n A r E) (g : Base n w (fun j i => A i j) r' E') : r = r' :=
  Nat.le_antisymm (g.col h) (h.col g)
/-- rows that are sums of multiples of others -/
theorem Base.le {w n m r r' : Nat} {A B E E' : Nat → Nat → Int} (h : Base w n A r E) (g : Base w m B r' E') (s : ∀ i, i < n → Sp w m B (A i)) : r ≤ r' :=
  steinitz h.ind fun k hk => ((h.of k hk).trans s).trans g.to
end LA

set_option Elab.async false
set_option linter.all false
/-! small solutions: more small rows than columns hang on one another by small factors -/
namespace LA
theorem pigeon : ∀ (N : Nat) (f : Nat → Nat), (∀ i, i < N + 1 → f i < N) → ∃ i j, i < j ∧ j < N + 1 ∧ f i = f j
  | 0, f, h => absurd (h 0 (Nat.lt_succ_self 0)) (Nat.not_lt_zero _)
  | N + 1, f, h => by
    by_cases c : ∃ i, i < N + 1 ∧ f i = f (N + 1)
    · obtain ⟨i, hi, e⟩ := c
      exact ⟨i, N + 1, hi, Nat.lt_succ_self _, e⟩
    · have ne : ∀ i, i < N + 1 → f i ≠ f (N + 1) := fun i hi e => c ⟨i, hi, e⟩
      have hl := h (N + 1) (Nat.lt_succ_self _)
      obtain ⟨i, j, hij, hj, e⟩ := pigeon N (fun i => if f i < f (N + 1) then f i else f i - 1) (fun i hi => by
        have h1 := ne i hi
        have h2 := h i (by omega)
        show (if f i < f (N + 1) then f i else f i - 1) < N
        split <;> omega)
      refine ⟨i, j, hij, by omega, ?_⟩
      have h1 := ne i (by omega)
      have h2 := ne j hj
      have e : (if f i < f (N + 1) then f i else f i - 1) = (if f j < f (N + 1) then f j else f j - 1) := e
      split at e <;> split at e <;> omega
/-- digits put together -/
def enc (b : Nat) : Nat → (Nat → Nat) → Nat
  | 0, _ => 0
  | n + 1, g => enc b n g + b ^ n * g n
theorem enc_lt {b : Nat} : ∀ {n : Nat} {g : Nat → Nat}, (∀ i, i < n → g i < b) → enc b n g < b ^ n
  | 0, g, _ => Nat.zero_lt_one
  | n + 1, g, h => by
    have h1 := enc_lt (n := n) fun i hi => h i (Nat.lt_succ_of_lt hi)
    have h2 := h n (Nat.lt_succ_self n)
    show enc b n g + b ^ n * g n < b ^ (n + 1)
    have h3 : b ^ n * (g n + 1) ≤ b ^ n * b := Nat.mul_le_mul_left _ h2
    have h4 : b ^ (n + 1) = b ^ n * b := rfl
    rw [Nat.mul_add, Nat.mul_one] at h3
    omega
theorem enc_inj {b : Nat} : ∀ {n : Nat} {f g : Nat → Nat}, (∀ i, i < n → f i < b) → (∀ i, i < n → g i < b) → enc b n f = enc b n g → ∀ i, i < n → f i = g i
  | 0, _, _, _, _, _ => fun i hi => absurd hi (Nat.not_lt_zero _)
  | n + 1, f, g, hf, hg, e => by
    have h1 := enc_lt (n := n) fun i hi => hf i (Nat.lt_succ_of_lt hi)
    have h2 := enc_lt (n := n) fun i hi => hg i (Nat.lt_succ_of_lt hi)
    have e : enc b n f + b ^ n * f n = enc b n g + b ^ n * g n := e
    have p : 0 < b ^ n := by omega
    have e1 : enc b n f = enc b n g := by
      have q : (enc b n f + b ^ n * f n) % b ^ n = (enc b n g + b ^ n * g n) % b ^ n := by rw [e]
      rwa [Nat.add_mul_mod_self_left, Nat.add_mul_mod_self_left, Nat.mod_eq_of_lt h1, Nat.mod_eq_of_lt h2] at q
    have e2 : f n = g n := Nat.eq_of_mul_eq_mul_left p (by omega)
    intro i hi
    by_cases c : i = n
    · rw [c]; exact e2
    · exact enc_inj (fun i hi => hf i (Nat.lt_succ_of_lt hi)) (fun i hi => hg i (Nat.lt_succ_of_lt hi)) e1 i (by omega)
theorem enc_dig (b t : Nat) : ∀ n, enc b n (fun i => t / b ^ i % b) = t % b ^ n
  | 0 => by
    show 0 = t % 1
    rw [Nat.mod_one]
  | n + 1 => by
    show enc b n _ + b ^ n * (t / b ^ n % b) = t % (b ^ n * b)
    rw [enc_dig b t n, Nat.mod_mul]
theorem S_abs {f : Nat → Int} {n : Nat} {B : Nat} (h : ∀ i, i < n → (f i).natAbs ≤ B) : (S n f).natAbs ≤ n * B := by
  induction n with
  | zero => exact Nat.zero_le _
  | succ n ih =>
    have h1 := ih fun i hi => h i (Nat.lt_succ_of_lt hi)
    have h2 := h n (Nat.lt_succ_self n)
    show (S n f + f n).natAbs ≤ (n + 1) * B
    have h3 := Int.natAbs_add_le (S n f) (f n)
    rw [Nat.succ_mul]
    omega
theorem siegel (m M : Nat) (x : Nat → Nat → Int) (hx : ∀ i, i < m + 1 → ∀ j, j < m → (x i j).natAbs ≤ M) :
    ∃ y : Nat → Int, (∃ i, i < m + 1 ∧ y i ≠ 0) ∧ (∀ i, (y i).natAbs ≤ (2 * (m + 1) * M + 1) ^ m) ∧ ∀ j, j < m → S (m + 1) (fun i => y i * x i j) = 0 := by
  generalize hY : (2 * (m + 1) * M + 1) ^ m = Y
  let d : Nat → Nat → Nat := fun t i => t / (Y + 1) ^ i % (Y + 1)
  have dl : ∀ t i, d t i < Y + 1 := fun t i => Nat.mod_lt _ (Nat.succ_pos _)
  let s : Nat → Nat → Int := fun t j => S (m + 1) fun i => (d t i : Int) * x i j
  have sb : ∀ t j, j < m → (s t j).natAbs ≤ (m + 1) * (Y * M) := fun t j hj => S_abs fun i hi => by
    rw [Int.natAbs_mul, Int.natAbs_natCast]
    exact Nat.mul_le_mul (Nat.le_of_lt_succ (dl t i)) (hx i hi j hj)
  generalize hC : (m + 1) * (Y * M) = C at sb
  let g : Nat → Nat → Nat := fun t j => (s t j + C).toNat
  have gl : ∀ t j, j < m → g t j < 2 * C + 1 := fun t j hj => by
    have := sb t j hj
    show (s t j + C).toNat < _
    omega
  have hW : (2 * C + 1) ^ m < (Y + 1) ^ (m + 1) := by
    have h1 : 2 * C + 1 ≤ (2 * (m + 1) * M + 1) * (Y + 1) := by
      have : 2 * C = 2 * (m + 1) * M * Y := by
        rw [← hC, Nat.mul_comm Y M, ← Nat.mul_assoc, ← Nat.mul_assoc]
      rw [this]
      generalize 2 * (m + 1) * M = q
      rw [Nat.add_mul, Nat.mul_add, Nat.one_mul, Nat.mul_one]
      omega
    have h2 := Nat.pow_le_pow_left h1 m
    rw [Nat.mul_pow, hY] at h2
    have h3 : 0 < (Y + 1) ^ m := Nat.pow_pos (Nat.succ_pos _)
    have h4 : (Y + 1) ^ (m + 1) = (Y + 1) ^ m * (Y + 1) := rfl
    rw [h4, Nat.mul_add, Nat.mul_one, Nat.mul_comm _ Y]
    omega
  obtain ⟨t, t', ht, ht', e⟩ := pigeon ((2 * C + 1) ^ m) (fun t => enc (2 * C + 1) m (g t)) fun t _ => enc_lt (gl t)
  have eg := enc_inj (gl t) (gl t') e
  refine ⟨fun i => (d t i : Int) - d t' i, ?_, fun i => ?_, fun j hj => ?_⟩
  · refine Classical.byContradiction fun c => ?_
    have same : ∀ i, i < m + 1 → d t i = d t' i := fun i hi => Classical.byContradiction fun z => c ⟨i, hi, by
      show (d t i : Int) - d t' i ≠ 0
      omega⟩
    have e1 := enc_dig (Y + 1) t (m + 1)
    have e2 := enc_dig (Y + 1) t' (m + 1)
    rw [Nat.mod_eq_of_lt (by omega)] at e1 e2
    have e3 : ∀ n, n ≤ m + 1 → enc (Y + 1) n (d t) = enc (Y + 1) n (d t') := fun n => by
      induction n with
      | zero => exact fun _ => rfl
      | succ n ih =>
        intro hn
        show enc (Y + 1) n (d t) + _ * d t n = enc (Y + 1) n (d t') + _ * d t' n
        rw [ih (by omega), same n (by omega)]
    have := e3 (m + 1) (Nat.le_refl _)
    have e1 : enc (Y + 1) (m + 1) (d t) = t := e1
    have e2 : enc (Y + 1) (m + 1) (d t') = t' := e2
    omega
  · have h1 := dl t i
    have h2 := dl t' i
    show ((d t i : Int) - d t' i).natAbs ≤ Y
    omega
  · have e1 : s t j = s t' j := by
      have q := eg j hj
      have h1 := sb t j hj
      have h2 := sb t' j hj
      have q : (s t j + C).toNat = (s t' j + C).toNat := q
      omega
    have e2 : S (m + 1) (fun i => ((d t i : Int) - d t' i) * x i j) = s t j + (-1) * s t' j := by
      show _ = S (m + 1) (fun i => (d t i : Int) * x i j) + (-1) * S (m + 1) (fun i => (d t' i : Int) * x i j)
      rw [← S_mul, ← S_add]
      exact S_congr fun i _ => by grind
    rw [e2, e1]
    omega
end LA

set_option Elab.async false
set_option linter.all false
set_option maxRecDepth 100000
set_option maxHeartbeats 4000000
namespace K13
open PySem PySem.Spec PyProof.Rows L2 SlX OwnR OwnF
theorem hu64 {k : Nat} {A : Around} (hr : Room k A) : A.units + 64 < cLine := hr.units
theorem same_upd0 {H : Hp} {p : Addr} {o : HO} (h : H p = none) : Same H (upd H p o) := fun b x e => by
  rw [upd_ne (ne_of_none e h)]
  exact e
def topS (i : Nat) : Stmt := PySem.Challenge.pw_sourceforms_k13_whole_tables_of_parts.main.body.getD i (.Pass ⟨0, 0, 0, 0⟩)
abbrev FnM (K : PySem.W.Frag) (x q : Str) (st : Stmt) (f : Addr) (fd : FuncData) : Prop := FunD K x q (defArgs st) (defBody st) (defScope st) [] [] f fd
abbrev FnP (K : PySem.W.Frag) (x : Str) (st : Stmt) (f : Addr) (fd : FuncData) : Prop := FunD K x x (defArgs st) (defBody st) (defScope st) [] [] f fd
abbrev s_is_whole : Stmt := topS 12
abbrev N_is_whole : List Str := ["value"]
theorem sc_is_whole : FnScope N_is_whole ["value"] (defScope s_is_whole) := ⟨rfl, rfl, rfl, by decide +kernel, rfl, by decide +kernel, by decide +kernel⟩
abbrev s_is_short : Stmt := topS 13
abbrev N_is_short : List Str := ["value"]
theorem sc_is_short : FnScope N_is_short ["value"] (defScope s_is_short) := ⟨rfl, rfl, rfl, by decide +kernel, rfl, by decide +kernel, by decide +kernel⟩
abbrev s_is_from : Stmt := topS 14
abbrev N_is_from : List Str := ["value", "least", "most"]
theorem sc_is_from : FnScope N_is_from ["value", "least", "most"] (defScope s_is_from) := ⟨rfl, rfl, rfl, by decide +kernel, rfl, by decide +kernel, by decide +kernel⟩
abbrev s_are_short : Stmt := topS 15
abbrev N_are_short : List Str := ["value", "entry"]
theorem sc_are_short : FnScope N_are_short ["value"] (defScope s_are_short) := ⟨rfl, rfl, rfl, by decide +kernel, rfl, by decide +kernel, by decide +kernel⟩
abbrev s_shared_of : Stmt := topS 18
abbrev N_shared_of : List Str := ["numbers", "found", "number"]
theorem sc_shared_of : FnScope N_shared_of ["numbers"] (defScope s_shared_of) := ⟨rfl, rfl, rfl, by decide +kernel, rfl, by decide +kernel, by decide +kernel⟩
abbrev s_first_of : Stmt := topS 19
abbrev N_first_of : List Str := ["numbers"]
theorem sc_first_of : FnScope N_first_of ["numbers"] (defScope s_first_of) := ⟨rfl, rfl, rfl, by decide +kernel, rfl, by decide +kernel, by decide +kernel⟩
abbrev s_primitive_of : Stmt := topS 20
abbrev N_primitive_of : List Str := ["numbers", "part", "number"]
theorem sc_primitive_of : FnScope N_primitive_of ["numbers"] (defScope s_primitive_of) := ⟨rfl, rfl, rfl, by decide +kernel, rfl, by decide +kernel, by decide +kernel⟩
abbrev s_factorial_of : Stmt := topS 21
abbrev N_factorial_of : List Str := ["number", "found", "factor"]
theorem sc_factorial_of : FnScope N_factorial_of ["number"] (defScope s_factorial_of) := ⟨rfl, rfl, rfl, by decide +kernel, rfl, by decide +kernel, by decide +kernel⟩
abbrev s_lots_of : Stmt := topS 22
abbrev N_lots_of : List Str := ["many", "few", "found", "at"]
theorem sc_lots_of : FnScope N_lots_of ["many", "few"] (defScope s_lots_of) := ⟨rfl, rfl, rfl, by decide +kernel, rfl, by decide +kernel, by decide +kernel⟩
abbrev s_joined_entries : Stmt := topS 26
abbrev s_derived_in : Stmt := topS 29
abbrev s_are_entries : Stmt := topS 31
abbrev N_are_entries : List Str := ["value"]
theorem sc_are_entries : FnScope N_are_entries ["value"] (defScope s_are_entries) := ⟨rfl, rfl, rfl, by decide +kernel, rfl, by decide +kernel, by decide +kernel⟩
abbrev s_form_of : Stmt := topS 33
abbrev N_form_of : List Str := ["entries"]
theorem sc_form_of : FnScope N_form_of ["entries"] (defScope s_form_of) := ⟨rfl, rfl, rfl, by decide +kernel, rfl, by decide +kernel, by decide +kernel⟩
abbrev s_is_pair_table : Stmt := topS 37
abbrev N_is_pair_table : List Str := ["value", "row"]
theorem sc_is_pair_table : FnScope N_is_pair_table ["value"] (defScope s_is_pair_table) := ⟨rfl, rfl, rfl, by decide +kernel, rfl, by decide +kernel, by decide +kernel⟩
abbrev s_parted_once : Stmt := topS 38
abbrev N_parted_once : List Str := ["table", "rows", "columns", "found", "i", "row", "j"]
theorem sc_parted_once : FnScope N_parted_once ["table"] (defScope s_parted_once) := ⟨rfl, rfl, rfl, by decide +kernel, rfl, by decide +kernel, by decide +kernel⟩
abbrev s_put_together : Stmt := topS 39
abbrev N_put_together : List Str := ["table", "found", "i", "row", "j", "entry"]
theorem sc_put_together : FnScope N_put_together ["table"] (defScope s_put_together) := ⟨rfl, rfl, rfl, by decide +kernel, rfl, by decide +kernel, by decide +kernel⟩
abbrev s_table_parts : Stmt := topS 40
abbrev N_table_parts : List Str := ["table", "found", "here", "turn"]
theorem sc_table_parts : FnScope N_table_parts ["table"] (defScope s_table_parts) := ⟨rfl, rfl, rfl, by decide +kernel, rfl, by decide +kernel, by decide +kernel⟩
abbrev s_polar_table : Stmt := topS 41
abbrev N_polar_table : List Str := ["entries", "first", "second", "bottom", "found", "i", "row", "j", "share"]
theorem sc_polar_table : FnScope N_polar_table ["entries", "first", "second", "bottom"] (defScope s_polar_table) := ⟨rfl, rfl, rfl, by decide +kernel, rfl, by decide +kernel, by decide +kernel⟩
abbrev s_times_crossed : Stmt := topS 42
abbrev N_times_crossed : List Str := ["table", "found", "at", "i", "row", "j", "entry"]
theorem sc_times_crossed : FnScope N_times_crossed ["table"] (defScope s_times_crossed) := ⟨rfl, rfl, rfl, by decide +kernel, rfl, by decide +kernel, by decide +kernel⟩
abbrev s_lots_bottom : Stmt := topS 43
abbrev N_lots_bottom : List Str := ["many", "found", "at"]
theorem sc_lots_bottom : FnScope N_lots_bottom ["many"] (defScope s_lots_bottom) := ⟨rfl, rfl, rfl, by decide +kernel, rfl, by decide +kernel, by decide +kernel⟩
abbrev s_part_bottom : Stmt := topS 44
abbrev N_part_bottom : List Str := ["first", "second", "times"]
theorem sc_part_bottom : FnScope N_part_bottom ["first", "second", "times"] (defScope s_part_bottom) := ⟨rfl, rfl, rfl, by decide +kernel, rfl, by decide +kernel, by decide +kernel⟩
abbrev s_whole_table : Stmt := topS 45
abbrev N_whole_table : List Str := ["first", "second", "parts", "shares", "whole", "times", "part", "found", "at", "here", "turn", "factor", "one", "other", "row", "line"]
theorem sc_whole_table : FnScope N_whole_table ["first", "second", "parts"] (defScope s_whole_table) := ⟨rfl, rfl, rfl, by decide +kernel, rfl, by decide +kernel, by decide +kernel⟩
abbrev s_are_parts_of : Stmt := topS 46
abbrev N_are_parts_of : List Str := ["first", "second", "value", "one", "times"]
theorem sc_are_parts_of : FnScope N_are_parts_of ["first", "second", "value"] (defScope s_are_parts_of) := ⟨rfl, rfl, rfl, by decide +kernel, rfl, by decide +kernel, by decide +kernel⟩
abbrev s_table_of_parts : Stmt := topS 47
abbrev N_table_of_parts : List Str := ["first", "second", "parts", "table", "bottom", "shared", "row", "entry"]
theorem sc_table_of_parts : FnScope N_table_of_parts ["first", "second", "parts"] (defScope s_table_of_parts) := ⟨rfl, rfl, rfl, by decide +kernel, rfl, by decide +kernel, by decide +kernel⟩
abbrev s_less_head : Stmt := topS 50
abbrev N_less_head : List Str := ["row", "head", "place", "one", "other", "part", "found", "entry", "taken", "shared"]
theorem sc_less_head : FnScope N_less_head ["row", "head", "place"] (defScope s_less_head) := ⟨rfl, rfl, rfl, by decide +kernel, rfl, by decide +kernel, by decide +kernel⟩
abbrev s_echelon_rows : Stmt := topS 51
abbrev N_echelon_rows : List Str := ["rows", "width", "left", "found", "row", "place", "heads", "at", "head"]
theorem sc_echelon_rows : FnScope N_echelon_rows ["rows", "width"] (defScope s_echelon_rows) := ⟨rfl, rfl, rfl, by decide +kernel, rfl, by decide +kernel, by decide +kernel⟩
abbrev s_rank_of : Stmt := topS 52
abbrev N_rank_of : List Str := ["rows", "width"]
theorem sc_rank_of : FnScope N_rank_of ["rows", "width"] (defScope s_rank_of) := ⟨rfl, rfl, rfl, by decide +kernel, rfl, by decide +kernel, by decide +kernel⟩
abbrev s_is_table_in : Stmt := topS 53
abbrev N_is_table_in : List Str := ["value", "row", "entry"]
theorem sc_is_table_in : FnScope N_is_table_in ["value"] (defScope s_is_table_in) := ⟨rfl, rfl, rfl, by decide +kernel, rfl, by decide +kernel, by decide +kernel⟩
abbrev s_require_rows : Stmt := topS 54
abbrev N_require_rows : List Str := ["value"]
theorem sc_require_rows : FnScope N_require_rows ["value"] (defScope s_require_rows) := ⟨rfl, rfl, rfl, by decide +kernel, rfl, by decide +kernel, by decide +kernel⟩
abbrev s_rank : Stmt := topS 55
abbrev N_rank : List Str := ["table"]
theorem sc_rank : FnScope N_rank ["table"] (defScope s_rank) := ⟨rfl, rfl, rfl, by decide +kernel, rfl, by decide +kernel, by decide +kernel⟩
abbrev s_law_dice : Stmt := topS 57
abbrev N_law_dice : List Str := ["_law_script", "_law_spot", "_law_cell", "_law_left"]
theorem sc_law_dice : FnScope N_law_dice ["_law_script", "_law_spot"] (defScope s_law_dice) := ⟨rfl, rfl, rfl, by decide +kernel, rfl, by decide +kernel, by decide +kernel⟩
abbrev s_law_roll : Stmt := topS 58
abbrev N_law_roll : List Str := ["_law_dice_here", "_law_total", "_law_found", "_law_one", "_law_two"]
theorem sc_law_roll : FnScope N_law_roll ["_law_dice_here", "_law_total"] (defScope s_law_roll) := ⟨rfl, rfl, rfl, by decide +kernel, rfl, by decide +kernel, by decide +kernel⟩
abbrev s_law_near : Stmt := topS 59
abbrev N_law_near : List Str := ["_law_dice_here", "_law_most"]
theorem sc_law_near : FnScope N_law_near ["_law_dice_here", "_law_most"] (defScope s_law_near) := ⟨rfl, rfl, rfl, by decide +kernel, rfl, by decide +kernel, by decide +kernel⟩
abbrev s_law_gcd : Stmt := topS 60
abbrev N_law_gcd : List Str := ["_law_one", "_law_other"]
theorem sc_law_gcd : FnScope N_law_gcd ["_law_one", "_law_other"] (defScope s_law_gcd) := ⟨rfl, rfl, rfl, by decide +kernel, rfl, by decide +kernel, by decide +kernel⟩
abbrev s_law_shared : Stmt := topS 61
abbrev N_law_shared : List Str := ["_law_numbers", "_law_found", "_law_number"]
theorem sc_law_shared : FnScope N_law_shared ["_law_numbers"] (defScope s_law_shared) := ⟨rfl, rfl, rfl, by decide +kernel, rfl, by decide +kernel, by decide +kernel⟩
abbrev s_law_choose : Stmt := topS 62
abbrev N_law_choose : List Str := ["_law_many", "_law_few", "_law_found", "_law_at"]
theorem sc_law_choose : FnScope N_law_choose ["_law_many", "_law_few"] (defScope s_law_choose) := ⟨rfl, rfl, rfl, by decide +kernel, rfl, by decide +kernel, by decide +kernel⟩
abbrev s_law_plus : Stmt := topS 63
abbrev N_law_plus : List Str := ["_law_one", "_law_other", "_law_first", "_law_second"]
theorem sc_law_plus : FnScope N_law_plus ["_law_one", "_law_other"] (defScope s_law_plus) := ⟨rfl, rfl, rfl, by decide +kernel, rfl, by decide +kernel, by decide +kernel⟩
abbrev s_law_scaled : Stmt := topS 64
abbrev N_law_scaled : List Str := ["_law_form_here", "_law_factor", "_law_entry"]
theorem sc_law_scaled : FnScope N_law_scaled ["_law_form_here", "_law_factor"] (defScope s_law_scaled) := ⟨rfl, rfl, rfl, by decide +kernel, rfl, by decide +kernel, by decide +kernel⟩
abbrev s_law_product : Stmt := topS 65
abbrev N_law_product : List Str := ["_law_one", "_law_other", "_law_found", "_law_place", "_law_at", "_law_first", "_law_second"]
theorem sc_law_product : FnScope N_law_product ["_law_one", "_law_other"] (defScope s_law_product) := ⟨rfl, rfl, rfl, by decide +kernel, rfl, by decide +kernel, by decide +kernel⟩
abbrev s_law_all_product : Stmt := topS 66
abbrev N_law_all_product : List Str := ["_law_forms", "_law_found", "_law_form_here"]
theorem sc_law_all_product : FnScope N_law_all_product ["_law_forms"] (defScope s_law_all_product) := ⟨rfl, rfl, rfl, by decide +kernel, rfl, by decide +kernel, by decide +kernel⟩
abbrev s_law_power : Stmt := topS 67
abbrev N_law_power : List Str := ["_law_pair", "_law_times", "_law_found", "_law_turn"]
theorem sc_law_power : FnScope N_law_power ["_law_pair", "_law_times"] (defScope s_law_power) := ⟨rfl, rfl, rfl, by decide +kernel, rfl, by decide +kernel, by decide +kernel⟩
abbrev s_law_by_x : Stmt := topS 68
abbrev N_law_by_x : List Str := ["_law_form_here", "_law_at", "_law_entry"]
theorem sc_law_by_x : FnScope N_law_by_x ["_law_form_here"] (defScope s_law_by_x) := ⟨rfl, rfl, rfl, by decide +kernel, rfl, by decide +kernel, by decide +kernel⟩
abbrev s_law_by_y : Stmt := topS 69
abbrev N_law_by_y : List Str := ["_law_form_here", "_law_at", "_law_entry"]
theorem sc_law_by_y : FnScope N_law_by_y ["_law_form_here"] (defScope s_law_by_y) := ⟨rfl, rfl, rfl, by decide +kernel, rfl, by decide +kernel, by decide +kernel⟩
abbrev s_law_derived : Stmt := topS 70
abbrev N_law_derived : List Str := ["_law_form_here", "_law_one", "_law_other", "_law_turn"]
theorem sc_law_derived : FnScope N_law_derived ["_law_form_here", "_law_one", "_law_other"] (defScope s_law_derived) := ⟨rfl, rfl, rfl, by decide +kernel, rfl, by decide +kernel, by decide +kernel⟩
abbrev s_law_laid : Stmt := topS 71
abbrev N_law_laid : List Str := ["_law_one", "_law_other", "_law_times", "_law_found", "_law_place", "_law_at", "_law_piece", "_law_number"]
theorem sc_law_laid : FnScope N_law_laid ["_law_one", "_law_other", "_law_times"] (defScope s_law_laid) := ⟨rfl, rfl, rfl, by decide +kernel, rfl, by decide +kernel, by decide +kernel⟩
abbrev s_law_plain : Stmt := topS 72
abbrev N_law_plain : List Str := ["_law_form_here", "_law_part", "_law_first", "_law_entry"]
theorem sc_law_plain : FnScope N_law_plain ["_law_form_here"] (defScope s_law_plain) := ⟨rfl, rfl, rfl, by decide +kernel, rfl, by decide +kernel, by decide +kernel⟩
abbrev s_law_line : Stmt := topS 73
abbrev N_law_line : List Str := ["_law_point_here"]
theorem sc_law_line : FnScope N_law_line ["_law_point_here"] (defScope s_law_line) := ⟨rfl, rfl, rfl, by decide +kernel, rfl, by decide +kernel, by decide +kernel⟩
abbrev s_law_point : Stmt := topS 74
abbrev N_law_point : List Str := ["_law_dice_here", "_law_most", "_law_one", "_law_other"]
theorem sc_law_point : FnScope N_law_point ["_law_dice_here", "_law_most"] (defScope s_law_point) := ⟨rfl, rfl, rfl, by decide +kernel, rfl, by decide +kernel, by decide +kernel⟩
abbrev s_law_small_form : Stmt := topS 75
abbrev N_law_small_form : List Str := ["_law_dice_here", "_law_degree", "_law_most", "_law_place"]
theorem sc_law_small_form : FnScope N_law_small_form ["_law_dice_here", "_law_degree", "_law_most"] (defScope s_law_small_form) := ⟨rfl, rfl, rfl, by decide +kernel, rfl, by decide +kernel, by decide +kernel⟩
abbrev s_law_form : Stmt := topS 76
abbrev N_law_form : List Str := ["_law_dice_here", "_law_degree", "_law_way", "_law_turn", "_law_line_here", "_law_often", "_law_found", "_law_place"]
theorem sc_law_form : FnScope N_law_form ["_law_dice_here", "_law_degree"] (defScope s_law_form) := ⟨rfl, rfl, rfl, by decide +kernel, rfl, by decide +kernel, by decide +kernel⟩
abbrev s_law_pair_less : Stmt := topS 77
abbrev N_law_pair_less : List Str := ["_law_table", "_law_rows", "_law_columns", "_law_found", "_law_i", "_law_row", "_law_below", "_law_line_here", "_law_j", "_law_first"]
theorem sc_law_pair_less : FnScope N_law_pair_less ["_law_table"] (defScope s_law_pair_less) := ⟨rfl, rfl, rfl, by decide +kernel, rfl, by decide +kernel, by decide +kernel⟩
abbrev s_law_pair_whole : Stmt := topS 78
abbrev N_law_pair_whole : List Str := ["_law_table", "_law_found", "_law_place", "_law_i", "_law_row", "_law_j", "_law_entry"]
theorem sc_law_pair_whole : FnScope N_law_pair_whole ["_law_table"] (defScope s_law_pair_whole) := ⟨rfl, rfl, rfl, by decide +kernel, rfl, by decide +kernel, by decide +kernel⟩
abbrev s_law_pair_parts : Stmt := topS 79
abbrev N_law_pair_parts : List Str := ["_law_table", "_law_found", "_law_here", "_law_turn"]
theorem sc_law_pair_parts : FnScope N_law_pair_parts ["_law_table"] (defScope s_law_pair_parts) := ⟨rfl, rfl, rfl, by decide +kernel, rfl, by decide +kernel, by decide +kernel⟩
abbrev s_law_pair_product : Stmt := topS 80
abbrev N_law_pair_product : List Str := ["_law_one", "_law_other", "_law_second", "_law_first"]
theorem sc_law_pair_product : FnScope N_law_pair_product ["_law_one", "_law_other"] (defScope s_law_pair_product) := ⟨rfl, rfl, rfl, by decide +kernel, rfl, by decide +kernel, by decide +kernel⟩
abbrev s_law_is_shaped : Stmt := topS 81
abbrev N_law_is_shaped : List Str := ["_law_table", "_law_first", "_law_second", "_law_row", "_law_entry"]
theorem sc_law_is_shaped : FnScope N_law_is_shaped ["_law_table", "_law_first", "_law_second"] (defScope s_law_is_shaped) := ⟨rfl, rfl, rfl, by decide +kernel, rfl, by decide +kernel, by decide +kernel⟩
abbrev s_law_parts_right : Stmt := topS 82
abbrev N_law_parts_right : List Str := ["_law_first", "_law_second", "_law_parts", "_law_told", "_law_part", "_law_table", "_law_bottom", "_law_flat", "_law_row"]
theorem sc_law_parts_right : FnScope N_law_parts_right ["_law_first", "_law_second", "_law_parts"] (defScope s_law_parts_right) := ⟨rfl, rfl, rfl, by decide +kernel, rfl, by decide +kernel, by decide +kernel⟩
abbrev s_law_right : Stmt := topS 83
abbrev N_law_right : List Str := ["_law_dice_here", "_law_first", "_law_second", "_law_least", "_law_parts", "_law_times", "_law_part", "_law_table", "_law_place", "_law_row", "_law_one", "_law_other", "_law_layings", "_law_told"]
theorem sc_law_right : FnScope N_law_right ["_law_dice_here"] (defScope s_law_right) := ⟨rfl, rfl, rfl, by decide +kernel, rfl, by decide +kernel, by decide +kernel⟩
abbrev s_law : Stmt := topS 84
abbrev N_law : List Str := ["_law_script", "_law_spot", "_law_told", "_law_none"]
theorem sc_law : FnScope N_law ["_law_script"] (defScope s_law) := ⟨rfl, rfl, rfl, by decide +kernel, rfl, by decide +kernel, by decide +kernel⟩
abbrev s_Told_init : Stmt := inClass (topS 30) 1
abbrev N_Told_init : List Str := ["self", "row"]
theorem sc_Told_init : FnScope N_Told_init ["self", "row"] (defScope s_Told_init) := ⟨rfl, rfl, rfl, by decide +kernel, rfl, by decide +kernel, by decide +kernel⟩
abbrev s_Form_init : Stmt := inClass (topS 32) 1
abbrev N_Form_init : List Str := ["self", "entries"]
theorem sc_Form_init : FnScope N_Form_init ["self", "entries"] (defScope s_Form_init) := ⟨rfl, rfl, rfl, by decide +kernel, rfl, by decide +kernel, by decide +kernel⟩
abbrev s_Form_entries : Stmt := inClass (topS 32) 4
abbrev N_Form_entries : List Str := ["self"]
theorem sc_Form_entries : FnScope N_Form_entries ["self"] (defScope s_Form_entries) := ⟨rfl, rfl, rfl, by decide +kernel, rfl, by decide +kernel, by decide +kernel⟩
abbrev s_Form_degree : Stmt := inClass (topS 32) 5
abbrev N_Form_degree : List Str := ["self"]
theorem sc_Form_degree : FnScope N_Form_degree ["self"] (defScope s_Form_degree) := ⟨rfl, rfl, rfl, by decide +kernel, rfl, by decide +kernel, by decide +kernel⟩
abbrev s_Form_eq : Stmt := inClass (topS 32) 18
abbrev s_Form_len : Stmt := inClass (topS 32) 19
abbrev s_Form_iter : Stmt := inClass (topS 32) 20
/-- where the defs stand, what the names of the module are -/
structure Facts (K : PySem.W.Frag) (mg : Str → Option Value) where
  f_is_whole : Addr
  fd_is_whole : FuncData
  F_is_whole : FnP K "is_whole" s_is_whole f_is_whole fd_is_whole
  g_is_whole : mg "is_whole" = some (.ref f_is_whole)
  b_is_whole : Binds K fd_is_whole ["value"] []
  f_is_short : Addr
  fd_is_short : FuncData
  F_is_short : FnP K "is_short" s_is_short f_is_short fd_is_short
  g_is_short : mg "is_short" = some (.ref f_is_short)
  b_is_short : Binds K fd_is_short ["value"] []
  f_is_from : Addr
  fd_is_from : FuncData
  F_is_from : FnP K "is_from" s_is_from f_is_from fd_is_from
  g_is_from : mg "is_from" = some (.ref f_is_from)
  b_is_from : Binds K fd_is_from ["value", "least", "most"] []
  f_are_short : Addr
  fd_are_short : FuncData
  F_are_short : FnP K "are_short" s_are_short f_are_short fd_are_short
  g_are_short : mg "are_short" = some (.ref f_are_short)
  b_are_short : Binds K fd_are_short ["value"] []
  f_shared_of : Addr
  fd_shared_of : FuncData
  F_shared_of : FnP K "shared_of" s_shared_of f_shared_of fd_shared_of
  g_shared_of : mg "shared_of" = some (.ref f_shared_of)
  b_shared_of : Binds K fd_shared_of ["numbers"] []
  f_first_of : Addr
  fd_first_of : FuncData
  F_first_of : FnP K "first_of" s_first_of f_first_of fd_first_of
  g_first_of : mg "first_of" = some (.ref f_first_of)
  b_first_of : Binds K fd_first_of ["numbers"] []
  f_primitive_of : Addr
  fd_primitive_of : FuncData
  F_primitive_of : FnP K "primitive_of" s_primitive_of f_primitive_of fd_primitive_of
  g_primitive_of : mg "primitive_of" = some (.ref f_primitive_of)
  b_primitive_of : Binds K fd_primitive_of ["numbers"] []
  f_factorial_of : Addr
  fd_factorial_of : FuncData
  F_factorial_of : FnP K "factorial_of" s_factorial_of f_factorial_of fd_factorial_of
  g_factorial_of : mg "factorial_of" = some (.ref f_factorial_of)
  b_factorial_of : Binds K fd_factorial_of ["number"] []
  f_lots_of : Addr
  fd_lots_of : FuncData
  F_lots_of : FnP K "lots_of" s_lots_of f_lots_of fd_lots_of
  g_lots_of : mg "lots_of" = some (.ref f_lots_of)
  b_lots_of : Binds K fd_lots_of ["many", "few"] []
  f_joined_entries : Addr
  fd_joined_entries : FuncData
  F_joined_entries : FnP K "joined_entries" s_joined_entries f_joined_entries fd_joined_entries
  g_joined_entries : mg "joined_entries" = some (.ref f_joined_entries)
  b_joined_entries : Binds K fd_joined_entries ["one", "other"] []
  f_derived_in : Addr
  fd_derived_in : FuncData
  F_derived_in : FnP K "derived_in" s_derived_in f_derived_in fd_derived_in
  g_derived_in : mg "derived_in" = some (.ref f_derived_in)
  b_derived_in : Binds K fd_derived_in ["entries", "one", "other"] []
  f_are_entries : Addr
  fd_are_entries : FuncData
  F_are_entries : FnP K "are_entries" s_are_entries f_are_entries fd_are_entries
  g_are_entries : mg "are_entries" = some (.ref f_are_entries)
  b_are_entries : Binds K fd_are_entries ["value"] []
  f_form_of : Addr
  fd_form_of : FuncData
  F_form_of : FnP K "form_of" s_form_of f_form_of fd_form_of
  g_form_of : mg "form_of" = some (.ref f_form_of)
  b_form_of : Binds K fd_form_of ["entries"] []
  f_is_pair_table : Addr
  fd_is_pair_table : FuncData
  F_is_pair_table : FnP K "is_pair_table" s_is_pair_table f_is_pair_table fd_is_pair_table
  g_is_pair_table : mg "is_pair_table" = some (.ref f_is_pair_table)
  b_is_pair_table : Binds K fd_is_pair_table ["value"] []
  f_parted_once : Addr
  fd_parted_once : FuncData
  F_parted_once : FnP K "parted_once" s_parted_once f_parted_once fd_parted_once
  g_parted_once : mg "parted_once" = some (.ref f_parted_once)
  b_parted_once : Binds K fd_parted_once ["table"] []
  f_put_together : Addr
  fd_put_together : FuncData
  F_put_together : FnP K "put_together" s_put_together f_put_together fd_put_together
  g_put_together : mg "put_together" = some (.ref f_put_together)
  b_put_together : Binds K fd_put_together ["table"] []
  f_table_parts : Addr
  fd_table_parts : FuncData
  F_table_parts : FnP K "table_parts" s_table_parts f_table_parts fd_table_parts
  g_table_parts : mg "table_parts" = some (.ref f_table_parts)
  b_table_parts : Binds K fd_table_parts ["table"] []
  f_polar_table : Addr
  fd_polar_table : FuncData
  F_polar_table : FnP K "polar_table" s_polar_table f_polar_table fd_polar_table
  g_polar_table : mg "polar_table" = some (.ref f_polar_table)
  b_polar_table : Binds K fd_polar_table ["entries", "first", "second", "bottom"] []
  f_times_crossed : Addr
  fd_times_crossed : FuncData
  F_times_crossed : FnP K "times_crossed" s_times_crossed f_times_crossed fd_times_crossed
  g_times_crossed : mg "times_crossed" = some (.ref f_times_crossed)
  b_times_crossed : Binds K fd_times_crossed ["table"] []
  f_lots_bottom : Addr
  fd_lots_bottom : FuncData
  F_lots_bottom : FnP K "lots_bottom" s_lots_bottom f_lots_bottom fd_lots_bottom
  g_lots_bottom : mg "lots_bottom" = some (.ref f_lots_bottom)
  b_lots_bottom : Binds K fd_lots_bottom ["many"] []
  f_part_bottom : Addr
  fd_part_bottom : FuncData
  F_part_bottom : FnP K "part_bottom" s_part_bottom f_part_bottom fd_part_bottom
  g_part_bottom : mg "part_bottom" = some (.ref f_part_bottom)
  b_part_bottom : Binds K fd_part_bottom ["first", "second", "times"] []
  f_whole_table : Addr
  fd_whole_table : FuncData
  F_whole_table : FnP K "whole_table" s_whole_table f_whole_table fd_whole_table
  g_whole_table : mg "whole_table" = some (.ref f_whole_table)
  b_whole_table : Binds K fd_whole_table ["first", "second", "parts"] []
  f_are_parts_of : Addr
  fd_are_parts_of : FuncData
  F_are_parts_of : FnP K "are_parts_of" s_are_parts_of f_are_parts_of fd_are_parts_of
  g_are_parts_of : mg "are_parts_of" = some (.ref f_are_parts_of)
  b_are_parts_of : Binds K fd_are_parts_of ["first", "second", "value"] []
  f_table_of_parts : Addr
  fd_table_of_parts : FuncData
  F_table_of_parts : FnP K "table_of_parts" s_table_of_parts f_table_of_parts fd_table_of_parts
  g_table_of_parts : mg "table_of_parts" = some (.ref f_table_of_parts)
  b_table_of_parts : Binds K fd_table_of_parts ["first", "second", "parts"] []
  f_less_head : Addr
  fd_less_head : FuncData
  F_less_head : FnP K "less_head" s_less_head f_less_head fd_less_head
  g_less_head : mg "less_head" = some (.ref f_less_head)
  b_less_head : Binds K fd_less_head ["row", "head", "place"] []
  f_echelon_rows : Addr
  fd_echelon_rows : FuncData
  F_echelon_rows : FnP K "echelon_rows" s_echelon_rows f_echelon_rows fd_echelon_rows
  g_echelon_rows : mg "echelon_rows" = some (.ref f_echelon_rows)
  b_echelon_rows : Binds K fd_echelon_rows ["rows", "width"] []
  f_rank_of : Addr
  fd_rank_of : FuncData
  F_rank_of : FnP K "rank_of" s_rank_of f_rank_of fd_rank_of
  g_rank_of : mg "rank_of" = some (.ref f_rank_of)
  b_rank_of : Binds K fd_rank_of ["rows", "width"] []
  f_is_table_in : Addr
  fd_is_table_in : FuncData
  F_is_table_in : FnP K "is_table_in" s_is_table_in f_is_table_in fd_is_table_in
  g_is_table_in : mg "is_table_in" = some (.ref f_is_table_in)
  b_is_table_in : Binds K fd_is_table_in ["value"] []
  f_require_rows : Addr
  fd_require_rows : FuncData
  F_require_rows : FnP K "require_rows" s_require_rows f_require_rows fd_require_rows
  g_require_rows : mg "require_rows" = some (.ref f_require_rows)
  b_require_rows : Binds K fd_require_rows ["value"] []
  f_rank : Addr
  fd_rank : FuncData
  F_rank : FnP K "rank" s_rank f_rank fd_rank
  g_rank : mg "rank" = some (.ref f_rank)
  b_rank : Binds K fd_rank ["table"] []
  f_law_dice : Addr
  fd_law_dice : FuncData
  F_law_dice : FnP K "_law_dice" s_law_dice f_law_dice fd_law_dice
  g_law_dice : mg "_law_dice" = some (.ref f_law_dice)
  b_law_dice : Binds K fd_law_dice ["_law_script", "_law_spot"] []
  f_law_roll : Addr
  fd_law_roll : FuncData
  F_law_roll : FnP K "_law_roll" s_law_roll f_law_roll fd_law_roll
  g_law_roll : mg "_law_roll" = some (.ref f_law_roll)
  b_law_roll : Binds K fd_law_roll ["_law_dice_here", "_law_total"] []
  f_law_near : Addr
  fd_law_near : FuncData
  F_law_near : FnP K "_law_near" s_law_near f_law_near fd_law_near
  g_law_near : mg "_law_near" = some (.ref f_law_near)
  b_law_near : Binds K fd_law_near ["_law_dice_here", "_law_most"] []
  f_law_gcd : Addr
  fd_law_gcd : FuncData
  F_law_gcd : FnP K "_law_gcd" s_law_gcd f_law_gcd fd_law_gcd
  g_law_gcd : mg "_law_gcd" = some (.ref f_law_gcd)
  b_law_gcd : Binds K fd_law_gcd ["_law_one", "_law_other"] []
  f_law_shared : Addr
  fd_law_shared : FuncData
  F_law_shared : FnP K "_law_shared" s_law_shared f_law_shared fd_law_shared
  g_law_shared : mg "_law_shared" = some (.ref f_law_shared)
  b_law_shared : Binds K fd_law_shared ["_law_numbers"] []
  f_law_choose : Addr
  fd_law_choose : FuncData
  F_law_choose : FnP K "_law_choose" s_law_choose f_law_choose fd_law_choose
  g_law_choose : mg "_law_choose" = some (.ref f_law_choose)
  b_law_choose : Binds K fd_law_choose ["_law_many", "_law_few"] []
  f_law_plus : Addr
  fd_law_plus : FuncData
  F_law_plus : FnP K "_law_plus" s_law_plus f_law_plus fd_law_plus
  g_law_plus : mg "_law_plus" = some (.ref f_law_plus)
  b_law_plus : Binds K fd_law_plus ["_law_one", "_law_other"] []
  f_law_scaled : Addr
  fd_law_scaled : FuncData
  F_law_scaled : FnP K "_law_scaled" s_law_scaled f_law_scaled fd_law_scaled
  g_law_scaled : mg "_law_scaled" = some (.ref f_law_scaled)
  b_law_scaled : Binds K fd_law_scaled ["_law_form_here", "_law_factor"] []
  f_law_product : Addr
  fd_law_product : FuncData
  F_law_product : FnP K "_law_product" s_law_product f_law_product fd_law_product
  g_law_product : mg "_law_product" = some (.ref f_law_product)
  b_law_product : Binds K fd_law_product ["_law_one", "_law_other"] []
  f_law_all_product : Addr
  fd_law_all_product : FuncData
  F_law_all_product : FnP K "_law_all_product" s_law_all_product f_law_all_product fd_law_all_product
  g_law_all_product : mg "_law_all_product" = some (.ref f_law_all_product)
  b_law_all_product : Binds K fd_law_all_product ["_law_forms"] []
  f_law_power : Addr
  fd_law_power : FuncData
  F_law_power : FnP K "_law_power" s_law_power f_law_power fd_law_power
  g_law_power : mg "_law_power" = some (.ref f_law_power)
  b_law_power : Binds K fd_law_power ["_law_pair", "_law_times"] []
  f_law_by_x : Addr
  fd_law_by_x : FuncData
  F_law_by_x : FnP K "_law_by_x" s_law_by_x f_law_by_x fd_law_by_x
  g_law_by_x : mg "_law_by_x" = some (.ref f_law_by_x)
  b_law_by_x : Binds K fd_law_by_x ["_law_form_here"] []
  f_law_by_y : Addr
  fd_law_by_y : FuncData
  F_law_by_y : FnP K "_law_by_y" s_law_by_y f_law_by_y fd_law_by_y
  g_law_by_y : mg "_law_by_y" = some (.ref f_law_by_y)
  b_law_by_y : Binds K fd_law_by_y ["_law_form_here"] []
  f_law_derived : Addr
  fd_law_derived : FuncData
  F_law_derived : FnP K "_law_derived" s_law_derived f_law_derived fd_law_derived
  g_law_derived : mg "_law_derived" = some (.ref f_law_derived)
  b_law_derived : Binds K fd_law_derived ["_law_form_here", "_law_one", "_law_other"] []
  f_law_laid : Addr
  fd_law_laid : FuncData
  F_law_laid : FnP K "_law_laid" s_law_laid f_law_laid fd_law_laid
  g_law_laid : mg "_law_laid" = some (.ref f_law_laid)
  b_law_laid : Binds K fd_law_laid ["_law_one", "_law_other", "_law_times"] []
  f_law_plain : Addr
  fd_law_plain : FuncData
  F_law_plain : FnP K "_law_plain" s_law_plain f_law_plain fd_law_plain
  g_law_plain : mg "_law_plain" = some (.ref f_law_plain)
  b_law_plain : Binds K fd_law_plain ["_law_form_here"] []
  f_law_line : Addr
  fd_law_line : FuncData
  F_law_line : FnP K "_law_line" s_law_line f_law_line fd_law_line
  g_law_line : mg "_law_line" = some (.ref f_law_line)
  b_law_line : Binds K fd_law_line ["_law_point_here"] []
  f_law_point : Addr
  fd_law_point : FuncData
  F_law_point : FnP K "_law_point" s_law_point f_law_point fd_law_point
  g_law_point : mg "_law_point" = some (.ref f_law_point)
  b_law_point : Binds K fd_law_point ["_law_dice_here", "_law_most"] []
  f_law_small_form : Addr
  fd_law_small_form : FuncData
  F_law_small_form : FnP K "_law_small_form" s_law_small_form f_law_small_form fd_law_small_form
  g_law_small_form : mg "_law_small_form" = some (.ref f_law_small_form)
  b_law_small_form : Binds K fd_law_small_form ["_law_dice_here", "_law_degree", "_law_most"] []
  f_law_form : Addr
  fd_law_form : FuncData
  F_law_form : FnP K "_law_form" s_law_form f_law_form fd_law_form
  g_law_form : mg "_law_form" = some (.ref f_law_form)
  b_law_form : Binds K fd_law_form ["_law_dice_here", "_law_degree"] []
  f_law_pair_less : Addr
  fd_law_pair_less : FuncData
  F_law_pair_less : FnP K "_law_pair_less" s_law_pair_less f_law_pair_less fd_law_pair_less
  g_law_pair_less : mg "_law_pair_less" = some (.ref f_law_pair_less)
  b_law_pair_less : Binds K fd_law_pair_less ["_law_table"] []
  f_law_pair_whole : Addr
  fd_law_pair_whole : FuncData
  F_law_pair_whole : FnP K "_law_pair_whole" s_law_pair_whole f_law_pair_whole fd_law_pair_whole
  g_law_pair_whole : mg "_law_pair_whole" = some (.ref f_law_pair_whole)
  b_law_pair_whole : Binds K fd_law_pair_whole ["_law_table"] []
  f_law_pair_parts : Addr
  fd_law_pair_parts : FuncData
  F_law_pair_parts : FnP K "_law_pair_parts" s_law_pair_parts f_law_pair_parts fd_law_pair_parts
  g_law_pair_parts : mg "_law_pair_parts" = some (.ref f_law_pair_parts)
  b_law_pair_parts : Binds K fd_law_pair_parts ["_law_table"] []
  f_law_pair_product : Addr
  fd_law_pair_product : FuncData
  F_law_pair_product : FnP K "_law_pair_product" s_law_pair_product f_law_pair_product fd_law_pair_product
  g_law_pair_product : mg "_law_pair_product" = some (.ref f_law_pair_product)
  b_law_pair_product : Binds K fd_law_pair_product ["_law_one", "_law_other"] []
  f_law_is_shaped : Addr
  fd_law_is_shaped : FuncData
  F_law_is_shaped : FnP K "_law_is_shaped" s_law_is_shaped f_law_is_shaped fd_law_is_shaped
  g_law_is_shaped : mg "_law_is_shaped" = some (.ref f_law_is_shaped)
  b_law_is_shaped : Binds K fd_law_is_shaped ["_law_table", "_law_first", "_law_second"] []
  f_law_parts_right : Addr
  fd_law_parts_right : FuncData
  F_law_parts_right : FnP K "_law_parts_right" s_law_parts_right f_law_parts_right fd_law_parts_right
  g_law_parts_right : mg "_law_parts_right" = some (.ref f_law_parts_right)
  b_law_parts_right : Binds K fd_law_parts_right ["_law_first", "_law_second", "_law_parts"] []
  f_law_right : Addr
  fd_law_right : FuncData
  F_law_right : FnP K "_law_right" s_law_right f_law_right fd_law_right
  g_law_right : mg "_law_right" = some (.ref f_law_right)
  b_law_right : Binds K fd_law_right ["_law_dice_here"] []
  f_law : Addr
  fd_law : FuncData
  F_law : FnP K "law" s_law f_law fd_law
  g_law : mg "law" = some (.ref f_law)
  b_law : Binds K fd_law ["_law_script"] []
  f_Told_init : Addr
  fd_Told_init : FuncData
  F_Told_init : FnM K "__init__" "Told.__init__" s_Told_init f_Told_init fd_Told_init
  b_Told_init : Binds K fd_Told_init ["self", "row"] []
  f_Form_init : Addr
  fd_Form_init : FuncData
  F_Form_init : FnM K "__init__" "Form.__init__" s_Form_init f_Form_init fd_Form_init
  b_Form_init : Binds K fd_Form_init ["self", "entries"] []
  f_Form_entries : Addr
  fd_Form_entries : FuncData
  F_Form_entries : FnM K "entries" "Form.entries" s_Form_entries f_Form_entries fd_Form_entries
  b_Form_entries : Binds K fd_Form_entries ["self"] []
  f_Form_degree : Addr
  fd_Form_degree : FuncData
  F_Form_degree : FnM K "degree" "Form.degree" s_Form_degree f_Form_degree fd_Form_degree
  b_Form_degree : Binds K fd_Form_degree ["self"] []
  f_Form_eq : Addr
  fd_Form_eq : FuncData
  F_Form_eq : FnM K "__eq__" "Form.__eq__" s_Form_eq f_Form_eq fd_Form_eq
  b_Form_eq : Binds K fd_Form_eq ["self", "other"] []
  f_Form_len : Addr
  fd_Form_len : FuncData
  F_Form_len : FnM K "__len__" "Form.__len__" s_Form_len f_Form_len fd_Form_len
  b_Form_len : Binds K fd_Form_len ["self"] []
  f_Form_iter : Addr
  fd_Form_iter : FuncData
  F_Form_iter : FnM K "__iter__" "Form.__iter__" s_Form_iter f_Form_iter fd_Form_iter
  b_Form_iter : Binds K fd_Form_iter ["self"] []
  C_Told : Addr
  g_Told : mg "Told" = some (.ref C_Told)
  oc_Told : OwnF.OC K C_Told
  mk_Told : Mk K C_Told f_Told_init
  a_own_row : Addr
  sl_own_row : SlX.Slot1 K C_Told "own_row" a_own_row 0
  C_Form : Addr
  g_Form : mg "Form" = some (.ref C_Form)
  oc_Form : OwnF.OC K C_Form
  mk_Form : Mk K C_Form f_Form_init
  a_own_entries : Addr
  sl_own_entries : SlX.Slot1 K C_Form "own_entries" a_own_entries 0
  mt_Told_init : HookG.Mt K C_Told "__init__" f_Told_init
  mt_Form_init : HookG.Mt K C_Form "__init__" f_Form_init
  p_Form_entries : Addr
  pr_Form_entries : HookG.Pr K C_Form "entries" p_Form_entries f_Form_entries
  p_Form_degree : Addr
  pr_Form_degree : HookG.Pr K C_Form "degree" p_Form_degree f_Form_degree
  mt_Form_eq : HookG.Mt K C_Form "__eq__" f_Form_eq
  mt_Form_len : HookG.Mt K C_Form "__len__" f_Form_len
  mt_Form_iter : HookG.Mt K C_Form "__iter__" f_Form_iter
  kit_Told_Form : PySem.W.kitOne K (.ref C_Told) (.ref C_Form) = some false
  kit_Form_Told : PySem.W.kitOne K (.ref C_Form) (.ref C_Told) = some false
  z_abs : mg "abs" = none
  z_all : mg "all" = none
  z_bool : mg "bool" = none
  z_enumerate : mg "enumerate" = none
  z_int : mg "int" = none
  z_isinstance : mg "isinstance" = none
  z_iter : mg "iter" = none
  z_len : mg "len" = none
  z_list : mg "list" = none
  z_max : mg "max" = none
  z_min : mg "min" = none
  z_next : mg "next" = none
  z_range : mg "range" = none
  z_tuple : mg "tuple" = none
  z_zip : mg "zip" = none
  m_gcd : mg "gcd" = some (.builtin "math.gcd")
  m_lcm : mg "lcm" = some (.builtin "math.lcm")
  c_GREATEST : ∃ t, mg "GREATEST" = some (.int 1000000000000000000000000000000000000000000000000000000000000 t)
  c_MAX_DEGREE : ∃ t, mg "MAX_DEGREE" = some (.int 40 t)
  c_MOST_PAIRED : ∃ t, mg "MOST_PAIRED" = some (.int 12 t)
  c_MAX_SIDE : ∃ t, mg "MAX_SIDE" = some (.int 24 t)
  c_first_of : Addr
  P_first_of : Addr
  code_first_of : fd_first_of.code = .ref c_first_of
  tab_first_of : (c_first_of, P_first_of) = HookT.cTA K (HookG.At.glo "first_of")
/-! ### for the head -/
def d_is_whole : HookG.GD := ⟨.glo "is_whole", "is_whole", "is_whole", defArgs s_is_whole, defBody s_is_whole, defScope s_is_whole⟩
def d_is_short : HookG.GD := ⟨.glo "is_short", "is_short", "is_short", defArgs s_is_short, defBody s_is_short, defScope s_is_short⟩
def d_is_from : HookG.GD := ⟨.glo "is_from", "is_from", "is_from", defArgs s_is_from, defBody s_is_from, defScope s_is_from⟩
def d_are_short : HookG.GD := ⟨.glo "are_short", "are_short", "are_short", defArgs s_are_short, defBody s_are_short, defScope s_are_short⟩
def d_shared_of : HookG.GD := ⟨.glo "shared_of", "shared_of", "shared_of", defArgs s_shared_of, defBody s_shared_of, defScope s_shared_of⟩
def d_first_of : HookG.GD := ⟨.glo "first_of", "first_of", "first_of", defArgs s_first_of, defBody s_first_of, defScope s_first_of⟩
def d_primitive_of : HookG.GD := ⟨.glo "primitive_of", "primitive_of", "primitive_of", defArgs s_primitive_of, defBody s_primitive_of, defScope s_primitive_of⟩
def d_factorial_of : HookG.GD := ⟨.glo "factorial_of", "factorial_of", "factorial_of", defArgs s_factorial_of, defBody s_factorial_of, defScope s_factorial_of⟩
def d_lots_of : HookG.GD := ⟨.glo "lots_of", "lots_of", "lots_of", defArgs s_lots_of, defBody s_lots_of, defScope s_lots_of⟩
def d_joined_entries : HookG.GD := ⟨.glo "joined_entries", "joined_entries", "joined_entries", defArgs s_joined_entries, defBody s_joined_entries, defScope s_joined_entries⟩
def d_derived_in : HookG.GD := ⟨.glo "derived_in", "derived_in", "derived_in", defArgs s_derived_in, defBody s_derived_in, defScope s_derived_in⟩
def d_are_entries : HookG.GD := ⟨.glo "are_entries", "are_entries", "are_entries", defArgs s_are_entries, defBody s_are_entries, defScope s_are_entries⟩
def d_form_of : HookG.GD := ⟨.glo "form_of", "form_of", "form_of", defArgs s_form_of, defBody s_form_of, defScope s_form_of⟩
def d_is_pair_table : HookG.GD := ⟨.glo "is_pair_table", "is_pair_table", "is_pair_table", defArgs s_is_pair_table, defBody s_is_pair_table, defScope s_is_pair_table⟩
def d_parted_once : HookG.GD := ⟨.glo "parted_once", "parted_once", "parted_once", defArgs s_parted_once, defBody s_parted_once, defScope s_parted_once⟩
def d_put_together : HookG.GD := ⟨.glo "put_together", "put_together", "put_together", defArgs s_put_together, defBody s_put_together, defScope s_put_together⟩
def d_table_parts : HookG.GD := ⟨.glo "table_parts", "table_parts", "table_parts", defArgs s_table_parts, defBody s_table_parts, defScope s_table_parts⟩
def d_polar_table : HookG.GD := ⟨.glo "polar_table", "polar_table", "polar_table", defArgs s_polar_table, defBody s_polar_table, defScope s_polar_table⟩
def d_times_crossed : HookG.GD := ⟨.glo "times_crossed", "times_crossed", "times_crossed", defArgs s_times_crossed, defBody s_times_crossed, defScope s_times_crossed⟩
def d_lots_bottom : HookG.GD := ⟨.glo "lots_bottom", "lots_bottom", "lots_bottom", defArgs s_lots_bottom, defBody s_lots_bottom, defScope s_lots_bottom⟩
def d_part_bottom : HookG.GD := ⟨.glo "part_bottom", "part_bottom", "part_bottom", defArgs s_part_bottom, defBody s_part_bottom, defScope s_part_bottom⟩
def d_whole_table : HookG.GD := ⟨.glo "whole_table", "whole_table", "whole_table", defArgs s_whole_table, defBody s_whole_table, defScope s_whole_table⟩
def d_are_parts_of : HookG.GD := ⟨.glo "are_parts_of", "are_parts_of", "are_parts_of", defArgs s_are_parts_of, defBody s_are_parts_of, defScope s_are_parts_of⟩
def d_table_of_parts : HookG.GD := ⟨.glo "table_of_parts", "table_of_parts", "table_of_parts", defArgs s_table_of_parts, defBody s_table_of_parts, defScope s_table_of_parts⟩
def d_less_head : HookG.GD := ⟨.glo "less_head", "less_head", "less_head", defArgs s_less_head, defBody s_less_head, defScope s_less_head⟩
def d_echelon_rows : HookG.GD := ⟨.glo "echelon_rows", "echelon_rows", "echelon_rows", defArgs s_echelon_rows, defBody s_echelon_rows, defScope s_echelon_rows⟩
def d_rank_of : HookG.GD := ⟨.glo "rank_of", "rank_of", "rank_of", defArgs s_rank_of, defBody s_rank_of, defScope s_rank_of⟩
def d_is_table_in : HookG.GD := ⟨.glo "is_table_in", "is_table_in", "is_table_in", defArgs s_is_table_in, defBody s_is_table_in, defScope s_is_table_in⟩
def d_require_rows : HookG.GD := ⟨.glo "require_rows", "require_rows", "require_rows", defArgs s_require_rows, defBody s_require_rows, defScope s_require_rows⟩
def d_rank : HookG.GD := ⟨.glo "rank", "rank", "rank", defArgs s_rank, defBody s_rank, defScope s_rank⟩
def d_law_dice : HookG.GD := ⟨.glo "_law_dice", "_law_dice", "_law_dice", defArgs s_law_dice, defBody s_law_dice, defScope s_law_dice⟩
def d_law_roll : HookG.GD := ⟨.glo "_law_roll", "_law_roll", "_law_roll", defArgs s_law_roll, defBody s_law_roll, defScope s_law_roll⟩
def d_law_near : HookG.GD := ⟨.glo "_law_near", "_law_near", "_law_near", defArgs s_law_near, defBody s_law_near, defScope s_law_near⟩
def d_law_gcd : HookG.GD := ⟨.glo "_law_gcd", "_law_gcd", "_law_gcd", defArgs s_law_gcd, defBody s_law_gcd, defScope s_law_gcd⟩
def d_law_shared : HookG.GD := ⟨.glo "_law_shared", "_law_shared", "_law_shared", defArgs s_law_shared, defBody s_law_shared, defScope s_law_shared⟩
def d_law_choose : HookG.GD := ⟨.glo "_law_choose", "_law_choose", "_law_choose", defArgs s_law_choose, defBody s_law_choose, defScope s_law_choose⟩
def d_law_plus : HookG.GD := ⟨.glo "_law_plus", "_law_plus", "_law_plus", defArgs s_law_plus, defBody s_law_plus, defScope s_law_plus⟩
def d_law_scaled : HookG.GD := ⟨.glo "_law_scaled", "_law_scaled", "_law_scaled", defArgs s_law_scaled, defBody s_law_scaled, defScope s_law_scaled⟩
def d_law_product : HookG.GD := ⟨.glo "_law_product", "_law_product", "_law_product", defArgs s_law_product, defBody s_law_product, defScope s_law_product⟩
def d_law_all_product : HookG.GD := ⟨.glo "_law_all_product", "_law_all_product", "_law_all_product", defArgs s_law_all_product, defBody s_law_all_product, defScope s_law_all_product⟩
def d_law_power : HookG.GD := ⟨.glo "_law_power", "_law_power", "_law_power", defArgs s_law_power, defBody s_law_power, defScope s_law_power⟩
def d_law_by_x : HookG.GD := ⟨.glo "_law_by_x", "_law_by_x", "_law_by_x", defArgs s_law_by_x, defBody s_law_by_x, defScope s_law_by_x⟩
def d_law_by_y : HookG.GD := ⟨.glo "_law_by_y", "_law_by_y", "_law_by_y", defArgs s_law_by_y, defBody s_law_by_y, defScope s_law_by_y⟩
def d_law_derived : HookG.GD := ⟨.glo "_law_derived", "_law_derived", "_law_derived", defArgs s_law_derived, defBody s_law_derived, defScope s_law_derived⟩
def d_law_laid : HookG.GD := ⟨.glo "_law_laid", "_law_laid", "_law_laid", defArgs s_law_laid, defBody s_law_laid, defScope s_law_laid⟩
def d_law_plain : HookG.GD := ⟨.glo "_law_plain", "_law_plain", "_law_plain", defArgs s_law_plain, defBody s_law_plain, defScope s_law_plain⟩
def d_law_line : HookG.GD := ⟨.glo "_law_line", "_law_line", "_law_line", defArgs s_law_line, defBody s_law_line, defScope s_law_line⟩
def d_law_point : HookG.GD := ⟨.glo "_law_point", "_law_point", "_law_point", defArgs s_law_point, defBody s_law_point, defScope s_law_point⟩
def d_law_small_form : HookG.GD := ⟨.glo "_law_small_form", "_law_small_form", "_law_small_form", defArgs s_law_small_form, defBody s_law_small_form, defScope s_law_small_form⟩
def d_law_form : HookG.GD := ⟨.glo "_law_form", "_law_form", "_law_form", defArgs s_law_form, defBody s_law_form, defScope s_law_form⟩
def d_law_pair_less : HookG.GD := ⟨.glo "_law_pair_less", "_law_pair_less", "_law_pair_less", defArgs s_law_pair_less, defBody s_law_pair_less, defScope s_law_pair_less⟩
def d_law_pair_whole : HookG.GD := ⟨.glo "_law_pair_whole", "_law_pair_whole", "_law_pair_whole", defArgs s_law_pair_whole, defBody s_law_pair_whole, defScope s_law_pair_whole⟩
def d_law_pair_parts : HookG.GD := ⟨.glo "_law_pair_parts", "_law_pair_parts", "_law_pair_parts", defArgs s_law_pair_parts, defBody s_law_pair_parts, defScope s_law_pair_parts⟩
def d_law_pair_product : HookG.GD := ⟨.glo "_law_pair_product", "_law_pair_product", "_law_pair_product", defArgs s_law_pair_product, defBody s_law_pair_product, defScope s_law_pair_product⟩
def d_law_is_shaped : HookG.GD := ⟨.glo "_law_is_shaped", "_law_is_shaped", "_law_is_shaped", defArgs s_law_is_shaped, defBody s_law_is_shaped, defScope s_law_is_shaped⟩
def d_law_parts_right : HookG.GD := ⟨.glo "_law_parts_right", "_law_parts_right", "_law_parts_right", defArgs s_law_parts_right, defBody s_law_parts_right, defScope s_law_parts_right⟩
def d_law_right : HookG.GD := ⟨.glo "_law_right", "_law_right", "_law_right", defArgs s_law_right, defBody s_law_right, defScope s_law_right⟩
def d_law : HookG.GD := ⟨.glo "law", "law", "law", defArgs s_law, defBody s_law, defScope s_law⟩
def d_Told_init : HookG.GD := ⟨.met "Told" "__init__", "__init__", "Told.__init__", defArgs s_Told_init, defBody s_Told_init, defScope s_Told_init⟩
def d_Form_init : HookG.GD := ⟨.met "Form" "__init__", "__init__", "Form.__init__", defArgs s_Form_init, defBody s_Form_init, defScope s_Form_init⟩
def d_Form_entries : HookG.GD := ⟨.prp "Form" "entries", "entries", "Form.entries", defArgs s_Form_entries, defBody s_Form_entries, defScope s_Form_entries⟩
def d_Form_degree : HookG.GD := ⟨.prp "Form" "degree", "degree", "Form.degree", defArgs s_Form_degree, defBody s_Form_degree, defScope s_Form_degree⟩
def d_Form_eq : HookG.GD := ⟨.met "Form" "__eq__", "__eq__", "Form.__eq__", defArgs s_Form_eq, defBody s_Form_eq, defScope s_Form_eq⟩
def d_Form_len : HookG.GD := ⟨.met "Form" "__len__", "__len__", "Form.__len__", defArgs s_Form_len, defBody s_Form_len, defScope s_Form_len⟩
def d_Form_iter : HookG.GD := ⟨.met "Form" "__iter__", "__iter__", "Form.__iter__", defArgs s_Form_iter, defBody s_Form_iter, defScope s_Form_iter⟩
def fnL : List HookG.GD := [d_is_whole, d_is_short, d_is_from, d_are_short, d_shared_of, d_first_of, d_primitive_of, d_factorial_of, d_lots_of, d_joined_entries, d_derived_in, d_are_entries, d_form_of, d_is_pair_table, d_parted_once, d_put_together, d_table_parts, d_polar_table, d_times_crossed, d_lots_bottom, d_part_bottom, d_whole_table, d_are_parts_of, d_table_of_parts, d_less_head, d_echelon_rows, d_rank_of, d_is_table_in, d_require_rows, d_rank, d_law_dice, d_law_roll, d_law_near, d_law_gcd, d_law_shared, d_law_choose, d_law_plus, d_law_scaled, d_law_product, d_law_all_product, d_law_power, d_law_by_x, d_law_by_y, d_law_derived, d_law_laid, d_law_plain, d_law_line, d_law_point, d_law_small_form, d_law_form, d_law_pair_less, d_law_pair_whole, d_law_pair_parts, d_law_pair_product, d_law_is_shaped, d_law_parts_right, d_law_right, d_law, d_Told_init, d_Form_init, d_Form_entries, d_Form_degree, d_Form_eq, d_Form_len, d_Form_iter]
def faL : List He.Fa := [.glo "is_whole", .glo "is_short", .glo "is_from", .glo "are_short", .glo "shared_of", .glo "first_of", .glo "primitive_of", .glo "factorial_of", .glo "lots_of", .glo "joined_entries", .glo "derived_in", .glo "are_entries", .glo "form_of", .glo "is_pair_table", .glo "parted_once", .glo "put_together", .glo "table_parts", .glo "polar_table", .glo "times_crossed", .glo "lots_bottom", .glo "part_bottom", .glo "whole_table", .glo "are_parts_of", .glo "table_of_parts", .glo "less_head", .glo "echelon_rows", .glo "rank_of", .glo "is_table_in", .glo "require_rows", .glo "rank", .glo "_law_dice", .glo "_law_roll", .glo "_law_near", .glo "_law_gcd", .glo "_law_shared", .glo "_law_choose", .glo "_law_plus", .glo "_law_scaled", .glo "_law_product", .glo "_law_all_product", .glo "_law_power", .glo "_law_by_x", .glo "_law_by_y", .glo "_law_derived", .glo "_law_laid", .glo "_law_plain", .glo "_law_line", .glo "_law_point", .glo "_law_small_form", .glo "_law_form", .glo "_law_pair_less", .glo "_law_pair_whole", .glo "_law_pair_parts", .glo "_law_pair_product", .glo "_law_is_shaped", .glo "_law_parts_right", .glo "_law_right", .glo "law", .glo "Told", .glo "Form", .free "abs", .free "all", .free "bool", .free "enumerate", .free "int", .free "isinstance", .free "iter", .free "len", .free "list", .free "max", .free "min", .free "next", .free "range", .free "tuple", .free "zip", .int "GREATEST" 1000000000000000000000000000000000000000000000000000000000000, .int "MAX_DEGREE" 40, .int "MOST_PAIRED" 12, .int "MAX_SIDE" 24, .mkr "Told", .mkr "Form"]
def tfL : List HookG.At := [(HookG.At.glo "first_of")]
def exL (K : PySem.W.Frag) : Bool := He.eqO (PySem.W.nsIn K mainGlobals "gcd") (some (some (.builtin "math.gcd"))) && (He.eqO (PySem.W.nsIn K mainGlobals "lcm") (some (some (.builtin "math.lcm"))) && (OwnF.ocB K "Told" && (HookG.slotB K "Told" "own_row" 0 && (OwnF.ocB K "Form" && (HookG.slotB K "Form" "own_entries" 0 && (HookG.mtB K "Told" "__init__" && (HookG.mtB K "Form" "__init__" && (HookG.prB K "Form" "entries" && (HookG.prB K "Form" "degree" && (HookG.mtB K "Form" "__eq__" && (HookG.mtB K "Form" "__len__" && (HookG.mtB K "Form" "__iter__" && (HookG.dO (PySem.W.kitOne K (.ref (He.ga K "Told")) (.ref (He.ga K "Form"))) (some false) && (HookG.dO (PySem.W.kitOne K (.ref (He.ga K "Form")) (.ref (He.ga K "Told"))) (some false)))))))))))))))
theorem facts_of {K : PySem.W.Frag} {h : Heap} {mg : Str → Option Value} (X : K.In h) (G : h.Ns mainGlobals mg) (c : HookG.SaysG faL fnL exL K) : Nonempty (Facts K mg) := by
  have ex := c.more
  unfold exL at ex
  obtain ⟨ex_0, ex⟩ := He.ba ex
  obtain ⟨ex_1, ex⟩ := He.ba ex
  obtain ⟨ex_2, ex⟩ := He.ba ex
  obtain ⟨ex_3, ex⟩ := He.ba ex
  obtain ⟨ex_4, ex⟩ := He.ba ex
  obtain ⟨ex_5, ex⟩ := He.ba ex
  obtain ⟨ex_6, ex⟩ := He.ba ex
  obtain ⟨ex_7, ex⟩ := He.ba ex
  obtain ⟨ex_8, ex⟩ := He.ba ex
  obtain ⟨ex_9, ex⟩ := He.ba ex
  obtain ⟨ex_10, ex⟩ := He.ba ex
  obtain ⟨ex_11, ex⟩ := He.ba ex
  obtain ⟨ex_12, ex⟩ := He.ba ex
  obtain ⟨ex_13, ex⟩ := He.ba ex
  obtain ⟨fd_is_whole, F_is_whole⟩ := c.def_ 0 (d := d_is_whole) rfl
  obtain ⟨fd_is_short, F_is_short⟩ := c.def_ 1 (d := d_is_short) rfl
  obtain ⟨fd_is_from, F_is_from⟩ := c.def_ 2 (d := d_is_from) rfl
  obtain ⟨fd_are_short, F_are_short⟩ := c.def_ 3 (d := d_are_short) rfl
  obtain ⟨fd_shared_of, F_shared_of⟩ := c.def_ 4 (d := d_shared_of) rfl
  obtain ⟨fd_first_of, F_first_of⟩ := c.def_ 5 (d := d_first_of) rfl
  obtain ⟨fd_primitive_of, F_primitive_of⟩ := c.def_ 6 (d := d_primitive_of) rfl
  obtain ⟨fd_factorial_of, F_factorial_of⟩ := c.def_ 7 (d := d_factorial_of) rfl
  obtain ⟨fd_lots_of, F_lots_of⟩ := c.def_ 8 (d := d_lots_of) rfl
  obtain ⟨fd_joined_entries, F_joined_entries⟩ := c.def_ 9 (d := d_joined_entries) rfl
  obtain ⟨fd_derived_in, F_derived_in⟩ := c.def_ 10 (d := d_derived_in) rfl
  obtain ⟨fd_are_entries, F_are_entries⟩ := c.def_ 11 (d := d_are_entries) rfl
  obtain ⟨fd_form_of, F_form_of⟩ := c.def_ 12 (d := d_form_of) rfl
  obtain ⟨fd_is_pair_table, F_is_pair_table⟩ := c.def_ 13 (d := d_is_pair_table) rfl
  obtain ⟨fd_parted_once, F_parted_once⟩ := c.def_ 14 (d := d_parted_once) rfl
  obtain ⟨fd_put_together, F_put_together⟩ := c.def_ 15 (d := d_put_together) rfl
  obtain ⟨fd_table_parts, F_table_parts⟩ := c.def_ 16 (d := d_table_parts) rfl
  obtain ⟨fd_polar_table, F_polar_table⟩ := c.def_ 17 (d := d_polar_table) rfl
  obtain ⟨fd_times_crossed, F_times_crossed⟩ := c.def_ 18 (d := d_times_crossed) rfl
  obtain ⟨fd_lots_bottom, F_lots_bottom⟩ := c.def_ 19 (d := d_lots_bottom) rfl
  obtain ⟨fd_part_bottom, F_part_bottom⟩ := c.def_ 20 (d := d_part_bottom) rfl
  obtain ⟨fd_whole_table, F_whole_table⟩ := c.def_ 21 (d := d_whole_table) rfl
  obtain ⟨fd_are_parts_of, F_are_parts_of⟩ := c.def_ 22 (d := d_are_parts_of) rfl
  obtain ⟨fd_table_of_parts, F_table_of_parts⟩ := c.def_ 23 (d := d_table_of_parts) rfl
  obtain ⟨fd_less_head, F_less_head⟩ := c.def_ 24 (d := d_less_head) rfl
  obtain ⟨fd_echelon_rows, F_echelon_rows⟩ := c.def_ 25 (d := d_echelon_rows) rfl
  obtain ⟨fd_rank_of, F_rank_of⟩ := c.def_ 26 (d := d_rank_of) rfl
  obtain ⟨fd_is_table_in, F_is_table_in⟩ := c.def_ 27 (d := d_is_table_in) rfl
  obtain ⟨fd_require_rows, F_require_rows⟩ := c.def_ 28 (d := d_require_rows) rfl
  obtain ⟨fd_rank, F_rank⟩ := c.def_ 29 (d := d_rank) rfl
  obtain ⟨fd_law_dice, F_law_dice⟩ := c.def_ 30 (d := d_law_dice) rfl
  obtain ⟨fd_law_roll, F_law_roll⟩ := c.def_ 31 (d := d_law_roll) rfl
  obtain ⟨fd_law_near, F_law_near⟩ := c.def_ 32 (d := d_law_near) rfl
  obtain ⟨fd_law_gcd, F_law_gcd⟩ := c.def_ 33 (d := d_law_gcd) rfl
  obtain ⟨fd_law_shared, F_law_shared⟩ := c.def_ 34 (d := d_law_shared) rfl
  obtain ⟨fd_law_choose, F_law_choose⟩ := c.def_ 35 (d := d_law_choose) rfl
  obtain ⟨fd_law_plus, F_law_plus⟩ := c.def_ 36 (d := d_law_plus) rfl
  obtain ⟨fd_law_scaled, F_law_scaled⟩ := c.def_ 37 (d := d_law_scaled) rfl
  obtain ⟨fd_law_product, F_law_product⟩ := c.def_ 38 (d := d_law_product) rfl
  obtain ⟨fd_law_all_product, F_law_all_product⟩ := c.def_ 39 (d := d_law_all_product) rfl
  obtain ⟨fd_law_power, F_law_power⟩ := c.def_ 40 (d := d_law_power) rfl
  obtain ⟨fd_law_by_x, F_law_by_x⟩ := c.def_ 41 (d := d_law_by_x) rfl
  obtain ⟨fd_law_by_y, F_law_by_y⟩ := c.def_ 42 (d := d_law_by_y) rfl
  obtain ⟨fd_law_derived, F_law_derived⟩ := c.def_ 43 (d := d_law_derived) rfl
  obtain ⟨fd_law_laid, F_law_laid⟩ := c.def_ 44 (d := d_law_laid) rfl
  obtain ⟨fd_law_plain, F_law_plain⟩ := c.def_ 45 (d := d_law_plain) rfl
  obtain ⟨fd_law_line, F_law_line⟩ := c.def_ 46 (d := d_law_line) rfl
  obtain ⟨fd_law_point, F_law_point⟩ := c.def_ 47 (d := d_law_point) rfl
  obtain ⟨fd_law_small_form, F_law_small_form⟩ := c.def_ 48 (d := d_law_small_form) rfl
  obtain ⟨fd_law_form, F_law_form⟩ := c.def_ 49 (d := d_law_form) rfl
  obtain ⟨fd_law_pair_less, F_law_pair_less⟩ := c.def_ 50 (d := d_law_pair_less) rfl
  obtain ⟨fd_law_pair_whole, F_law_pair_whole⟩ := c.def_ 51 (d := d_law_pair_whole) rfl
  obtain ⟨fd_law_pair_parts, F_law_pair_parts⟩ := c.def_ 52 (d := d_law_pair_parts) rfl
  obtain ⟨fd_law_pair_product, F_law_pair_product⟩ := c.def_ 53 (d := d_law_pair_product) rfl
  obtain ⟨fd_law_is_shaped, F_law_is_shaped⟩ := c.def_ 54 (d := d_law_is_shaped) rfl
  obtain ⟨fd_law_parts_right, F_law_parts_right⟩ := c.def_ 55 (d := d_law_parts_right) rfl
  obtain ⟨fd_law_right, F_law_right⟩ := c.def_ 56 (d := d_law_right) rfl
  obtain ⟨fd_law, F_law⟩ := c.def_ 57 (d := d_law) rfl
  obtain ⟨fd_Told_init, F_Told_init⟩ := c.def_ 58 (d := d_Told_init) rfl
  obtain ⟨fd_Form_init, F_Form_init⟩ := c.def_ 59 (d := d_Form_init) rfl
  obtain ⟨fd_Form_entries, F_Form_entries⟩ := c.def_ 60 (d := d_Form_entries) rfl
  obtain ⟨fd_Form_degree, F_Form_degree⟩ := c.def_ 61 (d := d_Form_degree) rfl
  obtain ⟨fd_Form_eq, F_Form_eq⟩ := c.def_ 62 (d := d_Form_eq) rfl
  obtain ⟨fd_Form_len, F_Form_len⟩ := c.def_ 63 (d := d_Form_len) rfl
  obtain ⟨fd_Form_iter, F_Form_iter⟩ := c.def_ 64 (d := d_Form_iter) rfl
  exact ⟨{ f_is_whole := _, fd_is_whole := _, F_is_whole := F_is_whole, b_is_whole := (F_is_whole.bindsN fun _ _ _ _ _ _ us hl => match us, hl with | [_], _ => rfl), g_is_whole := He.glo_ok X G (c.fact 0 (f := .glo "is_whole") rfl), f_is_short := _, fd_is_short := _, F_is_short := F_is_short, b_is_short := (F_is_short.bindsN fun _ _ _ _ _ _ us hl => match us, hl with | [_], _ => rfl), g_is_short := He.glo_ok X G (c.fact 1 (f := .glo "is_short") rfl), f_is_from := _, fd_is_from := _, F_is_from := F_is_from, b_is_from := (F_is_from.bindsN fun _ _ _ _ _ _ us hl => match us, hl with | [_, _, _], _ => rfl), g_is_from := He.glo_ok X G (c.fact 2 (f := .glo "is_from") rfl), f_are_short := _, fd_are_short := _, F_are_short := F_are_short, b_are_short := (F_are_short.bindsN fun _ _ _ _ _ _ us hl => match us, hl with | [_], _ => rfl), g_are_short := He.glo_ok X G (c.fact 3 (f := .glo "are_short") rfl), f_shared_of := _, fd_shared_of := _, F_shared_of := F_shared_of, b_shared_of := (F_shared_of.bindsN fun _ _ _ _ _ _ us hl => match us, hl with | [_], _ => rfl), g_shared_of := He.glo_ok X G (c.fact 4 (f := .glo "shared_of") rfl), f_first_of := _, fd_first_of := _, F_first_of := F_first_of, b_first_of := (F_first_of.bindsN fun _ _ _ _ _ _ us hl => match us, hl with | [_], _ => rfl), g_first_of := He.glo_ok X G (c.fact 5 (f := .glo "first_of") rfl), f_primitive_of := _, fd_primitive_of := _, F_primitive_of := F_primitive_of, b_primitive_of := (F_primitive_of.bindsN fun _ _ _ _ _ _ us hl => match us, hl with | [_], _ => rfl), g_primitive_of := He.glo_ok X G (c.fact 6 (f := .glo "primitive_of") rfl), f_factorial_of := _, fd_factorial_of := _, F_factorial_of := F_factorial_of, b_factorial_of := (F_factorial_of.bindsN fun _ _ _ _ _ _ us hl => match us, hl with | [_], _ => rfl), g_factorial_of := He.glo_ok X G (c.fact 7 (f := .glo "factorial_of") rfl), f_lots_of := _, fd_lots_of := _, F_lots_of := F_lots_of, b_lots_of := (F_lots_of.bindsN fun _ _ _ _ _ _ us hl => match us, hl with | [_, _], _ => rfl), g_lots_of := He.glo_ok X G (c.fact 8 (f := .glo "lots_of") rfl), f_joined_entries := _, fd_joined_entries := _, F_joined_entries := F_joined_entries, b_joined_entries := (F_joined_entries.bindsN fun _ _ _ _ _ _ us hl => match us, hl with | [_, _], _ => rfl), g_joined_entries := He.glo_ok X G (c.fact 9 (f := .glo "joined_entries") rfl), f_derived_in := _, fd_derived_in := _, F_derived_in := F_derived_in, b_derived_in := (F_derived_in.bindsN fun _ _ _ _ _ _ us hl => match us, hl with | [_, _, _], _ => rfl), g_derived_in := He.glo_ok X G (c.fact 10 (f := .glo "derived_in") rfl), f_are_entries := _, fd_are_entries := _, F_are_entries := F_are_entries, b_are_entries := (F_are_entries.bindsN fun _ _ _ _ _ _ us hl => match us, hl with | [_], _ => rfl), g_are_entries := He.glo_ok X G (c.fact 11 (f := .glo "are_entries") rfl), f_form_of := _, fd_form_of := _, F_form_of := F_form_of, b_form_of := (F_form_of.bindsN fun _ _ _ _ _ _ us hl => match us, hl with | [_], _ => rfl), g_form_of := He.glo_ok X G (c.fact 12 (f := .glo "form_of") rfl), f_is_pair_table := _, fd_is_pair_table := _, F_is_pair_table := F_is_pair_table, b_is_pair_table := (F_is_pair_table.bindsN fun _ _ _ _ _ _ us hl => match us, hl with | [_], _ => rfl), g_is_pair_table := He.glo_ok X G (c.fact 13 (f := .glo "is_pair_table") rfl), f_parted_once := _, fd_parted_once := _, F_parted_once := F_parted_once, b_parted_once := (F_parted_once.bindsN fun _ _ _ _ _ _ us hl => match us, hl with | [_], _ => rfl), g_parted_once := He.glo_ok X G (c.fact 14 (f := .glo "parted_once") rfl), f_put_together := _, fd_put_together := _, F_put_together := F_put_together, b_put_together := (F_put_together.bindsN fun _ _ _ _ _ _ us hl => match us, hl with | [_], _ => rfl), g_put_together := He.glo_ok X G (c.fact 15 (f := .glo "put_together") rfl), f_table_parts := _, fd_table_parts := _, F_table_parts := F_table_parts, b_table_parts := (F_table_parts.bindsN fun _ _ _ _ _ _ us hl => match us, hl with | [_], _ => rfl), g_table_parts := He.glo_ok X G (c.fact 16 (f := .glo "table_parts") rfl), f_polar_table := _, fd_polar_table := _, F_polar_table := F_polar_table, b_polar_table := (F_polar_table.bindsN fun _ _ _ _ _ _ us hl => match us, hl with | [_, _, _, _], _ => rfl), g_polar_table := He.glo_ok X G (c.fact 17 (f := .glo "polar_table") rfl), f_times_crossed := _, fd_times_crossed := _, F_times_crossed := F_times_crossed, b_times_crossed := (F_times_crossed.bindsN fun _ _ _ _ _ _ us hl => match us, hl with | [_], _ => rfl), g_times_crossed := He.glo_ok X G (c.fact 18 (f := .glo "times_crossed") rfl), f_lots_bottom := _, fd_lots_bottom := _, F_lots_bottom := F_lots_bottom, b_lots_bottom := (F_lots_bottom.bindsN fun _ _ _ _ _ _ us hl => match us, hl with | [_], _ => rfl), g_lots_bottom := He.glo_ok X G (c.fact 19 (f := .glo "lots_bottom") rfl), f_part_bottom := _, fd_part_bottom := _, F_part_bottom := F_part_bottom, b_part_bottom := (F_part_bottom.bindsN fun _ _ _ _ _ _ us hl => match us, hl with | [_, _, _], _ => rfl), g_part_bottom := He.glo_ok X G (c.fact 20 (f := .glo "part_bottom") rfl), f_whole_table := _, fd_whole_table := _, F_whole_table := F_whole_table, b_whole_table := (F_whole_table.bindsN fun _ _ _ _ _ _ us hl => match us, hl with | [_, _, _], _ => rfl), g_whole_table := He.glo_ok X G (c.fact 21 (f := .glo "whole_table") rfl), f_are_parts_of := _, fd_are_parts_of := _, F_are_parts_of := F_are_parts_of, b_are_parts_of := (F_are_parts_of.bindsN fun _ _ _ _ _ _ us hl => match us, hl with | [_, _, _], _ => rfl), g_are_parts_of := He.glo_ok X G (c.fact 22 (f := .glo "are_parts_of") rfl), f_table_of_parts := _, fd_table_of_parts := _, F_table_of_parts := F_table_of_parts, b_table_of_parts := (F_table_of_parts.bindsN fun _ _ _ _ _ _ us hl => match us, hl with | [_, _, _], _ => rfl), g_table_of_parts := He.glo_ok X G (c.fact 23 (f := .glo "table_of_parts") rfl), f_less_head := _, fd_less_head := _, F_less_head := F_less_head, b_less_head := (F_less_head.bindsN fun _ _ _ _ _ _ us hl => match us, hl with | [_, _, _], _ => rfl), g_less_head := He.glo_ok X G (c.fact 24 (f := .glo "less_head") rfl), f_echelon_rows := _, fd_echelon_rows := _, F_echelon_rows := F_echelon_rows, b_echelon_rows := (F_echelon_rows.bindsN fun _ _ _ _ _ _ us hl => match us, hl with | [_, _], _ => rfl), g_echelon_rows := He.glo_ok X G (c.fact 25 (f := .glo "echelon_rows") rfl), f_rank_of := _, fd_rank_of := _, F_rank_of := F_rank_of, b_rank_of := (F_rank_of.bindsN fun _ _ _ _ _ _ us hl => match us, hl with | [_, _], _ => rfl), g_rank_of := He.glo_ok X G (c.fact 26 (f := .glo "rank_of") rfl), f_is_table_in := _, fd_is_table_in := _, F_is_table_in := F_is_table_in, b_is_table_in := (F_is_table_in.bindsN fun _ _ _ _ _ _ us hl => match us, hl with | [_], _ => rfl), g_is_table_in := He.glo_ok X G (c.fact 27 (f := .glo "is_table_in") rfl), f_require_rows := _, fd_require_rows := _, F_require_rows := F_require_rows, b_require_rows := (F_require_rows.bindsN fun _ _ _ _ _ _ us hl => match us, hl with | [_], _ => rfl), g_require_rows := He.glo_ok X G (c.fact 28 (f := .glo "require_rows") rfl), f_rank := _, fd_rank := _, F_rank := F_rank, b_rank := (F_rank.bindsN fun _ _ _ _ _ _ us hl => match us, hl with | [_], _ => rfl), g_rank := He.glo_ok X G (c.fact 29 (f := .glo "rank") rfl), f_law_dice := _, fd_law_dice := _, F_law_dice := F_law_dice, b_law_dice := (F_law_dice.bindsN fun _ _ _ _ _ _ us hl => match us, hl with | [_, _], _ => rfl), g_law_dice := He.glo_ok X G (c.fact 30 (f := .glo "_law_dice") rfl), f_law_roll := _, fd_law_roll := _, F_law_roll := F_law_roll, b_law_roll := (F_law_roll.bindsN fun _ _ _ _ _ _ us hl => match us, hl with | [_, _], _ => rfl), g_law_roll := He.glo_ok X G (c.fact 31 (f := .glo "_law_roll") rfl), f_law_near := _, fd_law_near := _, F_law_near := F_law_near, b_law_near := (F_law_near.bindsN fun _ _ _ _ _ _ us hl => match us, hl with | [_, _], _ => rfl), g_law_near := He.glo_ok X G (c.fact 32 (f := .glo "_law_near") rfl), f_law_gcd := _, fd_law_gcd := _, F_law_gcd := F_law_gcd, b_law_gcd := (F_law_gcd.bindsN fun _ _ _ _ _ _ us hl => match us, hl with | [_, _], _ => rfl), g_law_gcd := He.glo_ok X G (c.fact 33 (f := .glo "_law_gcd") rfl), f_law_shared := _, fd_law_shared := _, F_law_shared := F_law_shared, b_law_shared := (F_law_shared.bindsN fun _ _ _ _ _ _ us hl => match us, hl with | [_], _ => rfl), g_law_shared := He.glo_ok X G (c.fact 34 (f := .glo "_law_shared") rfl), f_law_choose := _, fd_law_choose := _, F_law_choose := F_law_choose, b_law_choose := (F_law_choose.bindsN fun _ _ _ _ _ _ us hl => match us, hl with | [_, _], _ => rfl), g_law_choose := He.glo_ok X G (c.fact 35 (f := .glo "_law_choose") rfl), f_law_plus := _, fd_law_plus := _, F_law_plus := F_law_plus, b_law_plus := (F_law_plus.bindsN fun _ _ _ _ _ _ us hl => match us, hl with | [_, _], _ => rfl), g_law_plus := He.glo_ok X G (c.fact 36 (f := .glo "_law_plus") rfl), f_law_scaled := _, fd_law_scaled := _, F_law_scaled := F_law_scaled, b_law_scaled := (F_law_scaled.bindsN fun _ _ _ _ _ _ us hl => match us, hl with | [_, _], _ => rfl), g_law_scaled := He.glo_ok X G (c.fact 37 (f := .glo "_law_scaled") rfl), f_law_product := _, fd_law_product := _, F_law_product := F_law_product, b_law_product := (F_law_product.bindsN fun _ _ _ _ _ _ us hl => match us, hl with | [_, _], _ => rfl), g_law_product := He.glo_ok X G (c.fact 38 (f := .glo "_law_product") rfl), f_law_all_product := _, fd_law_all_product := _, F_law_all_product := F_law_all_product, b_law_all_product := (F_law_all_product.bindsN fun _ _ _ _ _ _ us hl => match us, hl with | [_], _ => rfl), g_law_all_product := He.glo_ok X G (c.fact 39 (f := .glo "_law_all_product") rfl), f_law_power := _, fd_law_power := _, F_law_power := F_law_power, b_law_power := (F_law_power.bindsN fun _ _ _ _ _ _ us hl => match us, hl with | [_, _], _ => rfl), g_law_power := He.glo_ok X G (c.fact 40 (f := .glo "_law_power") rfl), f_law_by_x := _, fd_law_by_x := _, F_law_by_x := F_law_by_x, b_law_by_x := (F_law_by_x.bindsN fun _ _ _ _ _ _ us hl => match us, hl with | [_], _ => rfl), g_law_by_x := He.glo_ok X G (c.fact 41 (f := .glo "_law_by_x") rfl), f_law_by_y := _, fd_law_by_y := _, F_law_by_y := F_law_by_y, b_law_by_y := (F_law_by_y.bindsN fun _ _ _ _ _ _ us hl => match us, hl with | [_], _ => rfl), g_law_by_y := He.glo_ok X G (c.fact 42 (f := .glo "_law_by_y") rfl), f_law_derived := _, fd_law_derived := _, F_law_derived := F_law_derived, b_law_derived := (F_law_derived.bindsN fun _ _ _ _ _ _ us hl => match us, hl with | [_, _, _], _ => rfl), g_law_derived := He.glo_ok X G (c.fact 43 (f := .glo "_law_derived") rfl), f_law_laid := _, fd_law_laid := _, F_law_laid := F_law_laid, b_law_laid := (F_law_laid.bindsN fun _ _ _ _ _ _ us hl => match us, hl with | [_, _, _], _ => rfl), g_law_laid := He.glo_ok X G (c.fact 44 (f := .glo "_law_laid") rfl), f_law_plain := _, fd_law_plain := _, F_law_plain := F_law_plain, b_law_plain := (F_law_plain.bindsN fun _ _ _ _ _ _ us hl => match us, hl with | [_], _ => rfl), g_law_plain := He.glo_ok X G (c.fact 45 (f := .glo "_law_plain") rfl), f_law_line := _, fd_law_line := _, F_law_line := F_law_line, b_law_line := (F_law_line.bindsN fun _ _ _ _ _ _ us hl => match us, hl with | [_], _ => rfl), g_law_line := He.glo_ok X G (c.fact 46 (f := .glo "_law_line") rfl), f_law_point := _, fd_law_point := _, F_law_point := F_law_point, b_law_point := (F_law_point.bindsN fun _ _ _ _ _ _ us hl => match us, hl with | [_, _], _ => rfl), g_law_point := He.glo_ok X G (c.fact 47 (f := .glo "_law_point") rfl), f_law_small_form := _, fd_law_small_form := _, F_law_small_form := F_law_small_form, b_law_small_form := (F_law_small_form.bindsN fun _ _ _ _ _ _ us hl => match us, hl with | [_, _, _], _ => rfl), g_law_small_form := He.glo_ok X G (c.fact 48 (f := .glo "_law_small_form") rfl), f_law_form := _, fd_law_form := _, F_law_form := F_law_form, b_law_form := (F_law_form.bindsN fun _ _ _ _ _ _ us hl => match us, hl with | [_, _], _ => rfl), g_law_form := He.glo_ok X G (c.fact 49 (f := .glo "_law_form") rfl), f_law_pair_less := _, fd_law_pair_less := _, F_law_pair_less := F_law_pair_less, b_law_pair_less := (F_law_pair_less.bindsN fun _ _ _ _ _ _ us hl => match us, hl with | [_], _ => rfl), g_law_pair_less := He.glo_ok X G (c.fact 50 (f := .glo "_law_pair_less") rfl), f_law_pair_whole := _, fd_law_pair_whole := _, F_law_pair_whole := F_law_pair_whole, b_law_pair_whole := (F_law_pair_whole.bindsN fun _ _ _ _ _ _ us hl => match us, hl with | [_], _ => rfl), g_law_pair_whole := He.glo_ok X G (c.fact 51 (f := .glo "_law_pair_whole") rfl), f_law_pair_parts := _, fd_law_pair_parts := _, F_law_pair_parts := F_law_pair_parts, b_law_pair_parts := (F_law_pair_parts.bindsN fun _ _ _ _ _ _ us hl => match us, hl with | [_], _ => rfl), g_law_pair_parts := He.glo_ok X G (c.fact 52 (f := .glo "_law_pair_parts") rfl), f_law_pair_product := _, fd_law_pair_product := _, F_law_pair_product := F_law_pair_product, b_law_pair_product := (F_law_pair_product.bindsN fun _ _ _ _ _ _ us hl => match us, hl with | [_, _], _ => rfl), g_law_pair_product := He.glo_ok X G (c.fact 53 (f := .glo "_law_pair_product") rfl), f_law_is_shaped := _, fd_law_is_shaped := _, F_law_is_shaped := F_law_is_shaped, b_law_is_shaped := (F_law_is_shaped.bindsN fun _ _ _ _ _ _ us hl => match us, hl with | [_, _, _], _ => rfl), g_law_is_shaped := He.glo_ok X G (c.fact 54 (f := .glo "_law_is_shaped") rfl), f_law_parts_right := _, fd_law_parts_right := _, F_law_parts_right := F_law_parts_right, b_law_parts_right := (F_law_parts_right.bindsN fun _ _ _ _ _ _ us hl => match us, hl with | [_, _, _], _ => rfl), g_law_parts_right := He.glo_ok X G (c.fact 55 (f := .glo "_law_parts_right") rfl), f_law_right := _, fd_law_right := _, F_law_right := F_law_right, b_law_right := (F_law_right.bindsN fun _ _ _ _ _ _ us hl => match us, hl with | [_], _ => rfl), g_law_right := He.glo_ok X G (c.fact 56 (f := .glo "_law_right") rfl), f_law := _, fd_law := _, F_law := F_law, b_law := (F_law.bindsN fun _ _ _ _ _ _ us hl => match us, hl with | [_], _ => rfl), g_law := He.glo_ok X G (c.fact 57 (f := .glo "law") rfl), f_Told_init := _, fd_Told_init := _, F_Told_init := F_Told_init, b_Told_init := (F_Told_init.bindsN fun _ _ _ _ _ _ us hl => match us, hl with | [_, _], _ => rfl), f_Form_init := _, fd_Form_init := _, F_Form_init := F_Form_init, b_Form_init := (F_Form_init.bindsN fun _ _ _ _ _ _ us hl => match us, hl with | [_, _], _ => rfl), f_Form_entries := _, fd_Form_entries := _, F_Form_entries := F_Form_entries, b_Form_entries := (F_Form_entries.bindsN fun _ _ _ _ _ _ us hl => match us, hl with | [_], _ => rfl), f_Form_degree := _, fd_Form_degree := _, F_Form_degree := F_Form_degree, b_Form_degree := (F_Form_degree.bindsN fun _ _ _ _ _ _ us hl => match us, hl with | [_], _ => rfl), f_Form_eq := _, fd_Form_eq := _, F_Form_eq := F_Form_eq, b_Form_eq := (F_Form_eq.bindsN fun _ _ _ _ _ _ us hl => match us, hl with | [_, _], _ => rfl), f_Form_len := _, fd_Form_len := _, F_Form_len := F_Form_len, b_Form_len := (F_Form_len.bindsN fun _ _ _ _ _ _ us hl => match us, hl with | [_], _ => rfl), f_Form_iter := _, fd_Form_iter := _, F_Form_iter := F_Form_iter, b_Form_iter := (F_Form_iter.bindsN fun _ _ _ _ _ _ us hl => match us, hl with | [_], _ => rfl), C_Told := He.ga K "Told", g_Told := He.glo_ok X G (c.fact 58 (f := .glo "Told") rfl), mk_Told := He.mkr_ok (c.fact 79 (f := .mkr "Told") rfl), C_Form := He.ga K "Form", g_Form := He.glo_ok X G (c.fact 59 (f := .glo "Form") rfl), mk_Form := He.mkr_ok (c.fact 80 (f := .mkr "Form") rfl), z_abs := He.free_ok X G (c.fact 60 (f := .free "abs") rfl), z_all := He.free_ok X G (c.fact 61 (f := .free "all") rfl), z_bool := He.free_ok X G (c.fact 62 (f := .free "bool") rfl), z_enumerate := He.free_ok X G (c.fact 63 (f := .free "enumerate") rfl), z_int := He.free_ok X G (c.fact 64 (f := .free "int") rfl), z_isinstance := He.free_ok X G (c.fact 65 (f := .free "isinstance") rfl), z_iter := He.free_ok X G (c.fact 66 (f := .free "iter") rfl), z_len := He.free_ok X G (c.fact 67 (f := .free "len") rfl), z_list := He.free_ok X G (c.fact 68 (f := .free "list") rfl), z_max := He.free_ok X G (c.fact 69 (f := .free "max") rfl), z_min := He.free_ok X G (c.fact 70 (f := .free "min") rfl), z_next := He.free_ok X G (c.fact 71 (f := .free "next") rfl), z_range := He.free_ok X G (c.fact 72 (f := .free "range") rfl), z_tuple := He.free_ok X G (c.fact 73 (f := .free "tuple") rfl), z_zip := He.free_ok X G (c.fact 74 (f := .free "zip") rfl), c_GREATEST := He.int_ok X G (c.fact 75 (f := .int "GREATEST" 1000000000000000000000000000000000000000000000000000000000000) rfl), c_MAX_DEGREE := He.int_ok X G (c.fact 76 (f := .int "MAX_DEGREE" 40) rfl), c_MOST_PAIRED := He.int_ok X G (c.fact 77 (f := .int "MOST_PAIRED" 12) rfl), c_MAX_SIDE := He.int_ok X G (c.fact 78 (f := .int "MAX_SIDE" 24) rfl), c_first_of := HookT.codA K ((HookG.At.glo "first_of").adr K), P_first_of := He.tabOf K (HookT.codA K ((HookG.At.glo "first_of").adr K)), code_first_of := HookT.code_of F_first_of, tab_first_of := rfl, m_gcd := PySem.W.mg_of X G (He.eqO_ok ex_0), m_lcm := PySem.W.mg_of X G (He.eqO_ok ex_1), oc_Told := OwnF.ocB_ok ex_2, a_own_row := _, sl_own_row := HookG.slotB_ok ex_3 (by decide), oc_Form := OwnF.ocB_ok ex_4, a_own_entries := _, sl_own_entries := HookG.slotB_ok ex_5 (by decide), mt_Told_init := HookG.mtB_ok ex_6, mt_Form_init := HookG.mtB_ok ex_7, p_Form_entries := _, pr_Form_entries := HookG.prB_ok ex_8, p_Form_degree := _, pr_Form_degree := HookG.prB_ok ex_9, mt_Form_eq := HookG.mtB_ok ex_10, mt_Form_len := HookG.mtB_ok ex_11, mt_Form_iter := HookG.mtB_ok ex_12, kit_Told_Form := HookG.dO_ok ex_13, kit_Form_Told := HookG.dO_ok ex }⟩

end K13

set_option Elab.async false
set_option linter.all false
set_option maxRecDepth 100000
set_option maxHeartbeats 0
namespace K13
open PySem PySem.Spec PyProof.Rows L2
abbrev R : PySem.W.OpenRow := PySem.W.OpenLaw.row PySem.Challenge.rw_sourceforms_k13_whole_tables_of_parts
abbrev hk : PySem.W.Hook := HookT.hookT 5 faL fnL tfL exL
def ob (s : PySem.W.SharedT) : HookT.AlGT := HookT.obsGT 5 faL fnL tfL exL (HandSHeadRun.getT s)
theorem ob_eq (s : PySem.W.SharedT) : ob s = hk.obs s.abs := HookT.obsGT_eq (HandSHeadRun.getT_eq s)
def loose0 : List Str := ["_wall", "LetterError", "InvalidForm", "InvalidTable", "InvalidPoint", "InvalidOperation", "InvalidNumber", "TooMany", "GREATEST", "is_whole", "is_short", "is_from", "are_short", "require_short", "require_from", "shared_of", "first_of", "primitive_of", "factorial_of", "lots_of", "MAX_DEGREE", "product_in", "joined_entries", "power_in", "value_in", "derived_in", "Told", "are_entries", "Form", "form_of"]
def loose1 : List Str := ["sum_in", "MOST_PAIRED", "is_pair_table", "parted_once", "put_together", "table_parts", "polar_table", "times_crossed", "lots_bottom", "part_bottom", "whole_table", "are_parts_of", "table_of_parts", "MAX_SIDE", "less_head", "echelon_rows", "rank_of", "is_table_in", "require_rows", "rank", "_law_dice", "_law_roll", "_law_near", "_law_gcd", "_law_shared", "_law_choose", "_law_plus", "_law_scaled", "_law_product", "_law_all_product"]
def loose2 : List Str := ["_law_power", "_law_by_x", "_law_by_y", "_law_derived", "_law_laid", "_law_plain", "_law_line", "_law_point", "_law_small_form", "_law_form", "_law_pair_less", "_law_pair_whole", "_law_pair_parts", "_law_pair_product", "_law_is_shaped", "_law_parts_right", "_law_right"]
def loose : List Str := loose0 ++ loose1 ++ loose2
theorem run (w : World) : HandSHeadRun.RunEqI R (PySem.W.view R.prog [0, 84]) hk ob 12000 loose w := by
  show (_ : Option _) = _
  kernel_rfl
end K13

set_option Elab.async false
set_option linter.all false
set_option maxRecDepth 100000
/-! products of forms: the plain law -/
namespace K13
/-- the entry at a place, 0 behind the end -/
def co (l : List Int) (k : Nat) : Int := l.getD k 0
/-- the entries of a product -/
def cv : List Int → (Nat → Int) → Nat → Int
  | [], _, _ => 0
  | x :: xs, g, k => x * g k + (match k with
    | 0 => 0
    | k + 1 => cv xs g k)
theorem cv_nil (g : Nat → Int) (k : Nat) : cv [] g k = 0 := rfl
theorem cv_zero (x : Int) (xs : List Int) (g : Nat → Int) : cv (x :: xs) g 0 = x * g 0 := by show x * g 0 + 0 = _; omega
theorem cv_succ (x : Int) (xs : List Int) (g : Nat → Int) (k : Nat) : cv (x :: xs) g (k + 1) = x * g (k + 1) + cv xs g k := rfl
/-- what is moved by one place -/
def sh (g : Nat → Int) : Nat → Int
  | 0 => 0
  | k + 1 => g k
theorem cv_cons (x : Int) (xs : List Int) (g : Nat → Int) (k : Nat) : cv (x :: xs) g k = x * g k + sh (cv xs g) k := by
  cases k with
  | zero => rw [cv_zero]; show x * g 0 = x * g 0 + 0; omega
  | succ k => rw [cv_succ] <;> rfl
theorem co_cons (x : Int) (xs : List Int) (k : Nat) : co (x :: xs) k = (if k = 0 then x else 0) + sh (co xs) k := by
  cases k with
  | zero => show x = x + 0; omega
  | succ k =>
    show co xs k = (if k + 1 = 0 then x else 0) + co xs k
    rw [if_neg (by omega)]
    omega
theorem cv_far {g : Nat → Int} {b : Nat} (hb : 1 ≤ b) (hg : ∀ i, b ≤ i → g i = 0) : ∀ (l : List Int) (k : Nat), l.length + b ≤ k + 1 → cv l g k = 0
  | [], _, _ => rfl
  | x :: xs, 0, h => by rw [List.length_cons] at h; omega
  | x :: xs, k + 1, h => by
    rw [List.length_cons] at h
    rw [cv_succ, hg _ (by omega), Int.mul_zero, cv_far hb hg xs k (by omega)]
    rfl
/-- the first n values -/
def tb (n : Nat) (f : Nat → Int) : List Int := (List.range n).map f
theorem tb_len (n : Nat) (f : Nat → Int) : (tb n f).length = n := by
  unfold tb
  rw [List.length_map, List.length_range]
theorem co_tb {n : Nat} {f : Nat → Int} (k : Nat) : co (tb n f) k = if k < n then f k else 0 := by
  unfold co tb
  rw [List.getD_eq_getElem?_getD, List.getElem?_map]
  by_cases h : k < n
  · rw [List.getElem?_range h, if_pos h]
    rfl
  · rw [List.getElem?_eq_none (by rw [List.length_range]; omega), if_neg h]
    rfl
theorem co_far {l : List Int} {i : Nat} (h : l.length ≤ i) : co l i = 0 := by
  unfold co
  rw [List.getD_eq_getElem?_getD, List.getElem?_eq_none h]
  rfl
theorem co_get {l : List Int} {i : Nat} (h : i < l.length) : co l i = l[i] := by
  unfold co
  rw [List.getD_eq_getElem?_getD, List.getElem?_eq_getElem h]
  rfl
theorem co_inj {l m : List Int} (hl : l.length = m.length) (h : ∀ i, co l i = co m i) : l = m := by
  refine List.ext_getElem hl fun i h1 h2 => ?_
  rw [← co_get h1, ← co_get h2, h]
theorem tb_co (l : List Int) : tb l.length (co l) = l := co_inj (tb_len _ _) fun i => by
  rw [co_tb]
  split
  · rfl
  · exact (co_far (by omega)).symm
/-- the product of two forms -/
def ml (l m : List Int) : List Int := tb (l.length + m.length - 1) (cv l (co m))
theorem ml_len (l m : List Int) : (ml l m).length = l.length + m.length - 1 := tb_len _ _
theorem co_ml {l m : List Int} (hm : m ≠ []) (k : Nat) : co (ml l m) k = cv l (co m) k := by
  unfold ml
  rw [co_tb]
  by_cases h : k < l.length + m.length - 1
  · rw [if_pos h]
  · rw [if_neg h]
    have h1 : 0 < m.length := List.length_pos_iff.mpr hm
    exact (cv_far (b := m.length) (by omega) (fun i hi => co_far hi) l k (by omega)).symm
/-- entry by entry -/
def pl (l m : List Int) : List Int := List.zipWith (· + ·) l m
theorem pl_len {l m : List Int} (h : l.length = m.length) : (pl l m).length = l.length := by
  unfold pl
  rw [List.length_zipWith, h, Nat.min_self]
end K13

set_option Elab.async false
set_option linter.all false
set_option maxRecDepth 100000
/-! the contents of forms -/
namespace K13
theorem least (P : Nat → Prop) (n : Nat) (h : P n) : ∃ m, P m ∧ ∀ k, P k → m ≤ k := by
  induction n using Nat.strongRecOn with
  | _ n ih =>
    by_cases c : ∃ k, k < n ∧ P k
    · obtain ⟨k, hk, pk⟩ := c
      exact ih k hk pk
    · exact ⟨n, h, fun k pk => Nat.le_of_not_lt fun z => c ⟨k, z, pk⟩⟩
structure Prm (p : Nat) : Prop where
  gt : 1 < p
  pr : ∀ a b : Nat, p ∣ a * b → p ∣ a ∨ p ∣ b
theorem Prm.int {p : Nat} (h : Prm p) {x y : Int} (d : (p : Int) ∣ x * y) : (p : Int) ∣ x ∨ (p : Int) ∣ y := by
  have e := Int.natAbs_dvd_natAbs.mpr d
  rw [Int.natAbs_mul] at e
  rcases h.pr _ _ e with e | e
  · exact .inl (Int.natAbs_dvd_natAbs.mp e)
  · exact .inr (Int.natAbs_dvd_natAbs.mp e)
/-- the greatest common divisor of all -/
def cont : List Int → Nat
  | [] => 0
  | x :: xs => Nat.gcd x.natAbs (cont xs)
theorem cont_dvd : ∀ (l : List Int) (x : Int), x ∈ l → (cont l : Int) ∣ x
  | y :: ys, x, h => by
    rcases List.mem_cons.mp h with e | e
    · rw [e]
      exact Int.natAbs_dvd_natAbs.mp (by show Nat.gcd _ _ ∣ _; exact Nat.gcd_dvd_left _ _)
    · have := cont_dvd ys x e
      exact Int.dvd_trans (Int.natAbs_dvd_natAbs.mp (by show Nat.gcd _ _ ∣ cont ys; exact Nat.gcd_dvd_right _ _)) this
theorem co_mem {l : List Int} {k : Nat} : co l k = 0 ∨ co l k ∈ l := by
  by_cases h : k < l.length
  · rw [co_get h]
    exact .inr (List.getElem_mem h)
  · exact .inl (co_far (by omega))
theorem co_map (c : Int) (l : List Int) (k : Nat) : co (l.map (c * ·)) k = c * co l k := by
  by_cases h : k < l.length
  · rw [co_get (by rw [List.length_map]; exact h), co_get h, List.getElem_map]
  · rw [co_far (by rw [List.length_map]; omega), co_far (by omega), Int.mul_zero]
end K13

set_option Elab.async false
set_option linter.all false
set_option maxRecDepth 100000
set_option maxHeartbeats 4000000
namespace K13
open PySem PySem.Spec PyProof.Rows L2 MyR SlX OwnR OwnF
/-- an int of at most sixty digits -/
def Sho (i : Int) : Prop := i.natAbs < 10 ^ 60
theorem Same.rf (H : Hp) : Same H H := fun _ _ h => h
@[elab_as_elim] theorem gen_upd {G : Hp → Prop} (H : Hp) (p : Addr) (o : HO) (n : H p = none) (h : ∀ H', Same H H' → H' p = some o → G H') : G (upd H p o) := h _ (same_upd0 n) upd_same
section
variable {P : Program} {w : World} {K : PySem.W.Frag} {mg : Str → Option Value} {base : Heap}
def spWhole : Sp := fun vs H Q _ => ∃ i : Int, vs = [.int i] ∧ Q (.bl true) H
theorem ok_is_whole (T : Facts K mg) : FnOk P w K mg base CX0 1 T.f_is_whole T.fd_is_whole ["value"] spWhole := by
  refine T.F_is_whole.ok sc_is_whole (fun vs H Q E h => ?_) (fun cdv A outer s H vs Q E hr h => ?_)
  · obtain ⟨i, rfl, _⟩ := h
    rfl
  · obtain ⟨i, rfl, q⟩ := h
    refine ⟨_, (PSs.nox (pss_one (ps_ret (pe_and (pe_callB call_isi (by rfl) T.z_isinstance (by decide +kernel) (pa_cons (pv 0) (pa_cons (pe_bltn (v := .ty "int") (by rfl) T.z_int (by decide +kernel) rfl) pa_nil))) (pe_one (pe_not (pe_callB call_isi (by rfl) T.z_isinstance (by decide +kernel) (pa_cons (pv 0) (pa_cons (pe_bltn (v := .ty "bool") (by rfl) T.z_bool (by decide +kernel) rfl) pa_nil))))))))), ?_⟩
    refine ⟨_, rfl, .int i, .ty "int", .type "int", .type "int", true, rfl, .ty "int", .base (.int i), kit_ty (show kitB "int" "int" = some true by decide +kernel), true, rfl, iteT ?_⟩
    exact ⟨_, rfl, .int i, .ty "bool", .type "int", .type "bool", false, rfl, .ty "bool", .base (.int i), kit_ty (show kitB "int" "bool" = some false by decide +kernel), false, rfl, q⟩
def spShort : Sp := fun vs H Q _ => ∃ i : Int, vs = [.int i] ∧ Sho i ∧ Q (.bl true) H
theorem ok_is_short (T : Facts K mg) : FnOk P w K mg base CX0 2 T.f_is_short T.fd_is_short ["value"] spShort := by
  have G_is_whole : FnOk P w K mg base CX0 1 T.f_is_whole T.fd_is_whole ["value"] spWhole := ok_is_whole T
  refine T.F_is_short.ok sc_is_short (fun vs H Q E h => ?_) (fun cdv A outer s H vs Q E hr h => ?_)
  · obtain ⟨i, rfl, _⟩ := h
    rfl
  · obtain ⟨i, rfl, hi, q⟩ := h
    have e60 : (10 : Nat) ^ 60 = 1000000000000000000000000000000000000000000000000000000000000 := by decide
    unfold Sho at hi
    rw [e60] at hi
    refine ⟨_, (PSs.nox (pss_one (ps_ret (pe_and (pe_call G_is_whole hr (by rfl) T.g_is_whole T.F_is_whole.kp T.b_is_whole .nil pass0 (pa_cons (pv 0) pa_nil)) (pe_one (pe_chain op_lt op_lt (pe_un un_neg (pe_glob (v := .int 1000000000000000000000000000000000000000000000000000000000000) (by rfl) T.c_GREATEST.choose_spec ⟨_, rfl⟩)) (pv 0) (pe_glob (v := .int 1000000000000000000000000000000000000000000000000000000000000) (by rfl) T.c_GREATEST.choose_spec ⟨_, rfl⟩))))))), ?_⟩
    refine ⟨_, rfl, i, rfl, true, rfl, iteT ⟨_, rfl, _, rfl, _, i, rfl, rfl, true, ?_, iteT ⟨i, _, rfl, rfl, ?_⟩⟩⟩
    · show V.bl (decide (-1000000000000000000000000000000000000000000000000000000000000 < i)) = V.bl true
      rw [decide_eq_true (by omega)]
    · show Q (V.bl (decide (i < 1000000000000000000000000000000000000000000000000000000000000))) H
      rw [decide_eq_true (by omega)]
      exact q
/-- a tuple of ints -/
abbrev tp (ns : List Int) : HO := .tup (ns.map V.int)
def spAreShort : Sp := fun vs H Q _ => ∃ (t : Addr) (ns : List Int), vs = [.ref t] ∧ H t = some (tp ns) ∧ ns.length ≤ 1000 ∧ (∀ x ∈ ns, Sho x) ∧ ∀ H', Same H H' → Q (.bl true) H'
theorem ok_are_short (T : Facts K mg) : FnOk P w K mg base CX0 3 T.f_are_short T.fd_are_short ["value"] spAreShort := by
  have G_is_short : FnOk P w K mg base CX0 2 T.f_is_short T.fd_is_short ["value"] spShort := ok_is_short T
  refine T.F_are_short.ok sc_are_short (fun vs H Q E h => ?_) (fun cdv A outer s H vs Q E hr h => ?_)
  · obtain ⟨t, ns, rfl, _⟩ := h
    rfl
  · obtain ⟨t, ns, rfl, ht, hl, hs, q⟩ := h
    refine ⟨_, (PSs.nox (pss_one (ps_ret (pe_and (pe_callB call_isi (by rfl) T.z_isinstance (by decide +kernel) (pa_cons (pv 0) (pa_cons (pe_bltn (v := .ty "tuple") (by rfl) T.z_tuple (by decide +kernel) rfl) pa_nil))) (pe_one (pe_callB (cr_all (by rfl)) (by rfl) T.z_all (by decide +kernel) (pa_cons (pe_lc (own := [("entry", 1)]) (g := (gName 1)) (tt := tYes) (by rfl) sc_are_short.nd (pi_tup (pv 0)) (blkOk_by (N := N_are_short) (sc := defScope s_are_short) (by decide +kernel)) (fun _ _ _ _ _ => (pg_name (i := 1) sc_are_short.nd rfl (.inl rfl))) (fun _ _ _ _ _ => pts_nil) (fun _ _ _ _ _ => (pe_call G_is_short hr (by rfl) T.g_is_short T.F_is_short.kp T.b_is_short .nil pass0 (pa_cons (pv 1) pa_nil)))) pa_nil))))))), ?_⟩
    refine ⟨_, rfl, .ref t, .ty "tuple", .type "tuple", .type "tuple", true, rfl, .ty "tuple", .base (.tup ht), kit_ty (show kitB "tuple" "tuple" = some true by decide +kernel), true, rfl, iteT ?_⟩
    refine ⟨_, rfl, t, rfl, ⟨_, SqT.of ht⟩, fun D hD => lc_tup (xs := ns.map V.int) (fun i H' => H' = upd H D (.lst (List.replicate i (V.bl true)))) rfl (fun i H' hi hP => ?_) (fun i x H' hi hP => ?_) (fun H' hP => ?_)⟩
    · rw [hP]
      exact SqT.of (same_upd0 hD _ _ ht)
    · subst hP
      rw [List.getElem?_map] at hi
      obtain ⟨y, hy, rfl⟩ := Option.map_eq_some_iff.mp hi
      have hlt : i < ns.length := (List.getElem?_eq_some_iff.mp hy).1
      refine ⟨rfl, ⟨_, rfl, y, rfl, hs y (List.mem_of_getElem? hy), _, upd_same, ?_, ?_⟩⟩
      · rw [List.length_replicate]
        exact small1000 (by omega)
      · rw [upd_upd, List.replicate_succ']
    · subst hP
      rw [List.length_map]
      refine ⟨D, List.replicate ns.length true, rfl, SqL.of (by rw [upd_same, List.map_replicate]), ?_⟩
      have e : (List.replicate ns.length true).all id = true := by
        rw [List.all_eq_true]
        intro x hx
        rw [(List.mem_replicate.mp hx).2]
        rfl
      rw [e]
      exact q _ (same_upd0 hD)
def spAreEntries : Sp := fun vs H Q _ => ∃ (t : Addr) (ns : List Int), vs = [.ref t] ∧ H t = some (tp ns) ∧ 1 ≤ ns.length ∧ ns.length ≤ 41 ∧ (∀ x ∈ ns, Sho x) ∧ ∀ H', Same H H' → Q (.bl true) H'
theorem ok_are_entries (T : Facts K mg) : FnOk P w K mg base CX0 4 T.f_are_entries T.fd_are_entries ["value"] spAreEntries := by
  have G_are_short : FnOk P w K mg base CX0 3 T.f_are_short T.fd_are_short ["value"] spAreShort := ok_are_short T
  refine T.F_are_entries.ok sc_are_entries (fun vs H Q E h => ?_) (fun cdv A outer s H vs Q E hr h => ?_)
  · obtain ⟨t, ns, rfl, _⟩ := h
    rfl
  · obtain ⟨t, ns, rfl, ht, h1, h41, hs, q⟩ := h
    refine ⟨_, (PSs.nox (pss_one (ps_ret (pe_and (pe_call G_are_short hr (by rfl) T.g_are_short T.F_are_short.kp T.b_are_short .nil pass0 (pa_cons (pv 0) pa_nil)) (pe_one (pe_chain op_le op_le pe_int (pe_callB call_len_seq (by rfl) T.z_len (by decide +kernel) (pa_cons (pv 0) pa_nil)) (pe_op op_add (pe_glob (v := .int 40) (by rfl) T.c_MAX_DEGREE.choose_spec ⟨_, rfl⟩) pe_int))))))), ?_⟩
    refine ⟨_, rfl, t, ns, rfl, ht, by omega, hs, fun H1 s1 => ⟨true, rfl, iteT ?_⟩⟩
    have ht1 := s1 _ _ ht
    refine ⟨_, rfl, t, _, rfl, .inr (SqT.of ht1), 1, _, rfl, rfl, true, ?_, iteT ⟨_, _, rfl, rfl, _, _, rfl, rfl, ?_⟩⟩
    · rw [List.length_map]
      show V.bl (decide ((1 : Int) ≤ (ns.length : Int))) = V.bl true
      rw [decide_eq_true (by omega)]
    · rw [List.length_map]
      show Q (V.bl (decide ((ns.length : Int) ≤ 40 + 1))) H1
      rw [decide_eq_true (by omega)]
      exact q H1 s1
/-! ### making a form -/
/-- a form with these entries -/
def Fo (C : Addr) (H : Hp) (a : Addr) (ns : List Int) : Prop := ∃ dx t, H a = some (SlO a C dx [some (.ref t)]) ∧ H dx = some (.xd []) ∧ H t = some (tp ns)
theorem Fo.same {C a : Addr} {H H' : Hp} {ns : List Int} (h : Fo C H a ns) (s : Same H H') : Fo C H' a ns := by
  obtain ⟨dx, t, h1, h2, h3⟩ := h
  exact ⟨dx, t, s _ _ h1, s _ _ h2, s _ _ h3⟩
theorem Fo.slt {C a : Addr} {H : Hp} {ns : List Int} (h : Fo C H a ns) : ∃ dx t, Slt H a C dx [some (.ref t)] ∧ H t = some (tp ns) := by
  obtain ⟨dx, t, h1, h2, h3⟩ := h
  exact ⟨dx, t, .inr ⟨h1, h2⟩, h3⟩
/-- Told(row) -/
def spTold (C : Addr) : Sp := fun vs H Q _ => ∃ (x dx : Addr) (v : V), vs = [.ref x, v] ∧ Slt H x C dx [] ∧ Q .non (slH H x C dx [some v])
theorem ok_Told_init (T : Facts K mg) : FnOk P w K mg base CX0 1 T.f_Told_init T.fd_Told_init ["self", "row"] (spTold T.C_Told) := by
  refine T.F_Told_init.ok sc_Told_init (fun vs H Q E h => ?_) (fun cdv A outer s H vs Q E hr h => ?_)
  · obtain ⟨x, dx, v, rfl, _⟩ := h
    rfl
  · obtain ⟨x, dx, v, rfl, hx, q⟩ := h
    refine ⟨_, (PSs.nox (pss_one (ps_sl (pv 0) (pv 1)))), ?_⟩
    exact ⟨_, rfl, _, rfl, x, T.C_Told, dx, T.a_own_row, [], 0, rfl, hx, T.oc_Told.scl, T.sl_own_row, q⟩
/-- Form(entries) -/
def spForm (CT CF : Addr) : Sp := fun vs H Q _ => ∃ (x dx y t : Addr), vs = [.ref x, .ref y] ∧ Slt H x CF dx [] ∧ ((∃ dy, Slt H y CT dy [some (.ref t)]) ∨ ∃ ns, y = t ∧ H t = some (tp ns) ∧ 1 ≤ ns.length ∧ ns.length ≤ 41 ∧ ∀ z ∈ ns, Sho z) ∧ ∀ H', Same H H' → Q .non (slH H' x CF dx [some (.ref t)])
theorem Slt.same {C a dx : Addr} {vs : List (Option V)} {H H' : Hp} (h : Slt H a C dx vs) (s : Same H H') : Slt H' a C dx vs := by
  rcases h with ⟨h1, h2⟩ | ⟨h1, h2⟩
  · exact .inl ⟨s _ _ h1, h2⟩
  · exact .inr ⟨s _ _ h1, s _ _ h2⟩
theorem ok_Form_init (T : Facts K mg) : FnOk P w K mg base CX0 5 T.f_Form_init T.fd_Form_init ["self", "entries"] (spForm T.C_Told T.C_Form) := by
  have G_are_entries : FnOk P w K mg base CX0 4 T.f_are_entries T.fd_are_entries ["value"] spAreEntries := ok_are_entries T
  refine T.F_Form_init.ok sc_Form_init (fun vs H Q E h => ?_) (fun cdv A outer s H vs Q E hr h => ?_)
  · obtain ⟨x, dx, y, t, rfl, _⟩ := h
    rfl
  · obtain ⟨x, dx, y, t, rfl, hx, hy, q⟩ := h
    refine ⟨_, (PSs.nox (pss_cons (ps_if (pw_and (pt_not (pt_val (pe_callB (call_isiF T.C_Told) (by rfl) T.z_isinstance (by decide +kernel) (pa_cons (pv 1) (pa_cons (pe_glob (v := .ref T.C_Told) (by rfl) T.g_Told rfl) pa_nil))))) (pw_and1 (pt_not (pt_val (pe_call G_are_entries hr (by rfl) T.g_are_entries T.F_are_entries.kp T.b_are_entries .nil pass0 (pa_cons (pv 1) pa_nil)))))).pt
      (pss_one ps_never)
      pss_nil)
    (pss_one (ps_sl (pv 0) (pe_ifExp (pt_val (pe_callB (call_isiF T.C_Told) (by rfl) T.z_isinstance (by decide +kernel) (pa_cons (pv 1) (pa_cons (pe_glob (v := .ref T.C_Told) (by rfl) T.g_Told rfl) pa_nil)))) (pe_sl (pv 1)) (pv 1)))))), ?_⟩
    rcases hy with ⟨dy, hy⟩ | ⟨ns, rfl, ht, h1, h41, hs⟩
    · refine ⟨_, rfl, .inr ⟨y, T.C_Told, dy, _, .ref T.C_Told, true, rfl, rfl, fun w r => r, hy, T.oc_Told.scl, T.oc_Told.sis, T.oc_Told.kself, true, rfl, iteF ?_⟩⟩
      refine ⟨_, rfl, .inr ⟨y, T.C_Told, dy, _, .ref T.C_Told, true, rfl, rfl, fun w r => r, hy, T.oc_Told.scl, T.oc_Told.sis, T.oc_Told.kself, true, rfl, iteT ?_⟩⟩
      refine ⟨_, rfl, y, T.C_Told, dy, T.a_own_row, _, 0, .ref t, rfl, hy, T.oc_Told.scl, T.sl_own_row, rfl, ?_⟩
      exact ⟨_, rfl, x, T.C_Form, dx, T.a_own_entries, [], 0, rfl, hx, T.oc_Form.scl, T.sl_own_entries, q H (Same.rf H)⟩
    · refine ⟨_, rfl, .inl ⟨.ref y, .ref T.C_Told, .type "tuple", .ref T.C_Told, false, rfl, .own _, .base (.tup ht), T.oc_Told.ktup, false, rfl, iteT ?_⟩⟩
      refine ⟨_, rfl, y, ns, rfl, ht, h1, h41, hs, fun H1 s1 => ⟨true, rfl, iteF ?_⟩⟩
      refine ⟨_, rfl, .inl ⟨.ref y, .ref T.C_Told, .type "tuple", .ref T.C_Told, false, rfl, .own _, .base (.tup (s1 _ _ ht)), T.oc_Told.ktup, false, rfl, iteF ?_⟩⟩
      exact ⟨_, rfl, _, rfl, x, T.C_Form, dx, T.a_own_entries, [], 0, rfl, Slt.same hx s1, T.oc_Form.scl, T.sl_own_entries, q H1 s1⟩
/-- what making leaves -/
theorem made {C x dx : Addr} {v : V} {H' H0 : Hp} (hx : H0 x = none) (hdx : H0 dx = none) (hne : dx ≠ x) (s : Same (upd (upd H0 dx (.own x)) x (.ins C dx [])) H') : Same H0 (slH H' x C dx [some v]) := fun b o e => by
  have h1 : b ≠ x := ne_of_none e hx
  have h2 : b ≠ dx := ne_of_none e hdx
  rw [slH_ne h1 h2]
  exact s _ _ (by rw [upd_ne h1, upd_ne h2]; exact e)
/-- what is made of a row -/
def spMake (C : Addr) : Sp := fun vs H Q _ => ∃ (t : Addr) (ns : List Int), vs = [.ref t] ∧ H t = some (tp ns) ∧ ∀ p H', Same H H' → H p = none → Fo C H' p ns → Q (.ref p) H'
theorem ok_form_of (T : Facts K mg) : FnOk P w K mg base CX0 7 T.f_form_of T.fd_form_of ["entries"] (spMake T.C_Form) := by
  have G_Told_init : FnOk P w K mg base CX0 1 T.f_Told_init T.fd_Told_init ["self", "row"] (spTold T.C_Told) := ok_Told_init T
  have G_Form_init : FnOk P w K mg base CX0 5 T.f_Form_init T.fd_Form_init ["self", "entries"] (spForm T.C_Told T.C_Form) := ok_Form_init T
  refine T.F_form_of.ok sc_form_of (fun vs H Q E h => ?_) (fun cdv A outer s H vs Q E hr h => ?_)
  · obtain ⟨t, ns, rfl, _⟩ := h
    rfl
  · obtain ⟨t, ns, rfl, ht, q⟩ := h
    refine ⟨_, (PSs.nox (pss_one (ps_ret (pe_make T.mk_Form G_Form_init (hr.mono (by decide)) (by rfl) T.g_Form T.b_Form_init .nil pass0 (pa_cons (pe_make T.mk_Told G_Told_init (hr.mono (by decide)) (by rfl) T.g_Told T.b_Told_init .nil pass0 (pa_cons (pv 0) pa_nil)) pa_nil))))), ?_⟩
    refine ⟨_, rfl, fun x dx hx hdx hne => ⟨x, dx, .ref t, rfl, .inl ⟨upd_same, rfl⟩, rfl, ?_⟩⟩
    have s1 : Same H (slH (upd (upd H dx (.own x)) x (.ins T.C_Told dx [])) x T.C_Told dx [some (.ref t)]) := made hx hdx hne (Same.rf _)
    have y1 : Slt (slH (upd (upd H dx (.own x)) x (.ins T.C_Told dx [])) x T.C_Told dx [some (.ref t)]) x T.C_Told dx [some (.ref t)] := slH_slt hne
    generalize slH (upd (upd H dx (.own x)) x (.ins T.C_Told dx [])) x T.C_Told dx [some (.ref t)] = H1 at s1 y1 ⊢
    refine fun x2 dx2 hx2 hdx2 hne2 => ⟨x2, dx2, x, t, rfl, .inl ⟨upd_same, rfl⟩, .inl ⟨dx, ?_⟩, fun H2 s2 => ⟨rfl, ?_⟩⟩
    · exact slt_upd (slt_upd y1 hdx2) (by rw [upd_ne (Ne.symm hne2)]; exact hx2)
    · have s3 : Same H1 (slH H2 x2 T.C_Form dx2 [some (.ref t)]) := made hx2 hdx2 hne2 s2
      have hx0 : H x2 = none := by
        cases e : H x2 with
        | none => rfl
        | some o =>
          have := s1 _ _ e
          rw [hx2] at this
          cases this
      refine q x2 _ (fun b o e => s3 _ _ (s1 _ _ e)) hx0 ⟨dx2, t, upd_same, ?_, s3 _ _ (s1 _ _ ht)⟩
      unfold slH
      rw [upd_ne hne2, upd_same]
end
end K13

set_option Elab.async false
set_option linter.all false
set_option maxRecDepth 100000
set_option maxHeartbeats 4000000
namespace K13
open PySem PySem.Spec PyProof.Rows L2 MyR SlX OwnR OwnF
theorem cv_snoc (x : Int) (g : Nat → Int) : ∀ (l : List Int) (k : Nat), cv (l ++ [x]) g k = cv l g k + (if l.length ≤ k then x * g (k - l.length) else 0)
  | [], k => by
    show cv (x :: []) g k = 0 + (if 0 ≤ k then x * g (k - 0) else 0)
    rw [if_pos (Nat.zero_le k), Nat.sub_zero]
    cases k with
    | zero => rw [cv_zero]; omega
    | succ k => rw [cv_succ]; show x * g (k + 1) + 0 = 0 + x * g (k + 1); omega
  | y :: ys, 0 => by
    show cv (y :: (ys ++ [x])) g 0 = cv (y :: ys) g 0 + (if ys.length + 1 ≤ 0 then _ else 0)
    rw [cv_zero, cv_zero, if_neg (by omega)]
    omega
  | y :: ys, k + 1 => by
    show cv (y :: (ys ++ [x])) g (k + 1) = cv (y :: ys) g (k + 1) + (if ys.length + 1 ≤ k + 1 then x * g (k + 1 - (ys.length + 1)) else 0)
    rw [cv_succ, cv_succ, cv_snoc x g ys k, Nat.add_sub_add_right]
    by_cases h : ys.length ≤ k
    · rw [if_pos h, if_pos (by omega)]; omega
    · rw [if_neg h, if_neg (by omega)]; omega
/-- the entries so far: i rows, and j places of the next one -/
def J (xs : List Int) (g : Nat → Int) (i j k : Nat) : Int := cv (xs.take i) g k + (if i ≤ k ∧ k < i + j then co xs i * g (k - i) else 0)
theorem J_0 {xs : List Int} {g : Nat → Int} {i k : Nat} : J xs g i 0 k = cv (xs.take i) g k := by
  unfold J
  rw [if_neg (by omega)]
  omega
theorem J_step {xs : List Int} {g : Nat → Int} {i j k : Nat} : (if k = i + j then J xs g i j (i + j) + co xs i * g j else J xs g i j k) = J xs g i (j + 1) k := by
  unfold J
  by_cases h : k = i + j
  · subst h
    rw [if_pos rfl, if_neg (by omega), if_pos (by omega), Nat.add_sub_cancel_left]
    omega
  · rw [if_neg h]
    by_cases c : i ≤ k ∧ k < i + j
    · rw [if_pos c, if_pos (by omega)]
    · rw [if_neg c, if_neg (by omega)]
theorem J_end {xs ys : List Int} {i k : Nat} (hi : i < xs.length) : J xs (co ys) i ys.length k = cv (xs.take (i + 1)) (co ys) k := by
  unfold J
  have e : xs.take (i + 1) = xs.take i ++ [xs[i]] := by rw [List.take_add_one, List.getElem?_eq_getElem hi]; rfl
  have hl : (xs.take i).length = i := by rw [List.length_take]; omega
  rw [e, cv_snoc, hl, co_get hi]
  congr 1
  by_cases c : i ≤ k
  · by_cases d : k < i + ys.length
    · rw [if_pos ⟨c, d⟩, if_pos c]
    · rw [if_neg (by omega), if_pos c, co_far (by omega), Int.mul_zero]
  · rw [if_neg (by omega), if_neg c]
def tab (L : Nat) (f : Nat → Int) : List V := (List.range L).map fun k => V.int (f k)
theorem tab_tb (L : Nat) (f : Nat → Int) : tab L f = (tb L f).map V.int := by
  unfold tab tb
  rw [List.map_map]
  rfl
theorem tab_len (L : Nat) (f : Nat → Int) : (tab L f).length = L := by
  unfold tab
  rw [List.length_map, List.length_range]
theorem tab_get {L : Nat} {f : Nat → Int} {k : Nat} (h : k < L) : (tab L f)[k]? = some (.int (f k)) := by
  unfold tab
  rw [List.getElem?_map, List.getElem?_range h]
  rfl
theorem tab_ext {L : Nat} {f g : Nat → Int} (h : ∀ k, k < L → f k = g k) : tab L f = tab L g := by
  unfold tab
  exact List.map_congr_left fun k hk => by rw [h k (List.mem_range.mp hk)]
theorem tab_none {L : Nat} {f : Nat → Int} {k : Nat} (h : L ≤ k) : (tab L f)[k]? = none := List.getElem?_eq_none (by rw [tab_len]; exact h)
theorem tab_set {L : Nat} {f : Nat → Int} {j : Nat} {v : Int} : (tab L f).set j (.int v) = tab L (fun k => if k = j then v else f k) := by
  apply List.ext_getElem?
  intro k
  by_cases hk : k < L
  · rw [tab_get hk]
    by_cases e : k = j
    · subst e
      rw [List.getElem?_set_self (by rw [tab_len]; exact hk), if_pos rfl]
    · rw [List.getElem?_set_ne (Ne.symm e), tab_get hk, if_neg e]
  · rw [tab_none (Nat.le_of_not_lt hk), List.getElem?_eq_none (by rw [List.length_set, tab_len]; exact Nat.le_of_not_lt hk)]
theorem tab_rep (n : Nat) : List.replicate n (V.int 0) = tab n fun _ => 0 := by
  unfold tab
  rw [List.map_const', List.length_range]
theorem ix_at {n : Nat} {z : Int} {j : Nat} (e : z = (j : Int)) (h : j < n) : ixN n z = some j := by
  rw [e]
  exact Evl.ixN_nat h
theorem at_of {xs : List V} {z : Int} {j : Nat} {v : V} (e : z = (j : Int)) (h : xs[j]? = some v) : atI xs z = some v := by
  rw [e]
  exact atI_nat h
/-- ints of less than 400 bits -/
def sm (x : Int) : Prop := x.natAbs < 2 ^ 4000
theorem sm_mul {x y : Int} (hx : sm x) (hy : sm y) : CMulW x y := wide_mul hx hy (by decide) (by decide) (by decide)
theorem get_int {xs : List Int} {i : Nat} (h : i < xs.length) : (xs.map V.int)[i]? = some (.int (co xs i)) := by
  rw [List.getElem?_map, List.getElem?_eq_getElem h, co_get h]
  rfl
theorem sm_co {xs : List Int} {i : Nat} (h : ∀ x ∈ xs, sm x) (hi : i < xs.length) : sm (co xs i) := by
  rw [co_get hi]
  exact h _ (List.getElem_mem hi)
section
variable {P : Program} {w : World} {K : PySem.W.Frag} {mg : Str → Option Value} {base : Heap}
end
end K13

set_option Elab.async false
set_option linter.all false
set_option maxRecDepth 100000
set_option maxHeartbeats 4000000
namespace K13
open PySem PySem.Spec PyProof.Rows L2 StX RZ MyR SlX OwnR OwnF
/-- a comprehension over zip of two tuples of one length -/
theorem lc_zipT {K : PySem.W.Frag} {a b : Addr} {xs ys : List V} {g : TG} {tt : TT} {te : TE} {vs : List Nat} {σ : L2.St} {H1 : Hp} {D : Addr} {Qd : Hp → Prop} (hl : xs.length = ys.length) (Pv : Nat → Hp → Prop) (h0 : Pv 0 (upd H1 D (.lst []))) (hq : ∀ i H, i ≤ xs.length → Pv i H → SqT K H a xs ∧ SqT K H b ys)
    (hs : ∀ (i : Nat) (x y : V) (T : Addr) (H : Hp), xs[i]? = some x → ys[i]? = some y → Pv i H → H T = none → g (.ref T) (wipe σ vs) (upd H T (.tup [x, y])) fun σ2 H2 => wipe σ2 vs = wipe σ vs ∧ tt σ2 H2 fun b H3 =>
      if b = true then te σ2 H3 fun y H4 => ∃ acc, H4 D = some (.lst acc) ∧ acc.length < sizeLine ∧ Pv (i + 1) (upd H4 D (.lst (acc ++ [y]))) else Pv (i + 1) H3) (hd : ∀ H, Pv xs.length H → Qd H) :
    ∃ W : Nat → Nat → Hp → Prop, (∃ m, W 0 m (upd H1 D (.lst []))) ∧ ∀ i m H, W i m H →
      ((ItzT K a b).stop i H ∧ Qd H) ∨ ((ItzT K a b).go i H ∧ ∃ Nx : Hp → Prop, (∀ H', Nx H' → ∃ m', m' < m ∧ W (i + 1) m' H') ∧ ∀ x H', (ItzT K a b).yld i H x H' → g x (wipe σ vs) H' fun σ2 H2 => wipe σ2 vs = wipe σ vs ∧ tt σ2 H2 fun b H3 =>
        if b = true then te σ2 H3 fun y H4 => ∃ acc, H4 D = some (.lst acc) ∧ acc.length < sizeLine ∧ Nx (upd H4 D (.lst (acc ++ [y]))) else Nx H3) := by
  refine ⟨fun i m H => m = xs.length - i ∧ i ≤ xs.length ∧ Pv i H, ⟨xs.length, by simp, Nat.zero_le _, h0⟩, ?_⟩
  rintro i m H ⟨rfl, hi, p⟩
  obtain ⟨qx, qy⟩ := hq i H hi p
  by_cases hlt : i < xs.length
  · have hlt2 : i < ys.length := by omega
    have hx : xs[i]? = some xs[i] := List.getElem?_eq_getElem hlt
    have hy : ys[i]? = some ys[i] := List.getElem?_eq_getElem hlt2
    refine .inr ⟨⟨xs, ys, _, _, qx, qy, hx, hy⟩, Pv (i + 1), fun H' p' => ⟨xs.length - (i + 1), by omega, rfl, hlt, p'⟩, fun v H' y => ?_⟩
    obtain ⟨T, x', y', rfl, hT, rfl, f1, f2⟩ := y
    exact hs i x' y' T H (f1 xs qx) (f2 ys qy) p hT
  · have e : i = xs.length := by omega
    subst e
    exact .inl ⟨⟨xs, ys, qx, qy, Or.inl (Nat.le_refl _)⟩, hd H p⟩
/-- the sign of the first entry that is not 0 -/
def sg : List Int → Int
  | [] => 1
  | x :: xs => if x = 0 then sg xs else if 0 < x then 1 else -1
theorem sg_cases : ∀ l : List Int, sg l = 1 ∨ sg l = -1
  | [] => .inl rfl
  | x :: xs => by
    unfold sg
    split
    · exact sg_cases xs
    · split
      · exact .inl rfl
      · exact .inr rfl
def part (l : List Int) : Int := (cont l : Int) * sg l
theorem part_abs (l : List Int) : (part l).natAbs = cont l := by
  unfold part
  rw [Int.natAbs_mul]
  rcases sg_cases l with e | e <;> rw [e] <;> simp
theorem sm_cont {l : List Int} (h : ∀ x ∈ l, sm x) : cont l < 2 ^ 4000 := by
  by_cases c : ∃ x ∈ l, x ≠ 0
  · obtain ⟨x, hx, h0⟩ := c
    have h1 := Int.natAbs_dvd_natAbs.mpr (cont_dvd l x hx)
    have h2 := Nat.le_of_dvd (Int.natAbs_pos.mpr h0) h1
    exact Nat.lt_of_le_of_lt h2 (h x hx)
  · have hz : ∀ l : List Int, (∀ x ∈ l, x = 0) → cont l = 0 := by
      intro l
      induction l with
      | nil => intro _; rfl
      | cons y ys ih =>
        intro hl
        show Nat.gcd y.natAbs (cont ys) = 0
        rw [ih fun x hx => hl x (List.mem_cons_of_mem _ hx), hl y List.mem_cons_self]
        rfl
    rw [hz l fun x hx => Classical.byContradiction fun q => c ⟨x, hx, q⟩]
    decide
theorem sm_part {l : List Int} (h : ∀ x ∈ l, sm x) : sm (part l) := by
  show (part l).natAbs < _
  rw [part_abs]
  exact sm_cont h
/-- divided by its content, the first entry that is not 0 above 0 -/
def prim (l : List Int) : List Int := if part l = 0 then l else l.map fun x => x.fdiv (part l)
theorem tb_map (f : Int → Int) (l : List Int) : (tb l.length fun k => f (co l k)) = l.map f := by
  conv => rhs; rw [← tb_co l]
  unfold tb
  rw [List.map_map]
  rfl
section
variable {P : Program} {w : World} {K : PySem.W.Frag} {mg : Str → Option Value} {base : Heap}
def spPrim : Sp := fun vs H Q _ => ∃ (t : Addr) (ns : List Int), vs = [.ref t] ∧ H t = some (tp ns) ∧ ns.length ≤ 1000 ∧ (∀ x ∈ ns, sm x) ∧ ∀ p H', Same H H' → H' p = some (tp (prim ns)) → Q (.ref p) H'
/-- the sum of one row and a multiple of the other -/
def zs (c : Int) (xs ys : List Int) : List Int := List.zipWith (fun x y => x + c * y) xs ys
end
end K13

set_option Elab.async false
set_option linter.all false
set_option maxRecDepth 100000
set_option maxHeartbeats 4000000
namespace K13
open PySem PySem.Spec PyProof.Rows L2 StX RZ MyR SlX OwnR OwnF
/-! ### == of tuples of ints -/
theorem dpAll_ints {K : PySem.W.Frag} {H : Hp} : ∀ ns : List Int, DpAll K H (ns.map V.int) (ns.map PyData.int)
  | [] => .nil
  | n :: r => .cons (.int n) (dpAll_ints r)
theorem lay_ints : ∀ ns : List Int, PyData.canLayAll0 (ns.map PyData.int) = true
  | [] => rfl
  | n :: r => by
    show (PyData.canLay0 (.int n) && PyData.canLayAll0 (r.map PyData.int)) = true
    rw [lay_ints r]
    rfl
theorem depth_ints : ∀ ns : List Int, PyData.depthAll (ns.map PyData.int) = 0
  | [] => rfl
  | n :: r => by
    show max (PyData.depth (.int n)) (PyData.depthAll (r.map PyData.int)) = 0
    rw [depth_ints r]
    rfl
theorem shaped_tints (ns : List Int) : SeqAt.shaped (.tuple (ns.map PyData.int)) = true := by
  unfold SeqAt.shaped
  rw [show PyData.canLay0 (.tuple (ns.map PyData.int)) = PyData.canLayAll0 (ns.map PyData.int) from rfl, lay_ints]
  rw [show PyData.depth (.tuple (ns.map PyData.int)) = PyData.depthAll (ns.map PyData.int) + 1 from rfl, depth_ints]
  rfl
/-! ### the properties, the operators -/
section
variable {P : Program} {w : World} {K : PySem.W.Frag} {mg : Str → Option Value} {base : Heap}
def spEnt (C : Addr) : Sp := fun vs H Q _ => ∃ (a : Addr) (ns : List Int), vs = [.ref a] ∧ Fo C H a ns ∧ ∀ t, H t = some (tp ns) → Q (.ref t) H
theorem ok_Form_entries (T : Facts K mg) : FnOk P w K mg base CX0 1 T.f_Form_entries T.fd_Form_entries ["self"] (spEnt T.C_Form) := by
  refine T.F_Form_entries.ok sc_Form_entries (fun vs H Q E h => ?_) (fun cdv A outer s H vs Q E hr h => ?_)
  · obtain ⟨a, ns, rfl, _⟩ := h
    rfl
  · obtain ⟨a, ns, rfl, fa, q⟩ := h
    obtain ⟨dx, t, ha, ht⟩ := fa.slt
    refine ⟨_, (PSs.nox (pss_one (ps_ret (pe_sl (pv 0))))), ?_⟩
    exact ⟨_, rfl, a, T.C_Form, dx, T.a_own_entries, _, 0, .ref t, rfl, ha, T.oc_Form.scl, T.sl_own_entries, rfl, q t ht⟩
def spDeg (C : Addr) : Sp := fun vs H Q _ => ∃ (a : Addr) (ns : List Int), vs = [.ref a] ∧ Fo C H a ns ∧ Q (.int ((ns.length : Int) - 1)) H
theorem ok_Form_degree (T : Facts K mg) : FnOk P w K mg base CX0 1 T.f_Form_degree T.fd_Form_degree ["self"] (spDeg T.C_Form) := by
  refine T.F_Form_degree.ok sc_Form_degree (fun vs H Q E h => ?_) (fun cdv A outer s H vs Q E hr h => ?_)
  · obtain ⟨a, ns, rfl, _⟩ := h
    rfl
  · obtain ⟨a, ns, rfl, fa, q⟩ := h
    obtain ⟨dx, t, ha, ht⟩ := fa.slt
    refine ⟨_, (PSs.nox (pss_one (ps_ret (pe_op op_sub (pe_callB call_len_seq (by rfl) T.z_len (by decide +kernel) (pa_cons (pe_sl (pv 0)) pa_nil)) pe_int)))), ?_⟩
    refine ⟨_, rfl, a, T.C_Form, dx, T.a_own_entries, _, 0, .ref t, rfl, ha, T.oc_Form.scl, T.sl_own_entries, rfl, t, _, rfl, .inr (SqT.of ht), _, _, rfl, rfl, ?_⟩
    rw [List.length_map]
    exact q
/-- what is asked of a form's row -/
structure Rw (ns : List Int) : Prop where
  ne : ns ≠ []
  len : ns.length ≤ 100
  sm : ∀ x ∈ ns, sm x
/-- isinstance(x, Form), x a form -/
theorem isi_form {X : Cx} {C b dy : Addr} {vs : List (Option V)} {H : Hp} {Q : VK} (c : OC X.K C) (hb : Slt H b C dy vs) (q : Q (.bl true) H) : rIsi X.K [.ref b, .ref C] H Q ∨ rIsiSl X.K (.ref C) [.ref b, .ref C] H Q :=
  .inr ⟨b, C, dy, vs, .ref C, true, rfl, rfl, fun w r => r, hb, c.scl, c.sis, c.kself, q⟩
end
end K13

set_option Elab.async false
set_option linter.all false
set_option maxRecDepth 100000
set_option maxHeartbeats 4000000
namespace K13
open PySem PySem.Spec PyProof.Rows L2 StX RZ MyR SlX OwnR OwnF
theorem eqvAll_ints : ∀ xs ys : List Int, PyData.eqvAll (xs.map PyData.int) (ys.map PyData.int) = decide (xs = ys)
  | [], [] => rfl
  | [], _ :: _ => rfl
  | _ :: _, [] => rfl
  | x :: xs, y :: ys => by
    show (PyData.eqv (.int x) (.int y) && PyData.eqvAll (xs.map PyData.int) (ys.map PyData.int)) = _
    rw [eqvAll_ints xs ys]
    show ((x == y) && decide (xs = ys)) = decide (x :: xs = y :: ys)
    by_cases h : x = y
    · by_cases k : xs = ys
      · subst h k
        simp
      · rw [decide_eq_false k, decide_eq_false fun z => k (List.cons.inj z).2, Bool.and_false]
    · rw [decide_eq_false fun z => h (List.cons.inj z).1, beq_eq_false_iff_ne.mpr h, Bool.false_and]
theorem eqv_ints (xs ys : List Int) : PyData.eqv (.tuple (xs.map PyData.int)) (.tuple (ys.map PyData.int)) = decide (xs = ys) := eqvAll_ints xs ys
theorem ne_ints {K : PySem.W.Frag} {H : Hp} {a b : Addr} {xs ys : List Int} {Q : VK} (ha : SqT K H a (xs.map V.int)) (hb : SqT K H b (ys.map V.int)) (q : Q (.bl (!decide (xs = ys))) H) : rNeD K (.ref a) (.ref b) H Q := by
  refine ⟨_, _, .tup ha (dpAll_ints xs), .tup hb (dpAll_ints ys), shaped_tints xs, shaped_tints ys, ?_⟩
  rw [eqv_ints]
  exact q
section
variable {P : Program} {w : World} {K : PySem.W.Frag} {mg : Str → Option Value} {base : Heap}
end
end K13

set_option Elab.async false
set_option linter.all false
set_option maxRecDepth 100000
set_option maxHeartbeats 4000000
namespace K13
open PySem PySem.Spec PyProof.Rows L2 StX RZ MyR SlX OwnR OwnF
abbrev dice (x y z : Int) : HO := .lst [.int x, .int y, .int z]
/-- all but the dice is as it was -/
def Sx (a : Addr) (H H' : Hp) : Prop := ∀ b o, b ≠ a → H b = some o → H' b = some o
def Dc (H : Hp) (a : Addr) : Prop := ∃ x y z, H a = some (dice x y z)
theorem Sx.refl (a : Addr) (H : Hp) : Sx a H H := fun _ _ _ h => h
theorem Sx.trans {a : Addr} {H H1 H2 : Hp} (s : Sx a H H1) (t : Sx a H1 H2) : Sx a H H2 := fun b o n h => t b o n (s b o n h)
theorem Sx.of {a : Addr} {H H' : Hp} (s : Same H H') : Sx a H H' := fun b o _ h => s b o h
theorem Sx.upd {a : Addr} {H : Hp} {o : HO} : Sx a H (upd H a o) := fun b u n h => by
  rw [upd_ne n]
  exact h
theorem Dc.same {a : Addr} {H H' : Hp} (d : Dc H a) (s : Same H H') : Dc H' a := by
  obtain ⟨x, y, z, e⟩ := d
  exact ⟨x, y, z, s _ _ e⟩
theorem Dc.ne {a p : Addr} {H : Hp} (d : Dc H a) (n : H p = none) : p ≠ a := fun e => by
  obtain ⟨x, y, z, h⟩ := d
  rw [e, h] at n
  cases n
theorem Sx.free {a p : Addr} {H H' : Hp} (s : Sx a H H') (n : H' p = none) (ne : p ≠ a) : H p = none := by
  cases q : H p with
  | none => rfl
  | some o =>
    rw [s p o ne q] at n
    cases n
section
variable {P : Program} {w : World} {K : PySem.W.Frag} {mg : Str → Option Value} {base : Heap}
theorem cp16 : CPow 10 16 := ⟨by decide, by decide, by decide⟩
theorem cp60 : CPow 10 60 := ⟨by decide, by decide, by decide⟩
theorem cw60 : CMulW (10 ^ Int.toNat 60) (10 ^ Int.toNat 60) := by
  unfold CMulW
  decide +kernel
theorem pos60 : (0 : Int) < 10 ^ Int.toNat 60 * 10 ^ Int.toNat 60 := by decide +kernel
theorem pos_m : (0 : Int) < 1152921504606846697 := by decide
theorem sz3 : 3 ≤ sizeLine := by decide
def spDice (K : PySem.W.Frag) : Sp := fun vs H Q _ => ∃ (a : Addr) (ns : List Int) (k : Nat), vs = [.ref a, .int k] ∧ SqL K H a (ns.map V.int) ∧ ∀ p x y z, H p = none → Q (.ref p) (upd H p (dice x y z))
theorem ok_law_dice (T : Facts K mg) : FnOk P w K mg base CX0 1 T.f_law_dice T.fd_law_dice ["_law_script", "_law_spot"] (spDice K) := by
  refine T.F_law_dice.ok sc_law_dice (fun vs H Q E h => ?_) (fun cdv A outer s H vs Q E hr h => ?_)
  · obtain ⟨a, ns, k, rfl, _⟩ := h
    rfl
  · obtain ⟨a, ns, k, rfl, hS, q⟩ := h
    refine ⟨_, (PSs.nox (pss_cons (ps_set (i := 2) sc_law_dice.nd rfl (.inl rfl) (pe_ifExp (pt_cmpR op_lt (pv 1) (pe_callB call_len_seq (by rfl) T.z_len (by decide +kernel) (pa_cons (pv 0) pa_nil)) (nomark _)) (pe_callTy call_int1 (by rfl) T.z_int (by decide +kernel) (pa_cons (pe_ix ix_list (pv 0) (pv 1) (fun _ _ => rfl)) pa_nil)) (pe_op op_add (pe_op op_mul pe_int (pv 1)) pe_int)))
    (pss_cons (ps_set (i := 3) sc_law_dice.nd rfl (.inl rfl) (pe_op op_mod (pe_callB (call_max2 (by rfl)) (by rfl) T.z_max (by decide +kernel) (pa_cons pe_int (pa_cons (pe_op op_sub (pe_callB call_abs (by rfl) T.z_abs (by decide +kernel) (pa_cons (pv 2) pa_nil)) (pe_op op_pow pe_int pe_int)) pa_nil))) (pe_op op_mulW (pe_op op_pow pe_int pe_int) (pe_op op_pow pe_int pe_int))))
    (pss_one (ps_ret (pe_lst (pa_cons (pv 3) (pa_cons (pe_op op_add (pe_op op_add (pe_op op_add (pe_op op_mul (pe_op op_mod (pe_callB call_abs (by rfl) T.z_abs (by decide +kernel) (pa_cons (pv 2) pa_nil)) pe_int) pe_int) (pe_op op_mul pe_int (pv 1))) (pe_op op_mul pe_int (pe_callTy call_int1 (by rfl) T.z_int (by decide +kernel) (pa_cons (pe_cmpR op_lt (pv 2) pe_int (nomark _)) pa_nil)))) pe_int) (pa_cons pe_int pa_nil))))))))), ?_⟩
    refine ⟨.int k, rfl, .ref a, rfl, a, ns.map V.int, rfl, .inl hS, k, _, rfl, rfl, _, rfl, ?_⟩
    rw [List.length_map]
    by_cases h1 : (k : Int) < (ns.length : Int)
    · rw [decide_eq_true h1]
      have hj : k < ns.length := by omega
      refine iteT ⟨.ref a, rfl, .int k, rfl, a, ns.map V.int, k, .int ns[k], rfl, rfl, hS, atI_nat (by rw [List.getElem?_map, List.getElem?_eq_getElem hj]; rfl), .inl ⟨_, rfl, ?_⟩⟩
      refine ⟨.int ns[k], rfl, _, rfl, 10, 16, rfl, rfl, cp16, _, _, rfl, rfl, 0, _, rfl, 10, 60, rfl, rfl, cp60, 10, 60, rfl, rfl, cp60, _, _, rfl, rfl, cw60, _, _, rfl, rfl, pos60, ?_⟩
      refine ⟨_, rfl, .int ns[k], rfl, _, rfl, _, _, rfl, rfl, pos_m, _, _, rfl, rfl, .inr ⟨by decide, by decide⟩, .int k, rfl, _, _, rfl, rfl, .inl ⟨by decide, by decide⟩, _, _, rfl, rfl, .int ns[k], rfl, _, _, rfl, rfl, .inr ⟨_, rfl, _, _, rfl, rfl, .inl ⟨by decide, by decide⟩, _, _, rfl, rfl, _, _, rfl, rfl, ?_⟩⟩
      exact ⟨sz3, fun p hp => q p _ _ _ hp⟩
    · rw [decide_eq_false h1]
      refine iteF ⟨.int k, rfl, _, _, rfl, rfl, .inl ⟨by decide, by decide⟩, _, _, rfl, rfl, ?_⟩
      refine ⟨_, rfl, _, rfl, 10, 16, rfl, rfl, cp16, _, _, rfl, rfl, 0, _, rfl, 10, 60, rfl, rfl, cp60, 10, 60, rfl, rfl, cp60, _, _, rfl, rfl, cw60, _, _, rfl, rfl, pos60, ?_⟩
      refine ⟨_, rfl, _, rfl, _, rfl, _, _, rfl, rfl, pos_m, _, _, rfl, rfl, .inr ⟨by decide, by decide⟩, .int k, rfl, _, _, rfl, rfl, .inl ⟨by decide, by decide⟩, _, _, rfl, rfl, _, rfl, _, _, rfl, rfl, .inr ⟨_, rfl, _, _, rfl, rfl, .inl ⟨by decide, by decide⟩, _, _, rfl, rfl, _, _, rfl, rfl, ?_⟩⟩
      exact ⟨sz3, fun p hp => q p _ _ _ hp⟩
def spRoll : Sp := fun vs H Q _ => ∃ (a : Addr) (x y z n : Int), vs = [.ref a, .int n] ∧ H a = some (dice x y z) ∧ 0 < n ∧ n.natAbs.log2 < 9000 ∧ ∀ r x' z', 0 ≤ r → r < n → Q (.int r) (upd H a (dice x' y z'))
theorem ok_law_roll (T : Facts K mg) : FnOk P w K mg base CX0 1 T.f_law_roll T.fd_law_roll ["_law_dice_here", "_law_total"] spRoll := by
  refine T.F_law_roll.ok sc_law_roll (fun vs H Q E h => ?_) (fun cdv A outer s H vs Q E hr h => ?_)
  · obtain ⟨a, x, y, z, n, rfl, _⟩ := h
    rfl
  · obtain ⟨a, x, y, z, n, rfl, hd, h0, h1, q⟩ := h
    have hS : SqL K H a [.int x, .int y, .int z] := SqL.of hd
    refine ⟨_, (PSs.nox (pss_cons (ps_if (pt_cmpR op_gt (pe_ix ix_list (pv 0) pe_int (fun _ _ => rfl)) pe_int (nomark _))
      (pss_cons (ps_set (i := 2) sc_law_roll.nd rfl (.inl rfl) (pe_op op_mod (pe_callTy call_int1 (by rfl) T.z_int (by decide +kernel) (pa_cons (pe_ix ix_list (pv 0) pe_int (fun _ _ => rfl)) pa_nil)) (pv 1)))
      (pss_cons (ps_asg (pe_op op_fdivW (pe_ix ix_list (pv 0) pe_int (fun _ _ => rfl)) (pv 1)) (pg_sub (pv 0) pe_int set_list))
      (pss_one (ps_ret (pv 2)))))
      pss_nil)
    (pss_cons (ps_asg (pe_op op_add (pe_ix ix_list (pv 0) pe_int (fun _ _ => rfl)) pe_int) (pg_sub (pv 0) pe_int set_list))
    (pss_cons (ps_set (i := 3) sc_law_roll.nd rfl (.inl rfl) (pe_op op_mod (pe_callTy call_int1 (by rfl) T.z_int (by decide +kernel) (pa_cons (pe_op op_add (pe_ix ix_list (pv 0) pe_int (fun _ _ => rfl)) (pe_op op_mul pe_int (pe_ix ix_list (pv 0) pe_int (fun _ _ => rfl)))) pa_nil)) pe_int))
    (pss_cons (ps_set (i := 4) sc_law_roll.nd rfl (.inl rfl) (pe_op op_add (pe_op op_mul (pe_op op_mod (pe_callTy call_int1 (by rfl) T.z_int (by decide +kernel) (pa_cons (pe_op op_add (pe_op op_mul (pv 3) (pv 3)) (pe_op op_mul pe_int (pe_ix ix_list (pv 0) pe_int (fun _ _ => rfl)))) pa_nil)) pe_int) pe_int) (pv 3)))
    (pss_one (ps_ret (pe_op op_mod (pe_callTy call_int1 (by rfl) T.z_int (by decide +kernel) (pa_cons (pe_op op_fdivW (pv 4) pe_int) pa_nil)) (pv 1))))))))), ?_⟩
    refine ⟨.ref a, rfl, a, _, 0, .int x, rfl, rfl, hS, atI_nat (j := 0) rfl, x, 0, rfl, rfl, decide (0 < x), rfl, ite2 (fun _ => ?_) (fun _ => ?_)⟩
    · refine ⟨.ref a, rfl, a, _, 0, .int x, rfl, rfl, hS, atI_nat (j := 0) rfl, .inl ⟨x, rfl, .int n, rfl, x, n, rfl, rfl, h0, ?_⟩⟩
      refine ⟨.ref a, rfl, a, _, 0, .int x, rfl, rfl, hS, atI_nat (j := 0) rfl, .int n, rfl, x, n, rfl, rfl, ⟨h0, h1⟩, ?_⟩
      refine ⟨.ref a, rfl, a, _, 0, 0, rfl, rfl, hd, rfl, ?_⟩
      exact ⟨_, rfl, q (x % n) (x / n) z (Int.emod_nonneg _ (by omega)) (Int.emod_lt_of_pos _ h0)⟩
    · refine ⟨.ref a, rfl, a, _, 2, .int z, rfl, rfl, hS, atI_nat (j := 2) rfl, z, 1, rfl, rfl, ?_⟩
      refine ⟨.ref a, rfl, a, _, 2, 2, rfl, rfl, hd, rfl, ?_⟩
      have hd' : (upd H a (dice x y (z + 1))) a = some (dice x y (z + 1)) := upd_same
      have hS' : SqL K (upd H a (dice x y (z + 1))) a [.int x, .int y, .int (z + 1)] := SqL.of hd'
      refine ⟨.ref a, rfl, a, _, 1, .int y, rfl, rfl, hS', atI_nat (j := 1) rfl, .ref a, rfl, a, _, 2, .int (z + 1), rfl, rfl, hS', atI_nat (j := 2) rfl, _, _, rfl, rfl, .inl ⟨by decide, by decide⟩, _, _, rfl, rfl, .inl ⟨_, rfl, _, _, rfl, rfl, (by decide : (0 : Int) < 2305843009213691579), ?_⟩⟩
      have b0 := Int.emod_nonneg (y + 92821991 * (z + 1)) (show (2305843009213691579 : Int) ≠ 0 by decide)
      have b1 := Int.emod_lt_of_pos (y + 92821991 * (z + 1)) (show (0 : Int) < 2305843009213691579 by decide)
      refine ⟨_, rfl, _, rfl, _, _, rfl, rfl, .inl ⟨Int.lt_of_lt_of_le (by decide) b0, Int.lt_trans b1 (by decide)⟩, .ref a, rfl, a, _, 2, .int (z + 1), rfl, rfl, hS', atI_nat (j := 2) rfl, _, _, rfl, rfl, .inl ⟨by decide, by decide⟩, _, _, rfl, rfl, .inl ⟨_, rfl, _, _, rfl, rfl, (by decide : (0 : Int) < 2305843009213692227), _, _, rfl, rfl, .inr ⟨by decide, by decide⟩, _, rfl, _, _, rfl, rfl, ?_⟩⟩
      refine ⟨_, rfl, _, _, rfl, rfl, ⟨by decide, by decide +kernel⟩, .inl ⟨_, rfl, .int n, rfl, _, _, rfl, rfl, h0, ?_⟩⟩
      exact q _ x (z + 1) (Int.emod_nonneg _ (by omega)) (Int.emod_lt_of_pos _ h0)
def spRoll2 : Sp := fun vs H Q _ => ∃ (a : Addr) (n : Int), vs = [.ref a, .int n] ∧ Dc H a ∧ 0 < n ∧ n.natAbs.log2 < 9000 ∧ ∀ (r : Nat) H', (r : Int) < n → Sx a H H' → Dc H' a → Q (.int r) H'
theorem roll2 : ∀ vs H Q E, spRoll2 vs H Q E → spRoll vs H Q E := fun vs H Q E h => by
  obtain ⟨a, n, rfl, ⟨x, y, z, e⟩, h0, h1, q⟩ := h
  refine ⟨a, x, y, z, n, rfl, e, h0, h1, fun r x' z' r0 r1 => ?_⟩
  obtain ⟨j, rfl⟩ := Int.eq_ofNat_of_zero_le r0
  exact q j _ r1 Sx.upd ⟨x', y, z', upd_same⟩
def spNear : Sp := fun vs H Q _ => ∃ (a : Addr) (m : Int), vs = [.ref a, .int m] ∧ Dc H a ∧ 0 ≤ m ∧ m ≤ 10 ^ 15 ∧ ∀ r H', -m ≤ r → r ≤ m → Sx a H H' → Dc H' a → Q (.int r) H'
theorem ok_law_near (T : Facts K mg) : FnOk P w K mg base CX0 2 T.f_law_near T.fd_law_near ["_law_dice_here", "_law_most"] spNear := by
  have G_law_roll : FnOk P w K mg base CX0 1 T.f_law_roll T.fd_law_roll ["_law_dice_here", "_law_total"] spRoll2 := (ok_law_roll T).imp roll2
  refine T.F_law_near.ok sc_law_near (fun vs H Q E h => ?_) (fun cdv A outer s H vs Q E hr h => ?_)
  · obtain ⟨a, m, rfl, _⟩ := h
    rfl
  · obtain ⟨a, m, rfl, hd, h0, h1, q⟩ := h
    refine ⟨_, (PSs.nox (pss_one (ps_ret (pe_op op_sub (pe_call G_law_roll hr (by rfl) T.g_law_roll T.F_law_roll.kp T.b_law_roll .nil pass0 (pa_cons (pv 0) (pa_cons (pe_op op_add (pe_op op_mul pe_int (pv 1)) pe_int) pa_nil))) (pv 1))))), ?_⟩
    have e15 : (10 : Int) ^ 15 = 1000000000000000 := by decide
    rw [e15] at h1
    refine ⟨_, rfl, _, rfl, _, _, rfl, rfl, .inl ⟨by decide, by decide⟩, _, _, rfl, rfl, a, _, rfl, hd, (by show 0 < 2 * m + 1; omega), ?_, fun r H' hr s d => ⟨_, rfl, _, _, rfl, rfl, ?_⟩⟩
    · refine Nat.lt_trans (PySem.Flt.log2_lt_of (k := 60) (by decide) ?_) (by decide)
      show (2 * m + 1).natAbs < 2 ^ 60
      omega
    · have hr' : (r : Int) < 2 * m + 1 := hr
      exact q _ H' (by omega) (by omega) s d
/-! ### the law's own gcd -/
def spLGcd : Sp := fun vs H Q _ => ∃ t b : Int, vs = [.int t, .int b] ∧ Q (.int ((Nat.gcd t.natAbs b.natAbs : Nat) : Int)) H
def yOf : L2.St → Nat
  | [_, some (.int y)] => y.toNat
  | _ => 0
theorem abs_nat (i : Int) : (if i < 0 then -i else i) = (i.natAbs : Int) := by split <;> omega
theorem ok_law_gcd (T : Facts K mg) : FnOk P w K mg base CX0 1 T.f_law_gcd T.fd_law_gcd ["_law_one", "_law_other"] spLGcd := by
  refine T.F_law_gcd.ok sc_law_gcd (fun vs H Q E h => ?_) (fun cdv A outer s H vs Q E hr h => ?_)
  · obtain ⟨t, b, rfl, _⟩ := h
    rfl
  · obtain ⟨t, b, rfl, q⟩ := h
    refine ⟨_, (PSs.nox (pss_cons (ps_par (i := 0) (j := 1) (by rfl) sc_law_gcd.nd rfl rfl (by decide) rfl rfl (pa_cons (pe_callB call_abs (by rfl) T.z_abs (by decide +kernel) (pa_cons (pv 0) pa_nil)) (pa_cons (pe_callB call_abs (by rfl) T.z_abs (by decide +kernel) (pa_cons (pv 1) pa_nil)) pa_nil)) (by rfl))
    (pss_cons (ps_while PassesOwn.never (pt_cmpR op_gt (pv 1) pe_int (nomark _))
      (pss_one (ps_par (i := 0) (j := 1) (by rfl) sc_law_gcd.nd rfl rfl (by decide) rfl rfl (pa_cons (pv 1) (pa_cons (pe_op op_mod (pe_callTy call_int1 (by rfl) T.z_int (by decide +kernel) (pa_cons (pv 0) pa_nil)) (pv 1)) pa_nil)) (by rfl))))
    (pss_one (ps_ret (pv 0)))))), ?_⟩
    refine ⟨_, rfl, t, rfl, _, rfl, b, rfl, _, _, rfl, ?_⟩
    rw [abs_nat, abs_nat]
    refine while_by (fun σ H' => ∃ x y : Nat, σ = [some (.int x), some (.int y)] ∧ Nat.gcd x y = Nat.gcd t.natAbs b.natAbs ∧ H' = H) (fun σ _ => yOf σ) ⟨_, _, rfl, rfl, rfl⟩ (fun σ H' hP => ?_) (fun σ H' Q1 Q2 hQ h => ?_)
    · obtain ⟨x, y, rfl, hg, rfl⟩ := hP
      refine ⟨_, rfl, _, _, rfl, rfl, _, rfl, ?_⟩
      by_cases c : 0 < (y : Int)
      · rw [decide_eq_true c]
        refine iteT ⟨_, rfl, _, rfl, .inl ⟨_, rfl, _, rfl, _, _, rfl, rfl, c, _, _, rfl, ?_⟩⟩
        have e : (x : Int) % (y : Int) = ((x % y : Nat) : Int) := (Int.natCast_emod x y).symm
        refine ⟨⟨y, x % y, ?_, ?_, rfl⟩, ?_⟩
        · show [some (V.int y), some (V.int ((x : Int) % (y : Int)))] = _
          rw [e]
        · rw [← hg, Nat.gcd_comm x y, Nat.gcd_rec y x, Nat.gcd_comm]
        · show ((x : Int) % (y : Int)).toNat < (y : Int).toNat
          rw [e]
          have := Nat.mod_lt x (show y > 0 by omega)
          omega
      · rw [decide_eq_false c]
        have ey : y = 0 := by omega
        subst ey
        refine iteF ⟨_, rfl, ?_⟩
        rw [← hg, Nat.gcd_zero_right] at q
        exact q
    · obtain ⟨v, e, x1, x2, e1, e2, k, e3, h⟩ := h
      exact ⟨v, e, x1, x2, e1, e2, k, e3, hQ _ _ h⟩
end
end K13

set_option Elab.async false
set_option linter.all false
set_option maxRecDepth 100000
set_option maxHeartbeats 4000000
namespace K13
open PySem PySem.Spec PyProof.Rows L2 StX RZ MyR SlX OwnR OwnF
theorem cont_snoc (x : Int) : ∀ l : List Int, cont (l ++ [x]) = Nat.gcd (cont l) x.natAbs
  | [] => by
    show Nat.gcd x.natAbs 0 = Nat.gcd 0 x.natAbs
    rw [Nat.gcd_zero_right, Nat.gcd_zero_left]
  | y :: ys => by
    show Nat.gcd y.natAbs (cont (ys ++ [x])) = Nat.gcd (Nat.gcd y.natAbs (cont ys)) x.natAbs
    rw [cont_snoc x ys, Nat.gcd_assoc]
theorem take_snoc {xs : List Int} {i : Nat} (h : i < xs.length) : xs.take (i + 1) = xs.take i ++ [co xs i] := by
  rw [List.take_add_one, List.getElem?_eq_getElem h, co_get h]
  rfl
theorem int_get {xs : List Int} {i : Nat} {x : V} (h : (xs.map V.int)[i]? = some x) : i < xs.length ∧ x = .int (co xs i) := by
  have hi : i < xs.length := by
    have := (List.getElem?_eq_some_iff.mp h).1
    rw [List.length_map] at this
    exact this
  rw [get_int hi] at h
  cases h
  exact ⟨hi, rfl⟩
theorem tab_snoc (n : Nat) (f : Nat → Int) : tab n f ++ [V.int (f n)] = tab (n + 1) f := by
  unfold tab
  rw [List.range_succ, List.map_append]
  rfl
theorem zs_tb {c : Int} {xs ys : List Int} (hl : xs.length = ys.length) : (tb xs.length fun k => co xs k + c * co ys k) = zs c xs ys := by
  refine co_inj (by rw [tb_len]; unfold zs; rw [List.length_zipWith, hl, Nat.min_self]) fun k => ?_
  rw [co_tb]
  unfold zs
  by_cases hk : k < xs.length
  · rw [if_pos hk, co_get (l := List.zipWith _ _ _) (by rw [List.length_zipWith]; omega), List.getElem_zipWith, co_get hk, co_get (by omega)]
  · rw [if_neg hk, co_far (by rw [List.length_zipWith]; omega)]
section
variable {P : Program} {w : World} {K : PySem.W.Frag} {mg : Str → Option Value} {base : Heap}
def spShared : Sp := fun vs H Q _ => ∃ (t : Addr) (ns : List Int), vs = [.ref t] ∧ H t = some (tp ns) ∧ Q (.int (cont ns : Nat)) H
def spSharedC (K : PySem.W.Frag) : Sp := fun vs H Q _ => ∃ (t : Addr) (ns : List Int), vs = [.ref t] ∧ (SqT K H t (ns.map V.int) ∨ SqL K H t (ns.map V.int)) ∧ Q (.int (cont ns : Nat)) H
theorem ok_law_sharedC (T : Facts K mg) : FnOk P w K mg base CX0 2 T.f_law_shared T.fd_law_shared ["_law_numbers"] (spSharedC K) := by
  have G_law_gcd : FnOk P w K mg base CX0 1 T.f_law_gcd T.fd_law_gcd ["_law_one", "_law_other"] spLGcd := ok_law_gcd T
  refine T.F_law_shared.ok sc_law_shared (fun vs H Q E h => ?_) (fun cdv A outer s H vs Q E hr h => ?_)
  · obtain ⟨t, ns, rfl, _⟩ := h
    rfl
  · obtain ⟨t, ns, rfl, ht, q⟩ := h
    refine ⟨_, (PSs.nox (pss_cons (ps_set (i := 1) sc_law_shared.nd rfl (.inl rfl) pe_int)
    (pss_cons (ps_for PassesOwn.never (by rfl) (SeqE.PI_or (pi_tup (pv 0)) (pi_list (pv 0))) (pg_name (i := 2) sc_law_shared.nd rfl (.inl rfl))
      (pss_one (ps_set (i := 1) sc_law_shared.nd rfl (.inl rfl) (pe_call G_law_gcd hr (by rfl) T.g_law_gcd T.F_law_gcd.kp T.b_law_gcd .nil pass0 (pa_cons (pv 1) (pa_cons (pv 2) pa_nil))))))
    (pss_one (ps_ret (pv 1)))))), ?_⟩
    rcases ht with ht | ht
    · refine .inl ⟨_, rfl, t, rfl, ⟨_, ht⟩, for_tup (xs := ns.map V.int) (fun i σ H' => ∃ y, σ = [some (.ref t), some (.int ((cont (ns.take i) : Nat) : Int)), y] ∧ H' = H) ⟨none, rfl, rfl⟩ (fun i σ H' _ hP => by rw [hP.choose_spec.2]; exact ht) (fun i x σ H' hx hP => ?_) (fun σ H' hP => ?_)⟩
      · obtain ⟨y, rfl, rfl⟩ := hP
        obtain ⟨hi, rfl⟩ := int_get hx
        refine ⟨_, rfl, _, rfl, _, _, rfl, some (.int (co ns i)), ?_, rfl⟩
        rw [take_snoc hi, cont_snoc]
        rfl
      · obtain ⟨y, rfl, rfl⟩ := hP
        rw [List.length_map, List.take_length]
        exact ⟨_, rfl, q⟩
    · refine .inr ⟨_, rfl, t, rfl, ⟨_, ht⟩, for_list (xs := ns.map V.int) (fun i σ H' => ∃ y, σ = [some (.ref t), some (.int ((cont (ns.take i) : Nat) : Int)), y] ∧ H' = H) ⟨none, rfl, rfl⟩ (fun i σ H' _ hP => by rw [hP.choose_spec.2]; exact ht) (fun i x σ H' hx hP => ?_) (fun σ H' hP => ?_)⟩
      · obtain ⟨y, rfl, rfl⟩ := hP
        obtain ⟨hi, rfl⟩ := int_get hx
        refine ⟨_, rfl, _, rfl, _, _, rfl, some (.int (co ns i)), ?_, rfl⟩
        rw [take_snoc hi, cont_snoc]
        rfl
      · obtain ⟨y, rfl, rfl⟩ := hP
        rw [List.length_map, List.take_length]
        exact ⟨_, rfl, q⟩
theorem ok_law_shared (T : Facts K mg) : FnOk P w K mg base CX0 2 T.f_law_shared T.fd_law_shared ["_law_numbers"] spShared := (ok_law_sharedC T).imp fun vs H Q E h => by
  obtain ⟨t, ns, rfl, ht, q⟩ := h
  exact ⟨t, ns, rfl, .inl (SqT.of ht), q⟩
def spPlus : Sp := fun vs H Q _ => ∃ (t u : Addr) (xs ys : List Int), vs = [.ref t, .ref u] ∧ H t = some (tp xs) ∧ H u = some (tp ys) ∧ xs.length = ys.length ∧ xs.length ≤ 100 ∧ ∀ p H', Same H H' → H p = none → H' p = some (tp (zs 1 xs ys)) → Q (.ref p) H'
theorem ok_law_plus (T : Facts K mg) : FnOk P w K mg base CX0 1 T.f_law_plus T.fd_law_plus ["_law_one", "_law_other"] spPlus := by
  refine T.F_law_plus.ok sc_law_plus (fun vs H Q E h => ?_) (fun cdv A outer s H vs Q E hr h => ?_)
  · obtain ⟨t, u, xs, ys, rfl, _⟩ := h
    rfl
  · obtain ⟨t, u, xs, ys, rfl, ht, hu, hl, hlt, q⟩ := h
    refine ⟨_, (PSs.nox (pss_one (ps_ret (pe_tupleOf (by rfl) T.z_tuple (pe_lc (own := [("_law_first", 2), ("_law_second", 3)]) (g := (gTup K 2 (gCons (gName 2) (gCons (gName 3) gNil)))) (tt := tYes) (by rfl) sc_law_plus.nd (pi_zipA (by rfl) T.z_zip (pa_cons (pv 0) (pa_cons (pv 1) pa_nil))) (blkOk_by (N := N_law_plus) (sc := defScope s_law_plus) (by decide +kernel)) (fun _ _ _ _ _ => (pg_tup (by rfl) (pgs_cons (pg_name (i := 2) sc_law_plus.nd rfl (.inl rfl)) (pgs_cons (pg_name (i := 3) sc_law_plus.nd rfl (.inl rfl)) pgs_nil)))) (fun _ _ _ _ _ => pts_nil) (fun _ _ _ _ _ => (pe_op op_add (pv 2) (pv 3)))))))), ?_⟩
    refine ⟨_, rfl, _, rfl, t, u, _, _, rfl, .inr ⟨SqT.of ht, SqT.of hu, fun D hD => ?_⟩⟩
    refine lc_zipT (xs := xs.map V.int) (ys := ys.map V.int) (by rw [List.length_map, List.length_map, hl]) (fun j H' => Same H H' ∧ H' D = some (.lst (tab j fun k => co xs k + 1 * co ys k))) ⟨same_upd0 hD, upd_same⟩ (fun j H' _ hP => ⟨SqT.of (hP.1 _ _ ht), SqT.of (hP.1 _ _ hu)⟩) (fun j x y A H' hx hy hP hA => ?_) (fun H' hP => ?_)
    · obtain ⟨sH, hD'⟩ := hP
      obtain ⟨hj, rfl⟩ := int_get hx
      obtain ⟨_, rfl⟩ := int_get hy
      have sA := same_upd0 (o := .tup [.int (co xs j), .int (co ys j)]) hA
      refine ⟨A, _, rfl, SqT.of upd_same, rfl, _, _, rfl, _, _, rfl, rfl, rfl, _, rfl, _, rfl, _, _, rfl, rfl, _, sA _ _ hD', ?_, fun b o e => ?_, ?_⟩
      · rw [tab_len]
        exact small1000 (by omega)
      · rw [upd_ne (ne_of_none e hD)]
        exact sA _ _ (sH _ _ e)
      · rw [upd_same, ← tab_snoc]
        show some (HO.lst (tab j _ ++ [V.int (co xs j + co ys j)])) = some (HO.lst (tab j _ ++ [V.int (co xs j + 1 * co ys j)]))
        rw [Int.one_mul]
    · obtain ⟨sH, hD'⟩ := hP
      rw [List.length_map] at hD'
      refine .inl ⟨D, _, rfl, SqL.of hD', fun p hp2 => ?_⟩
      refine q p _ (sH.trans (same_upd0 hp2)) (Same.free sH hp2) ?_
      rw [upd_same, tab_tb, zs_tb hl]
def spScaled : Sp := fun vs H Q _ => ∃ (t : Addr) (xs : List Int) (c : Int), vs = [.ref t, .int c] ∧ H t = some (tp xs) ∧ xs.length ≤ 100 ∧ (∀ x ∈ xs, sm x) ∧ sm c ∧ ∀ p H', Same H H' → H p = none → H' p = some (tp (xs.map fun x => c * x)) → Q (.ref p) H'
theorem ok_law_scaled (T : Facts K mg) : FnOk P w K mg base CX0 1 T.f_law_scaled T.fd_law_scaled ["_law_form_here", "_law_factor"] spScaled := by
  refine T.F_law_scaled.ok sc_law_scaled (fun vs H Q E h => ?_) (fun cdv A outer s H vs Q E hr h => ?_)
  · obtain ⟨t, xs, c, rfl, _⟩ := h
    rfl
  · obtain ⟨t, xs, c, rfl, ht, hl, hs, hc, q⟩ := h
    refine ⟨_, (PSs.nox (pss_one (ps_ret (pe_tupleOf (by rfl) T.z_tuple (pe_lc (own := [("_law_entry", 2)]) (g := (gName 2)) (tt := tYes) (by rfl) sc_law_scaled.nd (pi_tup (pv 0)) (blkOk_by (N := N_law_scaled) (sc := defScope s_law_scaled) (by decide +kernel)) (fun _ _ _ _ _ => (pg_name (i := 2) sc_law_scaled.nd rfl (.inl rfl))) (fun _ _ _ _ _ => pts_nil) (fun _ _ _ _ _ => (pe_op op_mulW (pv 1) (pv 2)))))))), ?_⟩
    refine ⟨_, rfl, t, rfl, ⟨_, SqT.of ht⟩, fun D hD => lc_tup (xs := xs.map V.int) (fun j H' => H' = upd H D (.lst (tab j fun k => c * co xs k))) rfl (fun j H' _ hP => ?_) (fun j x H' hx hP => ?_) (fun H' hP => ?_)⟩
    · rw [hP]
      exact SqT.of (same_upd0 hD _ _ ht)
    · subst hP
      obtain ⟨hj, rfl⟩ := int_get hx
      refine ⟨rfl, ⟨_, rfl, _, rfl, _, _, rfl, rfl, sm_mul hc (sm_co hs hj), _, upd_same, ?_, ?_⟩⟩
      · rw [tab_len]
        exact small1000 (by omega)
      · rw [upd_upd, ← tab_snoc]
    · subst hP
      rw [List.length_map, tab_tb, tb_map (fun x => c * x) xs]
      refine .inl ⟨D, _, rfl, SqL.of upd_same, fun p hp2 => ?_⟩
      exact q p _ ((same_upd0 hD).trans (same_upd0 hp2)) (Same.free (same_upd0 hD) hp2) upd_same
end
end K13

set_option Elab.async false
set_option linter.all false
set_option maxRecDepth 100000
set_option maxHeartbeats 4000000
namespace K13
open PySem PySem.Spec PyProof.Rows L2 StX RZ MyR SlX OwnR OwnF EnumT
section
variable {P : Program} {w : World} {K : PySem.W.Frag} {mg : Str → Option Value} {base : Heap}
def spProd : Sp := fun vs H Q _ => ∃ (a b : Addr) (xs ys : List Int), vs = [.ref a, .ref b] ∧ H a = some (tp xs) ∧ H b = some (tp ys) ∧ xs ≠ [] ∧ ys ≠ [] ∧ xs.length ≤ 100 ∧ ys.length ≤ 100 ∧ (∀ x ∈ xs, sm x) ∧ (∀ x ∈ ys, sm x) ∧ ∀ p H', Same H H' → H p = none → H' p = some (tp (ml xs ys)) → Q (.ref p) H'
theorem ok_law_product (T : Facts K mg) : FnOk P w K mg base CX0 1 T.f_law_product T.fd_law_product ["_law_one", "_law_other"] spProd := by
  refine T.F_law_product.ok sc_law_product (fun vs H Q E h => ?_) (fun cdv A outer s H vs Q E hr h => ?_)
  · obtain ⟨a, b, xs, ys, rfl, _⟩ := h
    rfl
  · obtain ⟨a, b, xs, ys, rfl, ha, hb, nx, ny, lx, ly, hx, hy, q⟩ := h
    have px : 0 < xs.length := List.length_pos_iff.mpr nx
    have py : 0 < ys.length := List.length_pos_iff.mpr ny
    refine ⟨_, (PSs.nox (pss_cons (ps_setLc (i := 2) (own := [("_law_place", 3)]) (g := (gName 3)) (tt := tYes) rfl sc_law_product.nd rfl rfl (sw_true rfl rfl rfl (by decide +kernel)) (pi_range1 (by rfl) T.z_range (pa_cons (pe_op op_sub (pe_op op_add (pe_callB call_len_seq (by rfl) T.z_len (by decide +kernel) (pa_cons (pv 0) pa_nil)) (pe_callB call_len_seq (by rfl) T.z_len (by decide +kernel) (pa_cons (pv 1) pa_nil))) pe_int) pa_nil)) (blkOk_by (N := N_law_product) (sc := defScope s_law_product) (by decide +kernel)) (fun _ _ _ _ _ => (pg_name (i := 3) sc_law_product.nd rfl (.inl rfl))) (fun _ _ _ _ _ => pts_nil) (fun _ _ _ _ _ => pe_int))
    (pss_cons (ps_for PassesOwn.never (by rfl) (pi_enumT (by rfl) T.z_enumerate (pa_cons (pv 0) pa_nil)) (pg_tup (by rfl) (pgs_cons (pg_name (i := 4) sc_law_product.nd rfl (.inl rfl)) (pgs_cons (pg_name (i := 5) sc_law_product.nd rfl (.inl rfl)) pgs_nil)))
      (pss_one (ps_for PassesOwn.never (by rfl) (pi_enumT (by rfl) T.z_enumerate (pa_cons (pv 1) pa_nil)) (pg_tup (by rfl) (pgs_cons (pg_name (i := 3) sc_law_product.nd rfl (.inl rfl)) (pgs_cons (pg_name (i := 6) sc_law_product.nd rfl (.inl rfl)) pgs_nil)))
        (pss_one (ps_asg (pe_op op_add (pe_ix ix_list (pv 2) (pe_op op_add (pv 4) (pv 3)) (fun _ _ => rfl)) (pe_op op_mulW (pv 5) (pv 6))) (pg_sub (pv 2) (pe_op op_add (pv 4) (pv 3)) set_list))))))
    (pss_one (ps_ret (pe_tupleOf (by rfl) T.z_tuple (pv 2))))))), ?_⟩
    refine ⟨_, rfl, a, _, rfl, .inr (SqT.of ha), _, rfl, b, _, rfl, .inr (SqT.of hb), ?_⟩
    rw [List.length_map, List.length_map]
    obtain ⟨N, hN⟩ : ∃ N, N = xs.length + ys.length - 1 := ⟨_, rfl⟩
    have eN : (((xs.length : Int) + (ys.length : Int) - 1)).toNat = N := by omega
    refine ⟨_, _, rfl, rfl, _, _, rfl, rfl, _, rfl, (by show -(2 ^ 62) ≤ (xs.length : Int) + (ys.length : Int) - 1; omega), (by show (xs.length : Int) + (ys.length : Int) - 1 < 2 ^ 62; omega), fun D hD => lc_range (n := _) (fun j H' => H' = upd H D (.lst (List.replicate j (V.int 0)))) rfl (fun j H' hj hP => ?_) (fun H' hP => ?_)⟩
    · subst hP
      have hj2 : j < N := by rw [← eN]; exact hj
      refine ⟨rfl, ⟨_, upd_same, ?_, ?_⟩⟩
      · rw [List.length_replicate]
        exact small1000 (by omega)
      · rw [upd_upd, List.replicate_succ']
    · subst hP
      show _
      rw [show List.replicate (((xs.length : Int) + (ys.length : Int) - 1)).toNat (V.int 0) = tab N (fun k => cv (xs.take 0) (co ys) k) by rw [eN, tab_rep]; rfl]
      have sD : ∀ o, Same H (upd H D o) := fun o => same_upd0 hD
      -- what stands in each turn: the list at D, and what stood before
      refine ⟨_, rfl, a, _, rfl, SqT.of (sD _ _ _ ha), for_enumT (xs := xs.map V.int) (fun i σ H' => ∃ y3 y4 y5 y6, σ = [some (.ref a), some (.ref b), some (.ref D), y3, y4, y5, y6] ∧ Same H H' ∧ H' D = some (.lst (tab N fun k => cv (xs.take i) (co ys) k))) ⟨none, none, none, none, rfl, sD _, upd_same⟩ (fun i σ H' hP => ?_) (fun i x B σ H' hxi hP hB => ?_) (fun σ H' hP => ?_)⟩
      · obtain ⟨y3, y4, y5, y6, _, sH, _⟩ := hP
        exact SqT.of (sH _ _ ha)
      · obtain ⟨y3, y4, y5, y6, rfl, sH, hL⟩ := hP
        obtain ⟨hi2, rfl⟩ := int_get hxi
        refine ⟨B, _, rfl, SqT.of upd_same, rfl, _, _, rfl, _, _, rfl, rfl, ?_⟩
        refine gen_upd H' B _ hB (fun H2 s2 _ => ?_)
        have sH2 := sH.trans s2
        have hL2 := s2 _ _ hL
        rw [tab_ext (g := J xs (co ys) i 0) fun k hk => J_0.symm] at hL2
        refine ⟨_, rfl, b, _, rfl, SqT.of (sH2 _ _ hb), for_enumT (xs := ys.map V.int) (fun j σ H3 => ∃ y3 y6, σ = [some (.ref a), some (.ref b), some (.ref D), y3, some (.int ((i : Nat) : Int)), some (.int (co xs i)), y6] ∧ Same H H3 ∧ H3 D = some (.lst (tab N (J xs (co ys) i j)))) ⟨y3, y6, rfl, sH2, hL2⟩ (fun j σ H3 hP => ?_) (fun j y B2 σ H3 hyj hP hB2 => ?_) (fun σ H3 hP => ?_)⟩
        · obtain ⟨y3, y6, _, sH3, _⟩ := hP
          exact SqT.of (sH3 _ _ hb)
        · obtain ⟨y3, y6, rfl, sH3, hL3⟩ := hP
          obtain ⟨hj2, rfl⟩ := int_get hyj
          refine ⟨B2, _, rfl, SqT.of upd_same, rfl, _, _, rfl, _, _, rfl, rfl, ?_⟩
          refine gen_upd H3 B2 _ hB2 (fun H4 s4 _ => ?_)
          have sH4 := sH3.trans s4
          have hL4 := s4 _ _ hL3
          have e1 : ((i : Nat) : Int) + ((j : Nat) : Int) = ((i + j : Nat) : Int) := by omega
          refine ⟨_, rfl, _, rfl, _, rfl, _, _, rfl, rfl, D, _, _, _, rfl, rfl, SqL.of hL4, at_of e1 (tab_get (by omega)), _, rfl, _, rfl, _, _, rfl, rfl, sm_mul (sm_co hx hi2) (sm_co hy hj2), _, _, rfl, rfl, ?_⟩
          refine ⟨_, rfl, _, rfl, _, rfl, _, _, rfl, rfl, D, _, _, (i + j), rfl, rfl, hL4, ?_, ?_⟩
          · rw [tab_len]
            exact ix_at e1 (by omega)
          · refine ⟨_, _, rfl, fun c o e => ?_, ?_⟩
            · rw [upd_ne (ne_of_none e hD)]
              exact sH4 _ _ e
            · rw [upd_same]
              show some (HO.lst ((tab N (J xs (co ys) i j)).set (i + j) (.int (J xs (co ys) i j (i + j) + co xs i * co ys j)))) = _
              rw [tab_set, tab_ext fun k hk => J_step]
        · obtain ⟨y3, y6, rfl, sH3, hL3⟩ := hP
          rw [List.length_map, tab_ext fun k hk => J_end hi2] at hL3
          exact ⟨_, _, _, _, rfl, sH3, hL3⟩
      · obtain ⟨y3, y4, y5, y6, rfl, sH, hL⟩ := hP
        rw [List.length_map, List.take_length, tab_tb] at hL
        refine ⟨_, rfl, .inl ⟨D, _, rfl, SqL.of hL, fun p hp => ?_⟩⟩
        refine q p _ (sH.trans (same_upd0 hp)) (Same.free sH hp) ?_
        rw [upd_same, hN]
        rfl
/-- the product of the first n -/
def pow (l : List Int) : Nat → List Int
  | 0 => [1]
  | n + 1 => ml (pow l n) l
def spPow : Sp := fun vs H Q _ => ∃ (a : Addr) (xs : List Int) (n : Nat), vs = [.ref a, .int n] ∧ H a = some (tp xs) ∧ xs ≠ [] ∧ xs.length ≤ 100 ∧ (∀ x ∈ xs, sm x) ∧ (∀ i, i < n → pow xs i ≠ [] ∧ (pow xs i).length ≤ 100 ∧ ∀ x ∈ pow xs i, sm x) ∧ n ≤ 100 ∧ ∀ p H', Same H H' → H' p = some (tp (pow xs n)) → Q (.ref p) H'
theorem ok_law_power (T : Facts K mg) : FnOk P w K mg base CX0 2 T.f_law_power T.fd_law_power ["_law_pair", "_law_times"] spPow := by
  have G_law_product : FnOk P w K mg base CX0 1 T.f_law_product T.fd_law_product ["_law_one", "_law_other"] spProd := ok_law_product T
  refine T.F_law_power.ok sc_law_power (fun vs H Q E h => ?_) (fun cdv A outer s H vs Q E hr h => ?_)
  · obtain ⟨a, xs, n, rfl, _⟩ := h
    rfl
  · obtain ⟨a, xs, n, rfl, ha, nx, lx, hx, hp, hn, q⟩ := h
    refine ⟨_, (PSs.nox (pss_cons (ps_set (i := 2) sc_law_power.nd rfl (.inl rfl) (pe_tup (pa_cons pe_int pa_nil)))
    (pss_cons (ps_for PassesOwn.never (by rfl) (pi_range1 (by rfl) T.z_range (pa_cons (pv 1) pa_nil)) (pg_name (i := 3) sc_law_power.nd rfl (.inl rfl))
      (pss_one (ps_set (i := 2) sc_law_power.nd rfl (.inl rfl) (pe_call G_law_product hr (by rfl) T.g_law_product T.F_law_product.kp T.b_law_product .nil pass0 (pa_cons (pv 2) (pa_cons (pv 0) pa_nil))))))
    (pss_one (ps_ret (pv 2)))))), ?_⟩
    refine ⟨(by show 1 ≤ sizeLine; decide), fun p0 n0 => ⟨_, rfl, n, rfl, by omega, by omega, for_range (n := (n : Int).toNat) (fun i σ H' => ∃ r y3, σ = [some (.ref a), some (.int n), some (.ref r), y3] ∧ Same H H' ∧ H' r = some (tp (pow xs i))) ⟨p0, none, rfl, same_upd0 n0, upd_same⟩ (fun i σ H' hi hP => ?_) (fun σ H' hP => ?_)⟩⟩
    · obtain ⟨r, y3, rfl, sH, hr2⟩ := hP
      obtain ⟨h1, h2, h3⟩ := hp i (by omega)
      exact ⟨_, rfl, _, rfl, r, a, _, xs, rfl, hr2, sH _ _ ha, h1, nx, h2, lx, h3, hx, fun p H2 s2 _ hp2 => ⟨p, _, rfl, sH.trans s2, hp2⟩⟩
    · obtain ⟨r, y3, rfl, sH, hr2⟩ := hP
      rw [Int.toNat_natCast] at hr2
      exact ⟨_, rfl, q r H' sH hr2⟩
end
end K13

set_option Elab.async false
set_option linter.all false
set_option maxRecDepth 100000
set_option maxHeartbeats 4000000
namespace K13
open PySem PySem.Spec PyProof.Rows L2 StX RZ MyR SlX OwnR OwnF EnumT
theorem first_of : ∀ ns : List Int, cont ns ≠ 0 → ∃ x r, ns.filter (fun x => x != 0) = x :: r ∧ sg ns = (if 0 < x then 1 else -1)
  | [], h => absurd rfl h
  | y :: ys, h => by
    by_cases c : y = 0
    · have hc : cont ys ≠ 0 := fun e => h (by
        show Nat.gcd y.natAbs (cont ys) = 0
        rw [c, e]
        rfl)
      obtain ⟨x, r, e1, e2⟩ := first_of ys hc
      refine ⟨x, r, ?_, ?_⟩
      · rw [List.filter_cons_of_neg (by rw [c]; decide)]
        exact e1
      · show (if y = 0 then sg ys else _) = _
        rw [if_pos c]
        exact e2
    · refine ⟨y, ys.filter (fun x => x != 0), ?_, ?_⟩
      · rw [List.filter_cons_of_pos (by simpa using c)]
      · show (if y = 0 then sg ys else if 0 < y then 1 else -1) = _
        rw [if_neg c]
section
variable {P : Program} {w : World} {K : PySem.W.Frag} {mg : Str → Option Value} {base : Heap}
theorem ok_law_plain (T : Facts K mg) : FnOk P w K mg base CX0 3 T.f_law_plain T.fd_law_plain ["_law_form_here"] spPrim := by
  have G_law_shared : FnOk P w K mg base CX0 2 T.f_law_shared T.fd_law_shared ["_law_numbers"] spShared := ok_law_shared T
  refine T.F_law_plain.ok sc_law_plain (fun vs H Q E h => ?_) (fun cdv A outer s H vs Q E hr h => ?_)
  · obtain ⟨t, ns, rfl, _⟩ := h
    rfl
  · obtain ⟨t, ns, rfl, ht, hl, hs, q⟩ := h
    refine ⟨_, (PSs.nox (pss_cons (ps_set (i := 1) sc_law_plain.nd rfl (.inr rfl) (pe_call G_law_shared hr (by rfl) T.g_law_shared T.F_law_shared.kp T.b_law_shared .nil pass0 (pa_cons (pv 0) pa_nil)))
    (pss_cons (ps_if (pt_cmpR op_eq (pv 1) pe_int (nomark _))
      (pss_one (ps_ret (pv 0)))
      pss_nil)
    (pss_cons (ps_set (i := 2) sc_law_plain.nd rfl (.inr rfl) (pe_ix ix_list (pe_lc (own := [("_law_entry", 3)]) (g := (gName 3)) (by rfl) sc_law_plain.nd (pi_tup (pv 0)) (blkOk_by (N := N_law_plain) (sc := defScope s_law_plain) (by decide +kernel)) (fun _ _ _ _ _ => (pg_name (i := 3) sc_law_plain.nd rfl (.inl rfl))) (fun _ _ _ _ _ => (pts_one (pt_cmpR op_ne (pv 3) pe_int (nomark _)))) (fun _ _ _ _ _ => (pv 3))) pe_int (fun _ _ => rfl)))
    (pss_one (ps_ret (pe_tupleOf (by rfl) T.z_tuple (pe_lc (own := [("_law_entry", 3)]) (g := (gName 3)) (tt := tYes) (by rfl) sc_law_plain.nd (pi_tup (pv 0)) (blkOk_by (N := N_law_plain) (sc := defScope s_law_plain) (by decide +kernel)) (fun _ _ _ _ _ => (pg_name (i := 3) sc_law_plain.nd rfl (.inl rfl))) (fun _ _ _ _ _ => pts_nil) (fun _ _ _ _ _ => (pe_op op_fdivZ (pv 3) (pe_ifExp (pt_cmpR op_gt (pv 2) pe_int (nomark _)) (pv 1) (pe_op op_sub pe_int (pv 1))))))))))))), ?_⟩
    refine ⟨_, rfl, t, ns, rfl, ht, _, rfl, rfl, _, rfl, ?_⟩
    by_cases c : cont ns = 0
    · rw [decide_eq_true (show V.int ((cont ns : Nat) : Int) = V.int 0 by rw [c]; rfl)]
      refine iteT ⟨_, rfl, q t H (Same.rf H) ?_⟩
      unfold prim
      rw [if_pos (by unfold part; rw [c]; exact Int.zero_mul _)]
      exact ht
    · rw [decide_eq_false fun z => c (Int.natCast_eq_zero.mp (V.int.inj z))]
      obtain ⟨x0, r0, e1, e2⟩ := first_of ns c
      have hpart : part ns = if 0 < x0 then ((cont ns : Nat) : Int) else 0 - ((cont ns : Nat) : Int) := by
        unfold part
        rw [e2]
        split
        · exact Int.mul_one _
        · rw [Int.mul_neg, Int.mul_one, Int.zero_sub]
      have hp0 : part ns ≠ 0 := fun e => c (by rw [← part_abs, e]; rfl)
      have hcd : CDivZ 0 (part ns) := ⟨hp0, Nat.lt_trans (PySem.Flt.log2_lt_of (k := 4000) (by decide) (sm_part hs)) (by decide)⟩
      refine iteF ⟨_, rfl, t, rfl, ⟨_, SqT.of ht⟩, fun D hD => lc_tup (xs := ns.map V.int) (fun j H' => Same H H' ∧ H' D = some (.lst (((ns.take j).filter (fun x => x != 0)).map V.int))) ⟨same_upd0 hD, upd_same⟩ (fun j H' _ hP => SqT.of (hP.1 _ _ ht)) (fun j x H' hx hP => ?_) (fun H1 hP => ?_)⟩
      · obtain ⟨sH, hL⟩ := hP
        obtain ⟨hj, rfl⟩ := int_get hx
        refine ⟨rfl, _, rfl, rfl, _, rfl, ?_⟩
        rw [take_snoc hj, List.filter_append]
        by_cases d : co ns j = 0
        · rw [decide_eq_true (show V.int (co ns j) = V.int 0 by rw [d])]
          refine iteF ⟨sH, ?_⟩
          rw [hL, List.filter_cons_of_neg (by rw [d]; decide), List.filter_nil, List.append_nil]
        · rw [decide_eq_false fun z => d (V.int.inj z)]
          refine iteT ⟨_, rfl, _, hL, ?_, fun b o e => ?_, ?_⟩
          · have h1 := List.length_filter_le (fun x => x != 0) (ns.take j)
            rw [List.length_take] at h1
            rw [List.length_map]
            exact small1000 (by omega)
          · rw [upd_ne (ne_of_none e hD)]
            exact sH _ _ e
          · rw [upd_same, List.filter_cons_of_pos (by simpa using d), List.filter_nil, List.map_append]
            rfl
      · obtain ⟨s1, hL⟩ := hP
        rw [List.length_map, List.take_length, e1] at hL
        refine ⟨D, _, _, .int x0, rfl, rfl, SqL.of hL, atI_nat (j := 0) rfl, ?_⟩
        have ht1 := s1 _ _ ht
        refine ⟨_, rfl, t, rfl, ⟨_, SqT.of ht1⟩, fun D2 hD2 => lc_tup (xs := ns.map V.int) (fun j H' => H' = upd H1 D2 (.lst (tab j fun k => (co ns k).fdiv (part ns)))) rfl (fun j H' _ hP => ?_) (fun j x H' hx hP => ?_) (fun H' hP => ?_)⟩
        · rw [hP]
          exact SqT.of (same_upd0 hD2 _ _ ht1)
        · subst hP
          obtain ⟨hj, rfl⟩ := int_get hx
          refine ⟨rfl, _, rfl, _, rfl, x0, 0, rfl, rfl, _, rfl, ?_⟩
          have fin : ∀ v : Int, v = part ns → True := fun _ _ => True.intro
          by_cases d : 0 < x0
          · rw [decide_eq_true d]
            rw [if_pos d] at hpart
            rw [hpart] at hcd
            refine iteT ⟨_, rfl, _, _, rfl, rfl, hcd, _, upd_same, ?_, ?_⟩
            · rw [tab_len]
              exact small1000 (by omega)
            · rw [upd_upd, ← tab_snoc, hpart]
          · rw [decide_eq_false d]
            rw [if_neg d] at hpart
            rw [hpart] at hcd
            refine iteF ⟨_, rfl, _, _, rfl, rfl, _, _, rfl, rfl, hcd, _, upd_same, ?_, ?_⟩
            · rw [tab_len]
              exact small1000 (by omega)
            · rw [upd_upd, ← tab_snoc, hpart]
        · subst hP
          rw [List.length_map, tab_tb, tb_map (fun x => x.fdiv (part ns)) ns]
          refine .inl ⟨D2, _, rfl, SqL.of upd_same, fun p hp2 => ?_⟩
          refine q p _ (s1.trans ((same_upd0 hD2).trans (same_upd0 hp2))) ?_
          rw [upd_same]
          unfold prim
          rw [if_neg hp0]
end
end K13

set_option Elab.async false
set_option linter.all false
set_option maxRecDepth 100000
set_option maxHeartbeats 4000000
namespace K13
open PySem PySem.Spec PyProof.Rows L2 StX RZ MyR SlX OwnR OwnF EnumT
theorem prim_len (l : List Int) : (prim l).length = l.length := by
  unfold prim
  split
  · rfl
  · rw [List.length_map]
theorem prim_mem {l : List Int} {b : Nat} (h : ∀ x ∈ l, x.natAbs ≤ b) : ∀ x ∈ prim l, x.natAbs ≤ b := by
  intro x hx
  unfold prim at hx
  by_cases c : part l = 0
  · rw [if_pos c] at hx
    exact h x hx
  · rw [if_neg c] at hx
    obtain ⟨y, hy, rfl⟩ := List.mem_map.mp hx
    have hd : part l ∣ y := Int.natAbs_dvd_natAbs.mp (by rw [part_abs]; exact Int.natAbs_dvd_natAbs.mpr (cont_dvd l y hy))
    obtain ⟨k, rfl⟩ := hd
    show ((part l * k).fdiv (part l)).natAbs ≤ b
    rw [Int.mul_fdiv_cancel_left _ c]
    refine Nat.le_trans ?_ (h _ hy)
    rw [Int.natAbs_mul]
    exact Nat.le_mul_of_pos_left _ (Int.natAbs_pos.mpr c)
section
variable {P : Program} {w : World} {K : PySem.W.Frag} {mg : Str → Option Value} {base : Heap}
theorem dc_ne {H : Hp} {d p : Addr} {xs : List V} (hd : Dc H d) (hp : H p = some (.tup xs)) : p ≠ d := fun e => by
  obtain ⟨x, y, z, h⟩ := hd
  rw [e, h] at hp
  cases hp
def spLine : Sp := fun vs H Q _ => ∃ (t : Addr) (u v : Int), vs = [.ref t] ∧ H t = some (tp [u, v]) ∧ ∀ p, H p = none → Q (.ref p) (upd H p (tp [v, 0 - u]))
theorem ok_law_line (T : Facts K mg) : FnOk P w K mg base CX0 1 T.f_law_line T.fd_law_line ["_law_point_here"] spLine := by
  refine T.F_law_line.ok sc_law_line (fun vs H Q E h => ?_) (fun cdv A outer s H vs Q E hr h => ?_)
  · obtain ⟨t, u, v, rfl, _⟩ := h
    rfl
  · obtain ⟨t, u, v, rfl, ht, q⟩ := h
    refine ⟨_, (PSs.nox (pss_one (ps_ret (pe_tup (pa_cons (pe_ix ix_tup (pv 0) pe_int (fun _ _ => rfl)) (pa_cons (pe_op op_sub pe_int (pe_ix ix_tup (pv 0) pe_int (fun _ _ => rfl))) pa_nil)))))), ?_⟩
    exact ⟨_, rfl, t, _, 1, _, rfl, rfl, SqT.of ht, atI_nat (j := 1) rfl, _, rfl, t, _, 0, _, rfl, rfl, SqT.of ht, atI_nat (j := 0) rfl, _, _, rfl, rfl, (by show 2 ≤ sizeLine; decide), fun p hp => q p hp⟩
/-- a drawn point -/
def spPoint : Sp := fun vs H Q _ => ∃ (d : Addr) (m : Nat), vs = [.ref d, .int m] ∧ Dc H d ∧ 1 ≤ m ∧ m ≤ 1000 ∧ ∀ p H' u v, Sx d H H' → Dc H' d → H' p = some (tp [u, v]) → u.natAbs ≤ m → v.natAbs ≤ m → Q (.ref p) H'
theorem ok_law_point (T : Facts K mg) : FnOk P w K mg base CX0 4 T.f_law_point T.fd_law_point ["_law_dice_here", "_law_most"] spPoint := by
  have G_law_near : FnOk P w K mg base CX0 2 T.f_law_near T.fd_law_near ["_law_dice_here", "_law_most"] spNear := ok_law_near T
  have G_law_plain : FnOk P w K mg base CX0 3 T.f_law_plain T.fd_law_plain ["_law_form_here"] spPrim := ok_law_plain T
  refine T.F_law_point.ok sc_law_point (fun vs H Q E h => ?_) (fun cdv A outer s H vs Q E hr h => ?_)
  · obtain ⟨d, m, rfl, _⟩ := h
    rfl
  · obtain ⟨d, m, rfl, hd, h1, h2, q⟩ := h
    refine ⟨_, (PSs.nox (pss_cons (ps_par (i := 2) (j := 3) (by rfl) sc_law_point.nd rfl rfl (by decide) rfl rfl (pa_cons (pe_call G_law_near (hr.mono (by decide)) (by rfl) T.g_law_near T.F_law_near.kp T.b_law_near .nil pass0 (pa_cons (pv 0) (pa_cons (pv 1) pa_nil))) (pa_cons (pe_call G_law_near (hr.mono (by decide)) (by rfl) T.g_law_near T.F_law_near.kp T.b_law_near .nil pass0 (pa_cons (pv 0) (pa_cons (pv 1) pa_nil))) pa_nil)) (by rfl))
    (pss_one (ps_ret (pe_ifExp (pt_cmpR (op_neD (hu64 hr)) (pe_tup (pa_cons (pv 2) (pa_cons (pv 3) pa_nil))) (pe_tup (pa_cons pe_int (pa_cons pe_int pa_nil))) (nomark _)) (pe_call G_law_plain hr (by rfl) T.g_law_plain T.F_law_plain.kp T.b_law_plain .nil pass0 (pa_cons (pe_tup (pa_cons (pv 2) (pa_cons (pv 3) pa_nil))) pa_nil)) (pe_tup (pa_cons pe_int (pa_cons pe_int pa_nil)))))))), ?_⟩
    have e15 : (10 : Int) ^ 15 = 1000000000000000 := by decide
    have z2 : 2 ≤ sizeLine := by decide
    refine ⟨_, rfl, _, rfl, d, m, rfl, hd, by omega, by rw [e15]; omega, fun u H1 u1 u2 s1 d1 => ⟨_, rfl, _, rfl, d, m, rfl, d1, by omega, by rw [e15]; omega, fun v H2 v1 v2 s2 d2 => ⟨_, _, rfl, ?_⟩⟩⟩
    have s12 := s1.trans s2
    refine ⟨_, rfl, _, rfl, z2, fun p1 n1 => gen_upd H2 p1 (tp [u, v]) n1 fun H3 s3 f3 => ⟨z2, fun p2 n2 => gen_upd H3 p2 (tp [0, 0]) n2 fun H4 s4 f4 => ?_⟩⟩
    refine ne_ints (xs := [u, v]) (ys := [0, 0]) (SqT.of (s4 _ _ f3)) (SqT.of f4) ?_
    have d4 := d2.same (s3.trans s4)
    have s14 : Sx d H H4 := s12.trans (Sx.of (s3.trans s4))
    by_cases c : [u, v] = [0, 0]
    · rw [decide_eq_true c]
      refine ⟨_, rfl, iteF ⟨z2, fun p3 n3 => gen_upd H4 p3 (tp [1, 0]) n3 fun H5 s5 f5 => ?_⟩⟩
      exact q p3 H5 1 0 (s14.trans (Sx.of s5)) (d4.same s5) f5 (by show 1 ≤ m; omega) (by show 0 ≤ m; omega)
    · rw [decide_eq_false c]
      refine ⟨_, rfl, iteT ⟨_, rfl, _, rfl, z2, fun p3 n3 => gen_upd H4 p3 (tp [u, v]) n3 fun H5 s5 f5 => ?_⟩⟩
      have hb : ∀ x ∈ [u, v], x.natAbs ≤ m := fun x hx => by
        simp only [List.mem_cons, List.not_mem_nil, or_false] at hx
        rcases hx with e | e <;> rw [e] <;> omega
      refine ⟨p3, [u, v], rfl, f5, by show 2 ≤ 1000; omega, fun x hx => Nat.lt_of_le_of_lt (hb x hx) (Nat.lt_of_le_of_lt h2 (by decide)), fun p H6 s6 hp => ?_⟩
      have hl := prim_len [u, v]
      have hm := prim_mem hb
      generalize prim [u, v] = r at hp hl hm
      match r, hl with
      | [x, y], _ => exact q p H6 x y (s14.trans (Sx.of (s5.trans s6))) (d4.same (s5.trans s6)) hp (hm x (by simp)) (hm y (by simp))
/-- a drawn form -/
def spSmall : Sp := fun vs H Q _ => ∃ (d : Addr) (n m : Nat), vs = [.ref d, .int n, .int m] ∧ Dc H d ∧ n ≤ 40 ∧ m ≤ 1000000000000 ∧ ∀ p H' l, Sx d H H' → Dc H' d → H' p = some (tp l) → l.length = n + 1 → (∀ x ∈ l, x.natAbs ≤ m) → Q (.ref p) H'
theorem ok_law_small_form (T : Facts K mg) : FnOk P w K mg base CX0 3 T.f_law_small_form T.fd_law_small_form ["_law_dice_here", "_law_degree", "_law_most"] spSmall := by
  have G_law_near : FnOk P w K mg base CX0 2 T.f_law_near T.fd_law_near ["_law_dice_here", "_law_most"] spNear := ok_law_near T
  refine T.F_law_small_form.ok sc_law_small_form (fun vs H Q E h => ?_) (fun cdv A outer s H vs Q E hr h => ?_)
  · obtain ⟨d, n, m, rfl, _⟩ := h
    rfl
  · obtain ⟨d, n, m, rfl, hd, hn, hm, q⟩ := h
    refine ⟨_, (PSs.nox (pss_one (ps_ret (pe_tupleOf (by rfl) T.z_tuple (pe_lc (own := [("_law_place", 3)]) (g := (gName 3)) (tt := tYes) (by rfl) sc_law_small_form.nd (pi_range1 (by rfl) T.z_range (pa_cons (pe_op op_add (pv 1) pe_int) pa_nil)) (blkOk_by (N := N_law_small_form) (sc := defScope s_law_small_form) (by decide +kernel)) (fun _ _ _ _ _ => (pg_name (i := 3) sc_law_small_form.nd rfl (.inl rfl))) (fun _ _ _ _ _ => pts_nil) (fun _ _ _ _ _ => (pe_call G_law_near hr (by rfl) T.g_law_near T.F_law_near.kp T.b_law_near .nil pass0 (pa_cons (pv 0) (pa_cons (pv 2) pa_nil))))))))), ?_⟩
    have e15 : (10 : Int) ^ 15 = 1000000000000000 := by decide
    refine ⟨_, rfl, _, _, rfl, rfl, _, rfl, (by show -(2 ^ 62) ≤ (n : Int) + 1; omega), (by show (n : Int) + 1 < 2 ^ 62; omega), fun D hD => lc_range (n := ((n : Int) + 1).toNat) (fun j H' => Sx d H H' ∧ Dc H' d ∧ ∃ l : List Int, H' D = some (.lst (l.map V.int)) ∧ l.length = j ∧ ∀ x ∈ l, x.natAbs ≤ m) ⟨Sx.of (same_upd0 hD), hd.same (same_upd0 hD), [], upd_same, rfl, fun x hx => by cases hx⟩ (fun j H' hj hP => ?_) (fun H' hP => ?_)⟩
    · obtain ⟨sH, dH, l, hL, hl, hb⟩ := hP
      have nD : D ≠ d := hd.ne hD
      refine ⟨rfl, _, rfl, _, rfl, d, m, rfl, dH, by omega, by rw [e15]; omega, fun r H2 r1 r2 s2 d2 => ⟨_, s2 D _ nD hL, ?_, fun b o hb2 e => ?_, ?_, l ++ [r], ?_, ?_, fun x hx => ?_⟩⟩
      · rw [List.length_map]
        exact small1000 (by omega)
      · rw [upd_ne (ne_of_none e hD)]
        exact (sH.trans s2) b o hb2 e
      · obtain ⟨x, y, z, e⟩ := d2
        exact ⟨x, y, z, by rw [upd_ne (Ne.symm nD)]; exact e⟩
      · rw [upd_same, List.map_append]
        rfl
      · rw [List.length_append, hl]
        rfl
      · rcases List.mem_append.mp hx with e | e
        · exact hb x e
        · rw [List.mem_singleton.mp e]
          omega
    · obtain ⟨sH, dH, l, hL, hl, hb⟩ := hP
      refine .inl ⟨D, _, rfl, SqL.of hL, fun p hp2 => ?_⟩
      exact q p _ l (sH.trans (Sx.of (same_upd0 hp2))) (dH.same (same_upd0 hp2)) upd_same (by omega) hb
end
end K13

set_option Elab.async false
set_option linter.all false
set_option maxRecDepth 100000
/-! how large the entries of products are -/
namespace K13
/-- the sum of the first n absolute values -/
def sN : Nat → (Nat → Int) → Nat
  | 0, _ => 0
  | n + 1, f => sN n f + (f n).natAbs
/-- the sum of the absolute values of the entries -/
def nm (l : List Int) : Nat := (l.map Int.natAbs).sum
theorem sN_add (f g : Nat → Int) : ∀ n, sN n (fun k => f k + g k) ≤ sN n f + sN n g
  | 0 => Nat.le_refl _
  | n + 1 => by
    have h1 := sN_add f g n
    have h2 := Int.natAbs_add_le (f n) (g n)
    show sN n (fun k => f k + g k) + (f n + g n).natAbs ≤ sN n f + (f n).natAbs + (sN n g + (g n).natAbs)
    omega
theorem sN_mul (c : Int) (f : Nat → Int) : ∀ n, sN n (fun k => c * f k) = c.natAbs * sN n f
  | 0 => rfl
  | n + 1 => by
    show sN n (fun k => c * f k) + (c * f n).natAbs = c.natAbs * (sN n f + (f n).natAbs)
    rw [sN_mul c f n, Int.natAbs_mul, Nat.mul_add]
theorem sN_sh (f : Nat → Int) : ∀ n, sN n (sh f) ≤ sN n f
  | 0 => Nat.le_refl _
  | 1 => Nat.zero_le _
  | n + 2 => by
    have key : ∀ n, sN (n + 1) (sh f) = sN n f := by
      intro n
      induction n with
      | zero => rfl
      | succ n ih =>
        show sN (n + 1) (sh f) + (f n).natAbs = sN n f + (f n).natAbs
        rw [ih]
    rw [key]
    exact Nat.le_add_right _ _
theorem sN_cv (g : Nat → Int) (n : Nat) : ∀ l : List Int, sN n (cv l g) ≤ nm l * sN n g
  | [] => by
    have : sN n (cv [] g) = 0 := by
      induction n with
      | zero => rfl
      | succ n ih => show sN n (cv [] g) + (0 : Int).natAbs = 0; rw [ih]; rfl
    omega
  | x :: xs => by
    have h1 := sN_cv g n xs
    have e : sN n (cv (x :: xs) g) = sN n (fun k => x * g k + sh (cv xs g) k) := by
      rw [show cv (x :: xs) g = fun k => x * g k + sh (cv xs g) k from funext (cv_cons x xs g)]
    have h2 := sN_add (fun k => x * g k) (sh (cv xs g)) n
    have h3 := sN_sh (cv xs g) n
    rw [e]
    rw [sN_mul] at h2
    show _ ≤ (x.natAbs + nm xs) * sN n g
    rw [Nat.add_mul]
    omega
theorem nm_snoc (l : List Int) (x : Int) : nm (l ++ [x]) = nm l + x.natAbs := by
  unfold nm
  rw [List.map_append, List.sum_append]
  simp
theorem nm_tb (f : Nat → Int) : ∀ n, nm (tb n f) = sN n f
  | 0 => rfl
  | n + 1 => by
    have e : tb (n + 1) f = tb n f ++ [f n] := by
      unfold tb
      rw [List.range_succ, List.map_append]
      rfl
    rw [e, nm_snoc, nm_tb f n]
    rfl
theorem nm_mem : ∀ {l : List Int} {x : Int}, x ∈ l → x.natAbs ≤ nm l
  | y :: ys, x, h => by
    show x.natAbs ≤ y.natAbs + nm ys
    rcases List.mem_cons.mp h with e | e
    · rw [e]; omega
    · have := nm_mem e; omega
theorem sN_co (l : List Int) (n : Nat) : sN n (co l) ≤ nm l := by
  by_cases h : n ≤ l.length
  · have mono : ∀ k, sN n (co l) ≤ sN (n + k) (co l) := by
      intro k
      induction k with
      | zero => exact Nat.le_refl _
      | succ k ih => exact Nat.le_trans ih (Nat.le_add_right _ _)
    have h1 := mono (l.length - n)
    rw [show n + (l.length - n) = l.length by omega] at h1
    rw [← nm_tb (co l) l.length, tb_co] at h1
    exact h1
  · have far : ∀ k, sN (l.length + k) (co l) = sN l.length (co l) := by
      intro k
      induction k with
      | zero => rfl
      | succ k ih =>
        show sN (l.length + k) (co l) + (co l (l.length + k)).natAbs = _
        rw [ih, co_far (by omega)]
        rfl
    have h1 := far (n - l.length)
    rw [show l.length + (n - l.length) = n by omega] at h1
    rw [h1, ← nm_tb (co l) l.length, tb_co]
    exact Nat.le_refl _
theorem nm_ml (l m : List Int) : nm (ml l m) ≤ nm l * nm m := by
  unfold ml
  rw [nm_tb]
  exact Nat.le_trans (sN_cv _ _ l) (Nat.mul_le_mul (Nat.le_refl _) (sN_co m _))
theorem nm_pl : ∀ (l m : List Int), nm (pl l m) ≤ nm l + nm m
  | [], _ => Nat.zero_le _
  | _ :: _, [] => Nat.zero_le _
  | x :: xs, y :: ys => by
    have h1 := nm_pl xs ys
    have h2 := Int.natAbs_add_le x y
    show (x + y).natAbs + nm (pl xs ys) ≤ x.natAbs + nm xs + (y.natAbs + nm ys)
    omega
theorem nm_scale (c : Int) : ∀ l : List Int, nm (l.map (c * ·)) = c.natAbs * nm l
  | [] => rfl
  | x :: xs => by
    show (c * x).natAbs + nm (xs.map (c * ·)) = c.natAbs * (x.natAbs + nm xs)
    rw [nm_scale c xs, Int.natAbs_mul, Nat.mul_add]
theorem nm_le {b : Nat} : ∀ {l : List Int}, (∀ x ∈ l, x.natAbs ≤ b) → nm l ≤ l.length * b
  | [], _ => Nat.zero_le _
  | x :: xs, h => by
    have h1 := nm_le (l := xs) fun y hy => h y (List.mem_cons_of_mem _ hy)
    have h2 := h x List.mem_cons_self
    show x.natAbs + nm xs ≤ (xs.length + 1) * b
    rw [Nat.succ_mul]
    omega
end K13

set_option Elab.async false
set_option linter.all false
set_option maxRecDepth 100000
set_option maxHeartbeats 4000000
namespace K13
open PySem PySem.Spec PyProof.Rows L2 StX RZ MyR SlX OwnR OwnF EnumT
section
variable {P : Program} {w : World} {K : PySem.W.Frag} {mg : Str → Option Value} {base : Heap}
end
end K13

set_option Elab.async false
set_option linter.all false
set_option maxRecDepth 100000
set_option maxHeartbeats 4000000
namespace K13
open PySem PySem.Spec PyProof.Rows L2 StX RZ MyR SlX OwnR OwnF EnumT
/-- the product of the first i rows -/
def allP (ls : List (List Int)) (i : Nat) : List Int := (ls.take i).foldl ml [1]
theorem allP_succ {ls : List (List Int)} {i : Nat} (h : i < ls.length) : allP ls (i + 1) = ml (allP ls i) ls[i] := by
  unfold allP
  rw [List.take_add_one, List.getElem?_eq_getElem h, List.foldl_append]
  rfl
section
variable {P : Program} {w : World} {K : PySem.W.Frag} {mg : Str → Option Value} {base : Heap}
def spAll : Sp := fun vs H Q _ => ∃ (l : Addr) (rs : List Addr) (ls : List (List Int)), vs = [.ref l] ∧ H l = some (.lst (rs.map V.ref)) ∧ rs.length = ls.length ∧ (∀ i (h : i < ls.length) (h' : i < rs.length), H rs[i] = some (tp ls[i]) ∧ Rw ls[i]) ∧ (∀ i, i < ls.length → Rw (allP ls i)) ∧ ∀ p H', Same H H' → H' p = some (tp (allP ls ls.length)) → Q (.ref p) H'
theorem ok_law_all_product (T : Facts K mg) : FnOk P w K mg base CX0 2 T.f_law_all_product T.fd_law_all_product ["_law_forms"] spAll := by
  have G_law_product : FnOk P w K mg base CX0 1 T.f_law_product T.fd_law_product ["_law_one", "_law_other"] spProd := ok_law_product T
  refine T.F_law_all_product.ok sc_law_all_product (fun vs H Q E h => ?_) (fun cdv A outer s H vs Q E hr h => ?_)
  · obtain ⟨l, rs, ls, rfl, _⟩ := h
    rfl
  · obtain ⟨l, rs, ls, rfl, hl, hlen, hrow, hall, q⟩ := h
    refine ⟨_, (PSs.nox (pss_cons (ps_set (i := 1) sc_law_all_product.nd rfl (.inl rfl) (pe_tup (pa_cons pe_int pa_nil)))
    (pss_cons (ps_for PassesOwn.never (by rfl) (pi_list (pv 0)) (pg_name (i := 2) sc_law_all_product.nd rfl (.inl rfl))
      (pss_one (ps_set (i := 1) sc_law_all_product.nd rfl (.inl rfl) (pe_call G_law_product hr (by rfl) T.g_law_product T.F_law_product.kp T.b_law_product .nil pass0 (pa_cons (pv 1) (pa_cons (pv 2) pa_nil))))))
    (pss_one (ps_ret (pv 1)))))), ?_⟩
    refine ⟨(by show 1 ≤ sizeLine; decide), fun p0 n0 => ⟨_, rfl, l, rfl, ⟨_, SqL.of (same_upd0 n0 _ _ hl)⟩, for_list (xs := rs.map V.ref) (fun i σ H' => ∃ r y, σ = [some (.ref l), some (.ref r), y] ∧ Same H H' ∧ H' r = some (tp (allP ls i))) ⟨p0, none, rfl, same_upd0 n0, upd_same⟩ (fun i σ H' _ hP => ?_) (fun i x σ H' hx hP => ?_) (fun σ H' hP => ?_)⟩⟩
    · obtain ⟨r, y, _, sH, _⟩ := hP
      exact SqL.of (sH _ _ hl)
    · obtain ⟨r, y, rfl, sH, hr2⟩ := hP
      rw [List.getElem?_map] at hx
      obtain ⟨b, hb, rfl⟩ := Option.map_eq_some_iff.mp hx
      obtain ⟨h1, e1⟩ := List.getElem?_eq_some_iff.mp hb
      have h2 : i < ls.length := by omega
      obtain ⟨hb2, rb⟩ := hrow i h2 h1
      rw [e1] at hb2
      have ra := hall i h2
      exact ⟨_, rfl, _, rfl, r, b, _, ls[i], rfl, hr2, sH _ _ hb2, ra.ne, rb.ne, ra.len, rb.len, ra.sm, rb.sm, fun p H2 s2 _ hp2 => ⟨p, _, rfl, sH.trans s2, by rw [allP_succ h2]; exact hp2⟩⟩
    · obtain ⟨r, y, rfl, sH, hr2⟩ := hP
      rw [List.length_map, hlen] at hr2
      exact ⟨_, rfl, q r H' sH hr2⟩
end
end K13

set_option Elab.async false
set_option linter.all false
set_option maxRecDepth 100000
/-! the primitive row of a primitive row -/
namespace K13
end K13

set_option Elab.async false
set_option linter.all false
set_option maxRecDepth 100000
/-! sums of rows, rows of 0 -/
namespace K13
theorem zs_one : ∀ xs ys : List Int, zs 1 xs ys = pl xs ys
  | [], _ => rfl
  | _ :: _, [] => rfl
  | x :: xs, y :: ys => by
    show (x + 1 * y) :: zs 1 xs ys = (x + y) :: pl xs ys
    rw [zs_one xs ys, Int.one_mul]
end K13

set_option Elab.async false
set_option linter.all false
set_option maxRecDepth 100000
set_option maxHeartbeats 4000000
namespace K13
open PySem PySem.Spec PyProof.Rows L2 StX RZ MyR SlX OwnR OwnF EnumT
/-! ### drawn forms -/
/-- a row of a degree, with its size -/
structure Bd (l : List Int) (n b : Nat) : Prop where
  len : l.length = n + 1
  nm : nm l ≤ b
theorem Bd.ne {l : List Int} {n b : Nat} (h : Bd l n b) : l ≠ [] := fun e => by
  have := h.len
  rw [e] at this
  cases this
theorem Bd.mono {l : List Int} {n b c : Nat} (h : Bd l n b) (k : b ≤ c) : Bd l n c := ⟨h.len, Nat.le_trans h.nm k⟩
theorem Bd.mem {l : List Int} {n b : Nat} (h : Bd l n b) : ∀ x ∈ l, x.natAbs ≤ b := fun x hx => Nat.le_trans (nm_mem hx) h.nm
theorem Bd.rw {l : List Int} {n b : Nat} (h : Bd l n b) (hn : n ≤ 99) (hb : b < 2 ^ 4000) : Rw l := ⟨h.ne, by rw [h.len]; omega, fun x hx => Nat.lt_of_le_of_lt (h.mem x hx) hb⟩
theorem bd_ml {l m : List Int} {n k b c : Nat} (h : Bd l n b) (g : Bd m k c) : Bd (ml l m) (n + k) (b * c) :=
  ⟨by rw [ml_len, h.len, g.len]; omega, Nat.le_trans (nm_ml l m) (Nat.mul_le_mul h.nm g.nm)⟩
theorem bd_one : Bd [1] 0 1 := ⟨rfl, Nat.le_refl _⟩
theorem bd_line {u v : Int} {m : Nat} (hu : u.natAbs ≤ m) (hv : v.natAbs ≤ m) : Bd [v, 0 - u] 1 (2 * m) := ⟨rfl, by
  show v.natAbs + ((0 - u).natAbs + 0) ≤ _
  omega⟩
theorem bd_pair {u v : Int} {m : Nat} (hu : u.natAbs ≤ m) (hv : v.natAbs ≤ m) : Bd [u, v] 1 (2 * m) := ⟨rfl, by
  show u.natAbs + (v.natAbs + 0) ≤ _
  omega⟩
theorem bd_small {l : List Int} {n m : Nat} (hl : l.length = n + 1) (h : ∀ x ∈ l, x.natAbs ≤ m) : Bd l n ((n + 1) * m) := ⟨hl, by
  have := nm_le h
  rw [hl] at this
  exact this⟩
theorem bd_pow {l : List Int} {b : Nat} (h : Bd l 1 b) : ∀ i, Bd (pow l i) i (b ^ i)
  | 0 => bd_one
  | i + 1 => by
    rw [Nat.pow_succ]
    exact bd_ml (bd_pow h i) h
theorem bd_all {ls : List (List Int)} {b : Nat} (h : ∀ l ∈ ls, Bd l 1 b) : ∀ i, i ≤ ls.length → Bd (allP ls i) i (b ^ i)
  | 0, _ => bd_one
  | i + 1, hi => by
    rw [Nat.pow_succ, allP_succ hi]
    exact bd_ml (bd_all h i (by omega)) (h _ (List.getElem_mem hi))
theorem bd_zs {l m : List Int} {n b c : Nat} (h : Bd l n b) (g : Bd m n c) : Bd (zs 1 l m) n (b + c) := by
  rw [zs_one]
  exact ⟨by rw [pl_len (by rw [h.len, g.len]), h.len], Nat.le_trans (nm_pl l m) (Nat.add_le_add h.nm g.nm)⟩
theorem bd_scale {l : List Int} {n b d : Nat} {c : Int} (h : Bd l n b) (hc : c.natAbs ≤ d) : Bd (l.map (c * ·)) n (d * b) := ⟨by rw [List.length_map, h.len], by
  rw [nm_scale]
  exact Nat.mul_le_mul hc h.nm⟩
theorem p6 {i : Nat} (h : i ≤ 10) : 6 ^ i ≤ 60466176 := Nat.le_trans (Nat.pow_le_pow_right (by decide) h) (by decide)
theorem iteI {i j : Int} {A B : Prop} (h1 : i = j → A) (h2 : i ≠ j → B) : if decide (V.int i = V.int j) = true then A else B := by
  by_cases h : i = j
  · rw [decide_eq_true (by rw [h])]
    exact iteT (h1 h)
  · rw [decide_eq_false fun z => h (V.int.inj z)]
    exact iteF (h2 h)
section
variable {P : Program} {w : World} {K : PySem.W.Frag} {mg : Str → Option Value} {base : Heap}
def spDrawn : Sp := fun vs H Q _ => ∃ (d : Addr) (n : Nat), vs = [.ref d, .int n] ∧ Dc H d ∧ n ≤ 10 ∧ ∀ p H' l, Sx d H H' → Dc H' d → H' p = some (tp l) → Bd l n (10 ^ 14) → Q (.ref p) H'
theorem ok_law_form (T : Facts K mg) : FnOk P w K mg base CX0 5 T.f_law_form T.fd_law_form ["_law_dice_here", "_law_degree"] spDrawn := by
  have G_law_roll : FnOk P w K mg base CX0 1 T.f_law_roll T.fd_law_roll ["_law_dice_here", "_law_total"] spRoll2 := (ok_law_roll T).imp roll2
  have G_law_near : FnOk P w K mg base CX0 2 T.f_law_near T.fd_law_near ["_law_dice_here", "_law_most"] spNear := ok_law_near T
  have G_law_plus := ok_law_plus (P := P) (w := w) (base := base) T
  have G_law_scaled := ok_law_scaled (P := P) (w := w) (base := base) T
  have G_law_product := ok_law_product (P := P) (w := w) (base := base) T
  have G_law_all_product := ok_law_all_product (P := P) (w := w) (base := base) T
  have G_law_power := ok_law_power (P := P) (w := w) (base := base) T
  have G_law_line := ok_law_line (P := P) (w := w) (base := base) T
  have G_law_point := ok_law_point (P := P) (w := w) (base := base) T
  have G_law_small_form := ok_law_small_form (P := P) (w := w) (base := base) T
  refine T.F_law_form.ok sc_law_form (fun vs H Q E h => ?_) (fun cdv A outer s H vs Q E hr h => ?_)
  · obtain ⟨d, n, rfl, _⟩ := h
    rfl
  · obtain ⟨d, n, rfl, hd, hn, q⟩ := h
    have e15 : (10 : Int) ^ 15 = 1000000000000000 := by decide
    have e14 : (10 : Nat) ^ 14 = 100000000000000 := by decide
    rw [e14] at q
    have lg : ∀ i : Nat, i < 100 → (i : Int).natAbs.log2 < 9000 := fun i hi => Nat.lt_trans (PySem.Flt.log2_lt_of (k := 10) (by decide) (by show i < 2 ^ 10; omega)) (by decide)
    refine ⟨_, (PSs.nox (pss_cons (ps_set (i := 2) sc_law_form.nd rfl (.inl rfl) (pe_call G_law_roll (hr.mono (by decide)) (by rfl) T.g_law_roll T.F_law_roll.kp T.b_law_roll .nil pass0 (pa_cons (pv 0) (pa_cons pe_int pa_nil))))
    (pss_cons (ps_if (pt_cmpR op_eq (pv 2) pe_int (nomark _))
      (pss_one (ps_ret (pe_call G_law_all_product (hr.mono (by decide)) (by rfl) T.g_law_all_product T.F_law_all_product.kp T.b_law_all_product .nil pass0 (pa_cons (pe_lc (own := [("_law_turn", 3)]) (g := (gName 3)) (tt := tYes) (by rfl) sc_law_form.nd (pi_range1 (by rfl) T.z_range (pa_cons (pv 1) pa_nil)) (blkOk_by (N := N_law_form) (sc := defScope s_law_form) (by decide +kernel)) (fun _ _ _ _ _ => (pg_name (i := 3) sc_law_form.nd rfl (.inl rfl))) (fun _ _ _ _ _ => pts_nil) (fun _ _ _ _ _ => (pe_call G_law_line (hr.mono (by decide)) (by rfl) T.g_law_line T.F_law_line.kp T.b_law_line .nil pass0 (pa_cons (pe_call G_law_point hr (by rfl) T.g_law_point T.F_law_point.kp T.b_law_point .nil pass0 (pa_cons (pv 0) (pa_cons pe_int pa_nil))) pa_nil)))) pa_nil))))
      pss_nil)
    (pss_cons (ps_if (pt_cmpR op_eq (pv 2) pe_int (nomark _))
      (pss_cons (ps_par (i := 4) (j := 5) (by rfl) sc_law_form.nd rfl rfl (by decide) rfl rfl (pa_cons (pe_call G_law_line (hr.mono (by decide)) (by rfl) T.g_law_line T.F_law_line.kp T.b_law_line .nil pass0 (pa_cons (pe_call G_law_point hr (by rfl) T.g_law_point T.F_law_point.kp T.b_law_point .nil pass0 (pa_cons (pv 0) (pa_cons pe_int pa_nil))) pa_nil)) (pa_cons (pe_call G_law_roll (hr.mono (by decide)) (by rfl) T.g_law_roll T.F_law_roll.kp T.b_law_roll .nil pass0 (pa_cons (pv 0) (pa_cons (pe_op op_add (pv 1) pe_int) pa_nil))) pa_nil)) (by rfl))
      (pss_one (ps_ret (pe_call G_law_product (hr.mono (by decide)) (by rfl) T.g_law_product T.F_law_product.kp T.b_law_product .nil pass0 (pa_cons (pe_call G_law_power (hr.mono (by decide)) (by rfl) T.g_law_power T.F_law_power.kp T.b_law_power .nil pass0 (pa_cons (pv 4) (pa_cons (pv 5) pa_nil))) (pa_cons (pe_call G_law_small_form (hr.mono (by decide)) (by rfl) T.g_law_small_form T.F_law_small_form.kp T.b_law_small_form .nil pass0 (pa_cons (pv 0) (pa_cons (pe_op op_sub (pv 1) (pv 5)) (pa_cons pe_int pa_nil)))) pa_nil))))))
      pss_nil)
    (pss_cons (ps_if (pt_cmpR op_eq (pv 2) pe_int (nomark _))
      (pss_cons (ps_set (i := 6) sc_law_form.nd rfl (.inl rfl) (pe_tupleOf (by rfl) T.z_tuple (pe_lc (own := [("_law_place", 7)]) (g := (gName 7)) (tt := tYes) (by rfl) sc_law_form.nd (pi_range1 (by rfl) T.z_range (pa_cons (pe_op op_add (pv 1) pe_int) pa_nil)) (blkOk_by (N := N_law_form) (sc := defScope s_law_form) (by decide +kernel)) (fun _ _ _ _ _ => (pg_name (i := 7) sc_law_form.nd rfl (.inl rfl))) (fun _ _ _ _ _ => pts_nil) (fun _ _ _ _ _ => pe_int))))
      (pss_cons (ps_for PassesOwn.never (by rfl) (pi_range1 (by rfl) T.z_range (pa_cons (pe_op op_add pe_int (pe_call G_law_roll (hr.mono (by decide)) (by rfl) T.g_law_roll T.F_law_roll.kp T.b_law_roll .nil pass0 (pa_cons (pv 0) (pa_cons pe_int pa_nil)))) pa_nil)) (pg_name (i := 3) sc_law_form.nd rfl (.inl rfl))
        (pss_one (ps_set (i := 6) sc_law_form.nd rfl (.inl rfl) (pe_call G_law_plus (hr.mono (by decide)) (by rfl) T.g_law_plus T.F_law_plus.kp T.b_law_plus .nil pass0 (pa_cons (pv 6) (pa_cons (pe_call G_law_scaled (hr.mono (by decide)) (by rfl) T.g_law_scaled T.F_law_scaled.kp T.b_law_scaled .nil pass0 (pa_cons (pe_call G_law_power (hr.mono (by decide)) (by rfl) T.g_law_power T.F_law_power.kp T.b_law_power .nil pass0 (pa_cons (pe_call G_law_point hr (by rfl) T.g_law_point T.F_law_point.kp T.b_law_point .nil pass0 (pa_cons (pv 0) (pa_cons pe_int pa_nil))) (pa_cons (pv 1) pa_nil))) (pa_cons (pe_call G_law_near (hr.mono (by decide)) (by rfl) T.g_law_near T.F_law_near.kp T.b_law_near .nil pass0 (pa_cons (pv 0) (pa_cons pe_int pa_nil))) pa_nil))) pa_nil))))))
      (pss_one (ps_ret (pv 6)))))
      pss_nil)
    (pss_cons (ps_if (pt_cmpR op_eq (pv 2) pe_int (nomark _))
      (pss_one (ps_ret (pe_tupleOf (by rfl) T.z_tuple (pe_lc (own := [("_law_place", 7)]) (g := (gName 7)) (tt := tYes) (by rfl) sc_law_form.nd (pi_range1 (by rfl) T.z_range (pa_cons (pe_op op_add (pv 1) pe_int) pa_nil)) (blkOk_by (N := N_law_form) (sc := defScope s_law_form) (by decide +kernel)) (fun _ _ _ _ _ => (pg_name (i := 7) sc_law_form.nd rfl (.inl rfl))) (fun _ _ _ _ _ => pts_nil) (fun _ _ _ _ _ => (pe_op op_mulW (pe_call G_law_near (hr.mono (by decide)) (by rfl) T.g_law_near T.F_law_near.kp T.b_law_near .nil pass0 (pa_cons (pv 0) (pa_cons pe_int pa_nil))) (pe_call G_law_roll (hr.mono (by decide)) (by rfl) T.g_law_roll T.F_law_roll.kp T.b_law_roll .nil pass0 (pa_cons (pv 0) (pa_cons pe_int pa_nil)))))))))
      pss_nil)
    (pss_cons (ps_if (pw_and (pt_cmpR op_eq (pv 2) pe_int (nomark _)) (pw_and1 (pt_cmpR op_eq (pe_call G_law_roll (hr.mono (by decide)) (by rfl) T.g_law_roll T.F_law_roll.kp T.b_law_roll .nil pass0 (pa_cons (pv 0) (pa_cons pe_int pa_nil))) pe_int (nomark _)))).pt
      (pss_one (ps_ret (pe_tupleOf (by rfl) T.z_tuple (pe_lc (own := [("_law_place", 7)]) (g := (gName 7)) (tt := tYes) (by rfl) sc_law_form.nd (pi_range1 (by rfl) T.z_range (pa_cons (pe_op op_add (pv 1) pe_int) pa_nil)) (blkOk_by (N := N_law_form) (sc := defScope s_law_form) (by decide +kernel)) (fun _ _ _ _ _ => (pg_name (i := 7) sc_law_form.nd rfl (.inl rfl))) (fun _ _ _ _ _ => pts_nil) (fun _ _ _ _ _ => (pe_call G_law_near (hr.mono (by decide)) (by rfl) T.g_law_near T.F_law_near.kp T.b_law_near .nil pass0 (pa_cons (pv 0) (pa_cons (pe_op op_pow pe_int pe_int) pa_nil))))))))
      pss_nil)
    (pss_one (ps_ret (pe_call G_law_small_form (hr.mono (by decide)) (by rfl) T.g_law_small_form T.F_law_small_form.kp T.b_law_small_form .nil pass0 (pa_cons (pv 0) (pa_cons (pv 1) (pa_cons pe_int pa_nil))))))))))))), ?_⟩
    refine ⟨_, rfl, d, 6, rfl, hd, by decide, lg 6 (by decide), fun r H1 hr1 s1 d1 => ⟨_, rfl, rfl, _, rfl, iteI (fun _ => ?_) (fun r0 => ⟨_, rfl, rfl, _, rfl, iteI (fun _ => ?_) (fun r1 => ⟨_, rfl, rfl, _, rfl, iteI (fun _ => ?_) (fun r2 => ⟨_, rfl, rfl, _, rfl, iteI (fun _ => ?_) (fun r3 => ?_)⟩)⟩)⟩)⟩⟩
    · -- lines
      refine ⟨_, rfl, n, rfl, by omega, by omega, fun D hD => lc_range (n := (n : Int).toNat) (fun j H' => Sx d H H' ∧ Dc H' d ∧ ∃ (rs : List Addr) (ls : List (List Int)), H' D = some (.lst (rs.map V.ref)) ∧ rs.length = j ∧ ls.length = j ∧ (∀ i (h : i < ls.length) (h' : i < rs.length), H' rs[i] = some (tp ls[i])) ∧ ∀ l ∈ ls, Bd l 1 6) ⟨s1.trans (Sx.of (same_upd0 hD)), d1.same (same_upd0 hD), [], [], upd_same, rfl, rfl, fun i h _ => absurd h (Nat.not_lt_zero i), fun l h => (nomatch h)⟩ (fun j H' hj hP => ?_) (fun H' hP => ?_)⟩
      · obtain ⟨sH, dH, rs, ls, hL, hl1, hl2, hr, hb⟩ := hP
        refine ⟨rfl, _, rfl, d, 3, rfl, dH, by decide, by decide, fun p H2 u v s2 d2 hp hu hv => ⟨p, u, v, rfl, hp, fun p2 n2 => gen_upd H2 p2 _ n2 fun H3 s3 f3 => ?_⟩⟩
        have nD : D ≠ d := d1.ne hD
        have hL3 := s3 _ _ (s2 D _ nD hL)
        have dD : ∀ a l, H3 a = some (tp l) → a ≠ D := fun a l e z => by
          rw [z, hL3] at e
          cases e
        have d3 := d2.same s3
        refine ⟨_, hL3, by rw [List.length_map, hl1]; exact small1000 (by omega), fun b o hb2 e => ?_, ?_, rs ++ [p2], ls ++ [[v, 0 - u]], by rw [upd_same, List.map_append]; rfl, by rw [List.length_append, hl1]; rfl, by rw [List.length_append, hl2]; rfl, fun i h h' => ?_, fun l hl => ?_⟩
        · rw [upd_ne (ne_of_none (s1 b o hb2 e) hD)]
          exact s3 _ _ (s2 b o hb2 (sH b o hb2 e))
        · obtain ⟨x, y, z, e⟩ := d3
          exact ⟨x, y, z, by rw [upd_ne (Ne.symm nD)]; exact e⟩
        · by_cases c : i < ls.length
          · have e1 : (rs ++ [p2])[i] = rs[i]'(by omega) := List.getElem_append_left _
            have e2 : (ls ++ [[v, 0 - u]])[i] = ls[i] := List.getElem_append_left _
            rw [e1, e2]
            have e3 := s3 _ _ (s2 _ _ (dc_ne dH (hr i c (by omega))) (hr i c (by omega)))
            rw [upd_ne (dD _ _ e3)]
            exact e3
          · have ei : i = ls.length := by rw [List.length_append] at h; simp at h; omega
            subst ei
            have e1 : (rs ++ [p2])[ls.length] = p2 := by rw [List.getElem_append_right (by omega)]; simp [hl1, hl2]
            have e2 : (ls ++ [[v, 0 - u]])[ls.length] = [v, 0 - u] := by rw [List.getElem_append_right (by omega)]; simp
            rw [e1, e2, upd_ne (dD _ _ f3)]
            exact f3
        · rcases List.mem_append.mp hl with e | e
          · exact hb l e
          · rw [List.mem_singleton.mp e]
            exact bd_line hu hv
      · obtain ⟨sH, dH, rs, ls, hL, hl1, hl2, hr, hb⟩ := hP
        have hnn : ls.length = n := by omega
        refine ⟨D, rs, ls, rfl, hL, by omega, fun i h h' => ⟨hr i h h', (hb _ (List.getElem_mem h)).rw (by omega) (by decide)⟩, fun i hi => (bd_all hb i (by omega)).rw (by omega) (Nat.lt_of_le_of_lt (p6 (by omega)) (by decide)), fun p H3 s3 f3 => q p H3 _ (sH.trans (Sx.of s3)) (dH.same s3) f3 ?_⟩
        rw [hnn]
        exact (bd_all hb n (by omega)).mono (Nat.le_trans (p6 hn) (by decide))
    · -- a power of a line, times
      refine ⟨_, rfl, d, 3, rfl, d1, by decide, by decide, fun p H2 u v s2 d2 hp hu hv => ⟨p, u, v, rfl, hp, fun p2 n2 => gen_upd H2 p2 _ n2 fun H3 s3 f3 => ⟨_, rfl, _, rfl, _, _, rfl, rfl, ?_⟩⟩⟩
      have d3 := d2.same s3
      refine ⟨d, _, rfl, d3, by omega, lg (n + 1) (by omega), fun k H4 hk s4 d4 => ⟨_, _, rfl, ?_⟩⟩
      have hk' : k ≤ n := by have : (k : Int) < (n : Int) + 1 := hk; omega
      have f4 := s4 _ _ (dc_ne d3 f3) f3
      have bl : Bd [v, 0 - u] 1 6 := bd_line hu hv
      refine ⟨_, rfl, _, rfl, p2, _, k, rfl, f4, bl.ne, by show 2 ≤ 100; decide, fun x hx => (bl.rw (by decide) (Nat.lt_of_lt_of_le (show 6 < 2 ^ 4 by decide) (Nat.pow_le_pow_right (by decide) (by decide)))).sm x hx, fun i hi => ?_, by omega, fun p5 H5 s5 f5 => ?_⟩
      · have := (bd_pow bl i).rw (by omega) (Nat.lt_of_le_of_lt (p6 (by omega)) (by decide))
        exact ⟨this.ne, this.len, this.sm⟩
      · have d5 := d4.same s5
        refine ⟨_, rfl, _, rfl, _, rfl, _, _, rfl, rfl, d, n - k, 4, by show [V.ref d, V.int ((n : Int) - (k : Int)), V.int 4] = [V.ref d, V.int ((n - k : Nat) : Int), V.int 4]; rw [Int.ofNat_sub hk'], d5, by omega, by decide, fun p6' H6 l6 s6 d6 f6 hl6 hm6 => ?_⟩
        have f5' := s6 _ _ (dc_ne d5 f5) f5
        have b1 := bd_pow bl k
        have b2 := bd_small hl6 hm6
        have r1 := b1.rw (by omega) (Nat.lt_of_le_of_lt (p6 (by omega)) (by decide))
        have r2 := b2.rw (by omega) (Nat.lt_of_le_of_lt (show (n - k + 1) * 4 ≤ 44 by omega) (by decide))
        refine ⟨p5, p6', _, l6, rfl, f5', f6, r1.ne, r2.ne, r1.len, r2.len, r1.sm, r2.sm, fun p7 H7 s7 _ f7 => q p7 H7 _ ((((s1.trans s2).trans (Sx.of s3)).trans s4).trans (((Sx.of s5).trans s6).trans (Sx.of s7))) (d6.same s7) f7 ?_⟩
        have b3 := bd_ml b1 b2
        rw [show k + (n - k) = n by omega] at b3
        exact b3.mono (Nat.le_trans (Nat.mul_le_mul (p6 (by omega)) (show (n - k + 1) * 4 ≤ 44 by omega)) (by decide))
    · -- sums of powers
      refine ⟨_, rfl, _, _, rfl, rfl, _, rfl, by show -(2 ^ 62) ≤ (n : Int) + 1; omega, by show (n : Int) + 1 < 2 ^ 62; omega, fun D hD => lc_range (n := ((n : Int) + 1).toNat) (fun j H' => H' = upd H1 D (.lst (tab j fun _ => 0))) rfl (fun j H' hj hP => ?_) (fun H' hP => ?_)⟩
      · subst hP
        refine ⟨rfl, ⟨_, upd_same, by rw [tab_len]; exact small1000 (by omega), ?_⟩⟩
        rw [upd_upd, ← tab_snoc]
      · subst hP
        rw [show ((n : Int) + 1).toNat = n + 1 by omega, tab_tb]
        refine .inl ⟨D, _, rfl, SqL.of upd_same, fun p hp => gen_upd (upd H1 D _) p _ hp fun H2 s2 f2 => ?_⟩
        have s02 := (same_upd0 (o := HO.lst ((tb (n + 1) fun _ => 0).map V.int)) hD).trans s2
        have d2 := d1.same s02
        have b0 : Bd (tb (n + 1) fun _ => 0) n 0 := ⟨tb_len _ _, by
          rw [nm_tb]
          have : ∀ k, sN k (fun _ => 0) = 0 := by
            intro k
            induction k with
            | zero => rfl
            | succ k ih => show sN k (fun _ => 0) + 0 = 0; rw [ih]
          rw [this]
          exact Nat.le_refl _⟩
        refine ⟨_, rfl, d, 3, rfl, d2, by decide, lg 3 (by decide), fun k H3 hk s3 d3 => ⟨_, _, rfl, rfl, _, rfl, by omega, by omega, ?_⟩⟩
        have f3 := s3 _ _ (dc_ne d2 f2) f2
        have hk3 : (k : Int) < 3 := hk
        refine for_range (n := (1 + (k : Int)).toNat) (fun i σ H' => ∃ r y3 y4 y5 y7 l, σ = [some (.ref d), some (.int n), some (.int (r : Int)), y3, y4, y5, some (.ref y7), none] ∧ Sx d H1 H' ∧ Dc H' d ∧ H' y7 = some (tp l) ∧ Bd l n (i * 241864704)) ⟨_, _, _, _, _, _, rfl, (Sx.of s02).trans s3, d3, f3, b0.mono (Nat.zero_le _)⟩ (fun i σ H' hi hP => ?_) (fun σ H' hP => ?_)
        · obtain ⟨r', y3, y4, y5, y7, l, rfl, sH, dH, hl, bl⟩ := hP
          refine ⟨_, rfl, _, rfl, d, 3, rfl, dH, by decide, by decide, fun p4 H4 u v s4 d4 h4 hu hv => ⟨_, rfl, ?_⟩⟩
          have bp : Bd [u, v] 1 6 := bd_pair hu hv
          refine ⟨p4, _, n, rfl, h4, bp.ne, by show 2 ≤ 100; decide, fun x hx => (bp.rw (by decide) (Nat.lt_of_lt_of_le (show 6 < 2 ^ 4 by decide) (Nat.pow_le_pow_right (by decide) (by decide)))).sm x hx, fun i hi => ?_, by omega, fun p5 H5 s5 f5 => ?_⟩
          · have := (bd_pow bp i).rw (by omega) (Nat.lt_of_le_of_lt (p6 (by omega)) (by decide))
            exact ⟨this.ne, this.len, this.sm⟩
          · have d5 := d4.same s5
            have b5 := bd_pow bp n
            have r5 := b5.rw (by omega) (Nat.lt_of_le_of_lt (p6 (by omega)) (by decide))
            refine ⟨_, rfl, d, 4, rfl, d5, by decide, by rw [e15]; decide, fun c H6 c1 c2 s6 d6 => ?_⟩
            have f6 := s6 _ _ (dc_ne d5 f5) f5
            refine ⟨p5, _, c, rfl, f6, r5.len, r5.sm, Nat.lt_of_le_of_lt (show c.natAbs ≤ 4 by omega) (by decide), fun p7 H7 s7 _ f7 => ?_⟩
            have b7 := bd_scale (d := 4) b5 (show c.natAbs ≤ 4 by omega)
            have hl7 := s7 _ _ (s6 _ _ (dc_ne d5 (s5 _ _ (s4 _ _ (dc_ne dH hl) hl))) (s5 _ _ (s4 _ _ (dc_ne dH hl) hl)))
            refine ⟨_, p7, l, _, rfl, hl7, f7, by rw [bl.len, b7.len], by rw [bl.len]; omega, fun p8 H8 s8 _ f8 => ⟨_, _, _, _, p8, _, rfl, ((sH.trans s4).trans ((Sx.of s5).trans s6)).trans ((Sx.of s7).trans (Sx.of s8)), (d6.same s7).same s8, f8, (bd_zs bl b7).mono ?_⟩⟩
            have : 4 * 6 ^ n ≤ 4 * 60466176 := Nat.mul_le_mul (Nat.le_refl _) (p6 hn)
            rw [Nat.succ_mul]
            omega
        · obtain ⟨r', y3, y4, y5, y7, l, rfl, sH, dH, hl, bl⟩ := hP
          exact ⟨_, rfl, q y7 H' l (s1.trans sH) dH hl (bl.mono (by omega))⟩
    · -- some entries, some zeros
      refine ⟨_, rfl, _, _, rfl, rfl, _, rfl, by show -(2 ^ 62) ≤ (n : Int) + 1; omega, by show (n : Int) + 1 < 2 ^ 62; omega, fun D hD => lc_range (n := ((n : Int) + 1).toNat) (fun j H' => Sx d H1 H' ∧ Dc H' d ∧ ∃ l : List Int, H' D = some (.lst (l.map V.int)) ∧ l.length = j ∧ ∀ x ∈ l, x.natAbs ≤ 3) ⟨Sx.of (same_upd0 hD), d1.same (same_upd0 hD), [], upd_same, rfl, fun x hx => by cases hx⟩ (fun j H' hj hP => ?_) (fun H' hP => ?_)⟩
      · obtain ⟨sH, dH, l, hL, hl, hb⟩ := hP
        have nD : D ≠ d := d1.ne hD
        refine ⟨rfl, _, rfl, d, 3, rfl, dH, by decide, by rw [e15]; decide, fun c H2 c1 c2 s2 d2 => ⟨_, rfl, d, 2, rfl, d2, by decide, lg 2 (by decide), fun k H3 hk s3 d3 => ⟨_, _, rfl, rfl, sm_mul (Nat.lt_of_le_of_lt (show c.natAbs ≤ 3 by omega) (by decide)) (Nat.lt_of_le_of_lt (show ((k : Nat) : Int).natAbs ≤ 2 by have : (k : Int) < 2 := hk; omega) (by decide)), _, s3 D _ nD (s2 D _ nD hL), ?_, fun b o hb2 e => ?_, ?_, l ++ [c * (k : Int)], ?_, ?_, fun x hx => ?_⟩⟩⟩
        · rw [List.length_map]
          exact small1000 (by omega)
        · rw [upd_ne (ne_of_none e hD)]
          exact (sH.trans (s2.trans s3)) b o hb2 e
        · obtain ⟨x, y, z, e⟩ := d3
          exact ⟨x, y, z, by rw [upd_ne (Ne.symm nD)]; exact e⟩
        · rw [upd_same, List.map_append]
          rfl
        · rw [List.length_append, hl]
          rfl
        · rcases List.mem_append.mp hx with e | e
          · exact hb x e
          · rw [List.mem_singleton.mp e]
            have hk2 : (k : Int) < 2 := hk
            rw [Int.natAbs_mul]
            have := Nat.mul_le_mul (show c.natAbs ≤ 3 by omega) (show ((k : Nat) : Int).natAbs ≤ 1 by omega)
            omega
      · obtain ⟨sH, dH, l, hL, hl, hb⟩ := hP
        refine .inl ⟨D, _, rfl, SqL.of hL, fun p hp2 => ?_⟩
        exact q p _ l (s1.trans (sH.trans (Sx.of (same_upd0 hp2)))) (dH.same (same_upd0 hp2)) upd_same ((bd_small (n := n) (by omega) hb).mono (Nat.le_trans (Nat.mul_le_mul (show n + 1 ≤ 11 by omega) (Nat.le_refl _)) (by decide)))
    · -- great entries, or small ones
      have small : ∀ H2, Sx d H H2 → Dc H2 d → spSmall [V.ref d, V.int (n : Int), V.int 6] H2 Q E0 := fun H2 s2 d2 => ⟨d, n, 6, rfl, d2, by omega, by decide, fun p H3 l s3 d3 f3 hl hm => q p H3 l (s2.trans s3) d3 f3 ((bd_small hl hm).mono (by omega))⟩
      refine ⟨_, rfl, rfl, _, rfl, iteI (fun _ => ?_) (fun _ => ?_)⟩
      · refine ⟨_, rfl, d, 4, rfl, d1, by decide, lg 4 (by decide), fun k H2 hk s2 d2 => ⟨rfl, _, rfl, iteI (fun _ => ?_) (fun _ => ?_)⟩⟩
        · -- great entries
          refine ⟨_, rfl, _, _, rfl, rfl, _, rfl, by show -(2 ^ 62) ≤ (n : Int) + 1; omega, by show (n : Int) + 1 < 2 ^ 62; omega, fun D hD => lc_range (n := ((n : Int) + 1).toNat) (fun j H' => Sx d H2 H' ∧ Dc H' d ∧ ∃ l : List Int, H' D = some (.lst (l.map V.int)) ∧ l.length = j ∧ ∀ x ∈ l, x.natAbs ≤ 1000000000000) ⟨Sx.of (same_upd0 hD), d2.same (same_upd0 hD), [], upd_same, rfl, fun x hx => by cases hx⟩ (fun j H' hj hP => ?_) (fun H' hP => ?_)⟩
          · obtain ⟨sH, dH, l, hL, hl, hb⟩ := hP
            have nD : D ≠ d := d2.ne hD
            refine ⟨rfl, _, rfl, 10, 12, rfl, rfl, ⟨by decide, by decide, by decide⟩, d, 1000000000000, rfl, dH, by decide, by rw [e15]; decide, fun r H2 r1 r2 s2 d2 => ⟨_, s2 D _ nD hL, ?_, fun b o hb2 e => ?_, ?_, l ++ [r], ?_, ?_, fun x hx => ?_⟩⟩
            · rw [List.length_map]
              exact small1000 (by omega)
            · rw [upd_ne (ne_of_none e hD)]
              exact (sH.trans s2) b o hb2 e
            · obtain ⟨x, y, z, e⟩ := d2
              exact ⟨x, y, z, by rw [upd_ne (Ne.symm nD)]; exact e⟩
            · rw [upd_same, List.map_append]
              rfl
            · rw [List.length_append, hl]
              rfl
            · rcases List.mem_append.mp hx with e | e
              · exact hb x e
              · rw [List.mem_singleton.mp e]
                omega
          · obtain ⟨sH, dH, l, hL, hl, hb⟩ := hP
            refine .inl ⟨D, _, rfl, SqL.of hL, fun p hp2 => ?_⟩
            exact q p _ l ((s1.trans s2).trans (sH.trans (Sx.of (same_upd0 hp2)))) (dH.same (same_upd0 hp2)) upd_same ((bd_small (n := n) (by omega) hb).mono (Nat.le_trans (Nat.mul_le_mul (show n + 1 ≤ 11 by omega) (Nat.le_refl _)) (by decide)))
        · exact ⟨_, rfl, _, rfl, small H2 (s1.trans s2) d2⟩
      · exact ⟨_, rfl, _, rfl, small H1 s1 d1⟩
end
end K13

set_option Elab.async false
set_option linter.all false
set_option maxRecDepth 100000
set_option maxHeartbeats 4000000
namespace K13
open PySem PySem.Spec PyProof.Rows L2 StX RZ MyR SlX OwnR OwnF EnumT
/-! what is said of forms by those who use them (for other laws: K13u, K13v, K13y hold the same) -/
section
variable {P : Program} {w : World} {K : PySem.W.Frag} {mg : Str → Option Value} {base : Heap}
/-- what is asked of a told row -/
structure Tr (l : List Int) : Prop where
  ne : l ≠ []
  len : l.length ≤ 40
  sho : ∀ x ∈ l, Sho x
theorem Tr.rw {l : List Int} (h : Tr l) : Rw l := ⟨h.ne, by have := h.len; omega, fun x hx => Nat.lt_trans (h.sho x hx) (by decide)⟩
theorem Tr.pos {l : List Int} (h : Tr l) : 1 ≤ l.length := List.length_pos_iff.mpr h.ne
theorem shaped_lints (ns : List Int) : SeqAt.shaped (.list (ns.map PyData.int)) = true := by
  unfold SeqAt.shaped
  rw [show PyData.canLay0 (.list (ns.map PyData.int)) = PyData.canLayAll0 (ns.map PyData.int) from rfl, lay_ints]
  rw [show PyData.depth (.list (ns.map PyData.int)) = PyData.depthAll (ns.map PyData.int) + 1 from rfl, depth_ints]
  rfl
/-- Form(t) -/
theorem made_form {C x dx t : Addr} {l : List Int} {H0 H2 : Hp} (hx : H0 x = none) (hdx : H0 dx = none) (hne : dx ≠ x) (s : Same (upd (upd H0 dx (.own x)) x (.ins C dx [])) H2) (ht : H0 t = some (tp l)) : Same H0 (slH H2 x C dx [some (.ref t)]) ∧ Fo C (slH H2 x C dx [some (.ref t)]) x l := by
  have s3 := made (v := .ref t) hx hdx hne s
  refine ⟨s3, dx, t, upd_same, ?_, s3 _ _ ht⟩
  unfold slH
  rw [upd_ne hne, upd_same]
theorem Fo.sx {C a d : Addr} {H H' : Hp} {ns : List Int} (h : Fo C H a ns) (hd : Dc H d) (s : Sx d H H') : Fo C H' a ns := by
  obtain ⟨dx, t, h1, h2, h3⟩ := h
  obtain ⟨x, y, z, e⟩ := hd
  refine ⟨dx, t, s _ _ (fun q => ?_) h1, s _ _ (fun q => ?_) h2, s _ _ (fun q => ?_) h3⟩
  · rw [q, e] at h1
    cases h1
  · rw [q, e] at h2
    cases h2
  · rw [q, e] at h3
    cases h3
theorem mkF {CT C x dx t : Addr} {H : Hp} {l : List Int} {R : Hp → Prop} (hx : H x = none) (hdx : H dx = none) (hne : dx ≠ x) (ht : H t = some (tp l)) (h1 : 1 ≤ l.length) (h2 : l.length ≤ 41) (hs : ∀ z ∈ l, Sho z) (q : ∀ H', Same H H' → Fo C H' x l → R H') :
    spForm CT C [.ref x, .ref t] (upd (upd H dx (.own x)) x (.ins C dx [])) (fun v H2 => v = .non ∧ R H2) E0 := by
  refine ⟨x, dx, t, t, rfl, .inl ⟨upd_same, rfl⟩, .inr ⟨l, rfl, ?_, h1, h2, hs⟩, fun H2 s2 => ⟨rfl, ?_⟩⟩
  · rw [upd_ne (ne_of_none ht hx), upd_ne (ne_of_none ht hdx)]
    exact ht
  · obtain ⟨s, f⟩ := made_form hx hdx hne s2 ht
    exact q _ s f
theorem Bd.tr {l : List Int} {n b : Nat} (h : Bd l n b) (hn : n ≤ 39) (hb : b < 10 ^ 60) : Tr l := ⟨h.ne, by rw [h.len]; omega, fun x hx => Nat.lt_of_le_of_lt (h.mem x hx) hb⟩
/-- a pair of a form and its row -/
structure Pa (C : Addr) (H : Hp) (v : V) (l : List Int) : Prop where
  tr : Tr l
  at_ : ∃ p f t, v = .ref p ∧ H p = some (.tup [.ref f, .ref t]) ∧ Fo C H f l ∧ H t = some (tp l)
theorem Pa.same {C : Addr} {H H' : Hp} {v : V} {l : List Int} (h : Pa C H v l) (s : Same H H') : Pa C H' v l := by
  obtain ⟨p, f, t, e, h1, h2, h3⟩ := h.at_
  exact ⟨h.tr, p, f, t, e, s _ _ h1, h2.same s, s _ _ h3⟩
theorem prop_ent {C a : Addr} {H : Hp} {xs : List Int} {Q : VK} (fa : Fo C H a xs) (q : ∀ t, H t = some (tp xs) → Q (.ref t) H) : ∃ a' dx vs, V.ref a = .ref a' ∧ Slt H a' C dx vs ∧ spEnt C [.ref a'] H Q E0 := by
  obtain ⟨dx, t, ha, _⟩ := fa.slt
  exact ⟨a, dx, _, rfl, ha, a, xs, rfl, fa, q⟩
theorem prop_deg {C a : Addr} {H : Hp} {xs : List Int} {Q : VK} (fa : Fo C H a xs) (q : Q (.int ((xs.length : Int) - 1)) H) : ∃ a' dx vs, V.ref a = .ref a' ∧ Slt H a' C dx vs ∧ spDeg C [.ref a'] H Q E0 := by
  obtain ⟨dx, t, ha, _⟩ := fa.slt
  exact ⟨a, dx, _, rfl, ha, a, xs, rfl, fa, q⟩
end
end K13

set_option Elab.async false
set_option linter.all false
set_option maxRecDepth 100000
/-! values of forms; a form is told by its values -/
namespace K13
/-- the value at x, y of the first n entries -/
def evF : Nat → (Nat → Int) → Int → Int → Int
  | 0, _, _, _ => 0
  | n + 1, g, x, y => x * evF n g x y + g n * y ^ n
def ev (l : List Int) (x y : Int) : Int := evF l.length (co l) x y
theorem evF_congr {g h : Nat → Int} {x y : Int} : ∀ n, (∀ i, i < n → g i = h i) → evF n g x y = evF n h x y
  | 0, _ => rfl
  | n + 1, e => by
    show x * evF n g x y + g n * y ^ n = x * evF n h x y + h n * y ^ n
    rw [evF_congr n fun i hi => e i (by omega), e n (by omega)]
theorem evF_add (g h : Nat → Int) (x y : Int) : ∀ n, evF n (fun i => g i + h i) x y = evF n g x y + evF n h x y
  | 0 => rfl
  | n + 1 => by
    show x * evF n (fun i => g i + h i) x y + (g n + h n) * y ^ n = (x * evF n g x y + g n * y ^ n) + (x * evF n h x y + h n * y ^ n)
    rw [evF_add g h x y n, Int.mul_add, Int.add_mul]
    omega
theorem evF_mul (c : Int) (g : Nat → Int) (x y : Int) : ∀ n, evF n (fun i => c * g i) x y = c * evF n g x y
  | 0 => by show (0 : Int) = c * 0; rw [Int.mul_zero]
  | n + 1 => by
    show x * evF n (fun i => c * g i) x y + (c * g n) * y ^ n = c * (x * evF n g x y + g n * y ^ n)
    rw [evF_mul c g x y n, Int.mul_add, Int.mul_assoc, ← Int.mul_assoc x c, Int.mul_comm x c, Int.mul_assoc]
theorem evF_sh (g : Nat → Int) (x y : Int) : ∀ n, evF (n + 1) (sh g) x y = y * evF n g x y
  | 0 => by
    show x * 0 + (0 : Int) * y ^ 0 = y * 0
    rw [Int.mul_zero, Int.zero_mul, Int.mul_zero]
    rfl
  | n + 1 => by
    show x * evF (n + 1) (sh g) x y + g n * y ^ (n + 1) = y * (x * evF n g x y + g n * y ^ n)
    rw [evF_sh g x y n, Int.mul_add, Int.pow_succ, ← Int.mul_assoc, Int.mul_comm x y, Int.mul_assoc, Int.mul_comm (y ^ n) y, ← Int.mul_assoc (g n), Int.mul_comm (g n) y, Int.mul_assoc y (g n)]
theorem evF_far {g : Nat → Int} (x y : Int) {n : Nat} (h : ∀ i, n ≤ i → g i = 0) : ∀ k, evF (n + k) g x y = x ^ k * evF n g x y
  | 0 => by rw [Nat.add_zero, Int.pow_zero, Int.one_mul]
  | k + 1 => by
    show x * evF (n + k) g x y + g (n + k) * y ^ (n + k) = _
    rw [evF_far x y h k, h _ (by omega), Int.zero_mul, Int.add_zero, Int.pow_succ, ← Int.mul_assoc, Int.mul_comm x]
theorem evF_zero (x y : Int) : ∀ n, evF n (fun _ => 0) x y = 0
  | 0 => rfl
  | n + 1 => by
    show x * evF n (fun _ => 0) x y + 0 * y ^ n = 0
    rw [evF_zero x y n, Int.mul_zero, Int.zero_mul]
    rfl
theorem ev_ml : ∀ {l m : List Int}, l ≠ [] → m ≠ [] → ∀ x y, ev (ml l m) x y = ev l x y * ev m x y := by
  intro l
  induction l with
  | nil => intro m h; exact absurd rfl h
  | cons a l ih =>
    intro m hl hm x y
    have hM : 0 < m.length := List.length_pos_iff.mpr hm
    have e0 : ev (ml (a :: l) m) x y = evF (l.length + m.length) (cv (a :: l) (co m)) x y := by
      unfold ev
      rw [ml_len, show (a :: l).length + m.length - 1 = l.length + m.length by rw [List.length_cons]; omega]
      exact evF_congr _ fun i _ => co_ml hm i
    rw [e0]
    have e1 : evF (l.length + m.length) (cv (a :: l) (co m)) x y = a * evF (l.length + m.length) (co m) x y + evF (l.length + m.length) (sh (cv l (co m))) x y := by
      rw [← evF_mul, ← evF_add]
      exact evF_congr _ fun i _ => cv_cons a l (co m) i
    rw [e1, show l.length + m.length = m.length + l.length by omega, evF_far x y (fun i hi => co_far hi) l.length]
    have e2 : ev (a :: l) x y = a * x ^ l.length + y * evF l.length (co l) x y := by
      unfold ev
      rw [List.length_cons]
      rw [show evF (l.length + 1) (co (a :: l)) x y = evF (l.length + 1) (fun i => a * (if i = 0 then 1 else 0) + sh (co l) i) x y from evF_congr _ fun i _ => by
        rw [co_cons]
        by_cases h : i = 0
        · rw [if_pos h, if_pos h, Int.mul_one]
        · rw [if_neg h, if_neg h, Int.mul_zero], evF_add, evF_mul, evF_sh]
      congr 1
      congr 1
      have h1 : evF (1 + l.length) (fun i => if i = 0 then (1 : Int) else 0) x y = x ^ l.length * evF 1 (fun i => if i = 0 then (1 : Int) else 0) x y := evF_far x y (n := 1) (fun i hi => if_neg (by omega)) l.length
      rw [show l.length + 1 = 1 + l.length by omega, h1]
      show x ^ l.length * (x * 0 + (if 0 = 0 then 1 else 0) * y ^ 0) = _
      rw [if_pos rfl, Int.mul_zero, Int.pow_zero, Int.mul_one, Int.zero_add, Int.mul_one]
    rw [e2]
    by_cases c : l = []
    · subst c
      show a * (x ^ 0 * evF m.length (co m) x y) + evF (m.length + 0) (sh (cv [] (co m))) x y = (a * x ^ 0 + y * 0) * ev m x y
      rw [show evF (m.length + 0) (sh (cv [] (co m))) x y = evF m.length (fun _ => 0) x y from evF_congr _ fun i _ => by cases i <;> rfl, evF_zero, Int.pow_zero, Int.one_mul, Int.mul_one, Int.mul_zero, Int.add_zero, Int.add_zero]
      rfl
    · have hL : 0 < l.length := List.length_pos_iff.mpr c
      have e3 : evF (m.length + l.length) (sh (cv l (co m))) x y = y * (ev l x y * ev m x y) := by
        rw [show m.length + l.length = (l.length + m.length - 1) + 1 by omega, evF_sh, ← ih c hm x y]
        congr 1
        unfold ev
        rw [ml_len]
        exact evF_congr _ fun i _ => (co_ml hm i).symm
      rw [e3]
      show a * (x ^ l.length * ev m x y) + y * (ev l x y * ev m x y) = (a * x ^ l.length + y * ev l x y) * ev m x y
      rw [Int.add_mul, Int.mul_assoc, Int.mul_assoc]
/-- only the form with zeros has the value 0 everywhere -/
theorem evF_inj {g : Nat → Int} {M : Int} : ∀ n, (∀ i, i < n → (g i).natAbs < M.natAbs) → evF n g M 1 = 0 → ∀ i, i < n → g i = 0
  | 0, _, _, i, hi => absurd hi (Nat.not_lt_zero i)
  | n + 1, hb, e, i, hi => by
    have e' : M * evF n g M 1 + g n * 1 ^ n = 0 := e
    rw [Int.one_pow, Int.mul_one] at e'
    have hd : M ∣ g n := ⟨-evF n g M 1, by rw [Int.mul_neg]; omega⟩
    have hn : g n = 0 := Int.natAbs_eq_zero.mp (Nat.eq_zero_of_dvd_of_lt (Int.natAbs_dvd_natAbs.mpr hd) (hb n (by omega)))
    have hM : M ≠ 0 := fun z => by
      have := hb n (by omega)
      rw [z] at this
      exact absurd this (by simp)
    rw [hn, Int.add_zero] at e'
    have e2 : evF n g M 1 = 0 := (Int.mul_eq_zero.mp e').resolve_left hM
    by_cases c : i = n
    · rw [c]; exact hn
    · exact evF_inj n (fun j hj => hb j (by omega)) e2 i (by omega)
theorem ev_inj {l m : List Int} (hl : l.length = m.length) (h : ∀ x y, ev l x y = ev m x y) : l = m := by
  refine co_inj hl fun i => ?_
  by_cases c : i < l.length
  · have key := evF_inj (g := fun i => co l i + -1 * co m i) (M := ((nm l + nm m + 1 : Nat) : Int)) l.length (fun i _ => by
      rw [Int.natAbs_natCast]
      have h1 : (co l i).natAbs ≤ nm l := by
        rcases co_mem (l := l) (k := i) with e | e
        · rw [e]; exact Nat.zero_le _
        · exact nm_mem e
      have h2 : (co m i).natAbs ≤ nm m := by
        rcases co_mem (l := m) (k := i) with e | e
        · rw [e]; exact Nat.zero_le _
        · exact nm_mem e
      show (co l i + -1 * co m i).natAbs < _
      omega) (by
      rw [evF_add, evF_mul]
      have := h ((nm l + nm m + 1 : Nat) : Int) 1
      unfold ev at this
      rw [← hl] at this
      rw [this]
      omega) i c
    have key' : co l i + -1 * co m i = 0 := key
    omega
  · rw [co_far (by omega), co_far (by omega)]
end K13

set_option Elab.async false
set_option linter.all false
set_option maxRecDepth 100000
/-! changed forms, derived forms: the plain law -/
namespace K13
theorem ev_zs (c : Int) {l m : List Int} (h : l.length = m.length) (x y : Int) : ev (zs c l m) x y = ev l x y + c * ev m x y := by
  have hz : (zs c l m).length = l.length := by unfold zs; rw [List.length_zipWith, h, Nat.min_self]
  have co_zs : ∀ k, co (zs c l m) k = co l k + c * co m k := fun k => by
    unfold zs
    by_cases hk : k < l.length
    · rw [co_get (by rw [List.length_zipWith]; omega), co_get hk, co_get (by omega), List.getElem_zipWith]
    · rw [co_far (by rw [List.length_zipWith]; omega), co_far (by omega), co_far (by omega), Int.mul_zero]
      rfl
  unfold ev
  rw [hz, ← h, ← evF_mul, ← evF_add]
  exact evF_congr _ fun i _ => co_zs i
theorem zs_len {c : Int} {l m : List Int} (h : l.length = m.length) : (zs c l m).length = l.length := by unfold zs; rw [List.length_zipWith, h, Nat.min_self]
theorem pow_zero {c : Int} : ∀ {n : Nat}, c ^ n = 0 → c = 0
  | 0, h => by rw [Int.pow_zero] at h; cases h
  | n + 1, h => by
    rw [Int.pow_succ] at h
    rcases Int.mul_eq_zero.mp h with e | e
    · exact pow_zero e
    · exact e
/-! ### derivatives -/
/-- derived by x, by y -/
def dX (l : List Int) : List Int := tb (l.length - 1) fun k => co l k * ((l.length : Int) - 1 - k)
def dY (l : List Int) : List Int := tb (l.length - 1) fun k => co l (k + 1) * ((k : Int) + 1)
theorem dX_len (l : List Int) : (dX l).length = l.length - 1 := tb_len _ _
theorem dY_len (l : List Int) : (dY l).length = l.length - 1 := tb_len _ _
theorem co_zs' (c : Int) {l m : List Int} (h : l.length = m.length) (k : Nat) : co (zs c l m) k = co l k + c * co m k := by
  unfold zs
  by_cases hk : k < l.length
  · rw [co_get (by rw [List.length_zipWith]; omega), co_get hk, co_get (by omega), List.getElem_zipWith]
  · rw [co_far (by rw [List.length_zipWith]; omega), co_far (by omega), co_far (by omega), Int.mul_zero]
    rfl
def it (f : List Int → List Int) : Nat → List Int → List Int
  | 0, l => l
  | n + 1, l => f (it f n l)
theorem dX_it_len (l : List Int) : ∀ n, (it dX n l).length = l.length - n
  | 0 => rfl
  | n + 1 => by
    show (dX (it dX n l)).length = _
    rw [dX_len, dX_it_len l n]
    omega
theorem dY_it_len (l : List Int) : ∀ n, (it dY n l).length = l.length - n
  | 0 => rfl
  | n + 1 => by
    show (dY (it dY n l)).length = _
    rw [dY_len, dY_it_len l n]
    omega
/-- derived i times by x, j times by y -/
def dd (i j : Nat) (l : List Int) : List Int := it dY j (it dX i l)
theorem dd_len (i j : Nat) (l : List Int) : (dd i j l).length = l.length - i - j := by
  unfold dd
  rw [dY_it_len, dX_it_len]
end K13

set_option Elab.async false
set_option linter.all false
set_option maxRecDepth 100000
set_option maxHeartbeats 4000000
namespace K13
open PySem PySem.Spec PyProof.Rows L2 StX RZ MyR SlX OwnR OwnF EnumT
/-- a comprehension over enumerate of a tuple -/
theorem lc_enumT {K : PySem.W.Frag} {a : Addr} {xs : List V} {g : TG} {tt : TT} {te : TE} {vs : List Nat} {σ : L2.St} {H1 : Hp} {D : Addr} {Qd : Hp → Prop} (Pv : Nat → Hp → Prop) (h0 : Pv 0 (upd H1 D (.lst []))) (hq : ∀ i H, i ≤ xs.length → Pv i H → SqT K H a xs)
    (hs : ∀ (i : Nat) (x : V) (T : Addr) (H : Hp), xs[i]? = some x → Pv i H → H T = none → g (.ref T) (wipe σ vs) (upd H T (.tup [.int (i : Nat), x])) fun σ2 H2 => wipe σ2 vs = wipe σ vs ∧ tt σ2 H2 fun b H3 =>
      if b = true then te σ2 H3 fun y H4 => ∃ acc, H4 D = some (.lst acc) ∧ acc.length < sizeLine ∧ Pv (i + 1) (upd H4 D (.lst (acc ++ [y]))) else Pv (i + 1) H3) (hd : ∀ H, Pv xs.length H → Qd H) :
    ∃ W : Nat → Nat → Hp → Prop, (∃ m, W 0 m (upd H1 D (.lst []))) ∧ ∀ i m H, W i m H →
      ((IteT K a).stop i H ∧ Qd H) ∨ ((IteT K a).go i H ∧ ∃ Nx : Hp → Prop, (∀ H', Nx H' → ∃ m', m' < m ∧ W (i + 1) m' H') ∧ ∀ x H', (IteT K a).yld i H x H' → g x (wipe σ vs) H' fun σ2 H2 => wipe σ2 vs = wipe σ vs ∧ tt σ2 H2 fun b H3 =>
        if b = true then te σ2 H3 fun y H4 => ∃ acc, H4 D = some (.lst acc) ∧ acc.length < sizeLine ∧ Nx (upd H4 D (.lst (acc ++ [y]))) else Nx H3) := by
  refine ⟨fun i m H => m = xs.length - i ∧ i ≤ xs.length ∧ Pv i H, ⟨xs.length, by simp, Nat.zero_le _, h0⟩, ?_⟩
  rintro i m H ⟨rfl, hi, p⟩
  have qx := hq i H hi p
  by_cases hlt : i < xs.length
  · have hx : xs[i]? = some xs[i] := List.getElem?_eq_getElem hlt
    refine .inr ⟨⟨xs, _, qx, hx⟩, Pv (i + 1), fun H' p' => ⟨xs.length - (i + 1), by omega, rfl, hlt, p'⟩, fun v H' y => ?_⟩
    obtain ⟨T, x', rfl, hT, rfl, f1⟩ := y
    exact hs i x' T H (f1 xs qx) p hT
  · have e : i = xs.length := by omega
    subst e
    exact .inl ⟨⟨xs, qx, rfl⟩, hd H p⟩
section
variable {P : Program} {w : World} {K : PySem.W.Frag} {mg : Str → Option Value} {base : Heap}
def spFrom : Sp := fun vs H Q _ => ∃ i lo hi : Int, vs = [.int i, .int lo, .int hi] ∧ lo ≤ i ∧ i ≤ hi ∧ Q (.bl true) H
theorem ok_is_from (T : Facts K mg) : FnOk P w K mg base CX0 2 T.f_is_from T.fd_is_from ["value", "least", "most"] spFrom := by
  have G_is_whole : FnOk P w K mg base CX0 1 T.f_is_whole T.fd_is_whole ["value"] spWhole := ok_is_whole T
  refine T.F_is_from.ok sc_is_from (fun vs H Q E h => ?_) (fun cdv A outer s H vs Q E hr h => ?_)
  · obtain ⟨i, lo, hi, rfl, _⟩ := h
    rfl
  · obtain ⟨i, lo, hi, rfl, h1, h2, q⟩ := h
    refine ⟨_, (PSs.nox (pss_one (ps_ret (pe_and (pe_call G_is_whole hr (by rfl) T.g_is_whole T.F_is_whole.kp T.b_is_whole .nil pass0 (pa_cons (pv 0) pa_nil)) (pe_one (pe_chain op_le op_le (pv 1) (pv 0) (pv 2))))))), ?_⟩
    refine ⟨_, rfl, i, rfl, true, rfl, iteT ⟨_, rfl, _, rfl, _, _, rfl, rfl, true, ?_, iteT ⟨_, rfl, _, _, rfl, rfl, ?_⟩⟩⟩
    · show V.bl (decide (lo ≤ i)) = _
      rw [decide_eq_true h1]
    · show Q (V.bl (decide (i ≤ hi))) H
      rw [decide_eq_true h2]
      exact q
/-! ### values -/
/-- what is asked of a value's letters -/
structure Vb (l : List Int) (x y : Int) (M : Nat) : Prop where
  x : x.natAbs ≤ M
  y : y.natAbs ≤ M
  one : 1 ≤ M
  big : nm l * M ^ l.length < 2 ^ 4000
  pw : M ^ (l.length + 1) < 2 ^ 4000
/-! ### changes -/
/-- a table of two rows of two -/
def Tb (H : Hp) (t : Addr) (X Y : List Int) : Prop := ∃ r0 r1, H t = some (.tup [.ref r0, .ref r1]) ∧ H r0 = some (tp X) ∧ H r1 = some (tp Y)
theorem Tb.same {H H' : Hp} {t : Addr} {X Y : List Int} (h : Tb H t X Y) (s : Same H H') : Tb H' t X Y := by
  obtain ⟨r0, r1, h1, h2, h3⟩ := h
  exact ⟨r0, r1, s _ _ h1, s _ _ h2, s _ _ h3⟩
theorem Tb.sx {H H' : Hp} {t d : Addr} {X Y : List Int} (h : Tb H t X Y) (hd : Dc H d) (s : Sx d H H') : Tb H' t X Y := by
  obtain ⟨r0, r1, h1, h2, h3⟩ := h
  exact ⟨r0, r1, s _ _ (dc_ne hd h1) h1, s _ _ (dc_ne hd h2) h2, s _ _ (dc_ne hd h3) h3⟩
/-- short pairs -/
structure Pr2 (X : List Int) : Prop where
  len : X.length = 2
  sho : ∀ x ∈ X, Sho x
theorem sIx_neg {n : Nat} (h : 1 ≤ n) : HT.sIx n n (some (-1)) = n - 1 := by
  unfold HT.sIx
  simp only []
  split <;> omega
theorem cut_tail (xs : List V) (h : 1 ≤ xs.length) : cutV xs (some 1) none = xs.drop 1 := by
  unfold cutV
  have e1 : HT.sIx xs.length 0 (some 1) = 1 := by
    unfold HT.sIx
    simp only []
    split <;> omega
  have e2 : HT.sIx xs.length xs.length none = xs.length := rfl
  rw [e1, e2]
  exact List.take_of_length_le (by rw [List.length_drop]; omega)
theorem cut_init (xs : List V) (h : 1 ≤ xs.length) : cutV xs none (some (-1)) = xs.take (xs.length - 1) := by
  unfold cutV
  have e1 : HT.sIx xs.length 0 none = 0 := rfl
  rw [e1, sIx_neg h, List.drop_zero, Nat.sub_zero]
end
end K13

set_option Elab.async false
set_option linter.all false
set_option maxRecDepth 100000
set_option maxHeartbeats 4000000
namespace K13
open PySem PySem.Spec PyProof.Rows L2 StX RZ MyR SlX OwnR OwnF EnumT
section
variable {P : Program} {w : World} {K : PySem.W.Frag} {mg : Str → Option Value} {base : Heap}
/-- all that is derived on the way is let -/
structure DdOk (i j : Nat) (l : List Int) : Prop where
  len : i + j + 1 ≤ l.length
  le : l.length ≤ 100
  sx : ∀ u, u ≤ i → ∀ z ∈ it dX u l, sm z
  sy : ∀ u, u ≤ j → ∀ z ∈ it dY u (it dX i l), sm z
def spDerived : Sp := fun vs H Q _ => ∃ (a : Addr) (l : List Int) (i j : Nat), vs = [.ref a, .int i, .int j] ∧ H a = some (tp l) ∧ DdOk i j l ∧ ∀ p H', Same H H' → H' p = some (tp (dd i j l)) → Q (.ref p) H'
theorem ecut_init {l : List Int} (h : 1 ≤ l.length) : HO.tup (cutV (l.map V.int) none (some (-1))) = tp (l.take (l.length - 1)) := by
  rw [cut_init _ (by rw [List.length_map]; exact h), ← List.map_take, List.length_map]
theorem ecut_tail {l : List Int} (h : 1 ≤ l.length) : HO.tup (cutV (l.map V.int) (some 1) none) = tp (l.drop 1) := by
  rw [cut_tail _ (by rw [List.length_map]; exact h), ← List.map_drop]
theorem co_take {l : List Int} {n k : Nat} (h : k < n) : co (l.take n) k = co l k := by
  unfold co
  rw [List.getD_eq_getElem?_getD, List.getD_eq_getElem?_getD, List.getElem?_take_of_lt h]
theorem co_drop1 (l : List Int) (k : Nat) : co (l.drop 1) k = co l (k + 1) := by
  unfold co
  rw [List.getD_eq_getElem?_getD, List.getD_eq_getElem?_getD, List.getElem?_drop, Nat.add_comm]
theorem Pr2.rw {X : List Int} (h : Pr2 X) : Rw X := ⟨fun z => (by have := h.len; rw [z] at this; cases this), (by rw [h.len]; decide), fun x hx => Nat.lt_trans (h.sho x hx) (by decide)⟩
end
end K13

set_option Elab.async false
set_option linter.all false
set_option maxRecDepth 100000
set_option maxHeartbeats 4000000
namespace K13
open PySem PySem.Spec PyProof.Rows L2 StX RZ MyR SlX OwnR OwnF EnumT
/-! ### how large changed and derived forms are -/
theorem bd_zs' {l m : List Int} {n b c : Nat} (e : Int) (h : Bd l n b) (g : Bd m n c) : Bd (zs e l m) n (b + e.natAbs * c) := by
  have hz : zs e l m = zs 1 l (m.map (e * ·)) := by
    refine co_inj (by rw [zs_len (by rw [h.len, g.len]), zs_len (by rw [List.length_map, h.len, g.len])]) fun k => ?_
    rw [co_zs' e (by rw [h.len, g.len]), co_zs' 1 (by rw [List.length_map, h.len, g.len]), co_map, Int.one_mul]
  rw [hz]
  exact bd_zs h (bd_scale g (Nat.le_refl _))
theorem sN_le_mul {f g : Nat → Int} {c : Nat} : ∀ n, (∀ k, k < n → (f k).natAbs ≤ c * (g k).natAbs) → sN n f ≤ c * sN n g
  | 0, _ => Nat.zero_le _
  | n + 1, h => by
    show sN n f + (f n).natAbs ≤ c * (sN n g + (g n).natAbs)
    have h1 := sN_le_mul n fun k hk => h k (by omega)
    have h2 := h n (by omega)
    rw [Nat.mul_add]
    omega
theorem nm_drop1 (l : List Int) : nm (l.drop 1) ≤ nm l := by
  cases l with
  | nil => exact Nat.le_refl _
  | cons x xs => exact Nat.le_add_left _ _
theorem nm_dX (l : List Int) : nm (dX l) ≤ l.length * nm l := by
  unfold dX
  rw [nm_tb]
  refine Nat.le_trans (sN_le_mul (g := co l) (c := l.length) _ fun k hk => ?_) (Nat.mul_le_mul (Nat.le_refl _) (sN_co l _))
  rw [Int.natAbs_mul, Nat.mul_comm]
  exact Nat.mul_le_mul (by omega) (Nat.le_refl _)
theorem nm_dY (l : List Int) : nm (dY l) ≤ l.length * nm l := by
  unfold dY
  rw [nm_tb]
  refine Nat.le_trans (sN_le_mul (g := co (l.drop 1)) (c := l.length) _ fun k hk => ?_) (Nat.mul_le_mul (Nat.le_refl _) (Nat.le_trans (sN_co (l.drop 1) _) (nm_drop1 l)))
  rw [Int.natAbs_mul, Nat.mul_comm, co_drop1]
  exact Nat.mul_le_mul (by omega) (Nat.le_refl _)
theorem nm_dX_it (l : List Int) : ∀ u, nm (it dX u l) ≤ l.length ^ u * nm l
  | 0 => by rw [Nat.pow_zero, Nat.one_mul]; exact Nat.le_refl _
  | u + 1 => by
    have h1 := nm_dX (it dX u l)
    have h2 := nm_dX_it l u
    rw [dX_it_len] at h1
    show nm (dX (it dX u l)) ≤ _
    rw [Nat.pow_succ, Nat.mul_comm (l.length ^ u), Nat.mul_assoc]
    exact Nat.le_trans h1 (Nat.mul_le_mul (by omega) h2)
theorem nm_dY_it (l : List Int) : ∀ u, nm (it dY u l) ≤ l.length ^ u * nm l
  | 0 => by rw [Nat.pow_zero, Nat.one_mul]; exact Nat.le_refl _
  | u + 1 => by
    have h1 := nm_dY (it dY u l)
    have h2 := nm_dY_it l u
    rw [dY_it_len] at h1
    show nm (dY (it dY u l)) ≤ _
    rw [Nat.pow_succ, Nat.mul_comm (l.length ^ u), Nat.mul_assoc]
    exact Nat.le_trans h1 (Nat.mul_le_mul (by omega) h2)
theorem nm_dd (i j : Nat) (l : List Int) (h : 1 ≤ l.length) : nm (dd i j l) ≤ l.length ^ (i + j) * nm l := by
  unfold dd
  refine Nat.le_trans (nm_dY_it (it dX i l) j) ?_
  rw [dX_it_len]
  refine Nat.le_trans (Nat.mul_le_mul (Nat.pow_le_pow_left (show l.length - i ≤ l.length by omega) j) (nm_dX_it l i)) (Nat.le_of_eq ?_)
  rw [Nat.pow_add, ← Nat.mul_assoc, Nat.mul_comm (l.length ^ j)]
end K13

set_option Elab.async false
set_option linter.all false
set_option maxRecDepth 100000
set_option maxHeartbeats 4000000
namespace K13
open PySem PySem.Spec PyProof.Rows L2 StX RZ MyR SlX OwnR OwnF EnumT
section
variable {P : Program} {w : World} {K : PySem.W.Frag} {mg : Str → Option Value} {base : Heap}
def spByX : Sp := fun vs H Q _ => ∃ (a : Addr) (m : List Int), vs = [.ref a] ∧ H a = some (tp m) ∧ 1 ≤ m.length ∧ m.length ≤ 100 ∧ (∀ z ∈ m, sm z) ∧ ∀ p H', Same H H' → H' p = some (tp (dX m)) → Q (.ref p) H'
theorem ok_law_by_x (T : Facts K mg) : FnOk P w K mg base CX0 1 T.f_law_by_x T.fd_law_by_x ["_law_form_here"] spByX := by
  refine T.F_law_by_x.ok sc_law_by_x (fun vs H Q E h => ?_) (fun cdv A outer s H vs Q E hr h => ?_)
  · obtain ⟨a, m, rfl, _⟩ := h
    rfl
  · obtain ⟨a, m, rfl, ha, h1, h2, sm1, q⟩ := h
    refine ⟨_, (PSs.nox (pss_one (ps_ret (pe_tupleOf (by rfl) T.z_tuple (pe_lc (own := [("_law_at", 1), ("_law_entry", 2)]) (g := (gTup K 2 (gCons (gName 1) (gCons (gName 2) gNil)))) (tt := tYes) (by rfl) sc_law_by_x.nd (pi_enumT (by rfl) T.z_enumerate (pa_cons (pe_slice sl_tupA (pv 0) po_none (po_some (pe_un un_neg pe_int))) pa_nil)) (blkOk_by (N := N_law_by_x) (sc := defScope s_law_by_x) (by decide +kernel)) (fun _ _ _ _ _ => (pg_tup (by rfl) (pgs_cons (pg_name (i := 1) sc_law_by_x.nd rfl (.inl rfl)) (pgs_cons (pg_name (i := 2) sc_law_by_x.nd rfl (.inl rfl)) pgs_nil)))) (fun _ _ _ _ _ => pts_nil) (fun _ _ _ _ _ => (pe_op op_mulW (pv 2) (pe_op op_sub (pe_op op_sub (pe_callB (call_len_seq : CallR _ _ (Evl.rLenS K)) (by rfl) T.z_len (by decide +kernel) (pa_cons (pv 0) pa_nil)) pe_int) (pv 1))))))))), ?_⟩
    refine ⟨_, rfl, _, rfl, _, rfl, a, _, rfl, SqT.of ha, fun z => absurd z.2 (by rw [List.length_map, sIx_neg (by omega)]; omega), fun _ p np => ?_⟩
    rw [ecut_init (by omega)]
    refine gen_upd H p _ np fun H2 s2 f2 => ⟨p, _, rfl, SqT.of f2, fun D hD => lc_enumT (xs := (m.take (m.length - 1)).map V.int) (fun k H' => Same H2 H' ∧ H' D = some (.lst (tab k fun k => co m k * ((m.length : Int) - 1 - k)))) ⟨same_upd0 hD, upd_same⟩ (fun k H' _ hP => SqT.of (hP.1 _ _ f2)) (fun k x B H' hx hP hB => ?_) (fun H3 hP => ?_)⟩
    · obtain ⟨sH, hL⟩ := hP
      obtain ⟨hk, rfl⟩ := int_get hx
      rw [List.length_take] at hk
      rw [co_take (by omega)]
      refine gen_upd H' B _ hB fun H4 s4 f4 => ⟨B, _, rfl, SqT.of f4, rfl, _, _, rfl, _, _, rfl, rfl, rfl, ?_⟩
      have hfB := (s2.trans (sH.trans s4)) _ _ ha
      refine ⟨_, rfl, _, rfl, a, _, rfl, .inr (SqT.of hfB), ?_⟩
      rw [List.length_map]
      refine ⟨_, _, rfl, rfl, _, rfl, _, _, rfl, rfl, _, _, rfl, rfl, sm_mul (sm_co sm1 (by omega)) (Nat.lt_of_le_of_lt (show ((m.length : Int) - 1 - (k : Int)).natAbs ≤ 100 by omega) (Nat.lt_of_lt_of_le (show 100 < 2 ^ 7 by decide) (Nat.pow_le_pow_right (by decide) (by decide)))), _, s4 _ _ hL, ?_, fun b o e => ?_, ?_⟩
      · rw [tab_len]
        exact small1000 (by omega)
      · rw [upd_ne (ne_of_none e hD)]
        exact s4 _ _ (sH _ _ e)
      · rw [upd_same, ← tab_snoc]
    · obtain ⟨sH, hL⟩ := hP
      rw [List.length_map, List.length_take, Nat.min_eq_left (by omega), tab_tb] at hL
      exact .inl ⟨D, _, rfl, SqL.of hL, fun p5 n5 => q p5 _ (s2.trans (sH.trans (same_upd0 n5))) upd_same⟩
def spByY : Sp := fun vs H Q _ => ∃ (a : Addr) (m : List Int), vs = [.ref a] ∧ H a = some (tp m) ∧ 1 ≤ m.length ∧ m.length ≤ 100 ∧ (∀ z ∈ m, sm z) ∧ ∀ p H', Same H H' → H' p = some (tp (dY m)) → Q (.ref p) H'
theorem ok_law_by_y (T : Facts K mg) : FnOk P w K mg base CX0 1 T.f_law_by_y T.fd_law_by_y ["_law_form_here"] spByY := by
  refine T.F_law_by_y.ok sc_law_by_y (fun vs H Q E h => ?_) (fun cdv A outer s H vs Q E hr h => ?_)
  · obtain ⟨a, m, rfl, _⟩ := h
    rfl
  · obtain ⟨a, m, rfl, ha, h1, h2, sm1, q⟩ := h
    refine ⟨_, (PSs.nox (pss_one (ps_ret (pe_tupleOf (by rfl) T.z_tuple (pe_lc (own := [("_law_at", 1), ("_law_entry", 2)]) (g := (gTup K 2 (gCons (gName 1) (gCons (gName 2) gNil)))) (tt := tYes) (by rfl) sc_law_by_y.nd (pi_enumT (by rfl) T.z_enumerate (pa_cons (pe_slice sl_tupA (pv 0) (po_some pe_int) po_none) pa_nil)) (blkOk_by (N := N_law_by_y) (sc := defScope s_law_by_y) (by decide +kernel)) (fun _ _ _ _ _ => (pg_tup (by rfl) (pgs_cons (pg_name (i := 1) sc_law_by_y.nd rfl (.inl rfl)) (pgs_cons (pg_name (i := 2) sc_law_by_y.nd rfl (.inl rfl)) pgs_nil)))) (fun _ _ _ _ _ => pts_nil) (fun _ _ _ _ _ => (pe_op op_mulW (pv 2) (pe_op op_add (pv 1) pe_int)))))))), ?_⟩
    refine ⟨_, rfl, 1, rfl, a, _, rfl, SqT.of ha, fun z => absurd z.1 (by
      rw [List.length_map]
      unfold HT.sIx
      simp only []
      split <;> omega), fun _ p np => ?_⟩
    rw [ecut_tail (by omega)]
    refine gen_upd H p _ np fun H2 s2 f2 => ⟨p, _, rfl, SqT.of f2, fun D hD => lc_enumT (xs := (m.drop 1).map V.int) (fun k H' => Same H2 H' ∧ H' D = some (.lst (tab k fun k => co m (k + 1) * ((k : Int) + 1)))) ⟨same_upd0 hD, upd_same⟩ (fun k H' _ hP => SqT.of (hP.1 _ _ f2)) (fun k x B H' hx hP hB => ?_) (fun H3 hP => ?_)⟩
    · obtain ⟨sH, hL⟩ := hP
      obtain ⟨hk, rfl⟩ := int_get hx
      rw [List.length_drop] at hk
      rw [co_drop1]
      refine gen_upd H' B _ hB fun H4 s4 f4 => ⟨B, _, rfl, SqT.of f4, rfl, _, _, rfl, _, _, rfl, rfl, rfl, ?_⟩
      refine ⟨_, rfl, _, rfl, _, _, rfl, rfl, _, _, rfl, rfl, sm_mul (sm_co sm1 (by omega)) (Nat.lt_of_le_of_lt (show ((k : Int) + 1).natAbs ≤ 100 by omega) (Nat.lt_of_lt_of_le (show 100 < 2 ^ 7 by decide) (Nat.pow_le_pow_right (by decide) (by decide)))), _, s4 _ _ hL, ?_, fun b o e => ?_, ?_⟩
      · rw [tab_len]
        exact small1000 (by omega)
      · rw [upd_ne (ne_of_none e hD)]
        exact s4 _ _ (sH _ _ e)
      · rw [upd_same, ← tab_snoc]
    · obtain ⟨sH, hL⟩ := hP
      rw [List.length_map, List.length_drop, tab_tb] at hL
      exact .inl ⟨D, _, rfl, SqL.of hL, fun p5 n5 => q p5 _ (s2.trans (sH.trans (same_upd0 n5))) upd_same⟩
theorem ok_law_derived (T : Facts K mg) : FnOk P w K mg base CX0 2 T.f_law_derived T.fd_law_derived ["_law_form_here", "_law_one", "_law_other"] spDerived := by
  have G_law_by_x := ok_law_by_x (P := P) (w := w) (base := base) T
  have G_law_by_y := ok_law_by_y (P := P) (w := w) (base := base) T
  refine T.F_law_derived.ok sc_law_derived (fun vs H Q E h => ?_) (fun cdv A outer s H vs Q E hr h => ?_)
  · obtain ⟨a, l, i, j, rfl, _⟩ := h
    rfl
  · obtain ⟨a, l, i, j, rfl, ha, ok, q⟩ := h
    have hlen := ok.len
    have hle := ok.le
    refine ⟨_, (PSs.nox (pss_cons (ps_for PassesOwn.never (by rfl) (pi_range1 (by rfl) T.z_range (pa_cons (pv 1) pa_nil)) (pg_name (i := 3) sc_law_derived.nd rfl (.inl rfl))
      (pss_one (ps_set (i := 0) sc_law_derived.nd rfl (.inl rfl) (pe_call G_law_by_x hr (by rfl) T.g_law_by_x T.F_law_by_x.kp T.b_law_by_x .nil pass0 (pa_cons (pv 0) pa_nil)))))
    (pss_cons (ps_for PassesOwn.never (by rfl) (pi_range1 (by rfl) T.z_range (pa_cons (pv 2) pa_nil)) (pg_name (i := 3) sc_law_derived.nd rfl (.inl rfl))
      (pss_one (ps_set (i := 0) sc_law_derived.nd rfl (.inl rfl) (pe_call G_law_by_y hr (by rfl) T.g_law_by_y T.F_law_by_y.kp T.b_law_by_y .nil pass0 (pa_cons (pv 0) pa_nil)))))
    (pss_one (ps_ret (pv 0)))))), ?_⟩
    refine ⟨_, rfl, i, rfl, by omega, by omega, for_range (n := (i : Int).toNat) (fun u σ H' => ∃ fa y3, σ = [some (.ref fa), some (.int i), some (.int j), y3] ∧ Same H H' ∧ H' fa = some (tp (it dX u l))) ⟨a, none, rfl, Same.rf H, ha⟩ (fun u σ H1 hu hP => ?_) (fun σ H1 hP => ?_)⟩
    · obtain ⟨fa, y3, rfl, s1, hf⟩ := hP
      have lu := dX_it_len l u
      exact ⟨_, rfl, fa, _, rfl, hf, by omega, by omega, ok.sx u (by omega), fun p H2 s2 hp => ⟨p, _, rfl, s1.trans s2, hp⟩⟩
    · obtain ⟨fa, y3, rfl, s1, hf⟩ := hP
      rw [Int.toNat_natCast] at hf
      have lu0 := dX_it_len l i
      refine ⟨_, rfl, j, rfl, by omega, by omega, for_range (n := (j : Int).toNat) (fun u σ H' => ∃ fa y3, σ = [some (.ref fa), some (.int i), some (.int j), y3] ∧ Same H H' ∧ H' fa = some (tp (it dY u (it dX i l)))) ⟨fa, y3, rfl, s1, hf⟩ (fun u σ H1 hu hP => ?_) (fun σ H1 hP => ?_)⟩
      · obtain ⟨fa, y3, rfl, s1, hf⟩ := hP
        have lu := dY_it_len (it dX i l) u
        exact ⟨_, rfl, fa, _, rfl, hf, by omega, by omega, ok.sy u (by omega), fun p H2 s2 hp => ⟨p, _, rfl, s1.trans s2, hp⟩⟩
      · obtain ⟨fa, y3, rfl, s1, hf⟩ := hP
        rw [Int.toNat_natCast] at hf
        exact ⟨_, rfl, q fa H1 s1 hf⟩
/-- all that the law makes on its way is let -/
structure LchOk (X Y l : List Int) : Prop where
  ne : l ≠ []
  len : l.length ≤ 90
  lX : X.length = 2
  lY : Y.length = 2
  pX : ∀ i, i ≤ l.length → Rw (pow X i)
  pY : ∀ i, i ≤ l.length → Rw (pow Y i)
  pm : ∀ i, i < l.length → Rw (ml (pow X (l.length - 1 - i)) (pow Y i))
  sl : ∀ z ∈ l, sm z
end
end K13

set_option Elab.async false
set_option linter.all false
set_option maxRecDepth 100000
set_option maxHeartbeats 4000000
namespace K13
open PySem PySem.Spec PyProof.Rows L2 StX RZ MyR SlX OwnR OwnF EnumT
section
variable {P : Program} {w : World} {K : PySem.W.Frag} {mg : Str → Option Value} {base : Heap}
theorem sm_le {x : Int} {n : Nat} (h : x.natAbs ≤ n) (hn : n < 2 ^ 60) : sm x := Nat.lt_of_le_of_lt h (Nat.lt_of_lt_of_le hn (Nat.pow_le_pow_right (by decide) (by decide)))
end
end K13

set_option Elab.async false
set_option linter.all false
set_option maxRecDepth 100000
/-! layings: the plain law -/
namespace K13
theorem ev_tb (n : Nat) (f : Nat → Int) (x y : Int) : ev (tb n f) x y = evF n f x y := by
  unfold ev
  rw [tb_len]
  exact evF_congr _ fun i hi => by rw [co_tb, if_pos hi]
theorem ne_of2 {l : List Int} (h : 1 ≤ l.length) : l ≠ [] := List.length_pos_iff.mp h
/-! ### the laying -/
def L : Nat → List Int → List Int → List Int
  | 0, f, g => ml f g
  | t + 1, f, g => zs (-1) (L t (dX f) (dY g)) (L t (dY f) (dX g))
theorem L_len : ∀ (t : Nat) (f g : List Int), t + 1 ≤ f.length → t + 1 ≤ g.length → (L t f g).length = f.length + g.length - 1 - 2 * t
  | 0, f, g, _, _ => ml_len f g
  | t + 1, f, g, hf, hg => by
    have h1 := L_len t (dX f) (dY g) (by rw [dX_len]; omega) (by rw [dY_len]; omega)
    have h2 := L_len t (dY f) (dX g) (by rw [dY_len]; omega) (by rw [dX_len]; omega)
    rw [dX_len, dY_len] at h1
    rw [dX_len, dY_len] at h2
    show (zs (-1) (L t (dX f) (dY g)) (L t (dY f) (dX g))).length = _
    rw [zs_len (by rw [h1, h2]), h1]
    omega
theorem ev_L_succ {t : Nat} {f g : List Int} (hf : t + 2 ≤ f.length) (hg : t + 2 ≤ g.length) (x y : Int) : ev (L (t + 1) f g) x y = ev (L t (dX f) (dY g)) x y - ev (L t (dY f) (dX g)) x y := by
  have h1 := L_len t (dX f) (dY g) (by rw [dX_len]; omega) (by rw [dY_len]; omega)
  have h2 := L_len t (dY f) (dX g) (by rw [dY_len]; omega) (by rw [dX_len]; omega)
  rw [dX_len, dY_len] at h1
  rw [dX_len, dY_len] at h2
  show ev (zs (-1) (L t (dX f) (dY g)) (L t (dY f) (dX g))) x y = _
  rw [ev_zs (-1) (by rw [h1, h2])]
  omega
/-! ### sums -/
def su : Nat → (Nat → Int) → Int
  | 0, _ => 0
  | n + 1, φ => su n φ + φ n
theorem su_congr {φ ψ : Nat → Int} : ∀ n, (∀ k, k < n → φ k = ψ k) → su n φ = su n ψ
  | 0, _ => rfl
  | n + 1, h => by
    show su n φ + φ n = su n ψ + ψ n
    rw [su_congr n fun k hk => h k (by omega), h n (by omega)]
theorem su_add (φ ψ : Nat → Int) : ∀ n, su n (fun k => φ k + ψ k) = su n φ + su n ψ
  | 0 => rfl
  | n + 1 => by
    show su n (fun k => φ k + ψ k) + (φ n + ψ n) = su n φ + φ n + (su n ψ + ψ n)
    rw [su_add φ ψ n]
    omega
theorem su_shift (φ : Nat → Int) : ∀ n, su (n + 1) φ = φ 0 + su n (fun k => φ (k + 1))
  | 0 => by show 0 + φ 0 = φ 0 + 0; omega
  | n + 1 => by
    show su (n + 1) φ + φ (n + 1) = φ 0 + (su n (fun k => φ (k + 1)) + φ (n + 1))
    rw [su_shift φ n]
    omega
/-- how many lots -/
def ch : Nat → Nat → Nat
  | _, 0 => 1
  | 0, _ + 1 => 0
  | n + 1, k + 1 => ch n k + ch n (k + 1)
theorem ch_zero (n : Nat) : ch n 0 = 1 := by cases n <;> rfl
theorem ch_far : ∀ n k : Nat, n < k → ch n k = 0
  | n, 0, h => absurd h (Nat.not_lt_zero n)
  | 0, k + 1, _ => rfl
  | n + 1, k + 1, h => by
    show ch n k + ch n (k + 1) = 0
    rw [ch_far n k (by omega), ch_far n (k + 1) (by omega)]
theorem ch_mul : ∀ n k : Nat, (ch n (k + 1) : Int) * ((k : Int) + 1) = ch n k * ((n : Int) - k)
  | 0, k => by
    show ((0 : Nat) : Int) * _ = _
    cases k with
    | zero => show (0 : Int) * _ = 1 * ((0 : Int) - 0); grind
    | succ k => show (0 : Int) * _ = (0 : Int) * _; grind
  | n + 1, 0 => by
    have h := ch_mul n 0
    rw [ch_zero] at h
    show ((ch n 0 + ch n (0 + 1) : Nat) : Int) * _ = ((ch (n + 1) 0 : Nat) : Int) * _
    rw [ch_zero, ch_zero, Int.natCast_add]
    have e : ((0 : Nat) : Int) = 0 := rfl
    rw [e] at h ⊢
    rw [show ((n + 1 : Nat) : Int) = (n : Int) + 1 by omega]
    grind
  | n + 1, k + 1 => by
    have h1 := ch_mul n (k + 1)
    have h2 := ch_mul n k
    show ((ch n (k + 1) + ch n (k + 1 + 1) : Nat) : Int) * _ = ((ch n k + ch n (k + 1) : Nat) : Int) * _
    rw [Int.natCast_add (ch n (k + 1)), Int.natCast_add (ch n k)]
    rw [show ((k + 1 : Nat) : Int) = (k : Int) + 1 by omega] at h1 ⊢
    rw [show ((n + 1 : Nat) : Int) = (n : Int) + 1 by omega]
    grind
/-- the sign of a place -/
def sgn (k : Nat) : Int := if k % 2 = 0 then 1 else -1
theorem sgn_succ (k : Nat) : sgn (k + 1) = -sgn k := by
  unfold sgn
  by_cases h : k % 2 = 0
  · rw [if_pos h, if_neg (by omega)]
  · rw [if_neg h, if_pos (by omega)]
    rfl
theorem dXY (l : List Int) : dX (dY l) = dY (dX l) := by
  refine co_inj (by rw [dX_len, dY_len, dY_len, dX_len]) fun k => ?_
  have a1 : ∀ m : List Int, ∀ k, co (dX m) k = if k < m.length - 1 then co m k * ((m.length : Int) - 1 - k) else 0 := fun m k => co_tb k
  have a2 : ∀ m : List Int, ∀ k, co (dY m) k = if k < m.length - 1 then co m (k + 1) * ((k : Int) + 1) else 0 := fun m k => co_tb k
  rw [a1 (dY l), a2 (dX l), dX_len, dY_len, a1 l, a2 l]
  by_cases h : k < l.length - 1 - 1
  · rw [if_pos h, if_pos h, if_pos (by omega), if_pos (by omega)]
    rw [show ((k + 1 : Nat) : Int) = (k : Int) + 1 by omega, show ((l.length - 1 : Nat) : Int) = (l.length : Int) - 1 by omega]
    grind
  · rw [if_neg h, if_neg h]
theorem it_succ (f : List Int → List Int) (n : Nat) (l : List Int) : it f n (f l) = it f (n + 1) l := by
  induction n with
  | zero => rfl
  | succ n ih => show f (it f n (f l)) = f (it f (n + 1) l); rw [ih]
theorem dX_it_dY (l : List Int) : ∀ n, it dX n (dY l) = dY (it dX n l)
  | 0 => rfl
  | n + 1 => by
    show dX (it dX n (dY l)) = dY (dX (it dX n l))
    rw [dX_it_dY l n, dXY]
theorem dd_dX (i j : Nat) (l : List Int) : dd i j (dX l) = dd (i + 1) j l := by
  unfold dd
  rw [it_succ]
theorem dd_dY (i j : Nat) (l : List Int) : dd i j (dY l) = dd i (j + 1) l := by
  unfold dd
  rw [dX_it_dY, it_succ]
/-- a laying, as a sum -/
theorem L_sum (x y : Int) : ∀ (t : Nat) (f g : List Int), t + 1 ≤ f.length → t + 1 ≤ g.length →
    ev (L t f g) x y = su (t + 1) fun k => sgn k * ch t k * (ev (dd (t - k) k f) x y * ev (dd k (t - k) g) x y)
  | 0, f, g, hf, hg => by
    show ev (ml f g) x y = 0 + 1 * 1 * (ev f x y * ev g x y)
    rw [ev_ml (ne_of2 hf) (ne_of2 hg)]
    grind
  | t + 1, f, g, hf, hg => by
    rw [ev_L_succ (by omega) (by omega), L_sum x y t _ _ (by rw [dX_len]; omega) (by rw [dY_len]; omega), L_sum x y t _ _ (by rw [dY_len]; omega) (by rw [dX_len]; omega)]
    have T : ∃ T : Nat → Int, ∀ k, k ≤ t + 1 → T k = ev (dd (t + 1 - k) k f) x y * ev (dd k (t + 1 - k) g) x y := ⟨_, fun _ _ => rfl⟩
    obtain ⟨T, hT⟩ := T
    have e1 : su (t + 1) (fun k => sgn k * ch t k * (ev (dd (t - k) k (dX f)) x y * ev (dd k (t - k) (dY g)) x y)) = su (t + 1) fun k => sgn k * ch t k * T k := su_congr _ fun k hk => by
      rw [dd_dX, dd_dY, hT k (by omega), show t - k + 1 = t + 1 - k by omega]
    have e2 : su (t + 1) (fun k => sgn k * ch t k * (ev (dd (t - k) k (dY f)) x y * ev (dd k (t - k) (dX g)) x y)) = su (t + 1) fun k => sgn k * ch t k * T (k + 1) := su_congr _ fun k hk => by
      rw [dd_dX, dd_dY, hT (k + 1) (by omega), show t + 1 - (k + 1) = t - k by omega]
    have e3 : su (t + 1 + 1) (fun k => sgn k * ch (t + 1) k * (ev (dd (t + 1 - k) k f) x y * ev (dd k (t + 1 - k) g) x y)) = su (t + 1 + 1) fun k => sgn k * ch (t + 1) k * T k := su_congr _ fun k hk => by
      rw [hT k (by omega)]
    rw [e1, e2, e3, su_shift _ (t + 1)]
    have e4 : su (t + 1) (fun k => sgn (k + 1) * ch (t + 1) (k + 1) * T (k + 1)) = su (t + 1) (fun k => sgn (k + 1) * ch t (k + 1) * T (k + 1)) + su (t + 1) (fun k => -1 * (sgn k * ch t k * T (k + 1))) := by
      rw [← su_add]
      refine su_congr _ fun k hk => ?_
      show sgn (k + 1) * ((ch t k + ch t (k + 1) : Nat) : Int) * T (k + 1) = _
      rw [Int.natCast_add, sgn_succ]
      grind
    have e5 := su_shift (fun k => sgn k * ch t k * T k) (t + 1)
    have e6 : su (t + 1 + 1) (fun k => sgn k * ch t k * T k) = su (t + 1) (fun k => sgn k * ch t k * T k) + sgn (t + 1) * ch t (t + 1) * T (t + 1) := rfl
    have e7 : su (t + 1) (fun k => -1 * (sgn k * ch t k * T (k + 1))) = - su (t + 1) (fun k => sgn k * ch t k * T (k + 1)) := by
      have : ∀ n φ, su n (fun k => -1 * φ k) = - su n φ := by
        intro n φ
        induction n with
        | zero => rfl
        | succ n ih => show su n (fun k => -1 * φ k) + -1 * φ n = -(su n φ + φ n); rw [ih]; omega
      exact this _ _
    rw [e4, e7]
    rw [e6, ch_far t (t + 1) (by omega)] at e5
    rw [ch_zero] at e5 ⊢
    have z0 : sgn (t + 1) * ((0 : Nat) : Int) * T (t + 1) = 0 := by
      rw [show ((0 : Nat) : Int) = 0 from rfl, Int.mul_zero, Int.zero_mul]
    omega
end K13

set_option Elab.async false
set_option linter.all false
set_option maxRecDepth 100000
set_option maxHeartbeats 4000000
namespace K13
open PySem PySem.Spec PyProof.Rows L2 StX RZ MyR SlX OwnR OwnF EnumT GxR
/-! ### tables of code objects -/
def Tg (Ps : List Addr) (H : Hp) : Prop := ∀ P ∈ Ps, TabG H P
def Sts (Ps : List Addr) (H H' : Hp) : Prop := ∀ b o, b ∉ Ps → H b = some o → H' b = some o
/-- all but the dice at d and the tables Ps stays -/
def Sy (d : Addr) (Ps : List Addr) (H H' : Hp) : Prop := ∀ b o, b ≠ d → b ∉ Ps → H b = some o → H' b = some o
theorem Sts.rf (Ps : List Addr) (H : Hp) : Sts Ps H H := fun _ _ _ e => e
theorem Sts.of {Ps : List Addr} {H H' : Hp} (s : Same H H') : Sts Ps H H' := fun b o _ h => s b o h
theorem Sts.trans {Ps : List Addr} {H H1 H2 : Hp} (s : Sts Ps H H1) (t : Sts Ps H1 H2) : Sts Ps H H2 := fun b o n h => t b o n (s b o n h)
theorem Sy.rf (d : Addr) (Ps : List Addr) (H : Hp) : Sy d Ps H H := fun _ _ _ _ e => e
theorem Sy.of {d : Addr} {Ps : List Addr} {H H' : Hp} (s : Same H H') : Sy d Ps H H' := fun b o _ _ h => s b o h
theorem Sy.ofD {d : Addr} {Ps : List Addr} {H H' : Hp} (s : Sx d H H') : Sy d Ps H H' := fun b o n _ h => s b o n h
theorem Sy.ofP {d : Addr} {Ps : List Addr} {H H' : Hp} (s : Sts Ps H H') : Sy d Ps H H' := fun b o _ n h => s b o n h
theorem Sy.trans {d : Addr} {Ps : List Addr} {H H1 H2 : Hp} (s : Sy d Ps H H1) (t : Sy d Ps H1 H2) : Sy d Ps H H2 := fun b o n m h => t b o n m (s b o n m h)
theorem tabS {P : Addr} {H H' : Hp} (t : TabG H P) (s : Same H H') : TabG H' P := by
  obtain ⟨ps, h, k⟩ := t
  exact ⟨ps, s _ _ h, k⟩
theorem Tg.same {Ps : List Addr} {H H' : Hp} (t : Tg Ps H) (s : Same H H') : Tg Ps H' := fun P m => tabS (t P m) s
theorem Tg.sx {Ps : List Addr} {d : Addr} {H H' : Hp} (t : Tg Ps H) (s : Sx d H H') (hd : Dc H d) : Tg Ps H' := fun P m => by
  obtain ⟨ps, h, k⟩ := t P m
  obtain ⟨x, y, z, e⟩ := hd
  refine ⟨ps, s _ _ (fun q => ?_) h, k⟩
  rw [q, e] at h
  cases h
theorem Tg.ne {Ps : List Addr} {H : Hp} {a : Addr} {o : HO} (t : Tg Ps H) (h : H a = some o) (ho : ∀ ps, o ≠ .tbl ps) : a ∉ Ps := fun m => by
  obtain ⟨ps, e, _⟩ := t a m
  rw [h] at e
  exact ho ps (Option.some.inj e)
theorem Tg.sts {Ps : List Addr} {H H1 H' : Hp} (t : Tg Ps H1) (s : Sts Ps H H1) (s2 : Same H1 H') : Tg Ps H' := t.same s2
theorem tbd_sts {Ps : List Addr} {P : Addr} {H H' : Hp} (t : Tabbed P H H') (h : P ∈ Ps) : Sts Ps H H' := fun b o nb e => (t.2 b (fun z => nb (z ▸ h))).trans e
theorem tbd_tg {Ps : List Addr} {P : Addr} {H H' : Hp} (t : Tabbed P H H') (g : Tg Ps H) : Tg Ps H' := fun P' m => by
  by_cases e : P' = P
  · rw [e]
    exact t.1
  · obtain ⟨ps, h, k⟩ := g P' m
    exact ⟨ps, (t.2 P' e).trans h, k⟩
theorem Sts.tup {Ps : List Addr} {H H' : Hp} {t : Addr} {xs : List V} (s : Sts Ps H H') (g : Tg Ps H) (h : H t = some (.tup xs)) : H' t = some (.tup xs) := s _ _ (g.ne h fun _ e => by cases e) h
theorem Sts.lst {Ps : List Addr} {H H' : Hp} {t : Addr} {xs : List V} (s : Sts Ps H H') (g : Tg Ps H) (h : H t = some (.lst xs)) : H' t = some (.lst xs) := s _ _ (g.ne h fun _ e => by cases e) h
theorem Sts.fo {Ps : List Addr} {C a : Addr} {H H' : Hp} {l : List Int} (s : Sts Ps H H') (g : Tg Ps H) (h : Fo C H a l) : Fo C H' a l := by
  obtain ⟨dx, t, e1, e2, e3⟩ := h
  exact ⟨dx, t, s _ _ (g.ne e1 fun _ e => by cases e) e1, s _ _ (g.ne e2 fun _ e => by cases e) e2, s _ _ (g.ne e3 fun _ e => by cases e) e3⟩
theorem Sts.dc {Ps : List Addr} {d : Addr} {H H' : Hp} (s : Sts Ps H H') (g : Tg Ps H) (h : Dc H d) : Dc H' d := by
  obtain ⟨x, y, z, e⟩ := h
  exact ⟨x, y, z, s _ _ (g.ne e fun _ e => by cases e) e⟩
/-- dice and the tables -/
structure Dp (d : Addr) (Ps : List Addr) (H : Hp) : Prop where
  dd : Dc H d
  tt : Tg Ps H
theorem Dp.same {d : Addr} {Ps : List Addr} {H H' : Hp} (D : Dp d Ps H) (s : Same H H') : Dp d Ps H' := ⟨D.dd.same s, D.tt.same s⟩
theorem Dp.sx {d : Addr} {Ps : List Addr} {H H' : Hp} (D : Dp d Ps H) (s : Sx d H H') (h : Dc H' d) : Dp d Ps H' := ⟨h, D.tt.sx s D.dd⟩
theorem Dp.sp {d : Addr} {Ps : List Addr} {H H' : Hp} (D : Dp d Ps H) (s : Sts Ps H H') (h : Tg Ps H') : Dp d Ps H' := ⟨s.dc D.tt D.dd, h⟩
theorem Dp.tup {d : Addr} {Ps : List Addr} {H H' : Hp} {t : Addr} {xs : List V} (D : Dp d Ps H) (s : Sy d Ps H H') (h : H t = some (.tup xs)) : H' t = some (.tup xs) := s _ _ (dc_ne D.dd h) (D.tt.ne h fun _ e => by cases e) h
theorem Dp.fo {d : Addr} {Ps : List Addr} {H H' : Hp} {C a : Addr} {l : List Int} (D : Dp d Ps H) (s : Sy d Ps H H') (h : Fo C H a l) : Fo C H' a l := by
  obtain ⟨dx, t, e1, e2, e3⟩ := h
  obtain ⟨x, y, z, e⟩ := D.dd
  have nd : ∀ {b o}, H b = some o → (∀ l, o ≠ .lst l) → b ≠ d := fun h1 h2 q => by
    rw [q, e] at h1
    exact h2 _ (Option.some.inj h1).symm
  exact ⟨dx, t, s _ _ (nd e1 fun _ e => by cases e) (D.tt.ne e1 fun _ e => by cases e) e1, s _ _ (nd e2 fun _ e => by cases e) (D.tt.ne e2 fun _ e => by cases e) e2, s _ _ (nd e3 fun _ e => by cases e) (D.tt.ne e3 fun _ e => by cases e) e3⟩
theorem script_Sy {K : PySem.W.Frag} {d a : Addr} {Ps : List Addr} {H H' : Hp} {o : HO} {xs : List V} (s : Sy d Ps (upd H d o) H') (n : H d = none) (t : Tg Ps H) (h : SqL K H a xs) : SqL K H' a xs := by
  rcases h with (h | ⟨u, h⟩) | h
  · have ne : a ≠ d := ne_of_none h n
    exact .inl (.inl (s a _ ne (t.ne h fun _ e => by cases e) (by rw [upd_ne ne]; exact h)))
  · have ne : a ≠ d := ne_of_none h n
    exact .inl (.inr ⟨u, s a _ ne (t.ne h fun _ e => by cases e) (by rw [upd_ne ne]; exact h)⟩)
  · exact .inr h
def spLawT (K : PySem.W.Frag) (Ps : List Addr) : Sp := fun vs H Q _ => ∃ (a : Addr) (ns : List Int), vs = [.ref a] ∧ SqL K H a (ns.map V.int) ∧ ns.length ≤ 63 ∧ Tg Ps H ∧ ∀ H', Q (.bl true) H'
end K13

set_option Elab.async false
set_option linter.all false
set_option maxRecDepth 100000
set_option maxHeartbeats 4000000
set_option exponentiation.threshold 10000
namespace K13
open PySem PySem.Spec PyProof.Rows L2 StX RZ MyR SlX OwnR OwnF EnumT GxR GenNx FDivQ
def gl (l : List Int) : Nat := l.foldl (fun a x => Nat.gcd a x.natAbs) 0
theorem gl_snoc (l : List Int) (x : Int) : gl (l ++ [x]) = Nat.gcd (gl l) x.natAbs := by
  unfold gl
  rw [List.foldl_append]
  rfl
def foE (l : List Int) : Int := (l.find? (· != 0)).getD 0
theorem foE_of {l : List Int} {r : Int} (h : FirstOf (fun i => i != 0) l 0 r) : r = foE l := by
  unfold foE
  rcases h with ⟨h, rfl⟩ | ⟨i, h1, h2, h3⟩
  · have e : l.find? (· != 0) = none := List.find?_eq_none.mpr fun x hx => by
      obtain ⟨j, hj, e⟩ := List.mem_iff_getElem.mp hx
      have q : (x != 0) = false := h j x (by rw [List.getElem?_eq_getElem hj, e])
      rw [q]
      exact Bool.false_ne_true
    rw [e]
    rfl
  · obtain ⟨hi, e⟩ := List.getElem?_eq_some_iff.mp h1
    have e2 : l.find? (· != 0) = some r := List.find?_eq_some_iff_getElem.mpr ⟨h2, i, hi, e, fun j hj => by
      have q : (l[j] != 0) = false := h3 j _ hj (List.getElem?_eq_getElem (Nat.lt_trans hj hi))
      rw [q]
      rfl⟩
    rw [e2]
    rfl
abbrev ls (ns : List Int) : HO := .lst (ns.map V.int)
section
variable {P : Program} {w : World} {K : PySem.W.Frag} {mg : Str → Option Value} {base : Heap} {Ps : List Addr}
def spSharedL (K : PySem.W.Frag) : Sp := fun vs H Q _ => ∃ (t : Addr) (ns : List Int), vs = [.ref t] ∧ SqL K H t (ns.map V.int) ∧ Q (.int (gl ns : Nat)) H
theorem ok_shared_of (T : Facts K mg) : FnOk P w K mg base CX0 1 T.f_shared_of T.fd_shared_of ["numbers"] (spSharedL K) := by
  refine T.F_shared_of.ok sc_shared_of (fun vs H Q E h => ?_) (fun cdv A outer s H vs Q E hr h => ?_)
  · obtain ⟨t, ns, rfl, _⟩ := h
    rfl
  · obtain ⟨t, ns, rfl, ht, q⟩ := h
    refine ⟨_, (PSs.nox (pss_cons (ps_set (i := 1) sc_shared_of.nd rfl (.inl rfl) pe_int)
    (pss_cons (ps_for PassesOwn.never (by rfl) (pi_list (pv 0)) (pg_name (i := 2) sc_shared_of.nd rfl (.inl rfl))
      (pss_one (ps_set (i := 1) sc_shared_of.nd rfl (.inl rfl) (pe_callBfun cr_gcd (by rfl) T.m_gcd (pa_cons (pv 1) (pa_cons (pv 2) pa_nil))))))
    (pss_one (ps_ret (pv 1)))))), ?_⟩
    refine ⟨_, rfl, t, rfl, ⟨_, ht⟩, for_list (xs := ns.map V.int) (fun i σ H' => ∃ y, σ = [some (.ref t), some (.int ((gl (ns.take i) : Nat) : Int)), y] ∧ H' = H) ⟨none, rfl, rfl⟩ (fun i σ H' _ hP => by rw [hP.choose_spec.2]; exact ht) (fun i x σ H' hx hP => ?_) (fun σ H' hP => ?_)⟩
    · obtain ⟨y, rfl, rfl⟩ := hP
      obtain ⟨hi, rfl⟩ := int_get hx
      refine ⟨_, rfl, _, rfl, _, _, rfl, some (.int (co ns i)), ?_, rfl⟩
      rw [take_snoc hi, gl_snoc]
      rfl
    · obtain ⟨y, rfl, rfl⟩ := hP
      rw [List.length_map, List.take_length]
      exact ⟨_, rfl, q⟩
def spSharedS (K : PySem.W.Frag) : Sp := fun vs H Q _ => ∃ (t : Addr) (ns : List Int), vs = [.ref t] ∧ (SqT K H t (ns.map V.int) ∨ SqL K H t (ns.map V.int)) ∧ Q (.int (gl ns : Nat)) H
def spFirstOf (K : PySem.W.Frag) (Ps : List Addr) : Sp := fun vs H Q _ => ∃ (t : Addr) (l : List Int), vs = [.ref t] ∧ SqL K H t (l.map V.int) ∧ Tg Ps H ∧ ∀ H', Sts Ps H H' → Tg Ps H' → Q (.int (foE l)) H'
theorem ok_first_of (T : Facts K mg) (TB_first_of : TabB base mg T.c_first_of T.P_first_of) (hP : T.P_first_of ∈ Ps) : FnOk P w K mg base CX0 1 T.f_first_of T.fd_first_of ["numbers"] (spFirstOf K Ps) := by
  refine HookT.okC T.F_first_of sc_first_of (fun vs H Q E h => ?_) (fun A outer s H vs Q E hr h => ?_)
  · obtain ⟨t, l, rfl, _⟩ := h
    rfl
  · obtain ⟨t, l, rfl, ht, hG, q⟩ := h
    refine ⟨_, (PSs.nox (pss_one (ps_ret (GenNl.pe_nextL hr (by rfl) T.z_next TB_first_of T.code_first_of (GenNx.genS_of rfl rfl (by decide +kernel) rfl rfl) (pv 0) (GenNx.test_ne0 rfl rfl))))), ?_⟩
    refine ⟨_, rfl, t, l, rfl, ht, hG _ hP, fun r H2 hr2 hT => ?_⟩
    have q2 := q H2 (tbd_sts hT hP) (tbd_tg hT hG)
    rw [← foE_of hr2] at q2
    exact q2
end
theorem lc_zipL {K : PySem.W.Frag} {a b : Addr} {xs ys : List V} {g : TG} {tt : TT} {te : TE} {vs : List Nat} {σ : L2.St} {H1 : Hp} {D : Addr} {Qd : Hp → Prop} (hl : xs.length = ys.length) (Pv : Nat → Hp → Prop) (h0 : Pv 0 (upd H1 D (.lst []))) (hq : ∀ i H, i ≤ xs.length → Pv i H → SqL K H a xs ∧ SqL K H b ys)
    (hs : ∀ (i : Nat) (x y : V) (T : Addr) (H : Hp), xs[i]? = some x → ys[i]? = some y → Pv i H → H T = none → g (.ref T) (wipe σ vs) (upd H T (.tup [x, y])) fun σ2 H2 => wipe σ2 vs = wipe σ vs ∧ tt σ2 H2 fun b H3 =>
      if b = true then te σ2 H3 fun y H4 => ∃ acc, H4 D = some (.lst acc) ∧ acc.length < sizeLine ∧ Pv (i + 1) (upd H4 D (.lst (acc ++ [y]))) else Pv (i + 1) H3) (hd : ∀ H, Pv xs.length H → Qd H) :
    ∃ W : Nat → Nat → Hp → Prop, (∃ m, W 0 m (upd H1 D (.lst []))) ∧ ∀ i m H, W i m H →
      ((Itz K a b).stop i H ∧ Qd H) ∨ ((Itz K a b).go i H ∧ ∃ Nx : Hp → Prop, (∀ H', Nx H' → ∃ m', m' < m ∧ W (i + 1) m' H') ∧ ∀ x H', (Itz K a b).yld i H x H' → g x (wipe σ vs) H' fun σ2 H2 => wipe σ2 vs = wipe σ vs ∧ tt σ2 H2 fun b H3 =>
        if b = true then te σ2 H3 fun y H4 => ∃ acc, H4 D = some (.lst acc) ∧ acc.length < sizeLine ∧ Nx (upd H4 D (.lst (acc ++ [y]))) else Nx H3) := by
  refine ⟨fun i m H => m = xs.length - i ∧ i ≤ xs.length ∧ Pv i H, ⟨xs.length, by simp, Nat.zero_le _, h0⟩, ?_⟩
  rintro i m H ⟨rfl, hi, p⟩
  obtain ⟨qx, qy⟩ := hq i H hi p
  by_cases hlt : i < xs.length
  · have hlt2 : i < ys.length := by omega
    have hx : xs[i]? = some xs[i] := List.getElem?_eq_getElem hlt
    have hy : ys[i]? = some ys[i] := List.getElem?_eq_getElem hlt2
    refine .inr ⟨⟨xs, ys, _, _, qx, qy, hx, hy⟩, Pv (i + 1), fun H' p' => ⟨xs.length - (i + 1), by omega, rfl, hlt, p'⟩, fun v H' y => ?_⟩
    obtain ⟨T, x', y', rfl, hT, rfl, f1, f2⟩ := y
    exact hs i x' y' T H (f1 xs qx) (f2 ys qy) p hT
  · have e : i = xs.length := by omega
    subst e
    exact .inl ⟨⟨xs, ys, qx, qy, Or.inl (Nat.le_refl _)⟩, hd H p⟩
def dv (l : List Int) (c : Int) : List Int := l.map fun x => x.fdiv c
theorem dv_tb (l : List Int) (c : Int) : (tb l.length fun k => (co l k).fdiv c) = dv l c := tb_map (fun x => x.fdiv c) l
def primE (l : List Int) : List Int := if gl l = 0 then l else dv l (if 0 < foE l then (gl l : Int) else -(gl l : Int))
def DivOk (l : List Int) : Prop := gl l ≠ 0 → ∀ x ∈ l, CDivQ x (gl l)
theorem cdivQ_neg {i j : Int} (h : CDivQ i j) : CDivQ i (-j) := ⟨fun e => h.1 (by omega), by rw [Int.natAbs_neg]; exact h.2⟩
theorem co_memE {l : List Int} {k : Nat} (h : k < l.length) : co l k ∈ l := by
  rw [co_get h]
  exact List.getElem_mem h
section
variable {P : Program} {w : World} {K : PySem.W.Frag} {mg : Str → Option Value} {base : Heap} {Ps : List Addr}
def spPrimL (Ps : List Addr) : Sp := fun vs H Q _ => ∃ (t : Addr) (l : List Int), vs = [.ref t] ∧ H t = some (ls l) ∧ l.length ≤ 100 ∧ DivOk l ∧ Tg Ps H ∧ ∀ p H', Sts Ps H H' → Tg Ps H' → H' p = some (ls (primE l)) → Q (.ref p) H'
theorem ok_primitive_of (T : Facts K mg) (TB_first_of : TabB base mg T.c_first_of T.P_first_of) (hP : T.P_first_of ∈ Ps) : FnOk P w K mg base CX0 2 T.f_primitive_of T.fd_primitive_of ["numbers"] (spPrimL Ps) := by
  have G_shared_of : FnOk P w K mg base CX0 1 T.f_shared_of T.fd_shared_of ["numbers"] (spSharedL K) := ok_shared_of T
  have G_first_of := ok_first_of (P := P) (w := w) (base := base) T TB_first_of hP
  refine T.F_primitive_of.ok sc_primitive_of (fun vs H Q E h => ?_) (fun cdv A outer s H vs Q E hr h => ?_)
  · obtain ⟨t, l, rfl, _⟩ := h
    rfl
  · obtain ⟨t, l, rfl, ht, hl, hdo, hG, q⟩ := h
    refine ⟨_, (PSs.nox (pss_cons (ps_set (i := 1) sc_primitive_of.nd rfl (.inr rfl) (pe_call G_shared_of hr (by rfl) T.g_shared_of T.F_shared_of.kp T.b_shared_of .nil pass0 (pa_cons (pv 0) pa_nil)))
    (pss_cons (ps_if (pt_cmpR op_eq (pv 1) pe_int (nomark _))
      (pss_one (ps_ret (pe_callTy call_list_of (by rfl) T.z_list (by decide +kernel) (pa_cons (pv 0) pa_nil))))
      pss_nil)
    (pss_cons (ps_set (i := 1) sc_primitive_of.nd rfl (.inr rfl) (pe_ifExp (pt_cmpR op_gt (pe_call G_first_of hr (by rfl) T.g_first_of T.F_first_of.kp T.b_first_of .nil pass0 (pa_cons (pv 0) pa_nil)) pe_int (nomark _)) (pv 1) (pe_un un_neg (pv 1))))
    (pss_one (ps_ret (pe_lc (own := [("number", 2)]) (g := (gName 2)) (tt := tYes) (by rfl) sc_primitive_of.nd (pi_list (pv 0)) (blkOk_by (N := N_primitive_of) (sc := defScope s_primitive_of) (by decide +kernel)) (fun _ _ _ _ _ => (pg_name (i := 2) sc_primitive_of.nd rfl (.inl rfl))) (fun _ _ _ _ _ => pts_nil) (fun _ _ _ _ _ => (pe_op FDivQ.op_fdivQ (pv 2) (pv 1)))))))))), ?_⟩
    refine ⟨_, rfl, t, l, rfl, SqL.of ht, _, rfl, rfl, _, rfl, ?_⟩
    by_cases c : gl l = 0
    · rw [decide_eq_true (show V.int ((gl l : Nat) : Int) = V.int 0 by rw [c]; rfl)]
      refine iteT ⟨_, rfl, t, l.map V.int, rfl, .inl (SqL.of ht), fun p hp => q p _ (Sts.of (same_upd0 hp)) (hG.same (same_upd0 hp)) ?_⟩
      unfold primE
      rw [if_pos c]
      exact upd_same
    · rw [decide_eq_false fun z => c (Int.natCast_eq_zero.mp (V.int.inj z))]
      refine iteF ⟨_, rfl, t, l, rfl, SqL.of ht, hG, fun H1 s1 g1 => ?_⟩
      have ht1 := s1.lst hG ht
      have fin : ∀ c2 : Int, primE l = dv l c2 → (∀ x ∈ l, CDivQ x c2) → ∀ D, H1 D = none → ∃ W : Nat → Nat → Hp → Prop, (∃ m, W 0 m (upd H1 D (.lst []))) ∧ ∀ i m H, W i m H →
          ((Itl K t).stop i H ∧ Q (.ref D) H) ∨ ((Itl K t).go i H ∧ ∃ Nx : Hp → Prop, (∀ H', Nx H' → ∃ m', m' < m ∧ W (i + 1) m' H') ∧ ∀ x H', (Itl K t).yld i H x H' → gName 2 x (wipe (List.set (L2.start N_primitive_of [V.ref t]) 1 (some (V.int c2))) [2]) H' fun σ2 H2 => wipe σ2 [2] = wipe (List.set (L2.start N_primitive_of [V.ref t]) 1 (some (V.int c2))) [2] ∧ tYes σ2 H2 fun b H3 =>
            if b = true then tOp (rI CDivQ fun i j => V.int (i.fdiv j)) (tVar 2) (tVar 1) σ2 H3 fun y H4 => ∃ acc, H4 D = some (.lst acc) ∧ acc.length < sizeLine ∧ Nx (upd H4 D (.lst (acc ++ [y]))) else Nx H3) := fun c2 e hc D hD => by
        refine lc_list (xs := l.map V.int) (fun j H' => H' = upd H1 D (.lst (tab j fun k => (co l k).fdiv c2))) rfl (fun j H' _ hP => ?_) (fun j x H' hx hP => ?_) (fun H' hP => ?_)
        · rw [hP]
          exact SqL.of (same_upd0 hD _ _ ht1)
        · subst hP
          obtain ⟨hj, rfl⟩ := int_get hx
          refine ⟨rfl, _, rfl, _, rfl, _, _, rfl, rfl, hc _ (co_memE hj), _, upd_same, ?_, ?_⟩
          · rw [tab_len]
            exact small1000 (by omega)
          · rw [upd_upd, ← tab_snoc]
        · subst hP
          rw [List.length_map]
          refine q D _ (s1.trans (Sts.of (same_upd0 hD))) (g1.same (same_upd0 hD)) ?_
          rw [upd_same, tab_tb, dv_tb, e]
      refine ⟨_, _, rfl, rfl, _, rfl, ?_⟩
      by_cases d : 0 < foE l
      · rw [decide_eq_true d]
        refine iteT ⟨_, rfl, _, rfl, t, rfl, ⟨_, SqL.of ht1⟩, fin _ ?_ (hdo c)⟩
        unfold primE
        rw [if_neg c, if_pos d]
      · rw [decide_eq_false d]
        refine iteF ⟨_, rfl, _, rfl, _, rfl, t, rfl, ⟨_, SqL.of ht1⟩, fin _ ?_ fun x hx => cdivQ_neg (hdo c x hx)⟩
        unfold primE
        rw [if_neg c, if_neg d]
def lf (row head : List Int) (p : Nat) : List Int :=
  tb row.length fun k => co row k * (co head p).fdiv (Nat.gcd (co head p).natAbs (co row p).natAbs : Nat) - (co row p).fdiv (Nat.gcd (co head p).natAbs (co row p).natAbs : Nat) * co head k
def less (row head : List Int) (p : Nat) : List Int := if co row p = 0 then row else if 1 < gl (lf row head p) then dv (lf row head p) (gl (lf row head p)) else lf row head p
structure LessOk (row head : List Int) (p : Nat) : Prop where
  c1 : CDivQ (co head p) (Nat.gcd (co head p).natAbs (co row p).natAbs : Nat)
  c2 : CDivQ (co row p) (Nat.gcd (co head p).natAbs (co row p).natAbs : Nat)
  m1 : ∀ k, k < row.length → CMulW (co row k) ((co head p).fdiv (Nat.gcd (co head p).natAbs (co row p).natAbs : Nat))
  m2 : ∀ k, k < row.length → CMulW ((co row p).fdiv (Nat.gcd (co head p).natAbs (co row p).natAbs : Nat)) (co head k)
  d : DivOk (lf row head p)
def spLess : Sp := fun vs H Q _ => ∃ (a b : Addr) (row head : List Int) (p : Nat), vs = [.ref a, .ref b, .int p] ∧ H a = some (ls row) ∧ H b = some (ls head) ∧ row.length = head.length ∧ row.length ≤ 100 ∧ p < row.length ∧ (co row p ≠ 0 → LessOk row head p) ∧ ∀ q H', Same H H' → H' q = some (ls (less row head p)) → Q (.ref q) H'
theorem sz2 : 2 ≤ sizeLine := by decide
theorem ok_less_head (T : Facts K mg) : FnOk P w K mg base CX0 2 T.f_less_head T.fd_less_head ["row", "head", "place"] spLess := by
  have G_shared_of : FnOk P w K mg base CX0 1 T.f_shared_of T.fd_shared_of ["numbers"] (spSharedL K) := ok_shared_of T
  refine T.F_less_head.ok sc_less_head (fun vs H Q E h => ?_) (fun cdv A outer s H vs Q E hr h => ?_)
  · obtain ⟨a, b, row, head, p, rfl, _⟩ := h
    rfl
  · obtain ⟨a, b, row, head, p, rfl, ha, hb, hl, hl1, hp, ok, q⟩ := h
    refine ⟨_, (PSs.nox (pss_cons (ps_asg (pe_tup (pa_cons (pe_ix ix_list (pv 1) (pv 2) (fun _ _ => rfl)) (pa_cons (pe_ix ix_list (pv 0) (pv 2) (fun _ _ => rfl)) pa_nil))) (pg_tup (by rfl) (pgs_cons (pg_name (i := 3) sc_less_head.nd rfl (.inr rfl)) (pgs_cons (pg_name (i := 4) sc_less_head.nd rfl (.inr rfl)) pgs_nil))))
    (pss_cons (ps_if (pt_cmpR op_eq (pv 4) pe_int (nomark _))
      (pss_one (ps_ret (pv 0)))
      pss_nil)
    (pss_cons (ps_set (i := 5) sc_less_head.nd rfl (.inl rfl) (pe_callBfun cr_gcd (by rfl) T.m_gcd (pa_cons (pv 3) (pa_cons (pv 4) pa_nil))))
    (pss_cons (ps_asg (pe_tup (pa_cons (pe_op FDivQ.op_fdivQ (pv 3) (pv 5)) (pa_cons (pe_op FDivQ.op_fdivQ (pv 4) (pv 5)) pa_nil))) (pg_tup (by rfl) (pgs_cons (pg_name (i := 3) sc_less_head.nd rfl (.inr rfl)) (pgs_cons (pg_name (i := 4) sc_less_head.nd rfl (.inr rfl)) pgs_nil))))
    (pss_cons (ps_setLc (i := 6) (own := [("entry", 7), ("taken", 8)]) (g := (gTup K 2 (gCons (gName 7) (gCons (gName 8) gNil)))) (tt := tYes) rfl sc_less_head.nd rfl rfl (sw_true rfl rfl rfl (by decide +kernel)) (pi_zipA (by rfl) T.z_zip (pa_cons (pv 0) (pa_cons (pv 1) pa_nil))) (blkOk_by (N := N_less_head) (sc := defScope s_less_head) (by decide +kernel)) (fun _ _ _ _ _ => (pg_tup (by rfl) (pgs_cons (pg_name (i := 7) sc_less_head.nd rfl (.inl rfl)) (pgs_cons (pg_name (i := 8) sc_less_head.nd rfl (.inl rfl)) pgs_nil)))) (fun _ _ _ _ _ => pts_nil) (fun _ _ _ _ _ => (pe_op op_sub (pe_op op_mulW (pv 7) (pv 3)) (pe_op op_mulW (pv 4) (pv 8)))))
    (pss_cons (ps_set (i := 9) sc_less_head.nd rfl (.inr rfl) (pe_call G_shared_of hr (by rfl) T.g_shared_of T.F_shared_of.kp T.b_shared_of .nil pass0 (pa_cons (pv 6) pa_nil)))
    (pss_one (ps_ret (pe_ifExp (pt_cmpR op_gt (pv 9) pe_int (nomark _)) (pe_lc (own := [("entry", 7)]) (g := (gName 7)) (tt := tYes) (by rfl) sc_less_head.nd (pi_list (pv 6)) (blkOk_by (N := N_less_head) (sc := defScope s_less_head) (by decide +kernel)) (fun _ _ _ _ _ => (pg_name (i := 7) sc_less_head.nd rfl (.inl rfl))) (fun _ _ _ _ _ => pts_nil) (fun _ _ _ _ _ => (pe_op FDivQ.op_fdivQ (pv 7) (pv 9)))) (pv 6))))))))))), ?_⟩
    refine ⟨_, rfl, _, rfl, b, _, p, .int (co head p), rfl, rfl, SqL.of hb, atI_nat (get_int (by omega)), _, rfl, _, rfl, a, _, p, .int (co row p), rfl, rfl, SqL.of ha, atI_nat (get_int hp), sz2, fun t1 n1 => ?_⟩
    refine ⟨t1, _, rfl, SqT.of upd_same, rfl, _, _, rfl, _, _, rfl, rfl, ?_⟩
    have s1 := same_upd0 (o := .tup [.int (co head p), .int (co row p)]) n1
    generalize upd H t1 (.tup [.int (co head p), .int (co row p)]) = H1 at s1 ⊢
    refine ⟨_, rfl, rfl, _, rfl, ?_⟩
    by_cases c : co row p = 0
    · rw [decide_eq_true (show V.int (co row p) = V.int 0 by rw [c])]
      refine iteT ⟨_, rfl, q a H1 s1 ?_⟩
      unfold less
      rw [if_pos c]
      exact s1 _ _ ha
    · rw [decide_eq_false fun z => c (V.int.inj z)]
      have k := ok c
      refine iteF ⟨_, rfl, _, rfl, _, _, rfl, ?_⟩
      refine ⟨_, rfl, _, rfl, _, _, rfl, rfl, k.c1, _, rfl, _, rfl, _, _, rfl, rfl, k.c2, sz2, fun t2 n2 => ?_⟩
      refine ⟨t2, _, rfl, SqT.of upd_same, rfl, _, _, rfl, _, _, rfl, rfl, ?_⟩
      have m1 := k.m1
      have m2 := k.m2
      have dd := k.d
      have el : less row head p = if 1 < gl (lf row head p) then dv (lf row head p) (gl (lf row head p)) else lf row head p := if_neg c
      have ef : lf row head p = tb row.length fun k => co row k * (co head p).fdiv (Nat.gcd (co head p).natAbs (co row p).natAbs : Nat) - (co row p).fdiv (Nat.gcd (co head p).natAbs (co row p).natAbs : Nat) * co head k := rfl
      rw [el] at q
      clear k ok el
      dsimp only []
      generalize lf row head p = f at ef q dd
      generalize (co head p).fdiv (Nat.gcd (co head p).natAbs (co row p).natAbs : Nat) = o1 at m1 ef ⊢
      generalize (co row p).fdiv (Nat.gcd (co head p).natAbs (co row p).natAbs : Nat) = o2 at m2 ef ⊢
      have s2 : Same H (upd H1 t2 (.tup [.int o1, .int o2])) := fun b o e => same_upd0 n2 b o (s1 b o e)
      generalize upd H1 t2 (.tup [.int o1, .int o2]) = H2 at s2 ⊢
      refine ⟨_, rfl, _, rfl, a, b, _, _, rfl, .inl ⟨SqL.of (s2 _ _ ha), SqL.of (s2 _ _ hb), fun D hD => ?_⟩⟩
      refine lc_zipL (xs := row.map V.int) (ys := head.map V.int) (by rw [List.length_map, List.length_map, hl]) (fun j H' => Same H2 H' ∧ H' D = some (.lst (tab j fun k => co row k * o1 - o2 * co head k))) ⟨same_upd0 hD, upd_same⟩ (fun j H' _ hP => ⟨SqL.of (hP.1 _ _ (s2 _ _ ha)), SqL.of (hP.1 _ _ (s2 _ _ hb))⟩) (fun j x y A H' hx hy hP hA => ?_) (fun H' hP => ?_)
      · obtain ⟨sH, hD'⟩ := hP
        obtain ⟨hj, rfl⟩ := int_get hx
        obtain ⟨_, rfl⟩ := int_get hy
        have sA := same_upd0 (o := .tup [.int (co row j), .int (co head j)]) hA
        refine ⟨A, _, rfl, SqT.of upd_same, rfl, _, _, rfl, _, _, rfl, rfl, rfl, _, rfl, _, rfl, _, _, rfl, rfl, m1 j hj, _, rfl, _, rfl, _, _, rfl, rfl, m2 j hj, _, _, rfl, rfl, _, sA _ _ hD', ?_, fun b o e => ?_, ?_⟩
        · rw [tab_len]
          exact small1000 (by omega)
        · rw [upd_ne (ne_of_none e hD)]
          exact sA _ _ (sH _ _ e)
        · rw [upd_same, ← tab_snoc]
      · obtain ⟨s3, hL⟩ := hP
        rw [List.length_map, tab_tb, ← ef] at hL
        have hfl : f.length ≤ 100 := by rw [ef, tb_len]; exact hl1
        have s4 : Same H H' := fun b o e => s3 _ _ (s2 _ _ e)
        refine ⟨_, rfl, D, f, rfl, SqL.of hL, ?_⟩
        refine ⟨_, rfl, _, _, rfl, rfl, _, rfl, ?_⟩
        by_cases d : 1 < gl f
        · rw [decide_eq_true (show (1 : Int) < ((gl f : Nat) : Int) by omega)]
          rw [if_pos d] at q
          refine iteT ⟨_, rfl, D, rfl, ⟨_, SqL.of hL⟩, fun D2 hD2 => ?_⟩
          refine lc_list (xs := f.map V.int) (fun j H3 => H3 = upd H' D2 (.lst (tab j fun k => (co f k).fdiv (gl f)))) rfl (fun j H3 _ hP => ?_) (fun j x H3 hx hP => ?_) (fun H3 hP => ?_)
          · rw [hP]
            exact SqL.of (same_upd0 hD2 _ _ hL)
          · subst hP
            obtain ⟨hj, rfl⟩ := int_get hx
            refine ⟨rfl, _, rfl, _, rfl, _, _, rfl, rfl, dd (by omega) _ (co_memE hj), _, upd_same, ?_, ?_⟩
            · rw [tab_len]
              exact small1000 (by omega)
            · rw [upd_upd, ← tab_snoc]
          · subst hP
            rw [List.length_map]
            refine q D2 _ (fun b o e => same_upd0 hD2 _ _ (s4 _ _ e)) ?_
            rw [upd_same, tab_tb, dv_tb]
        · rw [decide_eq_false (show ¬ (1 : Int) < ((gl f : Nat) : Int) by omega)]
          rw [if_neg d] at q
          exact iteF ⟨_, rfl, q D H' s4 hL⟩
end
def lless (row head : List Int) (p : Nat) : List Int := if 1 < gl (lf row head p) then dv (lf row head p) (gl (lf row head p)) else lf row head p
theorem lc_enumL {K : PySem.W.Frag} {a : Addr} {xs : List V} {g : TG} {tt : TT} {te : TE} {vs : List Nat} {σ : L2.St} {H1 : Hp} {D : Addr} {Qd : Hp → Prop} (Pv : Nat → Hp → Prop) (h0 : Pv 0 (upd H1 D (.lst []))) (hq : ∀ i H, i ≤ xs.length → Pv i H → SqL K H a xs)
    (hs : ∀ (i : Nat) (x : V) (T : Addr) (H : Hp), xs[i]? = some x → Pv i H → H T = none → g (.ref T) (wipe σ vs) (upd H T (.tup [.int (i : Nat), x])) fun σ2 H2 => wipe σ2 vs = wipe σ vs ∧ tt σ2 H2 fun b H3 =>
      if b = true then te σ2 H3 fun y H4 => ∃ acc, H4 D = some (.lst acc) ∧ acc.length < sizeLine ∧ Pv (i + 1) (upd H4 D (.lst (acc ++ [y]))) else Pv (i + 1) H3) (hd : ∀ H, Pv xs.length H → Qd H) :
    ∃ W : Nat → Nat → Hp → Prop, (∃ m, W 0 m (upd H1 D (.lst []))) ∧ ∀ i m H, W i m H →
      ((Ite K a).stop i H ∧ Qd H) ∨ ((Ite K a).go i H ∧ ∃ Nx : Hp → Prop, (∀ H', Nx H' → ∃ m', m' < m ∧ W (i + 1) m' H') ∧ ∀ x H', (Ite K a).yld i H x H' → g x (wipe σ vs) H' fun σ2 H2 => wipe σ2 vs = wipe σ vs ∧ tt σ2 H2 fun b H3 =>
        if b = true then te σ2 H3 fun y H4 => ∃ acc, H4 D = some (.lst acc) ∧ acc.length < sizeLine ∧ Nx (upd H4 D (.lst (acc ++ [y]))) else Nx H3) := by
  refine ⟨fun i m H => m = xs.length - i ∧ i ≤ xs.length ∧ Pv i H, ⟨xs.length, by simp, Nat.zero_le _, h0⟩, ?_⟩
  rintro i m H ⟨rfl, hi, p⟩
  have qx := hq i H hi p
  by_cases hlt : i < xs.length
  · have hx : xs[i]? = some xs[i] := List.getElem?_eq_getElem hlt
    refine .inr ⟨⟨xs, _, qx, hx⟩, Pv (i + 1), fun H' p' => ⟨xs.length - (i + 1), by omega, rfl, hlt, p'⟩, fun v H' y => ?_⟩
    obtain ⟨T, x', rfl, hT, rfl, f1⟩ := y
    exact hs i x' T H (f1 xs qx) p hT
  · have e : i = xs.length := by omega
    subst e
    exact .inl ⟨⟨xs, qx, Nat.le_refl _⟩, hd H p⟩
theorem ne_lintsL {K : PySem.W.Frag} {H : Hp} {a b : Addr} {xs ys : List Int} {Q : VK} (ha : SqL K H a (xs.map V.int)) (hb : SqL K H b (ys.map V.int)) (q : Q (.bl (!decide (xs = ys))) H) : rNeD K (.ref a) (.ref b) H Q := by
  refine ⟨.list (xs.map PyData.int), .list (ys.map PyData.int), .lst ha (dpAll_ints xs), .lst hb (dpAll_ints ys), shaped_lints xs, shaped_lints ys, ?_⟩
  rw [show PyData.eqv (.list (xs.map PyData.int)) (.list (ys.map PyData.int)) = decide (xs = ys) from eqvAll_ints xs ys]
  exact q
def RX (p : Addr → List Int → Prop) : List Addr → List (List Int) → Prop
  | [], [] => True
  | a :: as, r :: rs => p a r ∧ RX p as rs
  | _, _ => False
theorem RX.len {p : Addr → List Int → Prop} : ∀ {as : List Addr} {rs : List (List Int)}, RX p as rs → as.length = rs.length
  | [], [], _ => rfl
  | a :: as, r :: rs, h => congrArg (· + 1) (RX.len h.2)
theorem RX.imp {p q : Addr → List Int → Prop} (f : ∀ a r, p a r → q a r) : ∀ {as : List Addr} {rs : List (List Int)}, RX p as rs → RX q as rs
  | [], [], _ => True.intro
  | a :: as, r :: rs, h => ⟨f _ _ h.1, RX.imp f h.2⟩
theorem RX.app {p : Addr → List Int → Prop} {bs : List Addr} {ss : List (List Int)} (g : RX p bs ss) : ∀ {as : List Addr} {rs : List (List Int)}, RX p as rs → RX p (as ++ bs) (rs ++ ss)
  | [], [], _ => g
  | a :: as, r :: rs, h => ⟨h.1, RX.app g h.2⟩
theorem RX.get {p : Addr → List Int → Prop} : ∀ {as : List Addr} {rs : List (List Int)} {i : Nat}, RX p as rs → i < rs.length → ∃ a r, as[i]? = some a ∧ rs[i]? = some r ∧ p a r
  | [], [], _, _, h => absurd h (Nat.not_lt_zero _)
  | a :: as, r :: rs, 0, h, _ => ⟨a, r, rfl, rfl, h.1⟩
  | a :: as, r :: rs, i + 1, h, hi => by
    obtain ⟨b, s, e1, e2, k⟩ := RX.get (i := i) h.2 (Nat.lt_of_succ_lt_succ hi)
    exact ⟨b, s, by rw [List.getElem?_cons_succ]; exact e1, by rw [List.getElem?_cons_succ]; exact e2, k⟩
theorem RX.erase {p : Addr → List Int → Prop} : ∀ {as : List Addr} {rs : List (List Int)} (i : Nat), RX p as rs → RX p (as.eraseIdx i) (rs.eraseIdx i)
  | [], [], _, _ => True.intro
  | a :: as, r :: rs, 0, h => h.2
  | a :: as, r :: rs, i + 1, h => ⟨h.1, RX.erase i h.2⟩
theorem RX.snoc {p : Addr → List Int → Prop} {as : List Addr} {rs : List (List Int)} {a : Addr} {r : List Int} (h : RX p as rs) (k : p a r) : RX p (as ++ [a]) (rs ++ [r]) := RX.app (bs := [a]) (ss := [r]) ⟨k, True.intro⟩ h
def RR (H : Hp) : List Addr → List (List Int) → Prop := RX fun a r => H a = some (ls r)
def RA (H : Hp) : List Addr → List (List Int) → Prop := RX fun a r => H a = some (tp r) ∨ H a = some (ls r)
def RT (H : Hp) : List Addr → List (List Int) → Prop := RX fun a r => H a = some (tp r)
theorem RR.same {H H' : Hp} {as : List Addr} {rs : List (List Int)} (h : RR H as rs) (s : Same H H') : RR H' as rs := RX.imp (fun a r e => s _ _ e) h
theorem RR.sts {Ps : List Addr} {H H' : Hp} {as : List Addr} {rs : List (List Int)} (h : RR H as rs) (s : Sts Ps H H') (g : Tg Ps H) : RR H' as rs := RX.imp (fun a r e => s.lst g e) h
theorem RA.same {H H' : Hp} {as : List Addr} {rs : List (List Int)} (h : RA H as rs) (s : Same H H') : RA H' as rs := RX.imp (fun a r e => e.imp (s _ _) (s _ _)) h
theorem RX.impM {p q : Addr → List Int → Prop} : ∀ {as : List Addr} {rs : List (List Int)}, (∀ a ∈ as, ∀ r, p a r → q a r) → RX p as rs → RX q as rs
  | [], [], _, _ => True.intro
  | a :: as, r :: rs, f, h => ⟨f a List.mem_cons_self r h.1, RX.impM (fun b hb => f b (List.mem_cons_of_mem _ hb)) h.2⟩
theorem row_ne {H : Hp} {b D : Addr} {r : List Int} {xs : List Addr} (h : H b = some (ls r)) (hD : H D = some (.lst (xs.map V.ref))) (hx : xs ≠ []) : b ≠ D := fun e => by
  rw [e, hD] at h
  have h := HO.lst.inj (Option.some.inj h)
  cases xs with
  | nil => exact hx rfl
  | cons x xs =>
    cases r with
    | nil => cases h
    | cons y r => cases h
theorem row_ne2 {H : Hp} {b D : Addr} {r : List Int} {xs : List Addr} (h : H b = some (ls r)) (hD : H D = some (.lst (xs.map V.ref))) (hr : r ≠ []) : b ≠ D := fun e => by
  rw [e, hD] at h
  have h := HO.lst.inj (Option.some.inj h)
  cases r with
  | nil => exact hr rfl
  | cons y r =>
    cases xs with
    | nil => cases h
    | cons x xs => cases h
theorem RR.upd {H : Hp} {D : Addr} {o : HO} {xs as : List Addr} {rs : List (List Int)} (h : RR H as rs) (hD : H D = some (.lst (xs.map V.ref))) (hx : as ≠ [] → xs ≠ []) : RR (L2.upd H D o) as rs :=
  RX.impM (fun a ha r e => by rw [upd_ne (row_ne e hD (hx fun z => by rw [z] at ha; cases ha))]; exact e) h
def hix (left : List (List Int)) (p : Nat) : Option Nat := left.findIdx? fun r => co r p != 0
def hds (left : List (List Int)) (p : Nat) : List Int := ((List.range left.length).filter fun i => co (left.getD i []) p != 0).map fun (i : Nat) => (i : Int)
theorem hds_hix (left : List (List Int)) (p : Nat) : (hds left p)[0]? = (hix left p).map fun (i : Nat) => (i : Int) := by
  unfold hds hix
  rw [List.getElem?_map, ← List.head?_eq_getElem?, List.head?_filter]
  congr 1
  cases e : List.findIdx? (fun r => co r p != 0) left with
  | none =>
    rw [List.find?_eq_none]
    intro i hi
    have hi : i < left.length := List.mem_range.mp hi
    have h := List.findIdx?_eq_none_iff.mp e left[i] (List.getElem_mem hi)
    rw [List.getD_eq_getElem?_getD, List.getElem?_eq_getElem hi]
    show ¬ (co left[i] p != 0) = true
    rw [h]
    exact Bool.false_ne_true
  | some k =>
    obtain ⟨hk, h1, h2⟩ := List.findIdx?_eq_some_iff_getElem.mp e
    refine List.find?_eq_some_iff_getElem.mpr ⟨?_, k, by rw [List.length_range]; exact hk, List.getElem_range _, fun j hj => ?_⟩
    · rw [List.getD_eq_getElem?_getD, List.getElem?_eq_getElem hk]
      exact h1
    · rw [List.getElem_range, List.getD_eq_getElem?_getD, List.getElem?_eq_getElem (Nat.lt_trans hj hk)]
      have := h2 j hj
      simpa using this
def stp (le : List Int → List Int → Nat → List Int) (p : Nat) (s : List (List Int) × List (List Int)) : List (List Int) × List (List Int) := match hix s.1 p with
  | none => s
  | some h => ((s.1.eraseIdx h).map fun r => le r (s.1.getD h []) p, (s.2.map fun r => le r (s.1.getD h []) p) ++ [s.1.getD h []])
def eS (le : List Int → List Int → Nat → List Int) (rows : List (List Int)) : Nat → List (List Int) × List (List Int)
  | 0 => (rows, [])
  | p + 1 => stp le p (eS le rows p)
def ech (le : List Int → List Int → Nat → List Int) (rows : List (List Int)) (w : Nat) : List (List Int) := (eS le rows w).2.map primE
structure EOk (le : List Int → List Int → Nat → List Int) (rows : List (List Int)) (w : Nat) : Prop where
  d : ∀ r ∈ (eS le rows w).2, DivOk r
  l : ∀ p, p < w → ∀ h, hix (eS le rows p).1 p = some h → ∀ r, (r ∈ (eS le rows p).1.eraseIdx h ∨ r ∈ (eS le rows p).2) → LessOk r ((eS le rows p).1.getD h []) p
theorem lc_rows {K : PySem.W.Frag} {a : Addr} {fs : List Addr} {R : List (List Int)} {f : List Int → List Int} {te : TE} {σ : L2.St} {k : Nat} {H1 : Hp} {D : Addr} {Qd : Hp → Prop} (hD : H1 D = none) (ha : H1 a = some (.lst (fs.map V.ref))) (hR : RR H1 fs R) (hl : R.length ≤ 100)
    (hw : ∀ x, wipe ((wipe σ [k]).set k (some x)) [k] = wipe σ [k])
    (hte : ∀ (ad : Addr) (r : List Int) (H2 : Hp) (Q : VK), r ∈ R → Same H1 H2 → H2 ad = some (ls r) → (∀ q H3, Same H2 H3 → H3 q = some (ls (f r)) → Q (.ref q) H3) → te ((wipe σ [k]).set k (some (.ref ad))) H2 Q)
    (hf : ∀ r ∈ R, f r ≠ []) (hd : ∀ bs H6, Same H1 H6 → H6 D = some (.lst (bs.map V.ref)) → RR H6 bs (R.map f) → Qd H6) :
    ∃ W : Nat → Nat → Hp → Prop, (∃ m, W 0 m (upd H1 D (.lst []))) ∧ ∀ i m H, W i m H →
      ((Itl K a).stop i H ∧ Qd H) ∨ ((Itl K a).go i H ∧ ∃ Nx : Hp → Prop, (∀ H', Nx H' → ∃ m', m' < m ∧ W (i + 1) m' H') ∧ ∀ x H', (Itl K a).yld i H x H' → gName k x (wipe σ [k]) H' fun σ2 H2 => wipe σ2 [k] = wipe σ [k] ∧ tYes σ2 H2 fun b H3 =>
        if b = true then te σ2 H3 fun y H4 => ∃ acc, H4 D = some (.lst acc) ∧ acc.length < sizeLine ∧ Nx (upd H4 D (.lst (acc ++ [y]))) else Nx H3) := by
  refine lc_list (xs := fs.map V.ref) (fun j H' => ∃ bs, Same H1 H' ∧ H' D = some (.lst (bs.map V.ref)) ∧ bs.length = j ∧ RR H' bs ((R.take j).map f)) ⟨[], same_upd0 hD, upd_same, rfl, True.intro⟩ (fun j H' _ hP => SqL.of (hP.choose_spec.1 _ _ ha)) (fun j x H' hx hP => ?_) (fun H' hP => ?_)
  · obtain ⟨bs, s1, h1, h2, h3⟩ := hP
    rw [List.getElem?_map] at hx
    obtain ⟨ad, had, rfl⟩ := Option.map_eq_some_iff.mp hx
    obtain ⟨ad', r, e1, e2, e3⟩ := RX.get hR (by rw [← hR.len]; exact (List.getElem?_eq_some_iff.mp had).1)
    rw [had] at e1
    cases e1
    have hj : j < R.length := (List.getElem?_eq_some_iff.mp e2).1
    refine ⟨hw _, ?_⟩
    show te _ _ _
    refine hte ad r H' _ (List.mem_of_getElem? e2) s1 (s1 _ _ e3) fun q H3 s3 e4 => ⟨bs.map V.ref, s3 _ _ h1, ?_, bs ++ [q], fun b o e => ?_, ?_, ?_, ?_⟩
    · rw [List.length_map, h2]
      exact small1000 (by omega)
    · rw [upd_ne (ne_of_none e hD)]
      exact s3 _ _ (s1 _ _ e)
    · rw [upd_same, List.map_append]
      rfl
    · rw [List.length_append, h2]
      rfl
    · rw [List.take_add_one, e2, List.map_append]
      refine RX.snoc (RR.upd (h3.same s3) (s3 _ _ h1) fun z => z) ?_
      show upd H3 D _ q = _
      by_cases hq : q = D
      · exact absurd hq (row_ne2 e4 (s3 _ _ h1) (hf r (List.mem_of_getElem? e2)))
      · rw [upd_ne hq]
        exact e4
  · obtain ⟨bs, s1, h1, h2, h3⟩ := hP
    rw [List.length_map, hR.len, List.take_length] at h3
    exact hd bs H' s1 h1 h3
theorem lc_rowsS {Ps : List Addr} {K : PySem.W.Frag} {a : Addr} {fs : List Addr} {R : List (List Int)} {f : List Int → List Int} {te : TE} {σ : L2.St} {k : Nat} {H1 : Hp} {D : Addr} {Qd : Hp → Prop} (hG : Tg Ps H1) (hD : H1 D = none) (ha : H1 a = some (.lst (fs.map V.ref))) (hR : RR H1 fs R) (hl : R.length ≤ 100)
    (hw : ∀ x, wipe ((wipe σ [k]).set k (some x)) [k] = wipe σ [k])
    (hte : ∀ (ad : Addr) (r : List Int) (H2 : Hp) (Q : VK), r ∈ R → Sts Ps H1 H2 → Tg Ps H2 → H2 ad = some (ls r) → (∀ q H3, Sts Ps H2 H3 → Tg Ps H3 → H3 q = some (ls (f r)) → Q (.ref q) H3) → te ((wipe σ [k]).set k (some (.ref ad))) H2 Q)
    (hf : ∀ r ∈ R, f r ≠ []) (hd : ∀ bs H6, Sts Ps H1 H6 → Tg Ps H6 → H6 D = some (.lst (bs.map V.ref)) → RR H6 bs (R.map f) → Qd H6) :
    ∃ W : Nat → Nat → Hp → Prop, (∃ m, W 0 m (upd H1 D (.lst []))) ∧ ∀ i m H, W i m H →
      ((Itl K a).stop i H ∧ Qd H) ∨ ((Itl K a).go i H ∧ ∃ Nx : Hp → Prop, (∀ H', Nx H' → ∃ m', m' < m ∧ W (i + 1) m' H') ∧ ∀ x H', (Itl K a).yld i H x H' → gName k x (wipe σ [k]) H' fun σ2 H2 => wipe σ2 [k] = wipe σ [k] ∧ tYes σ2 H2 fun b H3 =>
        if b = true then te σ2 H3 fun y H4 => ∃ acc, H4 D = some (.lst acc) ∧ acc.length < sizeLine ∧ Nx (upd H4 D (.lst (acc ++ [y]))) else Nx H3) := by
  refine lc_list (xs := fs.map V.ref) (fun j H' => ∃ bs, Sts Ps H1 H' ∧ Tg Ps H' ∧ H' D = some (.lst (bs.map V.ref)) ∧ bs.length = j ∧ RR H' bs ((R.take j).map f)) ⟨[], Sts.of (same_upd0 hD), hG.same (same_upd0 hD), upd_same, rfl, True.intro⟩ (fun j H' _ hP => SqL.of (hP.choose_spec.1.lst hG ha)) (fun j x H' hx hP => ?_) (fun H' hP => ?_)
  · obtain ⟨bs, s1, t1, h1, h2, h3⟩ := hP
    rw [List.getElem?_map] at hx
    obtain ⟨ad, had, rfl⟩ := Option.map_eq_some_iff.mp hx
    obtain ⟨ad', r, e1, e2, e3⟩ := RX.get hR (by rw [← hR.len]; exact (List.getElem?_eq_some_iff.mp had).1)
    rw [had] at e1
    cases e1
    have hj : j < R.length := (List.getElem?_eq_some_iff.mp e2).1
    refine ⟨hw _, ?_⟩
    show te _ _ _
    refine hte ad r H' _ (List.mem_of_getElem? e2) s1 t1 (s1.lst hG e3) fun q H3 s3 t3 e4 => ⟨bs.map V.ref, s3.lst t1 h1, ?_, bs ++ [q], fun b o nb e => ?_, ?_, ?_, ?_, ?_⟩
    · rw [List.length_map, h2]
      exact small1000 (by omega)
    · rw [upd_ne (ne_of_none e hD)]
      exact s3 _ _ nb (s1 _ _ nb e)
    · intro P m
      obtain ⟨ps, e, k2⟩ := t3 P m
      refine ⟨ps, ?_, k2⟩
      rw [upd_ne (fun z => by
        have h5 := s3.lst t1 h1
        rw [← z, e] at h5
        cases h5)]
      exact e
    · rw [upd_same, List.map_append]
      rfl
    · rw [List.length_append, h2]
      rfl
    · rw [List.take_add_one, e2, List.map_append]
      refine RX.snoc (RR.upd (h3.sts s3 t1) (s3.lst t1 h1) fun z => z) ?_
      show upd H3 D _ q = _
      by_cases hq : q = D
      · exact absurd hq (row_ne2 e4 (s3.lst t1 h1) (hf r (List.mem_of_getElem? e2)))
      · rw [upd_ne hq]
        exact e4
  · obtain ⟨bs, s1, t1, h1, h2, h3⟩ := hP
    rw [List.length_map, hR.len, List.take_length] at h3
    exact hd bs H' s1 t1 h1 h3
theorem primE_len (l : List Int) : (primE l).length = l.length := by
  unfold primE dv
  split
  · rfl
  · rw [List.length_map]
theorem erase_map : ∀ (l : List Addr) (h : Nat), (l.map V.ref).eraseIdx h = (l.eraseIdx h).map V.ref
  | [], _ => rfl
  | a :: l, 0 => rfl
  | a :: l, h + 1 => by
    show V.ref a :: (l.map V.ref).eraseIdx h = V.ref a :: (l.eraseIdx h).map V.ref
    rw [erase_map l h]
theorem less_len (row head : List Int) (p : Nat) : (less row head p).length = row.length := by
  unfold less dv lf
  split
  · rfl
  · split
    · rw [List.length_map, tb_len]
    · rw [tb_len]
theorem stp_none {le : List Int → List Int → Nat → List Int} {p : Nat} {s : List (List Int) × List (List Int)} (h : hix s.1 p = none) : stp le p s = s := by
  unfold stp
  rw [h]
theorem stp_some {le : List Int → List Int → Nat → List Int} {p h : Nat} {s : List (List Int) × List (List Int)} (e : hix s.1 p = some h) : stp le p s = ((s.1.eraseIdx h).map fun r => le r (s.1.getD h []) p, (s.2.map fun r => le r (s.1.getD h []) p) ++ [s.1.getD h []]) := by
  unfold stp
  rw [e]
theorem eS_len {rows : List (List Int)} {n : Nat} (h : ∀ r ∈ rows, r.length = n) : ∀ p, (∀ r ∈ (eS less rows p).1, r.length = n) ∧ ∀ r ∈ (eS less rows p).2, r.length = n
  | 0 => ⟨h, fun r hr => absurd hr List.not_mem_nil⟩
  | p + 1 => by
    obtain ⟨h1, h2⟩ := eS_len h p
    show (∀ r ∈ (stp less p (eS less rows p)).1, r.length = n) ∧ ∀ r ∈ (stp less p (eS less rows p)).2, r.length = n
    cases e : hix (eS less rows p).1 p with
    | none =>
      rw [stp_none e]
      exact ⟨h1, h2⟩
    | some k =>
      rw [stp_some e]
      refine ⟨fun r hr => ?_, fun r hr => ?_⟩
      · obtain ⟨x, hx, rfl⟩ := List.mem_map.mp hr
        rw [less_len]
        exact h1 x (List.mem_of_mem_eraseIdx hx)
      · rcases List.mem_append.mp hr with hr | hr
        · obtain ⟨x, hx, rfl⟩ := List.mem_map.mp hr
          rw [less_len]
          exact h2 x hx
        · rw [List.mem_singleton.mp hr]
          obtain ⟨hk, _, _⟩ := List.findIdx?_eq_some_iff_getElem.mp e
          rw [List.getD_eq_getElem?_getD, List.getElem?_eq_getElem hk]
          exact h1 _ (List.getElem_mem hk)
theorem eS_cnt (le : List Int → List Int → Nat → List Int) (rows : List (List Int)) : ∀ p, (eS le rows p).1.length + (eS le rows p).2.length = rows.length
  | 0 => rfl
  | p + 1 => by
    have ih := eS_cnt le rows p
    show (stp le p (eS le rows p)).1.length + (stp le p (eS le rows p)).2.length = _
    cases e : hix (eS le rows p).1 p with
    | none => rw [stp_none e]; exact ih
    | some k =>
      obtain ⟨hk, _, _⟩ := List.findIdx?_eq_some_iff_getElem.mp e
      rw [stp_some e]
      show ((eS le rows p).1.eraseIdx k |>.map _).length + (_ ++ [_]).length = _
      rw [List.length_map, List.length_eraseIdx_of_lt hk, List.length_append, List.length_map]
      show _ - 1 + (_ + 1) = _
      omega
section
variable {P : Program} {w : World} {K : PySem.W.Frag} {mg : Str → Option Value} {base : Heap} {Ps : List Addr}
def spEch (K : PySem.W.Frag) (Ps : List Addr) : Sp := fun vs H Q _ => ∃ (t : Addr) (as : List Addr) (rows : List (List Int)) (n : Nat), vs = [.ref t, .int n] ∧ (H t = some (.tup (as.map V.ref)) ∨ H t = some (.lst (as.map V.ref))) ∧ RA H as rows ∧ rows.length ≤ 100 ∧ n ≤ 100 ∧ (∀ r ∈ rows, r.length = n) ∧
  EOk less rows n ∧ Tg Ps H ∧ ∀ p bs H', Sts Ps H H' → Tg Ps H' → H' p = some (.lst (bs.map V.ref)) → RR H' bs (ech less rows n) → Q (.ref p) H'
theorem ok_echelon_rows (T : Facts K mg) (TB_first_of : TabB base mg T.c_first_of T.P_first_of) (hP : T.P_first_of ∈ Ps) : FnOk P w K mg base CX0 3 T.f_echelon_rows T.fd_echelon_rows ["rows", "width"] (spEch K Ps) := by
  have G_less_head : FnOk P w K mg base CX0 2 T.f_less_head T.fd_less_head ["row", "head", "place"] spLess := ok_less_head T
  have G_primitive_of := ok_primitive_of (P := P) (w := w) (base := base) T TB_first_of hP
  refine T.F_echelon_rows.ok sc_echelon_rows (fun vs H Q E h => ?_) (fun cdv A outer s H vs Q E hr h => ?_)
  · obtain ⟨t, as, rows, n, rfl, _⟩ := h
    rfl
  · obtain ⟨t, as, rows, n, rfl, hS, hA, hl, hn, hw, ok, hG, q⟩ := h
    refine ⟨_, (PSs.nox (pss_cons (ps_par (i := 2) (j := 3) (by rfl) sc_echelon_rows.nd rfl rfl (by decide) rfl rfl (pa_cons (pe_lc (own := [("row", 4)]) (g := (gName 4)) (tt := tYes) (by rfl) sc_echelon_rows.nd (SeqE.PI_or (pi_tup (pv 0)) (pi_list (pv 0))) (blkOk_by (N := N_echelon_rows) (sc := defScope s_echelon_rows) (by decide +kernel)) (fun _ _ _ _ _ => (pg_name (i := 4) sc_echelon_rows.nd rfl (.inl rfl))) (fun _ _ _ _ _ => pts_nil) (fun _ _ _ _ _ => (pe_callTy (ListOf.call_list_ofK (by rfl) : CallR _ (.type "list") (ListOf.rListOf K)) (by rfl) T.z_list (by decide +kernel) (pa_cons (pv 4) pa_nil)))) (pa_cons (pe_lst pa_nil) pa_nil)) (by rfl))
    (pss_cons (ps_for PassesOwn.never (by rfl) (pi_range1 (by rfl) T.z_range (pa_cons (pv 1) pa_nil)) (pg_name (i := 5) sc_echelon_rows.nd rfl (.inr rfl))
      (pss_cons (ps_setLc (i := 6) (own := [("row", 4), ("at", 7)]) (g := (gTup K 2 (gCons (gName 7) (gCons (gName 4) gNil)))) rfl sc_echelon_rows.nd rfl rfl (sw_true rfl rfl rfl (by decide +kernel)) (pi_enum (by rfl) T.z_enumerate (pa_cons (pv 2) pa_nil)) (blkOk_by (N := N_echelon_rows) (sc := defScope s_echelon_rows) (by decide +kernel)) (fun _ _ _ _ _ => (pg_tup (by rfl) (pgs_cons (pg_name (i := 7) sc_echelon_rows.nd rfl (.inl rfl)) (pgs_cons (pg_name (i := 4) sc_echelon_rows.nd rfl (.inl rfl)) pgs_nil)))) (fun _ _ _ _ _ => (pts_one (pt_cmpR op_ne (pe_ix (ix_list : IxR _ (rIxL K)) (pv 4) (pv 5) (fun _ _ => rfl)) pe_int (nomark _)))) (fun _ _ _ _ _ => (pv 7)))
      (pss_one (ps_if (pt_cmpR (op_neD (hu64 hr)) (pv 6) (pe_lst pa_nil) (nomark _))
        (pss_cons (ps_set (i := 8) sc_echelon_rows.nd rfl (.inr rfl) (pe_bm PySem.F.plainAttrs_list PySem.F.slot_list_pop PySem.F.type_list_pop mt_popAt (pv 2) (pa_cons (pe_ix ix_list (pv 6) pe_int (fun _ _ => rfl)) pa_nil)))
        (pss_cons (ps_set (i := 3) sc_echelon_rows.nd rfl (.inl rfl) (pe_lst (pa_star (pe_lc (own := [("row", 4)]) (g := (gName 4)) (tt := tYes) (by rfl) sc_echelon_rows.nd (pi_list (pv 3)) (blkOk_by (N := N_echelon_rows) (sc := defScope s_echelon_rows) (by decide +kernel)) (fun _ _ _ _ _ => (pg_name (i := 4) sc_echelon_rows.nd rfl (.inl rfl))) (fun _ _ _ _ _ => pts_nil) (fun _ _ _ _ _ => (pe_call G_less_head hr (by rfl) T.g_less_head T.F_less_head.kp T.b_less_head .nil pass0 (pa_cons (pv 4) (pa_cons (pv 8) (pa_cons (pv 5) pa_nil)))))) (pa_cons (pv 8) pa_nil))))
        (pss_one (ps_setLc (i := 2) (own := [("row", 4)]) (g := (gName 4)) (tt := tYes) rfl sc_echelon_rows.nd rfl rfl (sw_true rfl rfl rfl (by decide +kernel)) (pi_list (pv 2)) (blkOk_by (N := N_echelon_rows) (sc := defScope s_echelon_rows) (by decide +kernel)) (fun _ _ _ _ _ => (pg_name (i := 4) sc_echelon_rows.nd rfl (.inl rfl))) (fun _ _ _ _ _ => pts_nil) (fun _ _ _ _ _ => (pe_call G_less_head hr (by rfl) T.g_less_head T.F_less_head.kp T.b_less_head .nil pass0 (pa_cons (pv 4) (pa_cons (pv 8) (pa_cons (pv 5) pa_nil)))))))))
        pss_nil))))
    (pss_one (ps_ret (pe_lc (own := [("row", 4)]) (g := (gName 4)) (tt := tYes) (by rfl) sc_echelon_rows.nd (pi_list (pv 3)) (blkOk_by (N := N_echelon_rows) (sc := defScope s_echelon_rows) (by decide +kernel)) (fun _ _ _ _ _ => (pg_name (i := 4) sc_echelon_rows.nd rfl (.inl rfl))) (fun _ _ _ _ _ => pts_nil) (fun _ _ _ _ _ => (pe_call G_primitive_of hr (by rfl) T.g_primitive_of T.F_primitive_of.kp T.b_primitive_of .nil pass0 (pa_cons (pv 4) pa_nil))))))))), ?_⟩
    have step : ∀ (i : Nat) (x : V) (D : Addr) (H' : Hp), H D = none → (as.map V.ref)[i]? = some x → (∃ bs, Same H H' ∧ H' D = some (.lst (bs.map V.ref)) ∧ bs.length = i ∧ RR H' bs (rows.take i)) →
        ∃ a r, x = .ref a ∧ (H' a = some (ls r) ∨ H' a = some (tp r)) ∧ ∀ l, H' l = none → ∃ acc, (upd H' l (ls r)) D = some (.lst acc) ∧ acc.length < sizeLine ∧ ∃ bs, Same H (upd (upd H' l (ls r)) D (.lst (acc ++ [.ref l]))) ∧ (upd (upd H' l (ls r)) D (.lst (acc ++ [.ref l]))) D = some (.lst (bs.map V.ref)) ∧ bs.length = i + 1 ∧ RR (upd (upd H' l (ls r)) D (.lst (acc ++ [.ref l]))) bs (rows.take (i + 1)) := fun i x D H' hD hx hP => by
      obtain ⟨bs, s1, h1, h2, h3⟩ := hP
      rw [List.getElem?_map] at hx
      obtain ⟨a, ha, rfl⟩ := Option.map_eq_some_iff.mp hx
      have hi : i < rows.length := by
        rw [← hA.len]
        exact (List.getElem?_eq_some_iff.mp ha).1
      obtain ⟨a', r, e1, e2, k⟩ := RX.get hA hi
      rw [ha] at e1
      cases e1
      refine ⟨a, r, rfl, k.symm.imp (s1 _ _) (s1 _ _), fun l hl => ⟨bs.map V.ref, ?_, ?_, bs ++ [l], ?_, ?_, ?_, ?_⟩⟩
      · exact same_upd0 hl _ _ h1
      · rw [List.length_map, h2]
        exact small1000 (by omega)
      · intro b o e
        rw [upd_ne (ne_of_none e hD)]
        exact same_upd0 hl _ _ (s1 _ _ e)
      · rw [upd_same, List.map_append]
        rfl
      · rw [List.length_append, h2]
        rfl
      · have lD : l ≠ D := fun e => by
          rw [e, h1] at hl
          cases hl
        have hr2 : RR (upd H' l (ls r)) bs (rows.take i) := h3.same (same_upd0 hl)
        have et : rows.take (i + 1) = rows.take i ++ [r] := by
          rw [List.take_add_one, e2]
          rfl
        rw [et]
        refine RX.snoc (RR.upd hr2 (same_upd0 hl _ _ h1) fun z => z) ?_
        show upd (upd H' l (ls r)) D _ l = _
        rw [upd_ne lD]
        exact upd_same
    rcases hS with hS | hS
    case' inl =>
      refine .inl ⟨_, rfl, t, rfl, ⟨_, SqT.of hS⟩, fun D hD => ?_⟩
      refine lc_tup (xs := as.map V.ref) (fun j H' => ∃ bs, Same H H' ∧ H' D = some (.lst (bs.map V.ref)) ∧ bs.length = j ∧ RR H' bs (rows.take j)) ⟨[], same_upd0 hD, upd_same, rfl, True.intro⟩ (fun j H' _ hP => SqT.of (hP.choose_spec.1 _ _ hS)) (fun j x H' hx hP => by
        obtain ⟨a, r, rfl, k, f⟩ := step j x D H' hD hx hP
        exact ⟨rfl, _, rfl, a, r.map V.int, rfl, k.imp SqL.of SqT.of, fun l hl => f l hl⟩) (fun H1 hP => ?_)
    case' inr =>
      refine .inr ⟨_, rfl, t, rfl, ⟨_, SqL.of hS⟩, fun D hD => ?_⟩
      refine lc_list (xs := as.map V.ref) (fun j H' => ∃ bs, Same H H' ∧ H' D = some (.lst (bs.map V.ref)) ∧ bs.length = j ∧ RR H' bs (rows.take j)) ⟨[], same_upd0 hD, upd_same, rfl, True.intro⟩ (fun j H' _ hP => SqL.of (hP.choose_spec.1 _ _ hS)) (fun j x H' hx hP => by
        obtain ⟨a, r, rfl, k, f⟩ := step j x D H' hD hx hP
        exact ⟨rfl, _, rfl, a, r.map V.int, rfl, k.imp SqL.of SqT.of, fun l hl => f l hl⟩) (fun H1 hP => ?_)
    all_goals
      clear step
      obtain ⟨bs, s1, h1, h2, h3⟩ := hP
      rw [show rows.take ((as.map V.ref).length) = rows by rw [List.length_map, hA.len, List.take_length]] at h3
      have hbl := h3.len
      dsimp only [tCons, tLst, tNil]
      refine ⟨by decide, fun F hF => ⟨_, _, rfl, ?_⟩⟩
      have s2 : Same H (upd H1 F (.lst [])) := fun b o e => same_upd0 hF _ _ (s1 _ _ e)
      refine ⟨_, rfl, _, rfl, by omega, by omega, for_range (n := n) (fun i σ H' => ∃ L F ls' fs y4 y5 y6 y7 y8, σ = [some (.ref t), some (.int n), some (.ref L), some (.ref F), y4, y5, y6, y7, y8] ∧ Same H H' ∧ H L = none ∧ L ≠ F ∧ H' L = some (.lst (ls'.map V.ref)) ∧ H' F = some (.lst (fs.map V.ref)) ∧ RR H' ls' (eS less rows i).1 ∧ RR H' fs (eS less rows i).2) ⟨D, F, bs, [], none, none, none, none, none, rfl, s2, hD, (fun e => by rw [e, hF] at h1; cases h1), same_upd0 hF _ _ h1, upd_same, h3.same (same_upd0 hF), True.intro⟩ (fun i σ H' hi hP => ?_) (fun σ H' hP => ?_)⟩
      · obtain ⟨L, F, ls', fs, y4, y5, y6, y7, y8, rfl, sH, nL, nLF, eL, eF, rL, rF⟩ := hP
        rw [Int.zero_add]
        refine ⟨_, rfl, L, _, rfl, SqL.of eL, fun D2 hD2 => ?_⟩
        refine lc_enumL (xs := ls'.map V.ref) (fun j H3 => Same H' H3 ∧ H3 D2 = some (.lst ((((List.range j).filter fun k => co ((eS less rows i).1.getD k []) i != 0).map fun (k : Nat) => (k : Int)).map V.int))) ⟨same_upd0 hD2, upd_same⟩ (fun j H3 _ hP => SqL.of (hP.1 _ _ eL)) (fun j x A H3 hx hP hA => ?_) (fun H3 hP => ?_)
        · obtain ⟨s3, hL⟩ := hP
          rw [List.getElem?_map] at hx
          obtain ⟨a, ha, rfl⟩ := Option.map_eq_some_iff.mp hx
          obtain ⟨a', r, e1, e2, k⟩ := RX.get rL (by rw [← rL.len]; exact (List.getElem?_eq_some_iff.mp ha).1)
          rw [ha] at e1
          cases e1
          have eg : (eS less rows i).1.getD j [] = r := by rw [List.getD_eq_getElem?_getD, e2]; rfl
          have sA := same_upd0 (o := .tup [.int (j : Nat), .ref a]) hA
          have hri : i < r.length := by rw [(eS_len hw i).1 r (List.mem_of_getElem? e2)]; exact hi
          refine ⟨A, _, rfl, SqT.of upd_same, rfl, _, _, rfl, _, _, rfl, rfl, rfl, _, rfl, _, rfl, a, _, _, .int (co r i), rfl, rfl, SqL.of (sA _ _ (s3 _ _ k)), atI_nat (get_int hri), rfl, _, rfl, ?_⟩
          rw [List.range_succ, List.filter_append]
          by_cases d : co r i = 0
          · rw [decide_eq_true (show V.int (co r i) = V.int 0 by rw [d])]
            refine iteF ⟨fun b o e => sA _ _ (s3 _ _ e), ?_⟩
            rw [sA _ _ hL, List.filter_cons_of_neg (by rw [eg, d]; decide), List.filter_nil, List.append_nil]
          · rw [decide_eq_false fun z => d (V.int.inj z)]
            refine iteT ⟨_, rfl, _, sA _ _ hL, ?_, fun b o e => ?_, ?_⟩
            · rw [List.length_map, List.length_map]
              have hj : j < (eS less rows i).1.length := (List.getElem?_eq_some_iff.mp e2).1
              have h1 := List.length_filter_le (fun k => co ((eS less rows i).1.getD k []) i != 0) (List.range j)
              rw [List.length_range] at h1
              have := eS_cnt less rows i
              exact small1000 (by omega)
            · rw [upd_ne (ne_of_none e hD2)]
              exact sA _ _ (s3 _ _ e)
            · rw [upd_same, List.filter_cons_of_pos (by rw [eg]; simpa using d), List.filter_nil, List.map_append, List.map_append]
              rfl
        · obtain ⟨s3, hL⟩ := hP
          rw [List.length_map, rL.len] at hL
          have hL : H3 D2 = some (.lst ((hds (eS less rows i).1 i).map V.int)) := hL
          have s4 : Same H H3 := fun b o e => s3 _ _ (sH _ _ e)
          refine ⟨_, rfl, by decide, fun N hN => ne_lintsL (xs := hds (eS less rows i).1 i) (ys := []) (SqL.of (same_upd0 hN _ _ hL)) (SqL.of upd_same) ⟨_, rfl, ?_⟩⟩
          have s5 : Same H (upd H3 N (.lst [])) := fun b o e => same_upd0 hN _ _ (s4 _ _ e)
          have s6 : Same H' (upd H3 N (.lst [])) := fun b o e => same_upd0 hN _ _ (s3 _ _ e)
          cases eh : hix (eS less rows i).1 i with
          | none =>
            have e0 : hds (eS less rows i).1 i = [] := by
              have q := hds_hix (eS less rows i).1 i
              rw [eh] at q
              cases e1 : hds (eS less rows i).1 i with
              | nil => rfl
              | cons y ys =>
                rw [e1] at q
                cases q
            rw [e0]
            refine iteF ⟨L, F, ls', fs, y4, some (.int i), some (.ref D2), y7, y8, rfl, s5, nL, nLF, s6 _ _ eL, s6 _ _ eF, ?_, ?_⟩
            · show RR _ ls' (stp less i (eS less rows i)).1
              rw [stp_none eh]
              exact rL.same s6
            · show RR _ fs (stp less i (eS less rows i)).2
              rw [stp_none eh]
              exact rF.same s6
          | some h =>
            have q := hds_hix (eS less rows i).1 i
            rw [eh] at q
            have en : hds (eS less rows i).1 i ≠ [] := fun z => by
              rw [z] at q
              cases q
            rw [decide_eq_false en]
            have hL2 := same_upd0 (o := .lst []) hN _ _ hL
            generalize upd H3 N (.lst []) = H4 at s5 s6 hL2 ⊢
            refine iteT ?_
            obtain ⟨hh, _, _⟩ := List.findIdx?_eq_some_iff_getElem.mp eh
            obtain ⟨ad, r, g1, g2, g3⟩ := RX.get rL hh
            have eg : (eS less rows i).1.getD h [] = r := by rw [List.getD_eq_getElem?_getD, g2]; rfl
            have hll : h < (ls'.map V.ref).length := by
              rw [List.length_map]
              exact (List.getElem?_eq_some_iff.mp g1).1
            have hsm : (ls'.map V.ref).length ≤ 100 := by have := eS_cnt less rows i; rw [List.length_map, rL.len]; omega
            have hsi : seqIndex? (h : Int) (ls'.map V.ref).length = some h := by
              unfold seqIndex?
              have n1 : ¬ ((h : Int) < 0) := by omega
              simp only [if_neg n1]
              rw [if_pos (by simp; simpa using hll)]
              rfl
            have q0 : ((hds (eS less rows i).1 i).map V.int)[0]? = some (V.int (h : Nat)) := by
              rw [List.getElem?_map, q]
              rfl
            refine ⟨_, rfl, .inl ⟨rfl, _, SqL.of (s6 _ _ eL)⟩, _, rfl, D2, _, 0, .int (h : Nat), rfl, rfl, SqL.of hL2, atI_nat (j := 0) q0, L, _, (h : Nat), h, .ref ad, rfl, rfl, s6 _ _ eL, by omega, by omega, hsi, by rw [List.getElem?_map, g1]; rfl, ?_⟩
            have s7 : Same H (upd H4 L (.lst ((ls'.map V.ref).eraseIdx h))) := fun b o e => by
              rw [upd_ne (ne_of_none e nL)]
              exact s5 _ _ e
            have eL7 : (upd H4 L (.lst ((ls'.map V.ref).eraseIdx h))) L = some (.lst ((ls'.eraseIdx h).map V.ref)) := by
              rw [upd_same]
              rw [erase_map]
            have eF7 : (upd H4 L (.lst ((ls'.map V.ref).eraseIdx h))) F = some (.lst (fs.map V.ref)) := by
              rw [upd_ne (Ne.symm nLF)]
              exact s6 _ _ eF
            have hls : ls' ≠ [] := fun z => by
              rw [z] at hll
              exact absurd hll (Nat.not_lt_zero _)
            have rL7 : RR (upd H4 L (.lst ((ls'.map V.ref).eraseIdx h))) (ls'.eraseIdx h) ((eS less rows i).1.eraseIdx h) := RX.erase h (RR.upd (rL.same s6) (s6 _ _ eL) fun _ => hls)
            have rF7 : RR (upd H4 L (.lst ((ls'.map V.ref).eraseIdx h))) fs (eS less rows i).2 := RR.upd (rF.same s6) (s6 _ _ eL) fun _ => hls
            have g7 : (upd H4 L (.lst ((ls'.map V.ref).eraseIdx h))) ad = some (ls r) := by
              rw [upd_ne (row_ne (s6 _ _ g3) (s6 _ _ eL) hls)]
              exact s6 _ _ g3
            generalize upd H4 L (.lst ((ls'.map V.ref).eraseIdx h)) = H7 at s7 eL7 eF7 rL7 rF7 g7 ⊢
            have hok := ok.l i hi h eh
            rw [eg] at hok
            obtain ⟨n1, n2⟩ := eS_len hw i
            have hrl : r.length = n := n1 r (List.mem_of_getElem? g2)
            have hFl : (eS less rows i).2.length ≤ 100 := by have := eS_cnt less rows i; omega
            refine ⟨_, rfl, F, rfl, ⟨_, SqL.of eF7⟩, fun N2 hN2 => lc_rows (f := fun x => less x r i) hN2 eF7 rF7 hFl (fun _ => rfl) (fun ad2 r2 H2 Q2 hr2 s8 e8 kq => ⟨_, rfl, _, rfl, _, rfl, ad2, ad, r2, r, i, rfl, e8, s8 _ _ g7, by rw [n2 r2 hr2, hrl], by rw [n2 r2 hr2]; exact hn, by rw [n2 r2 hr2]; exact hi, fun _ => hok r2 (.inr hr2), kq⟩) (fun r2 hr2 z => ?_) (fun bs8 H8 s8 e8 r8 => ?_)⟩
            · have := less_len r2 r i
              rw [z, n2 r2 hr2] at this
              have : 0 = n := this
              omega
            · refine ⟨N2, _, rfl, .inr (SqL.of e8), _, rfl, ?_, fun F2 hF2 => ?_⟩
              · rw [List.length_append, List.length_map, r8.len, List.length_map]
                exact Nat.le_trans (Nat.add_le_add_right hFl 1) (by decide)
              have s9 : Same H7 (upd H8 F2 (.lst (bs8.map V.ref ++ [.ref ad]))) := fun b o e => same_upd0 hF2 _ _ (s8 _ _ e)
              have eF9 : (upd H8 F2 (.lst (bs8.map V.ref ++ [.ref ad]))) F2 = some (.lst ((bs8 ++ [ad]).map V.ref)) := by
                rw [upd_same, List.map_append]
                rfl
              have r9 : RR (upd H8 F2 (.lst (bs8.map V.ref ++ [.ref ad]))) (bs8 ++ [ad]) ((eS less rows i).2.map (fun x => less x r i) ++ [r]) := RX.snoc (r8.same (same_upd0 hF2)) (s9 _ _ g7)
              generalize upd H8 F2 (.lst (bs8.map V.ref ++ [.ref ad])) = H9 at s9 eF9 r9 ⊢
              have hLl : ((eS less rows i).1.eraseIdx h).length ≤ 100 := by have := eS_cnt less rows i; rw [List.length_eraseIdx_of_lt hh]; omega
              refine ⟨_, rfl, L, rfl, ⟨_, SqL.of (s9 _ _ eL7)⟩, fun L2 hL2 => lc_rows (f := fun x => less x r i) hL2 (s9 _ _ eL7) (rL7.same s9) hLl (fun _ => rfl) (fun ad2 r2 H2 Q2 hr2 s8 e8 kq => ⟨_, rfl, _, rfl, _, rfl, ad2, ad, r2, r, i, rfl, e8, s8 _ _ (s9 _ _ g7), by rw [n1 r2 (List.mem_of_mem_eraseIdx hr2), hrl], by rw [n1 r2 (List.mem_of_mem_eraseIdx hr2)]; exact hn, by rw [n1 r2 (List.mem_of_mem_eraseIdx hr2)]; exact hi, fun _ => hok r2 (.inl hr2), kq⟩) (fun r2 hr2 z => ?_) (fun bsA HA sA eA rA => ?_)⟩
              · have := less_len r2 r i
                rw [z, n1 r2 (List.mem_of_mem_eraseIdx hr2)] at this
                have : 0 = n := this
                omega
              · have nL2 : H L2 = none := by
                  cases e : H L2 with
                  | none => rfl
                  | some o =>
                    rw [s9 _ _ (s7 _ _ e)] at hL2
                    cases hL2
                refine ⟨L2, F2, bsA, bs8 ++ [ad], y4, some (.int i), some (.ref D2), y7, some (.ref ad), rfl, fun b o e => sA _ _ (s9 _ _ (s7 _ _ e)), nL2, fun e => ?_, eA, sA _ _ eF9, ?_, ?_⟩
                · rw [e, eF9] at hL2
                  cases hL2
                · show RR HA bsA (stp less i (eS less rows i)).1
                  rw [stp_some eh, eg]
                  exact rA
                · show RR HA (bs8 ++ [ad]) (stp less i (eS less rows i)).2
                  rw [stp_some eh, eg]
                  exact r9.same sA
      · obtain ⟨L, F, ls', fs, y4, y5, y6, y7, y8, rfl, sH, nL, nLF, eL, eF, rL, rF⟩ := hP
        have hFl : (eS less rows n).2.length ≤ 100 := by have := eS_cnt less rows n; omega
        have n2 := (eS_len hw n).2
        refine ⟨_, rfl, F, rfl, ⟨_, SqL.of eF⟩, fun D2 hD2 => lc_rowsS (Ps := Ps) (f := primE) (hG.same sH) hD2 eF rF hFl (fun _ => rfl) (fun ad r H2 Q2 hr2 s8 t8 e8 kq => ⟨_, rfl, ad, r, rfl, e8, by rw [n2 r hr2]; exact hn, ok.d r hr2, t8, kq⟩) (fun r hr2 z => ?_) (fun bs8 H8 s8 t8 e8 r8 => q D2 bs8 H8 ((Sts.of sH).trans s8) t8 e8 r8)⟩
        have e0 := primE_len r
        rw [z, n2 r hr2] at e0
        have e0 : n = 0 := e0.symm
        subst e0
        cases hr2
end
def ld (r : List Int) : Nat := r.findIdx (· != 0)
section
variable {P : Program} {w : World} {K : PySem.W.Frag} {mg : Str → Option Value} {base : Heap} {Ps : List Addr}
end
end K13

set_option Elab.async false
set_option linter.all false
set_option maxRecDepth 100000
set_option maxHeartbeats 4000000
set_option exponentiation.threshold 10000
namespace K13
open PySem PySem.Spec PyProof.Rows L2 StX RZ MyR SlX OwnR OwnF EnumT GxR GenNx FDivQ LA
theorem gl_iff {d : Nat} : ∀ (l : List Int) (a : Nat), d ∣ l.foldl (fun a x => Nat.gcd a x.natAbs) a ↔ d ∣ a ∧ ∀ x ∈ l, d ∣ x.natAbs
  | [], a => ⟨fun h => ⟨h, fun x hx => absurd hx List.not_mem_nil⟩, fun h => h.1⟩
  | y :: l, a => by
    rw [List.foldl_cons, gl_iff l]
    constructor
    · rintro ⟨h1, h2⟩
      refine ⟨Nat.dvd_trans h1 (Nat.gcd_dvd_left ..), fun x hx => ?_⟩
      rcases List.mem_cons.mp hx with rfl | hx
      · exact Nat.dvd_trans h1 (Nat.gcd_dvd_right ..)
      · exact h2 x hx
    · rintro ⟨h1, h2⟩
      exact ⟨Nat.dvd_gcd h1 (h2 y List.mem_cons_self), fun x hx => h2 x (List.mem_cons_of_mem _ hx)⟩
theorem gl_dvd {l : List Int} {x : Int} (h : x ∈ l) : gl l ∣ x.natAbs := ((gl_iff l 0).mp (Nat.dvd_refl _)).2 x h
theorem gl_dvdI {l : List Int} {x : Int} (h : x ∈ l) : (gl l : Int) ∣ x := Int.ofNat_dvd_left.mpr (gl_dvd h)
theorem dvd_gl {l : List Int} {d : Nat} (h : ∀ x ∈ l, d ∣ x.natAbs) : d ∣ gl l := (gl_iff l 0).mpr ⟨Nat.dvd_zero _, h⟩
theorem mem_co {l : List Int} {x : Int} (h : x ∈ l) : ∃ k, k < l.length ∧ co l k = x := by
  obtain ⟨k, hk, e⟩ := List.mem_iff_getElem.mp h
  exact ⟨k, hk, by rw [co_get hk, e]⟩
theorem dvd_glc {l : List Int} {d : Nat} (h : ∀ k, k < l.length → d ∣ (co l k).natAbs) : d ∣ gl l := dvd_gl fun x hx => by
  obtain ⟨k, hk, e⟩ := mem_co hx
  rw [← e]
  exact h k hk
theorem gl_dvdc (l : List Int) (k : Nat) : gl l ∣ (co l k).natAbs := by
  by_cases h : k < l.length
  · exact gl_dvd (co_memE h)
  · rw [co_far (by omega)]
    exact Nat.dvd_zero _
theorem gl_zero {l : List Int} (h : gl l = 0) (k : Nat) : co l k = 0 := by
  have := gl_dvdc l k
  rw [h] at this
  have := Nat.eq_zero_of_zero_dvd this
  omega
theorem co_dv (l : List Int) (c : Int) (k : Nat) : co (dv l c) k = (co l k).fdiv c := by
  by_cases h : k < l.length
  · have h2 : k < (dv l c).length := by
      unfold dv
      rw [List.length_map]
      exact h
    rw [co_get h2, co_get h]
    exact List.getElem_map ..
  · rw [co_far (l := dv l c) (by unfold dv; rw [List.length_map]; omega), co_far (by omega), Int.zero_fdiv]
theorem fdiv_ex {x c : Int} (h : c ∣ x) : c * x.fdiv c = x := Int.mul_fdiv_cancel' h
theorem dv_ex {l : List Int} (h : gl l ≠ 0) (k : Nat) : (gl l : Int) * co (dv l (gl l)) k = co l k := by
  rw [co_dv]
  exact fdiv_ex (Int.ofNat_dvd_left.mpr (gl_dvdc l k))
theorem gl_dv {l : List Int} (h : gl l ≠ 0) : gl (dv l (gl l)) = 1 := by
  have q : gl l * gl (dv l (gl l)) ∣ gl l := dvd_glc fun k _ => by
    rw [← dv_ex h k, Int.natAbs_mul, Int.natAbs_natCast]
    exact Nat.mul_dvd_mul_left _ (gl_dvdc _ _)
  have hp : 0 < gl l := Nat.pos_of_ne_zero h
  have h1 : gl (dv l (gl l)) ∣ 1 := Nat.dvd_of_mul_dvd_mul_left hp (by rw [Nat.mul_one]; exact q)
  exact Nat.dvd_one.mp h1
theorem red_le {w : Nat} {v : List Int} {u : Nat → Int} {α β : Int} (hv : gl v ≤ 1) (hl : v.length = w) (hα : α ≠ 0) (h : ∀ j, j < w → α * co v j = β * u j) : ∀ j, j < w → (co v j).natAbs ≤ (u j).natAbs := by
  have hn : ∀ j, j < w → α.natAbs * (co v j).natAbs = β.natAbs * (u j).natAbs := fun j hj => by
    rw [← Int.natAbs_mul, ← Int.natAbs_mul, h j hj]
  have ha : 0 < α.natAbs := by omega
  generalize α.natAbs = a at hn ha
  generalize β.natAbs = b at hn
  have hg : 0 < Nat.gcd a b := Nat.gcd_pos_of_pos_left _ ha
  obtain ⟨a', ea⟩ := Nat.gcd_dvd_left a b
  obtain ⟨b', eb⟩ := Nat.gcd_dvd_right a b
  have cop : Nat.Coprime a' b' := by
    have e1 : a' = a / Nat.gcd a b := Nat.eq_div_of_mul_eq_right (by omega) ea.symm
    have e2 : b' = b / Nat.gcd a b := Nat.eq_div_of_mul_eq_right (by omega) eb.symm
    rw [e1, e2]
    exact Nat.coprime_div_gcd_div_gcd hg
  have hn2 : ∀ j, j < w → a' * (co v j).natAbs = b' * (u j).natAbs := fun j hj => by
    refine Nat.eq_of_mul_eq_mul_left hg ?_
    rw [← Nat.mul_assoc, ← Nat.mul_assoc, ← ea, ← eb]
    exact hn j hj
  have ha' : 0 < a' := by
    rcases Nat.eq_zero_or_pos a' with z | z
    · rw [z, Nat.mul_zero] at ea
      omega
    · exact z
  have hb : b' ∣ gl v := dvd_glc fun k hk => cop.symm.dvd_of_dvd_mul_left ⟨_, hn2 k (hl ▸ hk)⟩
  intro j hj
  rcases Nat.eq_zero_or_pos (gl v) with z | z
  · rw [gl_zero z]
    exact Nat.zero_le _
  · have e1 : gl v = 1 := by omega
    rw [e1] at hb
    have e2 := Nat.dvd_one.mp hb
    have q := hn2 j hj
    rw [e2, Nat.one_mul] at q
    rw [← q]
    exact Nat.le_mul_of_pos_left _ ha'
abbrev row (B : List (List Int)) (k : Nat) : Nat → Int := co (B.getD k [])
def SpM (w : Nat) (B : List (List Int)) (v : List Int) : Prop := Sp w B.length (row B) (co v)
theorem row_mem {B : List (List Int)} {x : List Int} (h : x ∈ B) : ∃ k, k < B.length ∧ row B k = co x := by
  obtain ⟨k, hk, e⟩ := List.mem_iff_getElem.mp h
  exact ⟨k, hk, by unfold row; rw [List.getD_eq_getElem?_getD, List.getElem?_eq_getElem hk, e]; rfl⟩
theorem mem_row {B : List (List Int)} {k : Nat} (h : k < B.length) : B.getD k [] ∈ B := by
  rw [List.getD_eq_getElem?_getD, List.getElem?_eq_getElem h]
  exact List.getElem_mem h
theorem SpM.own {w : Nat} {B : List (List Int)} {x : List Int} (h : x ∈ B) : SpM w B x := by
  obtain ⟨k, hk, e⟩ := row_mem h
  unfold SpM
  rw [← e]
  exact Sp.own hk
theorem SpM.trans {w : Nat} {B B' : List (List Int)} {v : List Int} (h : SpM w B v) (g : ∀ x ∈ B, SpM w B' x) : SpM w B' v :=
  Sp.trans h fun k hk => g _ (mem_row hk)
theorem SpM.mono {w : Nat} {B B' : List (List Int)} {v : List Int} (h : SpM w B v) (g : ∀ x ∈ B, x ∈ B') : SpM w B' v := h.trans fun x hx => SpM.own (g x hx)
theorem SpM.lin {w : Nat} {B : List (List Int)} {u v t : List Int} {c : Int} (α β : Int) (hc : c ≠ 0) (h : SpM w B u) (g : SpM w B v) (e : ∀ j, j < w → c * co t j = α * co u j + β * co v j) : SpM w B t :=
  Sp.div hc (Sp.lin α β h g) e
theorem SpM.zero {w : Nat} {B : List (List Int)} {v : List Int} (h : ∀ j, j < w → co v j = 0) : SpM w B v := Sp.zero h
theorem SpM.mul {w : Nat} {B : List (List Int)} {u t : List Int} {c α : Int} (hc : c ≠ 0) (h : SpM w B u) (e : ∀ j, j < w → c * co t j = α * co u j) : SpM w B t :=
  h.lin α 0 hc h fun j hj => by rw [e j hj, Int.zero_mul, Int.add_zero]
theorem ind_of {w n : Nat} {A B : Nat → Nat → Int} (hA : Ind w n A) (h : ∀ i, i < n → Sp w n B (A i)) : Ind w n B := fun a ha i0 hi0 => by
  refine Classical.byContradiction fun ne => ?_
  obtain ⟨m, rfl⟩ : ∃ m, n = m + 1 := ⟨n - 1, by omega⟩
  have key : ∀ k, k < m + 1 → Sp w m (fun i => B (sk i0 i)) (B k) := fun k hk => by
    by_cases c : k = i0
    · subst c
      refine ⟨a k, ne, fun i => - a (sk k i), fun j hj => ?_⟩
      have e := ha j hj
      rw [S_skip _ k m (by omega)] at e
      rw [S_congr (g := fun i => (-1) * (a (sk k i) * B (sk k i) j)) fun i _ => by rw [Int.neg_mul, Int.neg_mul, Int.one_mul], S_mul]
      omega
    · obtain ⟨i, hi, e⟩ : ∃ i, i < m ∧ sk i0 i = k := by
        by_cases d : k < i0
        · exact ⟨k, by omega, if_pos d⟩
        · exact ⟨k - 1, by omega, by unfold sk; rw [if_neg (by omega)]; omega⟩
      rw [← e]
      exact Sp.own hi
  have := steinitz hA fun i hi => (h i hi).trans key
  omega
def BdE (R M : Nat) : Nat := R * ((2 * R * M + 1) ^ (R - 1) * M)
theorem Bd_mono {R R' M : Nat} (h : R ≤ R') : BdE R M ≤ BdE R' M := by
  unfold BdE
  refine Nat.mul_le_mul h (Nat.mul_le_mul_right _ ?_)
  refine Nat.le_trans (Nat.pow_le_pow_left (Nat.add_le_add_right (Nat.mul_le_mul_right _ (Nat.mul_le_mul_left _ h)) 1) _) ?_
  exact Nat.pow_le_pow_right (Nat.succ_pos _) (by omega)
theorem Bd_le {R M : Nat} (h : 1 ≤ R) : M ≤ BdE R M := by
  unfold BdE
  have h1 : 0 < (2 * R * M + 1) ^ (R - 1) := Nat.pow_pos (Nat.succ_pos _)
  have h2 := Nat.mul_le_mul_right M (show 1 ≤ (2 * R * M + 1) ^ (R - 1) from h1)
  have h3 := Nat.mul_le_mul_right ((2 * R * M + 1) ^ (R - 1) * M) h
  omega
theorem bd_left {w r M : Nat} {B : Nat → Nat → Int} {P : Nat → Nat} {v : List Int} (hl : v.length = w) (hv : gl v ≤ 1) (hM : ∀ i, i < r + 1 → ∀ j, (B i j).natAbs ≤ M) (hP : ∀ k, k < r → P k < w) (hI : Ind r r fun k j => B k (P j)) (hs : Sp w (r + 1) B (co v)) (hz : ∀ k, k < r → co v (P k) = 0) :
    ∀ j, j < w → (co v j).natAbs ≤ BdE (r + 1) M := by
  obtain ⟨y, ⟨i0, hi0, hy0⟩, hyb, hy⟩ := siegel r M (fun i k => B i (P k)) fun i hi k hk => hM i hi _
  obtain ⟨c, hc, a, ha⟩ := hs
  have yr : y r ≠ 0 := fun z => by
    have q := hI y (fun k hk => by
      have e := hy k hk
      have e : S r (fun i => y i * B i (P k)) + y r * B r (P k) = 0 := e
      rw [z, Int.zero_mul, Int.add_zero] at e
      exact e)
    by_cases d : i0 = r
    · rw [d] at hy0
      exact hy0 z
    · exact hy0 (q i0 (by omega))
  have D : ∀ j, j < w → y r * (c * co v j) - a r * S (r + 1) (fun i => y i * B i j) = S r (fun i => (y r * a i - a r * y i) * B i j) := fun j hj => by
    rw [ha j hj, ← S_mul, ← S_mul]
    have e : S r (fun i => (y r * a i - a r * y i) * B i j) = S r (fun i => y r * (a i * B i j)) + (-1) * S r (fun i => a r * (y i * B i j)) := by
      rw [← S_mul, ← S_add]
      exact S_congr fun i _ => by grind
    rw [e]
    show S r _ + y r * (a r * B r j) - (S r _ + a r * (y r * B r j)) = _
    grind
  have dz := hI (fun i => y r * a i - a r * y i) fun k hk => by
    rw [← D (P k) (hP k hk), hz k hk, hy k hk]
    rw [Int.mul_zero, Int.mul_zero, Int.mul_zero]
    rfl
  refine fun j hj => Nat.le_trans (red_le (u := fun j => S (r + 1) (fun i => y i * B i j)) (α := y r * c) (β := a r) hv hl (Int.mul_ne_zero yr hc) (fun j hj => ?_) j hj) (S_abs fun i hi => ?_)
  · have e := D j hj
    rw [S_zero (f := fun i => (y r * a i - a r * y i) * B i j) fun i hi => by rw [dz i hi, Int.zero_mul]] at e
    rw [Int.mul_assoc]
    exact Int.sub_eq_zero.mp e
  · rw [Int.natAbs_mul]
    exact Nat.mul_le_mul (hyb i) (hM i hi j)
theorem bd_found {w m M : Nat} {B : Nat → Nat → Int} {P : Nat → Nat} {v : List Int} {i0 : Nat} (hl : v.length = w) (hv : gl v ≤ 1) (hM : ∀ i, i < m + 1 → ∀ j, (B i j).natAbs ≤ M) (hP : ∀ k, k < m + 1 → P k < w) (hI : Ind (m + 1) (m + 1) fun k j => B k (P j)) (hs : Sp w (m + 1) B (co v)) (hi0 : i0 < m + 1) (hz : ∀ k, k < m + 1 → k ≠ i0 → co v (P k) = 0) :
    ∀ j, j < w → (co v j).natAbs ≤ BdE (m + 1) M := by
  obtain ⟨y, ⟨i1, hi1, hy1⟩, hyb, hy⟩ := siegel m M (fun i k => B i (P (sk i0 k))) fun i hi k hk => hM i hi _
  obtain ⟨c, hc, a, ha⟩ := hs
  have uz : ∀ k, k < m + 1 → k ≠ i0 → S (m + 1) (fun i => y i * B i (P k)) = 0 := fun k hk hne => by
    obtain ⟨i, hi, e⟩ : ∃ i, i < m ∧ sk i0 i = k := by
      by_cases d : k < i0
      · exact ⟨k, by omega, if_pos d⟩
      · exact ⟨k - 1, by omega, by unfold sk; rw [if_neg (by omega)]; omega⟩
    have := hy i hi
    rw [e] at this
    exact this
  have u0 : S (m + 1) (fun i => y i * B i (P i0)) ≠ 0 := fun z => hy1 (hI y (fun k hk => by
    by_cases d : k = i0
    · rw [d]
      exact z
    · exact uz k hk d) i1 hi1)
  generalize hU : S (m + 1) (fun i => y i * B i (P i0)) = U at u0
  have D : ∀ j, j < w → U * (c * co v j) - c * co v (P i0) * S (m + 1) (fun i => y i * B i j) = S (m + 1) (fun i => (U * a i - c * co v (P i0) * y i) * B i j) := fun j hj => by
    rw [ha j hj, ← S_mul, ← S_mul]
    have e : S (m + 1) (fun i => (U * a i - c * co v (P i0) * y i) * B i j) = S (m + 1) (fun i => U * (a i * B i j)) + (-1) * S (m + 1) (fun i => c * co v (P i0) * (y i * B i j)) := by
      rw [← S_mul, ← S_add]
      exact S_congr fun i _ => by grind
    rw [e]
    omega
  have dz := hI (fun i => U * a i - c * co v (P i0) * y i) fun k hk => by
    rw [← D (P k) (hP k hk)]
    by_cases d : k = i0
    · rw [d, hU]
      grind
    · rw [hz k hk d, uz k hk d]
      rw [Int.mul_zero, Int.mul_zero, Int.mul_zero]
      rfl
  refine fun j hj => Nat.le_trans (red_le (u := fun j => S (m + 1) (fun i => y i * B i j)) (α := U * c) (β := c * co v (P i0)) hv hl (Int.mul_ne_zero u0 hc) (fun j hj => ?_) j hj) (S_abs fun i hi => ?_)
  · have e := D j hj
    rw [S_zero (f := fun i => (U * a i - c * co v (P i0) * y i) * B i j) fun i hi => by rw [dz i hi, Int.zero_mul]] at e
    rw [Int.mul_assoc]
    exact Int.sub_eq_zero.mp e
  · rw [Int.natAbs_mul]
    exact Nat.mul_le_mul (hyb i) (hM i hi j)
structure LeP (le : List Int → List Int → Nat → List Int) : Prop where
  lin : ∀ row head p, co head p ≠ 0 → row.length = head.length → ∃ c : Int, c ≠ 0 ∧ ∀ j, c * co (le row head p) j = co head p * co row j - co row p * co head j
  len : ∀ row head p, (le row head p).length = row.length
  red : ∀ row head p, gl (le row head p) ≤ 1 ∨ le row head p = row
theorem lf_lin {row head : List Int} {p : Nat} (h : co head p ≠ 0) (hl : row.length = head.length) (j : Nat) : ((Nat.gcd (co head p).natAbs (co row p).natAbs : Nat) : Int) * co (lf row head p) j = co head p * co row j - co row p * co head j := by
  unfold lf
  have d1 : ((Nat.gcd (co head p).natAbs (co row p).natAbs : Nat) : Int) ∣ co head p := Int.ofNat_dvd_left.mpr (Nat.gcd_dvd_left ..)
  have d2 : ((Nat.gcd (co head p).natAbs (co row p).natAbs : Nat) : Int) ∣ co row p := Int.ofNat_dvd_left.mpr (Nat.gcd_dvd_right ..)
  have e1 := fdiv_ex d1
  have e2 := fdiv_ex d2
  generalize ((Nat.gcd (co head p).natAbs (co row p).natAbs : Nat) : Int) = g at e1 e2 ⊢
  rw [co_tb]
  by_cases hj : j < row.length
  · rw [if_pos hj]
    grind
  · rw [if_neg hj, co_far (l := row) (by omega), co_far (l := head) (i := j) (by omega), Int.mul_zero, Int.mul_zero, Int.mul_zero]
    rfl
theorem gcd_ne {a b : Int} (h : a ≠ 0) : ((Nat.gcd a.natAbs b.natAbs : Nat) : Int) ≠ 0 := by
  have := Nat.gcd_pos_of_pos_left b.natAbs (show 0 < a.natAbs by omega)
  omega
theorem lless_lin {row head : List Int} {p : Nat} (h : co head p ≠ 0) (hl : row.length = head.length) : ∃ c : Int, c ≠ 0 ∧ ∀ j, c * co (lless row head p) j = co head p * co row j - co row p * co head j := by
  unfold lless
  have g0 := gcd_ne (b := co row p) h
  by_cases d : 1 < gl (lf row head p)
  · rw [if_pos d]
    refine ⟨_, Int.mul_ne_zero g0 (show ((gl (lf row head p) : Nat) : Int) ≠ 0 by omega), fun j => ?_⟩
    rw [Int.mul_assoc, dv_ex (by omega), lf_lin h hl]
  · rw [if_neg d]
    exact ⟨_, g0, lf_lin h hl⟩
theorem lless_red (row head : List Int) (p : Nat) : gl (lless row head p) ≤ 1 := by
  unfold lless
  by_cases d : 1 < gl (lf row head p)
  · rw [if_pos d, gl_dv (by omega)]
    exact Nat.le_refl _
  · rw [if_neg d]
    omega
theorem less_eq {row head : List Int} {p : Nat} (h : co row p ≠ 0) : less row head p = lless row head p := by
  unfold less lless
  rw [if_neg h]
theorem less_id {row head : List Int} {p : Nat} (h : co row p = 0) : less row head p = row := by
  unfold less
  rw [if_pos h]
theorem lePP : LeP less := ⟨fun row head p h hl => by
  by_cases c : co row p = 0
  · rw [less_id c]
    exact ⟨_, h, fun j => by rw [c, Int.zero_mul, Int.sub_zero]⟩
  · rw [less_eq c]
    exact lless_lin h hl, less_len, fun row head p => by
  by_cases c : co row p = 0
  · exact .inr (less_id c)
  · rw [less_eq c]
    exact .inl (lless_red ..)⟩
structure Inv (w : Nat) (rows : List (List Int)) (p : Nat) (left found Hh : List (List Int)) (P : List Nat) : Prop where
  hr : ∀ x ∈ Hh, x ∈ rows
  hl : Hh.length = found.length
  pl : P.length = found.length
  lf : ∀ r ∈ left, ∃ x ∈ rows, SpM w (Hh ++ [x]) r
  ff : ∀ r ∈ found, SpM w Hh r
  lz : ∀ r ∈ left, ∀ j, j < p → co r j = 0
  pp : ∀ k, k < found.length → P.getD k 0 < p
  nz : ∀ k, k < found.length → row found k (P.getD k 0) ≠ 0
  z : ∀ i k, i < found.length → k < found.length → k ≠ i → row found k (P.getD i 0) = 0
  be : ∀ k, k < found.length → ∀ j, j < P.getD k 0 → row found k j = 0
  rd : ∀ r, r ∈ left ∨ r ∈ found → gl r ≤ 1 ∨ r ∈ rows
  rv : ∀ x ∈ rows, SpM w (found ++ left) x
  ll : ∀ r, r ∈ left ∨ r ∈ found → r.length = w
theorem row_app {A : List (List Int)} {x : List Int} {k : Nat} : row (A ++ [x]) k = if k < A.length then row A k else if k = A.length then co x else co [] := by
  unfold row
  rw [List.getD_eq_getElem?_getD, List.getD_eq_getElem?_getD]
  by_cases h : k < A.length
  · rw [if_pos h, List.getElem?_append_left h]
  · rw [if_neg h, List.getElem?_append_right (by omega)]
    by_cases e : k = A.length
    · rw [if_pos e, e, Nat.sub_self]
      rfl
    · rw [if_neg e, List.getElem?_eq_none (by show 1 ≤ _; omega)]
      rfl
theorem row_map {A : List (List Int)} {f : List Int → List Int} {k : Nat} (h : k < A.length) : row (A.map f) k = co (f (A.getD k [])) := by
  unfold row
  rw [List.getD_eq_getElem?_getD, List.getD_eq_getElem?_getD, List.getElem?_map, List.getElem?_eq_getElem h]
  rfl
theorem getD_app {P : List Nat} {x k : Nat} : (P ++ [x]).getD k 0 = if k < P.length then P.getD k 0 else if k = P.length then x else 0 := by
  rw [List.getD_eq_getElem?_getD, List.getD_eq_getElem?_getD]
  by_cases h : k < P.length
  · rw [if_pos h, List.getElem?_append_left h]
  · rw [if_neg h, List.getElem?_append_right (by omega)]
    by_cases e : k = P.length
    · rw [if_pos e, e, Nat.sub_self]
      rfl
    · rw [if_neg e, List.getElem?_eq_none (by show 1 ≤ _; omega)]
      rfl
theorem hix_some {left : List (List Int)} {p h : Nat} (e : hix left p = some h) : h < left.length ∧ co (left.getD h []) p ≠ 0 := by
  obtain ⟨hh, h1, _⟩ := List.findIdx?_eq_some_iff_getElem.mp e
  refine ⟨hh, ?_⟩
  rw [List.getD_eq_getElem?_getD, List.getElem?_eq_getElem hh]
  show co left[h] p ≠ 0
  simpa using h1
theorem hix_none {left : List (List Int)} {p : Nat} (e : hix left p = none) : ∀ r ∈ left, co r p = 0 := fun r hr => by
  have := List.findIdx?_eq_none_iff.mp e r hr
  simpa using this
theorem Inv.init {w : Nat} {rows : List (List Int)} (hw : ∀ r ∈ rows, r.length = w) : Inv w rows 0 rows [] [] [] :=
  ⟨fun x hx => absurd hx List.not_mem_nil, rfl, rfl, fun r hr => ⟨r, hr, SpM.own (by simp)⟩, fun r hr => absurd hr List.not_mem_nil, fun r _ j hj => absurd hj (Nat.not_lt_zero _), fun k hk => absurd hk (Nat.not_lt_zero _), fun k hk => absurd hk (Nat.not_lt_zero _), fun i k hi => absurd hi (Nat.not_lt_zero _), fun k hk => absurd hk (Nat.not_lt_zero _), fun r hr => .inr (hr.resolve_right List.not_mem_nil), fun x hx => SpM.own (by simpa using hx), fun r hr => hw r (hr.resolve_right List.not_mem_nil)⟩
theorem Inv.none {w p : Nat} {rows left found Hh : List (List Int)} {P : List Nat} (I : Inv w rows p left found Hh P) (e : hix left p = none) : Inv w rows (p + 1) left found Hh P :=
  ⟨I.hr, I.hl, I.pl, I.lf, I.ff, fun r hr j hj => by
    by_cases c : j = p
    · rw [c]
      exact hix_none e r hr
    · exact I.lz r hr j (by omega), fun k hk => Nat.lt_succ_of_lt (I.pp k hk), I.nz, I.z, I.be, I.rd, I.rv, I.ll⟩
theorem Inv.some {le : List Int → List Int → Nat → List Int} (hle : LeP le) {w p h : Nat} {rows left found Hh : List (List Int)} {P : List Nat} (I : Inv w rows p left found Hh P) (hp : p < w) (e : hix left p = .some h) :
    ∃ x, Inv w rows (p + 1) ((left.eraseIdx h).map fun r => le r (left.getD h []) p) ((found.map fun r => le r (left.getD h []) p) ++ [left.getD h []]) (Hh ++ [x]) (P ++ [p]) := by
  obtain ⟨hh, hd⟩ := hix_some e
  have hm : left.getD h [] ∈ left := mem_row hh
  generalize hH : left.getD h [] = hed at hd hm
  obtain ⟨x, hx, hs⟩ := I.lf hed hm
  have hlen := I.ll hed (.inl hm)
  have sub : ∀ r ∈ left.eraseIdx h, r ∈ left := fun r hr => List.mem_of_mem_eraseIdx hr
  have lin : ∀ r, r ∈ left ∨ r ∈ found → ∃ c : Int, c ≠ 0 ∧ ∀ j, c * co (le r hed p) j = co hed p * co r j - co r p * co hed j := fun r hr => hle.lin r hed p hd (by rw [I.ll r hr, hlen])
  have van : ∀ r, r ∈ left ∨ r ∈ found → ∀ j, co r j = 0 → co hed j = 0 → co (le r hed p) j = 0 := fun r hr j h1 h2 => by
    obtain ⟨c, hc, q⟩ := lin r hr
    have := q j
    rw [h1, h2, Int.mul_zero, Int.mul_zero] at this
    exact (Int.mul_eq_zero.mp this).resolve_left hc
  have vanp : ∀ r, r ∈ left ∨ r ∈ found → co (le r hed p) p = 0 := fun r hr => by
    obtain ⟨c, hc, q⟩ := lin r hr
    have := q p
    rw [Int.mul_comm (co hed p), Int.sub_self] at this
    · exact (Int.mul_eq_zero.mp this).resolve_left hc
  have keep : ∀ r, r ∈ left ∨ r ∈ found → ∀ j, co r j ≠ 0 → co hed j = 0 → co (le r hed p) j ≠ 0 := fun r hr j h1 h2 z => by
    obtain ⟨c, hc, q⟩ := lin r hr
    have := q j
    rw [z, h2, Int.mul_zero, Int.mul_zero, Int.sub_zero] at this
    rcases Int.mul_eq_zero.mp this.symm with z | z
    · exact hd z
    · exact h1 z
  have hz : ∀ j, j < p → co hed j = 0 := I.lz hed hm
  have fl : (found.map fun r => le r hed p).length = found.length := List.length_map ..
  have rw1 : ∀ k, k < found.length → row ((found.map fun r => le r hed p) ++ [hed]) k = co (le (found.getD k []) hed p) := fun k hk => by
    rw [row_app, fl, if_pos hk, row_map hk]
  have rw2 : row ((found.map fun r => le r hed p) ++ [hed]) found.length = co hed := by
    rw [row_app, fl, if_neg (Nat.lt_irrefl _), if_pos rfl]
  have pw1 : ∀ k, k < found.length → (P ++ [p]).getD k 0 = P.getD k 0 := fun k hk => by rw [getD_app, I.pl, if_pos hk]
  have pw2 : (P ++ [p]).getD found.length 0 = p := by rw [getD_app, I.pl, if_neg (Nat.lt_irrefl _), if_pos rfl]
  have nl : ((found.map fun r => le r hed p) ++ [hed]).length = found.length + 1 := by
    rw [List.length_append, fl]
    rfl
  refine ⟨x, fun y hy => ?_, ?_, ?_, fun r hr => ?_, fun r hr => ?_, fun r hr j hj => ?_, fun k hk => ?_, fun k hk => ?_, fun i k hi hk hne => ?_, fun k hk j hj => ?_, fun r hr => ?_, fun y hy => ?_, fun r hr => ?_⟩
  · rcases List.mem_append.mp hy with hy | hy
    · exact I.hr y hy
    · rw [List.mem_singleton.mp hy]
      exact hx
  · rw [List.length_append, List.length_append, fl, I.hl]
    rfl
  · rw [List.length_append, List.length_append, fl, I.pl]
    rfl
  · obtain ⟨r0, hr0, rfl⟩ := List.mem_map.mp hr
    obtain ⟨y, hy, hs2⟩ := I.lf r0 (sub r0 hr0)
    obtain ⟨c, hc, q⟩ := lin r0 (.inl (sub r0 hr0))
    refine ⟨y, hy, SpM.lin (co hed p) (- co r0 p) hc (hs2.mono fun z hz => ?_) (hs.mono fun z hz => ?_) fun j _ => by rw [q j, Int.neg_mul, Int.sub_eq_add_neg]⟩
    · simp only [List.mem_append, List.mem_singleton] at hz ⊢
      rcases hz with hz | hz
      · exact .inl (.inl hz)
      · exact .inr hz
    · exact List.mem_append.mpr (.inl hz)
  · rcases List.mem_append.mp hr with hr | hr
    · obtain ⟨r0, hr0, rfl⟩ := List.mem_map.mp hr
      obtain ⟨c, hc, q⟩ := lin r0 (.inr hr0)
      exact SpM.lin (co hed p) (- co r0 p) hc ((I.ff r0 hr0).mono fun z hz => List.mem_append.mpr (.inl hz)) hs fun j _ => by rw [q j, Int.neg_mul, Int.sub_eq_add_neg]
    · rw [List.mem_singleton.mp hr]
      exact hs
  · obtain ⟨r0, hr0, rfl⟩ := List.mem_map.mp hr
    by_cases c : j = p
    · rw [c]
      exact vanp r0 (.inl (sub r0 hr0))
    · exact van r0 (.inl (sub r0 hr0)) j (I.lz r0 (sub r0 hr0) j (by omega)) (hz j (by omega))
  · rw [nl] at hk
    by_cases c : k = found.length
    · rw [c, pw2]
      exact Nat.lt_succ_self _
    · rw [pw1 k (by omega)]
      exact Nat.lt_succ_of_lt (I.pp k (by omega))
  · rw [nl] at hk
    by_cases c : k = found.length
    · rw [c, pw2, rw2]
      exact hd
    · have hk : k < found.length := by omega
      rw [pw1 k hk, rw1 k hk]
      exact keep _ (.inr (mem_row hk)) _ (I.nz k hk) (hz _ (I.pp k hk))
  · rw [nl] at hi hk
    by_cases c : k = found.length
    · have hi : i < found.length := by omega
      rw [c, rw2, pw1 i hi]
      exact hz _ (I.pp i hi)
    · have hk : k < found.length := by omega
      rw [rw1 k hk]
      by_cases d : i = found.length
      · rw [d, pw2]
        exact vanp _ (.inr (mem_row hk))
      · have hi : i < found.length := by omega
        rw [pw1 i hi]
        exact van _ (.inr (mem_row hk)) _ (I.z i k hi hk hne) (hz _ (I.pp i hi))
  · rw [nl] at hk
    by_cases c : k = found.length
    · rw [c, pw2] at hj
      rw [c, rw2]
      exact hz j hj
    · have hk : k < found.length := by omega
      rw [pw1 k hk] at hj
      rw [rw1 k hk]
      exact van _ (.inr (mem_row hk)) _ (I.be k hk j hj) (hz j (Nat.lt_trans hj (I.pp k hk)))
  · have key : ∀ r0, r0 ∈ left ∨ r0 ∈ found → gl (le r0 hed p) ≤ 1 ∨ le r0 hed p ∈ rows := fun r0 h0 => by
      rcases hle.red r0 hed p with g | g
      · exact .inl g
      · rw [g]
        exact I.rd r0 h0
    rcases hr with hr | hr
    · obtain ⟨r0, hr0, rfl⟩ := List.mem_map.mp hr
      exact key r0 (.inl (sub r0 hr0))
    · rcases List.mem_append.mp hr with hr | hr
      · obtain ⟨r0, hr0, rfl⟩ := List.mem_map.mp hr
        exact key r0 (.inr hr0)
      · rw [List.mem_singleton.mp hr]
        exact I.rd hed (.inl hm)
  · refine (I.rv y hy).trans fun r hr => ?_
    have hin : SpM w (((found.map fun r => le r hed p) ++ [hed]) ++ ((left.eraseIdx h).map fun r => le r hed p)) hed := SpM.own (by simp)
    have back : ∀ r0, r0 ∈ left ∨ r0 ∈ found → le r0 hed p ∈ ((found.map fun r => le r hed p) ++ [hed]) ++ ((left.eraseIdx h).map fun r => le r hed p) → SpM w (((found.map fun r => le r hed p) ++ [hed]) ++ ((left.eraseIdx h).map fun r => le r hed p)) r0 := fun r0 h0 hm0 => by
      obtain ⟨c, hc, q⟩ := lin r0 h0
      exact SpM.lin c (co r0 p) hd (SpM.own hm0) hin fun j _ => by rw [q j]; omega
    rcases List.mem_append.mp hr with hr | hr
    · exact back r (.inr hr) (List.mem_append.mpr (.inl (List.mem_append.mpr (.inl (List.mem_map.mpr ⟨r, hr, rfl⟩)))))
    · obtain ⟨i, hi, ei⟩ := List.mem_iff_getElem.mp hr
      by_cases c : i = h
      · have : r = hed := by
          rw [← ei, ← hH, List.getD_eq_getElem?_getD]
          subst c
          rw [List.getElem?_eq_getElem hi]
          rfl
        rw [this]
        exact hin
      · exact back r (.inl hr) (List.mem_append.mpr (.inr (List.mem_map.mpr ⟨r, List.mem_eraseIdx_iff_getElem.mpr ⟨i, hi, c, ei⟩, rfl⟩)))
  · have key : ∀ r0, r0 ∈ left ∨ r0 ∈ found → (le r0 hed p).length = w := fun r0 h0 => by
      rw [hle.len]
      exact I.ll r0 h0
    rcases hr with hr | hr
    · obtain ⟨r0, hr0, rfl⟩ := List.mem_map.mp hr
      exact key r0 (.inl (sub r0 hr0))
    · rcases List.mem_append.mp hr with hr | hr
      · obtain ⟨r0, hr0, rfl⟩ := List.mem_map.mp hr
        exact key r0 (.inr hr0)
      · rw [List.mem_singleton.mp hr]
        exact hlen
theorem inv {le : List Int → List Int → Nat → List Int} (hle : LeP le) {w : Nat} {rows : List (List Int)} (hw : ∀ r ∈ rows, r.length = w) : ∀ p, p ≤ w → ∃ Hh P, Inv w rows p (eS le rows p).1 (eS le rows p).2 Hh P
  | 0, _ => ⟨[], [], Inv.init hw⟩
  | p + 1, hp => by
    obtain ⟨Hh, P, I⟩ := inv hle hw p (by omega)
    show ∃ Hh P, Inv w rows (p + 1) (stp le p (eS le rows p)).1 (stp le p (eS le rows p)).2 Hh P
    cases e : hix (eS le rows p).1 p with
    | none =>
      rw [stp_none e]
      exact ⟨Hh, P, I.none e⟩
    | some h =>
      rw [stp_some e]
      obtain ⟨x, J⟩ := I.some hle (by omega) e
      exact ⟨_, _, J⟩
theorem Inv.ind {w p : Nat} {rows left found Hh : List (List Int)} {P : List Nat} (I : Inv w rows p left found Hh P) (hp : p ≤ w) : Ind found.length found.length fun k j => row Hh k (P.getD j 0) := by
  refine ind_of (A := fun k j => row found k (P.getD j 0)) ?_ fun i hi => ?_
  · exact Ech.ind (lead := fun i => i) ⟨fun i hi => hi, fun i hi => I.nz i hi, fun i k hi hk hne => I.z i k hi hk hne⟩
  · obtain ⟨c, hc, a, ha⟩ := I.ff _ (mem_row hi)
    rw [I.hl] at ha
    exact ⟨c, hc, a, fun j hj => ha _ (Nat.lt_of_lt_of_le (I.pp j hj) hp)⟩
theorem co_bd {rows : List (List Int)} {M : Nat} (hM : ∀ r ∈ rows, ∀ x ∈ r, x.natAbs ≤ M) {r : List Int} (hr : r ∈ rows) (j : Nat) : (co r j).natAbs ≤ M := by
  by_cases h : j < r.length
  · exact hM r hr _ (co_memE h)
  · rw [co_far (by omega)]
    exact Nat.zero_le _
theorem Inv.bd {w p M : Nat} {rows left found Hh : List (List Int)} {P : List Nat} (I : Inv w rows p left found Hh P) (hp : p ≤ w) (hM : ∀ r ∈ rows, ∀ x ∈ r, x.natAbs ≤ M) (hc : left.length + found.length = rows.length) :
    ∀ r, r ∈ left ∨ r ∈ found → ∀ j, (co r j).natAbs ≤ BdE rows.length M := fun r hr j => by
  by_cases hj : j < w
  · rcases I.rd r hr with hv | hv
    · rcases hr with hr | hr
      · obtain ⟨x, hx, hs⟩ := I.lf r hr
        have hp1 := List.length_pos_of_mem hr
        refine Nat.le_trans (bd_left (r := found.length) (B := row (Hh ++ [x])) (P := fun k => P.getD k 0) (I.ll r (.inl hr)) hv (fun i hi j => ?_) (fun k hk => Nat.lt_of_lt_of_le (I.pp k hk) hp) (fun a ha => I.ind hp a fun k hk => ?_) ?_ (fun k hk => I.lz r hr _ (I.pp k hk)) j hj) (Bd_mono (by omega))
        · rw [row_app, I.hl]
          by_cases c : i < found.length
          · rw [if_pos c]
            exact co_bd hM (I.hr _ (mem_row (by rw [I.hl]; exact c))) j
          · rw [if_neg c, if_pos (by omega)]
            exact co_bd hM hx j
        · rw [← ha k hk]
          exact S_congr fun i hi => by
            show _ = a i * row (Hh ++ [x]) i (P.getD k 0)
            rw [row_app, I.hl, if_pos hi]
        · unfold SpM at hs
          rw [List.length_append, I.hl] at hs
          exact hs
      · obtain ⟨i0, hi0, e⟩ := row_mem hr
        obtain ⟨m, hm⟩ : ∃ m, found.length = m + 1 := ⟨found.length - 1, by omega⟩
        have hI := I.ind hp
        have hs := I.ff r hr
        unfold SpM at hs
        rw [I.hl] at hs
        rw [hm] at hI hs hi0
        refine Nat.le_trans (bd_found (B := row Hh) (P := fun k => P.getD k 0) (i0 := i0) (I.ll r (.inr hr)) hv (fun i hi j => co_bd hM (I.hr _ (mem_row (by rw [I.hl, hm]; exact hi))) j) (fun k hk => Nat.lt_of_lt_of_le (I.pp k (by omega)) hp) hI hs hi0 (fun k hk hne => ?_) j hj) (Bd_mono (by omega))
        rw [← e]
        exact I.z k i0 (by omega) (by omega) (Ne.symm hne)
    · exact Nat.le_trans (co_bd hM hv j) (Bd_le (List.length_pos_of_mem hv))
  · rw [co_far (by rw [I.ll r hr]; omega)]
    exact Nat.zero_le _
theorem quot_le {c q x : Int} (h : c * q = x) (hc : c ≠ 0) : q.natAbs ≤ x.natAbs := by
  rw [← h, Int.natAbs_mul]
  exact Nat.le_mul_of_pos_left _ (by omega)
theorem cdiv_of {x c : Int} (hc : c ≠ 0) (hd : c ∣ x) (hb : x.natAbs < 2 ^ 4470) : CDivQ x c := by
  have e := fdiv_ex hd
  refine CDivQ.exact hc (q := x.fdiv c) (by rw [Int.mul_comm]; exact e.symm) ?_
  have := quot_le e hc
  generalize 2 ^ 4470 = Z at hb ⊢
  omega
theorem log_lt {n k : Nat} (h : n < 2 ^ k) (hk : 0 < k) : n.log2 < k := by
  by_cases h0 : n = 0
  · rw [h0, Nat.log2_zero]
    exact hk
  · exact (Nat.log2_lt h0).mpr h
theorem cmul_of {a b : Int} (h1 : a.natAbs < 2 ^ 4470) (h2 : b.natAbs < 2 ^ 4470) : CMulW a b := by
  have := log_lt h1 (by decide)
  have := log_lt h2 (by decide)
  unfold CMulW
  omega
theorem divOk_of {l : List Int} (h : ∀ j, (co l j).natAbs < 2 ^ 4470) : DivOk l := fun h0 x hx => by
  obtain ⟨k, _, e⟩ := mem_co hx
  refine cdiv_of (by omega) (gl_dvdI hx) ?_
  rw [← e]
  exact h k
theorem lessOk_of {r hd : List Int} {p : Nat} (hp : co hd p ≠ 0) (hl : r.length = hd.length) (h1 : ∀ j, (co r j).natAbs < 2 ^ 4470) (h2 : ∀ j, (co hd j).natAbs < 2 ^ 4470) (h3 : co r p ≠ 0 → ∀ j, (co (lless r hd p) j).natAbs < 2 ^ 4470) : LessOk r hd p := by
  have g0 := gcd_ne (b := co r p) hp
  have d1 : ((Nat.gcd (co hd p).natAbs (co r p).natAbs : Nat) : Int) ∣ co hd p := Int.ofNat_dvd_left.mpr (Nat.gcd_dvd_left ..)
  have d2 : ((Nat.gcd (co hd p).natAbs (co r p).natAbs : Nat) : Int) ∣ co r p := Int.ofNat_dvd_left.mpr (Nat.gcd_dvd_right ..)
  have q1 := quot_le (fdiv_ex d1) g0
  have q2 := quot_le (fdiv_ex d2) g0
  refine ⟨cdiv_of g0 d1 (h2 p), cdiv_of g0 d2 (h1 p), fun k _ => cmul_of (h1 k) (Nat.lt_of_le_of_lt q1 (h2 p)), fun k _ => cmul_of (Nat.lt_of_le_of_lt q2 (h1 p)) (h2 k), ?_⟩
  by_cases c : co r p = 0
  · refine divOk_of fun j => ?_
    have e := lf_lin (row := r) hp hl j
    rw [c, Int.zero_mul, Int.sub_zero] at e
    have e2 : (Nat.gcd (co hd p).natAbs (0 : Int).natAbs) = (co hd p).natAbs := Nat.gcd_zero_right _
    rw [e2] at e
    have e3 : (co hd p).natAbs * (co (lf r hd p) j).natAbs = (co hd p).natAbs * (co r j).natAbs := by
      have := congrArg Int.natAbs e
      rwa [Int.natAbs_mul, Int.natAbs_mul, Int.natAbs_natCast] at this
    rw [Nat.eq_of_mul_eq_mul_left (by omega) e3]
    exact h1 j
  · intro h0 x hx
    obtain ⟨k, _, e⟩ := mem_co hx
    have q := h3 c k
    unfold lless at q
    by_cases d : 1 < gl (lf r hd p)
    · rw [if_pos d] at q
      have e1 := dv_ex h0 k
      rw [e] at e1
      exact CDivQ.exact (q := co (dv (lf r hd p) (gl (lf r hd p))) k) (by omega) (by rw [Int.mul_comm]; exact e1.symm) q
    · rw [if_neg d, e] at q
      exact cdiv_of (by omega) (gl_dvdI hx) q
theorem eok {le : List Int → List Int → Nat → List Int} (hle : LeP le) (hl2 : ∀ r hd p, co r p ≠ 0 → le r hd p = lless r hd p) {w M : Nat} {rows : List (List Int)} (hw : ∀ r ∈ rows, r.length = w) (hM : ∀ r ∈ rows, ∀ x ∈ r, x.natAbs ≤ M) (hb : BdE rows.length M < 2 ^ 4470) : EOk le rows w := by
  have bd : ∀ p, p ≤ w → ∀ r, r ∈ (eS le rows p).1 ∨ r ∈ (eS le rows p).2 → ∀ j, (co r j).natAbs < 2 ^ 4470 := fun p hp r hr j => by
    obtain ⟨Hh, P, I⟩ := inv hle hw p hp
    exact Nat.lt_of_le_of_lt (I.bd hp hM (eS_cnt le rows p) r hr j) hb
  refine ⟨fun r hr => divOk_of (bd w (Nat.le_refl _) r (.inr hr)), fun p hp h e r hr => ?_⟩
  obtain ⟨hh, hd⟩ := hix_some e
  obtain ⟨Hh, P, I⟩ := inv hle hw p (by omega)
  have hm := mem_row hh
  have hr1 : r ∈ (eS le rows p).1 ∨ r ∈ (eS le rows p).2 := hr.imp List.mem_of_mem_eraseIdx id
  refine lessOk_of hd (by rw [I.ll r hr1, I.ll _ (.inl hm)]) (bd p (by omega) r hr1) (bd p (by omega) _ (.inl hm)) fun c => ?_
  rw [← hl2 _ _ _ c]
  refine bd (p + 1) hp _ ?_
  show _ ∈ (stp le p (eS le rows p)).1 ∨ _ ∈ (stp le p (eS le rows p)).2
  rw [stp_some e]
  rcases hr with hr | hr
  · exact .inl (List.mem_map.mpr ⟨r, hr, rfl⟩)
  · exact .inr (List.mem_append.mpr (.inl (List.mem_map.mpr ⟨r, hr, rfl⟩)))
theorem eokP {w M : Nat} {rows : List (List Int)} (hw : ∀ r ∈ rows, r.length = w) (hM : ∀ r ∈ rows, ∀ x ∈ r, x.natAbs ≤ M) (hb : BdE rows.length M < 2 ^ 4470) : EOk less rows w := eok lePP (fun _ _ _ c => less_eq c) hw hM hb
theorem gl_mul (c : Int) : ∀ (l : List Int) (a : Nat), (l.map (c * ·)).foldl (fun a x => Nat.gcd a x.natAbs) (c.natAbs * a) = c.natAbs * l.foldl (fun a x => Nat.gcd a x.natAbs) a
  | [], _ => rfl
  | x :: l, a => by
    rw [List.map_cons, List.foldl_cons, List.foldl_cons, Int.natAbs_mul, Nat.gcd_mul_left]
    exact gl_mul c l _
theorem gl_scale (c : Int) (l : List Int) : gl (l.map (c * ·)) = c.natAbs * gl l := gl_mul c l 0
theorem co_scale (c : Int) (l : List Int) (j : Nat) : co (l.map (c * ·)) j = c * co l j := by
  by_cases h : j < l.length
  · rw [co_get (by rw [List.length_map]; exact h), co_get h, List.getElem_map]
  · rw [co_far (by rw [List.length_map]; omega), co_far (by omega), Int.mul_zero]
theorem gl0_of {l : List Int} (h : ∀ j, co l j = 0) : gl l = 0 := Nat.eq_zero_of_zero_dvd (dvd_glc fun k _ => by rw [h k]; exact Nat.dvd_refl _)
theorem ld_char {l : List Int} {k : Nat} (h : co l k ≠ 0) (hz : ∀ j, j < k → co l j = 0) : ld l = k := by
  have hk : k < l.length := by
    refine Classical.byContradiction fun c => h (co_far (by omega))
  unfold ld
  refine (List.findIdx_eq hk).mpr ⟨?_, fun j hj => ?_⟩
  · rw [← co_get hk]
    simpa using h
  · have := hz j hj
    rw [co_get (by omega)] at this
    simpa using this
theorem fo_ld : ∀ {l : List Int}, (∃ k, co l k ≠ 0) → foE l = co l (ld l) ∧ co l (ld l) ≠ 0 ∧ ∀ j, j < ld l → co l j = 0
  | [], ⟨k, h⟩ => absurd (co_far (Nat.zero_le _)) h
  | x :: l, ⟨k, h⟩ => by
    by_cases c : x = 0
    · have hk : ∃ k, co l k ≠ 0 := by
        cases k with
        | zero => exact absurd c h
        | succ k => exact ⟨k, h⟩
      obtain ⟨h1, h2, h3⟩ := fo_ld hk
      have e1 : foE (x :: l) = foE l := by
        unfold foE
        rw [List.find?_cons_of_neg (by simp [c])]
      have e2 : ld (x :: l) = ld l + 1 := ld_char (l := x :: l) (k := ld l + 1) h2 fun j hj => by
        cases j with
        | zero => exact c
        | succ j => exact h3 j (by omega)
      rw [e1, e2]
      refine ⟨h1, h2, fun j hj => ?_⟩
      cases j with
      | zero => exact c
      | succ j => exact h3 j (by omega)
    · have e1 : foE (x :: l) = x := by
        unfold foE
        rw [List.find?_cons_of_pos (by simp [c])]
        rfl
      have e2 : ld (x :: l) = 0 := ld_char (l := x :: l) (k := 0) c fun j hj => absurd hj (Nat.not_lt_zero _)
      rw [e1, e2]
      exact ⟨rfl, c, fun j hj => absurd hj (Nat.not_lt_zero _)⟩
def pf (l : List Int) : Int := if gl l = 0 then 1 else if 0 < foE l then (gl l : Int) else -(gl l : Int)
theorem pf_ne (l : List Int) : pf l ≠ 0 := by
  unfold pf
  split
  · decide
  · split <;> omega
theorem prim_ex (l : List Int) (j : Nat) : pf l * co (primE l) j = co l j := by
  unfold pf primE
  by_cases c : gl l = 0
  · rw [if_pos c, if_pos c, Int.one_mul]
  · rw [if_neg c, if_neg c, co_dv]
    refine fdiv_ex ?_
    have := Int.ofNat_dvd_left.mpr (gl_dvdc l j)
    split
    · exact this
    · exact Int.neg_dvd.mpr this
theorem prim_le (l : List Int) (j : Nat) : (co (primE l) j).natAbs ≤ (co l j).natAbs := quot_le (prim_ex l j) (pf_ne l)
def Pq (w : Nat) (r r' : List Int) : Prop := r.length = w ∧ r'.length = w ∧ ∃ α β : Int, α ≠ 0 ∧ β ≠ 0 ∧ ∀ j, α * co r j = β * co r' j
theorem Pq.zero {w : Nat} {r r' : List Int} (h : Pq w r r') (j : Nat) : co r j = 0 ↔ co r' j = 0 := by
  obtain ⟨_, _, α, β, ha, hb, e⟩ := h
  have := e j
  constructor <;> intro z <;> rw [z, Int.mul_zero] at this
  · exact (Int.mul_eq_zero.mp this.symm).resolve_left hb
  · exact (Int.mul_eq_zero.mp this).resolve_left ha
theorem sq_pos {a : Int} (h : a ≠ 0) : 0 < a * a := by
  rcases Int.lt_or_gt_of_ne h with z | z
  · exact Int.mul_pos_of_neg_of_neg z z
  · exact Int.mul_pos z z
theorem prim_pq {w : Nat} {r r' : List Int} (h : Pq w r r') : primE r = primE r' := by
  have hz := h.zero
  obtain ⟨hl, hl', α, β, ha, hb, e⟩ := h
  by_cases c : gl r = 0
  · have c' : gl r' = 0 := gl0_of fun j => (hz j).mp (gl_zero c j)
    unfold primE
    rw [if_pos c, if_pos c']
    exact co_inj (hl.trans hl'.symm) fun j => by rw [gl_zero c j, gl_zero c' j]
  · have c' : gl r' ≠ 0 := fun z => c (gl0_of fun j => (hz j).mpr (gl_zero z j))
    have ex : ∀ l : List Int, gl l ≠ 0 → ∃ k, co l k ≠ 0 := fun l hl => Classical.byContradiction fun z => hl (gl0_of fun j => Classical.byContradiction fun q => z ⟨j, q⟩)
    obtain ⟨f1, f2, f3⟩ := fo_ld (ex r c)
    obtain ⟨g1, g2, g3⟩ := fo_ld (ex r' c')
    have el : ld r' = ld r := ld_char (fun z => f2 ((hz _).mpr z)) fun j hj => (hz j).mp (f3 j hj)
    have e0 : α * foE r = β * foE r' := by rw [f1, g1, el]; exact e _
    have eg : α.natAbs * gl r = β.natAbs * gl r' := by
      rw [← gl_scale, ← gl_scale]
      refine congrArg gl (co_inj (by rw [List.length_map, List.length_map, hl, hl']) fun j => ?_)
      rw [co_scale, co_scale]
      exact e j
    have s1 : 0 < pf r * foE r := by
      unfold pf
      rw [if_neg c]
      split
      · exact Int.mul_pos (by omega) ‹_›
      · exact Int.mul_pos_of_neg_of_neg (by omega) (by omega)
    have s2 : 0 < pf r' * foE r' := by
      unfold pf
      rw [if_neg c']
      split
      · exact Int.mul_pos (by omega) ‹_›
      · exact Int.mul_pos_of_neg_of_neg (by omega) (by omega)
    have n1 : (α * pf r).natAbs = (β * pf r').natAbs := by
      have q : ∀ l, gl l ≠ 0 → (pf l).natAbs = gl l := fun l hl => by
        unfold pf
        rw [if_neg hl]
        split <;> omega
      rw [Int.natAbs_mul, Int.natAbs_mul, q r c, q r' c', eg]
    have z0 : α * foE r ≠ 0 := Int.mul_ne_zero ha (by omega)
    have t1 : 0 < α * pf r * (α * foE r) := by
      have : α * pf r * (α * foE r) = α * α * (pf r * foE r) := by grind
      rw [this]
      exact Int.mul_pos (sq_pos ha) s1
    have t2 : 0 < β * pf r' * (α * foE r) := by
      rw [e0]
      have : β * pf r' * (β * foE r') = β * β * (pf r' * foE r') := by grind
      rw [this]
      exact Int.mul_pos (sq_pos hb) s2
    have key : α * pf r = β * pf r' := by
      rcases Int.natAbs_eq_natAbs_iff.mp n1 with q | q
      · exact q
      · exfalso
        rw [q, Int.neg_mul] at t1
        omega
    refine co_inj (by rw [primE_len, primE_len, hl, hl']) fun j => ?_
    have a1 := prim_ex r j
    have a2 := prim_ex r' j
    have q : α * pf r * co (primE r) j = α * pf r * co (primE r') j := by
      rw [Int.mul_assoc, a1, e j, ← a2, ← Int.mul_assoc, key]
    exact Int.eq_of_mul_eq_mul_left (Int.mul_ne_zero ha (pf_ne r)) q
def PL (w : Nat) : List (List Int) → List (List Int) → Prop
  | [], [] => True
  | a :: as, b :: bs => Pq w a b ∧ PL w as bs
  | _, _ => False
theorem PL.hix {w p : Nat} : ∀ {A B : List (List Int)}, PL w A B → hix A p = hix B p
  | [], [], _ => rfl
  | a :: as, b :: bs, h => by
    have ih := PL.hix (p := p) h.2
    unfold K13.hix at ih ⊢
    rw [List.findIdx?_cons, List.findIdx?_cons, ih]
    have : (co a p != 0) = (co b p != 0) := by
      by_cases c : co a p = 0
      · rw [c, (h.1.zero p).mp c]
      · have c2 : co b p ≠ 0 := fun z => c ((h.1.zero p).mpr z)
        rw [bne_iff_ne.mpr c, bne_iff_ne.mpr c2]
    rw [this]
theorem PL.get {w : Nat} : ∀ {A B : List (List Int)} {k : Nat}, PL w A B → k < A.length → Pq w (A.getD k []) (B.getD k [])
  | [], [], _, _, hk => absurd hk (Nat.not_lt_zero _)
  | a :: as, b :: bs, 0, h, _ => h.1
  | a :: as, b :: bs, k + 1, h, hk => PL.get (k := k) h.2 (Nat.lt_of_succ_lt_succ hk)
theorem PL.erase {w : Nat} : ∀ {A B : List (List Int)} (k : Nat), PL w A B → PL w (A.eraseIdx k) (B.eraseIdx k)
  | [], [], _, _ => True.intro
  | a :: as, b :: bs, 0, h => h.2
  | a :: as, b :: bs, k + 1, h => ⟨h.1, PL.erase k h.2⟩
theorem PL.map {w : Nat} {f g : List Int → List Int} (hf : ∀ a b, Pq w a b → Pq w (f a) (g b)) : ∀ {A B : List (List Int)}, PL w A B → PL w (A.map f) (B.map g)
  | [], [], _ => True.intro
  | a :: as, b :: bs, h => ⟨hf _ _ h.1, PL.map hf h.2⟩
theorem PL.app {w : Nat} {a b : List Int} (h : Pq w a b) : ∀ {A B : List (List Int)}, PL w A B → PL w (A ++ [a]) (B ++ [b])
  | [], [], _ => ⟨h, True.intro⟩
  | a :: as, b :: bs, g => ⟨g.1, PL.app h g.2⟩
theorem PL.rf {w : Nat} : ∀ {A : List (List Int)}, (∀ a ∈ A, a.length = w) → PL w A A
  | [], _ => True.intro
  | a :: as, h => ⟨⟨h a List.mem_cons_self, h a List.mem_cons_self, 1, 1, by decide, by decide, fun _ => rfl⟩, PL.rf fun b hb => h b (List.mem_cons_of_mem _ hb)⟩
theorem PL.primE {w : Nat} : ∀ {A B : List (List Int)}, PL w A B → A.map primE = B.map primE
  | [], [], _ => rfl
  | a :: as, b :: bs, h => by
    rw [List.map_cons, List.map_cons, prim_pq h.1, PL.primE h.2]
structure Told (w M : Nat) (rows T : List (List Int)) : Prop where
  len : ∀ t ∈ T, t.length = w
  lt : ∀ t ∈ T, ld t < w
  nz : ∀ t ∈ T, co t (ld t) ≠ 0
  z : ∀ i k, i < T.length → k < T.length → k ≠ i → row T k (ld (T.getD i [])) = 0
  base : Base w rows.length (row rows) T.length (row T)
  bd : ∀ t ∈ T, ∀ j, (co t j).natAbs ≤ BdE T.length M
theorem getD_map {A : List (List Int)} {f : List Int → List Int} {k : Nat} (h : k < A.length) : (A.map f).getD k [] = f (A.getD k []) := by
  rw [List.getD_eq_getElem?_getD, List.getD_eq_getElem?_getD, List.getElem?_map, List.getElem?_eq_getElem h]
  rfl
theorem told {le : List Int → List Int → Nat → List Int} (hle : LeP le) {w M : Nat} {rows : List (List Int)} (hw : ∀ r ∈ rows, r.length = w) (hM : ∀ r ∈ rows, ∀ x ∈ r, x.natAbs ≤ M) : Told w M rows (ech le rows w) := by
  obtain ⟨Hh, P, I⟩ := inv hle hw w (Nat.le_refl _)
  unfold ech
  generalize (eS le rows w).1 = left at I
  generalize (eS le rows w).2 = found at I
  have hz : ∀ (r : List Int) (j : Nat), co (primE r) j = 0 ↔ co r j = 0 := fun r j => by
    have := prim_ex r j
    constructor <;> intro z <;> rw [z] at this
    · rw [Int.mul_zero] at this
      exact this.symm
    · exact (Int.mul_eq_zero.mp this).resolve_left (pf_ne r)
  have hld : ∀ k, k < found.length → ld (primE (found.getD k [])) = P.getD k 0 := fun k hk => ld_char (fun z => I.nz k hk ((hz _ _).mp z)) fun j hj => (hz _ _).mpr (I.be k hk j hj)
  have mem : ∀ t ∈ found.map primE, ∃ k, k < found.length ∧ t = primE (found.getD k []) := fun t ht => by
    obtain ⟨r, hr, rfl⟩ := List.mem_map.mp ht
    obtain ⟨k, hk, e⟩ := List.mem_iff_getElem.mp hr
    exact ⟨k, hk, by rw [List.getD_eq_getElem?_getD, List.getElem?_eq_getElem hk, e]; rfl⟩
  have z' : ∀ i k, i < (found.map primE).length → k < (found.map primE).length → k ≠ i → row (found.map primE) k (ld ((found.map primE).getD i [])) = 0 := fun i k hi hk hne => by
    rw [List.length_map] at hi hk
    rw [row_map hk, getD_map hi, hld i hi]
    exact (hz _ _).mpr (I.z i k hi hk hne)
  have nz' : ∀ k, k < (found.map primE).length → row (found.map primE) k (ld ((found.map primE).getD k [])) ≠ 0 := fun k hk => by
    rw [List.length_map] at hk
    rw [row_map hk, getD_map hk, hld k hk]
    exact fun z => I.nz k hk ((hz _ _).mp z)
  have lt' : ∀ k, k < (found.map primE).length → ld ((found.map primE).getD k []) < w := fun k hk => by
    rw [List.length_map] at hk
    rw [getD_map hk, hld k hk]
    exact I.pp k hk
  refine ⟨fun t ht => ?_, fun t ht => ?_, fun t ht => ?_, z', ⟨?_, fun k hk => ?_, fun i hi => ?_⟩, fun t ht j => ?_⟩
  · obtain ⟨k, hk, rfl⟩ := mem t ht
    rw [primE_len]
    exact I.ll _ (.inr (mem_row hk))
  · obtain ⟨k, hk, rfl⟩ := mem t ht
    rw [hld k hk]
    exact I.pp k hk
  · obtain ⟨k, hk, rfl⟩ := mem t ht
    rw [hld k hk]
    exact fun z => I.nz k hk ((hz _ _).mp z)
  · exact Ech.ind (lead := fun k => ld ((found.map primE).getD k [])) ⟨lt', nz', z'⟩
  · rw [List.length_map] at hk
    rw [row_map hk]
    have h1 : SpM w rows (found.getD k []) := (I.ff _ (mem_row hk)).trans fun x hx => SpM.own (I.hr x hx)
    exact SpM.mul (c := pf (found.getD k [])) (α := 1) (pf_ne _) h1 fun j _ => by rw [prim_ex, Int.one_mul]
  · refine (I.rv _ (mem_row hi)).trans fun x hx => ?_
    rcases List.mem_append.mp hx with hx | hx
    · exact SpM.mul (c := 1) (α := pf x) (by decide) (SpM.own (List.mem_map.mpr ⟨x, hx, rfl⟩)) fun j _ => by rw [prim_ex, Int.one_mul]
    · exact SpM.zero (I.lz x hx)
  · obtain ⟨k, hk, rfl⟩ := mem t ht
    rw [List.length_map]
    refine Nat.le_trans (prim_le _ j) ?_
    have hr := mem_row hk
    generalize hR : found.getD k [] = r at hr
    by_cases hj : j < w
    · rcases I.rd r (.inr hr) with hv | hv
      · obtain ⟨m, hm⟩ : ∃ m, found.length = m + 1 := ⟨found.length - 1, by omega⟩
        have hI := I.ind (Nat.le_refl _)
        have hs := I.ff r hr
        unfold SpM at hs
        rw [I.hl] at hs
        have hk0 := hk
        rw [hm] at hI hs hk ⊢
        refine bd_found (B := row Hh) (P := fun k => P.getD k 0) (i0 := k) (I.ll r (.inr hr)) hv (fun i hi j => co_bd hM (I.hr _ (mem_row (by rw [I.hl, hm]; exact hi))) j) (fun k hk => I.pp k (by omega)) hI hs hk (fun i hi hne => ?_) j hj
        rw [← hR]
        exact I.z i k (by omega) hk0 (Ne.symm hne)
      · exact Nat.le_trans (co_bd hM hv j) (Bd_le (by omega))
    · rw [co_far (by rw [I.ll r (.inr hr)]; omega)]
      exact Nat.zero_le _
abbrev le0 (t : List Int) : Int := co t (ld t)
def wst (a : Int) (t : List Int) : Int := a * (le0 t).fdiv (Nat.gcd a.natAbs (le0 t).natAbs : Nat)
def whl (T : List (List Int)) : Int := T.foldl wst 1
def frees (T : List (List Int)) (w : Nat) : List Nat := (List.range w).filter fun p => !(T.map ld).contains p
def kst (W : Int) (f : Nat) (o : List Int) (t : List Int) : List Int := o.set (ld t) (-(W.fdiv (le0 t)) * co t f)
def k0 (W : Int) (w f : Nat) : List Int := (List.replicate w (0 : Int)).set f W
def kone (T : List (List Int)) (w f : Nat) : List Int := T.foldl (kst (whl T) f) (k0 (whl T) w f)
structure KOk (T : List (List Int)) : Prop where
  c1 : ∀ A t B, T = A ++ t :: B → CDivQ (le0 t) (Nat.gcd (whl A).natAbs (le0 t).natAbs : Nat)
  m1 : ∀ A t B, T = A ++ t :: B → CMulW (whl A) ((le0 t).fdiv (Nat.gcd (whl A).natAbs (le0 t).natAbs : Nat))
  c2 : ∀ t ∈ T, CDivQ (whl T) (le0 t)
  m2 : ∀ t ∈ T, ∀ f, CMulW (-((whl T).fdiv (le0 t))) (co t f)
  m3 : ∀ t ∈ T, ∀ f, CMulW (whl T) (co t f)
  c3 : ∀ t ∈ T, ∀ f, CDivQ (whl T * co t f) (le0 t)
structure Kv (n : Nat) (T : List (List Int)) : Prop where
  free : ∀ f ∈ frees T n, ∀ g ∈ frees T n, co (kone T n f) g = if g = f then whl T else 0
  dot : ∀ f ∈ frees T n, ∀ t ∈ T, S n (fun j => co (kone T n f) j * co t j) = 0
  nz : whl T ≠ 0
  bd : ∀ B, (∀ t ∈ T, ∀ j, (co t j).natAbs ≤ B) → 1 ≤ B → ∀ f ∈ frees T n, ∀ j, (co (kone T n f) j).natAbs ≤ B ^ (T.length + 1)
theorem Told.nodup {w M : Nat} {rows T : List (List Int)} (h : Told w M rows T) : (T.map ld).Nodup := by
  unfold List.Nodup
  rw [List.pairwise_iff_getElem]
  intro i j hi hj hij e
  rw [List.length_map] at hi hj
  rw [List.getElem_map, List.getElem_map] at e
  have hz := h.z i j hi hj (by omega)
  have g : ∀ k, (hk : k < T.length) → T.getD k [] = T[k] := fun k hk => by rw [List.getD_eq_getElem?_getD, List.getElem?_eq_getElem hk]; rfl
  unfold row at hz
  rw [g i hi, g j hj, e] at hz
  exact h.nz _ (List.getElem_mem hj) hz
theorem Told.split {w M : Nat} {rows T : List (List Int)} (h : Told w M rows T) {t : List Int} (ht : t ∈ T) : ∃ A C, T = A ++ t :: C ∧ (∀ u ∈ C, ld u ≠ ld t) ∧ ∀ u ∈ T, u ≠ t → co t (ld u) = 0 := by
  obtain ⟨i, hi, e⟩ := List.mem_iff_getElem.mp ht
  have g : ∀ k, (hk : k < T.length) → T.getD k [] = T[k] := fun k hk => by rw [List.getD_eq_getElem?_getD, List.getElem?_eq_getElem hk]; rfl
  obtain ⟨A, C, es⟩ := List.append_of_mem ht
  refine ⟨A, C, es, fun u hu eq => ?_, fun u hu ne => ?_⟩
  · have nd := h.nodup
    rw [es, List.map_append, List.map_cons] at nd
    have := (List.nodup_append.mp nd).2.1
    exact (List.nodup_cons.mp this).1 (List.mem_map.mpr ⟨u, hu, eq⟩)
  · obtain ⟨k, hk, e2⟩ := List.mem_iff_getElem.mp hu
    have hki : i ≠ k := fun z => by
      subst z
      exact ne (e2.symm.trans e)
    have hz := h.z k i hk hi hki
    unfold row at hz
    rw [g k hk, g i hi, e, e2] at hz
    exact hz
end K13

set_option Elab.async false
set_option linter.all false
set_option maxRecDepth 100000
set_option maxHeartbeats 4000000
set_option exponentiation.threshold 10000
namespace K13
open PySem PySem.Spec PyProof.Rows L2 StX RZ MyR SlX OwnR OwnF EnumT GxR GenNx FDivQ LA
section
variable {P : Program} {w : World} {K : PySem.W.Frag} {mg : Str → Option Value} {base : Heap} {Ps : List Addr}
end
section
variable {P : Program} {w : World} {K : PySem.W.Frag} {mg : Str → Option Value} {base : Heap} {Ps : List Addr}
end
section
variable {P : Program} {w : World} {K : PySem.W.Frag} {mg : Str → Option Value} {base : Heap} {Ps : List Addr}
end
section
variable {P : Program} {w : World} {K : PySem.W.Frag} {mg : Str → Option Value} {base : Heap} {Ps : List Addr}
def spRank (Ps : List Addr) : Sp := fun vs H Q _ => ∃ (t : Addr) (as : List Addr) (rows : List (List Int)) (n : Nat), vs = [.ref t, .int n] ∧ (H t = some (.tup (as.map V.ref)) ∨ H t = some (.lst (as.map V.ref))) ∧ RA H as rows ∧ rows.length ≤ 100 ∧ n ≤ 100 ∧ (∀ r ∈ rows, r.length = n) ∧
  EOk less rows n ∧ Tg Ps H ∧ ∀ H', Sts Ps H H' → Tg Ps H' → Q (.int ((ech less rows n).length : Nat)) H'
theorem ok_rank_of (T : Facts K mg) (TB_first_of : TabB base mg T.c_first_of T.P_first_of) (hP : T.P_first_of ∈ Ps) : FnOk P w K mg base CX0 4 T.f_rank_of T.fd_rank_of ["rows", "width"] (spRank Ps) := by
  have G_echelon_rows := ok_echelon_rows (P := P) (w := w) (base := base) T TB_first_of hP
  refine T.F_rank_of.ok sc_rank_of (fun vs H Q E h => ?_) (fun cdv A outer s H vs Q E hr h => ?_)
  · obtain ⟨t, as, rows, n, rfl, _⟩ := h
    rfl
  · obtain ⟨t, as, rows, n, rfl, hS, hA, hl, hn, hw, ok, hG, q⟩ := h
    refine ⟨_, (PSs.nox (pss_one (ps_ret (pe_callB call_len_seq (by rfl) T.z_len (by decide +kernel) (pa_cons (pe_call G_echelon_rows hr (by rfl) T.g_echelon_rows T.F_echelon_rows.kp T.b_echelon_rows .nil pass0 (pa_cons (pv 0) (pa_cons (pv 1) pa_nil))) pa_nil))))), ?_⟩
    refine ⟨_, rfl, _, rfl, t, as, rows, n, rfl, hS, hA, hl, hn, hw, ok, hG, fun p bs H1 s1 t1 e1 r1 => ⟨p, bs.map V.ref, rfl, .inl (SqL.of e1), ?_⟩⟩
    rw [List.length_map, r1.len]
    exact q H1 s1 t1
end
section
variable {P : Program} {w : World} {K : PySem.W.Frag} {mg : Str → Option Value} {base : Heap} {Ps : List Addr}
end
section
variable {P : Program} {w : World} {K : PySem.W.Frag} {mg : Str → Option Value} {base : Heap} {Ps : List Addr}
end
end K13

set_option Elab.async false
set_option linter.all false
set_option maxRecDepth 100000
/-! layings: three forms, powers -/
namespace K13
def fact : Nat → Int
  | 0 => 1
  | n + 1 => fact n * (n + 1)
end K13

set_option Elab.async false
set_option linter.all false
set_option maxRecDepth 100000
set_option maxHeartbeats 4000000
namespace K13
open PySem PySem.Spec PyProof.Rows L2 StX RZ MyR SlX OwnR OwnF EnumT
/-- a loop over enumerate of a list -/
theorem for_enum {K : PySem.W.Frag} {a : Addr} {xs : List V} {g : TG} {tb : TS} {D : Ends} {σ : L2.St} {H : Hp} (Pv : Nat → L2.St → Hp → Prop) (h0 : Pv 0 σ H) (hq : ∀ i σ H, Pv i σ H → SqL K H a xs)
    (hs : ∀ (i : Nat) (x : V) (T : Addr) (σ : L2.St) (H : Hp), xs[i]? = some x → Pv i σ H → H T = none → g (.ref T) σ (upd H T (.tup [.int (i : Nat), x])) fun σ2 H2 => tb { D with nx := Pv (i + 1), ct := Pv (i + 1), bk := D.nx } σ2 H2) (hd : ∀ σ H, Pv xs.length σ H → D.nx σ H) :
    ∃ W : Nat → Nat → L2.St → Hp → Prop, (∃ m, W 0 m σ H) ∧ ∀ i m σ H, W i m σ H →
      ((Ite K a).stop i H ∧ D.nx σ H) ∨ ((Ite K a).go i H ∧ ∃ N : L2.St → Hp → Prop, (∀ σ' H', N σ' H' → ∃ m', m' < m ∧ W (i + 1) m' σ' H') ∧ ∀ v H', (Ite K a).yld i H v H' → g v σ H' fun σ2 H2 => tb { D with nx := N, ct := N, bk := D.nx } σ2 H2) := by
  refine ⟨fun i m σ H => m = xs.length - i ∧ i ≤ xs.length ∧ Pv i σ H, ⟨xs.length, rfl, Nat.zero_le _, h0⟩, ?_⟩
  rintro i m σ H ⟨rfl, hi, p⟩
  have qx := hq i σ H p
  by_cases hlt : i < xs.length
  · have hx : xs[i]? = some xs[i] := List.getElem?_eq_getElem hlt
    refine .inr ⟨⟨xs, _, qx, hx⟩, Pv (i + 1), fun σ' H' p' => ⟨xs.length - (i + 1), by omega, rfl, hlt, p'⟩, fun v H' y => ?_⟩
    obtain ⟨T, x', rfl, hT, rfl, f1⟩ := y
    exact hs i x' T σ H (f1 xs qx) p hT
  · have e : i = xs.length := by omega
    subst e
    exact .inl ⟨⟨xs, qx, Nat.le_refl _⟩, hd σ H p⟩
/-- a list of ints -/
abbrev lp (ns : List Int) : HO := .lst (ns.map V.int)
theorem ch_le : ∀ n k : Nat, ch n k ≤ 2 ^ n
  | n, 0 => by rw [ch_zero]; exact Nat.one_le_two_pow
  | 0, k + 1 => Nat.zero_le _
  | n + 1, k + 1 => by
    show ch n k + ch n (k + 1) ≤ _
    have h1 := ch_le n k
    have h2 := ch_le n (k + 1)
    rw [Nat.pow_succ]
    omega
section
variable {P : Program} {w : World} {K : PySem.W.Frag} {mg : Str → Option Value} {base : Heap}
def spLots : Sp := fun vs H Q _ => ∃ n k : Nat, vs = [.int n, .int k] ∧ k ≤ n ∧ n ≤ 50 ∧ Q (.int (ch n k)) H
theorem sm_ch {n k : Nat} (h : n ≤ 50) : sm ((ch n k : Nat) : Int) := by
  show ((ch n k : Nat) : Int).natAbs < _
  rw [Int.natAbs_natCast]
  exact Nat.lt_of_le_of_lt (ch_le n k) (Nat.pow_lt_pow_right (by decide) (by omega))
theorem ok_lots_of (T : Facts K mg) : FnOk P w K mg base CX0 1 T.f_lots_of T.fd_lots_of ["many", "few"] spLots := by
  refine T.F_lots_of.ok sc_lots_of (fun vs H Q E h => ?_) (fun cdv A outer s H vs Q E hr h => ?_)
  · obtain ⟨n, k, rfl, _⟩ := h
    rfl
  · obtain ⟨n, k, rfl, hk, hn, q⟩ := h
    refine ⟨_, (PSs.nox (pss_cons (ps_set (i := 2) sc_lots_of.nd rfl (.inl rfl) pe_int)
    (pss_cons (ps_for PassesOwn.never (by rfl) (pi_range1 (by rfl) T.z_range (pa_cons (pv 1) pa_nil)) (pg_name (i := 3) sc_lots_of.nd rfl (.inl rfl))
      (pss_one (ps_set (i := 2) sc_lots_of.nd rfl (.inl rfl) (pe_op op_fdivZ (pe_op op_mulW (pv 2) (pe_op op_sub (pv 0) (pv 3))) (pe_op op_add (pv 3) pe_int)))))
    (pss_one (ps_ret (pv 2)))))), ?_⟩
    refine ⟨_, rfl, k, rfl, by omega, by omega, for_range (n := (k : Int).toNat) (fun i σ H' => ∃ y3, σ = [some (.int n), some (.int k), some (.int (ch n i)), y3] ∧ H' = H) ⟨none, by rw [ch_zero]; rfl, rfl⟩ (fun i σ H' hi hP => ?_) (fun σ H' hP => ?_)⟩
    · obtain ⟨y3, rfl, rfl⟩ := hP
      have e := ch_mul n i
      have hi1 : (0 : Int) + (i : Int) + 1 ≠ 0 := by omega
      refine ⟨_, rfl, _, rfl, _, rfl, _, _, rfl, rfl, _, _, rfl, rfl, sm_mul (sm_ch hn) (Nat.lt_of_le_of_lt (show ((n : Int) - (0 + (i : Int))).natAbs ≤ 50 by omega) (Nat.lt_of_lt_of_le (show 50 < 2 ^ 7 by decide) (Nat.pow_le_pow_right (by decide) (by decide)))), _, rfl, _, _, rfl, rfl, _, _, rfl, rfl, ⟨hi1, Nat.lt_trans (PySem.Flt.log2_lt_of (k := 10) (by decide) (by show ((0 : Int) + (i : Int) + 1).natAbs < 2 ^ 10; omega)) (by decide)⟩, some (.int (0 + (i : Int))), ?_, rfl⟩
      have e2 : (((ch n i : Nat) : Int) * ((n : Int) - (0 + (i : Int)))).fdiv (0 + (i : Int) + 1) = ((ch n (i + 1) : Nat) : Int) := by
        rw [Int.zero_add, ← e, Int.mul_fdiv_cancel _ (by omega)]
      show [some (V.int n), some (V.int k), some (V.int ((((ch n i : Nat) : Int) * ((n : Int) - (0 + (i : Int)))).fdiv (0 + (i : Int) + 1))), _] = _
      rw [e2]
    · obtain ⟨y3, rfl, rfl⟩ := hP
      rw [Int.toNat_natCast]
      exact ⟨_, rfl, q⟩
end
end K13

set_option Elab.async false
set_option linter.all false
set_option maxRecDepth 100000
set_option maxHeartbeats 4000000
namespace K13
open PySem PySem.Spec PyProof.Rows L2 StX RZ MyR SlX OwnR OwnF EnumT
/-- lists of ints: where they stand, what they hold -/
structure Ll (H : Hp) (rs : List Addr) (n : Nat) (φ : Nat → List Int) : Prop where
  len : rs.length = n
  row : ∀ k (h : k < rs.length), H rs[k] = some (lp (φ k))
theorem Ll.same {H H' : Hp} {rs : List Addr} {n : Nat} {φ : Nat → List Int} (h : Ll H rs n φ) (s : Same H H') : Ll H' rs n φ := ⟨h.len, fun k hk => s _ _ (h.row k hk)⟩
theorem Ll.snoc {H H' : Hp} {rs : List Addr} {n : Nat} {φ : Nat → List Int} {p : Addr} {l : List Int} (h : Ll H rs n φ) (s : ∀ k (hk : k < rs.length), H' rs[k] = H rs[k]) (hp : H' p = some (lp l)) (e : l = φ n) : Ll H' (rs ++ [p]) (n + 1) φ := by
  refine ⟨by rw [List.length_append, h.len]; rfl, fun k hk => ?_⟩
  by_cases c : k < rs.length
  · rw [show (rs ++ [p])[k] = rs[k] from List.getElem_append_left _, s k c]
    exact h.row k c
  · have ek : k = rs.length := by rw [List.length_append] at hk; simp at hk; omega
    subst ek
    rw [show (rs ++ [p])[rs.length] = p by rw [List.getElem_append_right (Nat.le_refl _)]; simp, hp, e, h.len]
/-- all these addresses are free -/
def Fr (H : Hp) (rs : List Addr) : Prop := ∀ r ∈ rs, H r = none
theorem Fr.snoc {H : Hp} {rs : List Addr} {p : Addr} (h : Fr H rs) (hp : H p = none) : Fr H (rs ++ [p]) := fun r hr => by
  rcases List.mem_append.mp hr with e | e
  · exact h r e
  · rw [List.mem_singleton.mp e]
    exact hp
theorem get_ref {rs : List Addr} {i : Nat} {x : V} (h : (rs.map V.ref)[i]? = some x) : ∃ hi : i < rs.length, x = .ref rs[i] := by
  rw [List.getElem?_map] at h
  obtain ⟨b, hb, rfl⟩ := Option.map_eq_some_iff.mp h
  obtain ⟨h1, e1⟩ := List.getElem?_eq_some_iff.mp hb
  exact ⟨h1, by rw [e1]⟩
section
variable {P : Program} {w : World} {K : PySem.W.Frag} {mg : Str → Option Value} {base : Heap}
end
end K13

set_option Elab.async false
set_option linter.all false
set_option maxRecDepth 100000
set_option maxHeartbeats 4000000
namespace K13
open PySem PySem.Spec PyProof.Rows L2 StX RZ MyR SlX OwnR OwnF EnumT
/-- the entries so far of a laying -/
def Lc (t : Nat) (f g : List Int) (i k : Nat) : Int := su i fun j => sgn j * ch t j * cv (dd (t - j) j f) (co (dd j (t - j) g)) k
theorem evF_su (N : Nat) (φ : Nat → Nat → Int) (x y : Int) : ∀ n, evF N (fun k => su n fun j => φ j k) x y = su n fun j => evF N (φ j) x y
  | 0 => evF_zero x y N
  | n + 1 => by
    show evF N (fun k => su n (fun j => φ j k) + φ n k) x y = su n (fun j => evF N (φ j) x y) + evF N (φ n) x y
    rw [evF_add, evF_su N φ x y n]
theorem L_tab {t : Nat} {f g : List Int} (hf : t + 1 ≤ f.length) (hg : t + 1 ≤ g.length) : tb (f.length + g.length - 1 - 2 * t) (Lc t f g (t + 1)) = L t f g := by
  refine ev_inj (by rw [tb_len, L_len t f g hf hg]) fun x y => ?_
  rw [ev_tb, L_sum x y t f g hf hg]
  unfold Lc
  rw [evF_su]
  refine su_congr _ fun j hj => ?_
  have l1 := dd_len (t - j) j f
  have l2 := dd_len j (t - j) g
  have n1 : dd (t - j) j f ≠ [] := ne_of2 (by omega)
  have n2 : dd j (t - j) g ≠ [] := ne_of2 (by omega)
  rw [evF_mul]
  congr 1
  rw [← ev_ml n1 n2]
  unfold ev
  rw [ml_len, show (dd (t - j) j f).length + (dd j (t - j) g).length - 1 = f.length + g.length - 1 - 2 * t by omega]
  exact evF_congr _ fun k _ => (co_ml n2 k).symm
/-- what is asked of what is laid -/
structure LdOk (t : Nat) (f g : List Int) : Prop where
  lf : t + 1 ≤ f.length
  lg : t + 1 ≤ g.length
  mf : f.length ≤ 42
  mg : g.length ≤ 42
  sf : ∀ i j, i + j ≤ t → nm (dd i j f) ≤ 2 ^ 1500
  sg : ∀ i j, i + j ≤ t → nm (dd i j g) ≤ 2 ^ 1500
theorem lt400 {x i : Nat} (h : x ≤ 2 ^ i) (hi : i < 4000) : x < 2 ^ 4000 := Nat.lt_of_le_of_lt h (Nat.pow_lt_pow_right (by decide) hi)
theorem LdOk.smf {t : Nat} {f g : List Int} (h : LdOk t f g) (i j : Nat) (hij : i + j ≤ t) : ∀ z ∈ dd i j f, sm z := fun z hz => lt400 (Nat.le_trans (nm_mem hz) (h.sf i j hij)) (by decide)
theorem LdOk.smg {t : Nat} {f g : List Int} (h : LdOk t f g) (i j : Nat) (hij : i + j ≤ t) : ∀ z ∈ dd i j g, sm z := fun z hz => lt400 (Nat.le_trans (nm_mem hz) (h.sg i j hij)) (by decide)
section
variable {P : Program} {w : World} {K : PySem.W.Frag} {mg : Str → Option Value} {base : Heap}
end
end K13

set_option Elab.async false
set_option linter.all false
set_option maxRecDepth 100000
set_option maxHeartbeats 4000000
namespace K13
open PySem PySem.Spec PyProof.Rows L2 StX RZ MyR SlX OwnR OwnF EnumT
section
variable {P : Program} {w : World} {K : PySem.W.Frag} {mg : Str → Option Value} {base : Heap}
theorem tab_rep0 (n : Nat) : (List.replicate n [V.int 0]).flatten = tab n fun _ => 0 := by
  rw [← tab_rep]
  induction n with
  | zero => rfl
  | succ n ih => rw [List.replicate_succ, List.flatten_cons, ih, List.replicate_succ]; rfl
def spLaidIn : Sp := fun vs H Q _ => ∃ (a b : Addr) (f g : List Int) (t : Nat), vs = [.ref a, .ref b, .int t] ∧ H a = some (tp f) ∧ H b = some (tp g) ∧ LdOk t f g ∧ ∀ p H', Same H H' → H' p = some (tp (L t f g)) → Q (.ref p) H'
end
end K13

set_option Elab.async false
set_option linter.all false
set_option maxRecDepth 100000
set_option maxHeartbeats 4000000
namespace K13
open PySem PySem.Spec PyProof.Rows L2 StX RZ MyR SlX OwnR OwnF EnumT
theorem L_bd : ∀ (t : Nat) {f g : List Int} {n m A B : Nat}, Bd f n A → Bd g m B → n ≤ 7 → m ≤ 7 → t ≤ n → t ≤ m → Bd (L t f g) (n + m - 2 * t) (2 ^ (7 * t) * (A * B))
  | 0, f, g, n, m, A, B, hf, hg, _, _, _, _ => by
    have := bd_ml hf hg
    rw [Nat.mul_zero, Nat.pow_zero, Nat.one_mul]
    exact this
  | t + 1, f, g, n, m, A, B, hf, hg, hn, hm, h1, h2 => by
    have lf := hf.len
    have lg := hg.len
    have bx : ∀ {l : List Int} {k C : Nat}, Bd l k C → k ≤ 7 → 1 ≤ k → Bd (dX l) (k - 1) (8 * C) := fun h hk h0 => ⟨by rw [dX_len, h.len]; omega, Nat.le_trans (nm_dX _) (Nat.mul_le_mul (by rw [h.len]; omega) h.nm)⟩
    have by_ : ∀ {l : List Int} {k C : Nat}, Bd l k C → k ≤ 7 → 1 ≤ k → Bd (dY l) (k - 1) (8 * C) := fun h hk h0 => ⟨by rw [dY_len, h.len]; omega, Nat.le_trans (nm_dY _) (Nat.mul_le_mul (by rw [h.len]; omega) h.nm)⟩
    have r1 := L_bd t (bx hf hn (by omega)) (by_ hg hm (by omega)) (by omega) (by omega) (by omega) (by omega)
    have r2 := L_bd t (by_ hf hn (by omega)) (bx hg hm (by omega)) (by omega) (by omega) (by omega) (by omega)
    have r3 := bd_zs' (-1) r1 r2
    rw [show n - 1 + (m - 1) - 2 * t = n + m - 2 * (t + 1) by omega] at r3
    refine r3.mono (Nat.le_of_eq ?_)
    rw [show 7 * (t + 1) = 7 * t + 7 by omega, Nat.pow_add]
    show _ + 1 * _ = _
    generalize 2 ^ (7 * t) = Z
    rw [show (2 : Nat) ^ 7 = 128 by decide]
    grind
theorem dd_nm {l : List Int} {n A i j : Nat} (h : Bd l n A) (hn : n ≤ 7) (hij : i + j ≤ n) : nm (dd i j l) ≤ 2 ^ 21 * A := by
  have hl := h.len
  refine Nat.le_trans (nm_dd i j l (by omega)) (Nat.mul_le_mul ?_ h.nm)
  exact Nat.le_trans (Nat.pow_le_pow_left (show l.length ≤ 8 by omega) _) (Nat.le_trans (Nat.pow_le_pow_right (by decide) (show i + j ≤ 7 by omega)) (by decide))
theorem ldOk_of {f g : List Int} {n m t : Nat} (hf : Bd f n (2 ^ 100)) (hg : Bd g m (2 ^ 100)) (hn : n ≤ 7) (hm : m ≤ 7) (h1 : t ≤ n) (h2 : t ≤ m) : LdOk t f g :=
  ⟨by rw [hf.len]; omega, by rw [hg.len]; omega, by rw [hf.len]; omega, by rw [hg.len]; omega, fun i j hij => Nat.le_trans (dd_nm hf hn (by omega)) (by decide), fun i j hij => Nat.le_trans (dd_nm hg hm (by omega)) (by decide)⟩
section
variable {P : Program} {w : World} {K : PySem.W.Frag} {mg : Str → Option Value} {base : Heap}
theorem ok_law_choose (T : Facts K mg) : FnOk P w K mg base CX0 1 T.f_law_choose T.fd_law_choose ["_law_many", "_law_few"] spLots := by
  refine T.F_law_choose.ok sc_law_choose (fun vs H Q E h => ?_) (fun cdv A outer s H vs Q E hr h => ?_)
  · obtain ⟨n, k, rfl, _⟩ := h
    rfl
  · obtain ⟨n, k, rfl, hk, hn, q⟩ := h
    refine ⟨_, (PSs.nox (pss_cons (ps_set (i := 2) sc_law_choose.nd rfl (.inl rfl) pe_int)
    (pss_cons (ps_for PassesOwn.never (by rfl) (pi_range1 (by rfl) T.z_range (pa_cons (pv 1) pa_nil)) (pg_name (i := 3) sc_law_choose.nd rfl (.inl rfl))
      (pss_one (ps_set (i := 2) sc_law_choose.nd rfl (.inl rfl) (pe_op op_fdivZ (pe_op op_mulW (pv 2) (pe_op op_sub (pv 0) (pv 3))) (pe_op op_add (pv 3) pe_int)))))
    (pss_one (ps_ret (pv 2)))))), ?_⟩
    refine ⟨_, rfl, k, rfl, by omega, by omega, for_range (n := (k : Int).toNat) (fun i σ H' => ∃ y3, σ = [some (.int n), some (.int k), some (.int (ch n i)), y3] ∧ H' = H) ⟨none, by rw [ch_zero]; rfl, rfl⟩ (fun i σ H' hi hP => ?_) (fun σ H' hP => ?_)⟩
    · obtain ⟨y3, rfl, rfl⟩ := hP
      have e := ch_mul n i
      have hi1 : (0 : Int) + (i : Int) + 1 ≠ 0 := by omega
      refine ⟨_, rfl, _, rfl, _, rfl, _, _, rfl, rfl, _, _, rfl, rfl, sm_mul (sm_ch hn) (Nat.lt_of_le_of_lt (show ((n : Int) - (0 + (i : Int))).natAbs ≤ 50 by omega) (Nat.lt_of_lt_of_le (show 50 < 2 ^ 7 by decide) (Nat.pow_le_pow_right (by decide) (by decide)))), _, rfl, _, _, rfl, rfl, _, _, rfl, rfl, ⟨hi1, Nat.lt_trans (PySem.Flt.log2_lt_of (k := 10) (by decide) (by show ((0 : Int) + (i : Int) + 1).natAbs < 2 ^ 10; omega)) (by decide)⟩, some (.int (0 + (i : Int))), ?_, rfl⟩
      have e2 : (((ch n i : Nat) : Int) * ((n : Int) - (0 + (i : Int)))).fdiv (0 + (i : Int) + 1) = ((ch n (i + 1) : Nat) : Int) := by
        rw [Int.zero_add, ← e, Int.mul_fdiv_cancel _ (by omega)]
      show [some (V.int n), some (V.int k), some (V.int ((((ch n i : Nat) : Int) * ((n : Int) - (0 + (i : Int)))).fdiv (0 + (i : Int) + 1))), _] = _
      rw [e2]
    · obtain ⟨y3, rfl, rfl⟩ := hP
      rw [Int.toNat_natCast]
      exact ⟨_, rfl, q⟩
theorem ok_law_laid (T : Facts K mg) : FnOk P w K mg base CX0 3 T.f_law_laid T.fd_law_laid ["_law_one", "_law_other", "_law_times"] spLaidIn := by
  have G_law_choose := ok_law_choose (P := P) (w := w) (base := base) T
  have G_law_derived := ok_law_derived (P := P) (w := w) (base := base) T
  have G_law_product := ok_law_product (P := P) (w := w) (base := base) T
  have G_law_plus := ok_law_plus (P := P) (w := w) (base := base) T
  have G_law_scaled := ok_law_scaled (P := P) (w := w) (base := base) T
  refine T.F_law_laid.ok sc_law_laid (fun vs H Q E h => ?_) (fun cdv A outer s H vs Q E hr h => ?_)
  · obtain ⟨a, b, f, g, t, rfl, _⟩ := h
    rfl
  · obtain ⟨a, b, f, g, t, rfl, ha, hb, ok, q⟩ := h
    have lf := ok.lf
    have lg := ok.lg
    have mf := ok.mf
    have mg' := ok.mg
    refine ⟨_, (PSs.nox (pss_cons (ps_set (i := 3) sc_law_laid.nd rfl (.inl rfl) (pe_tupleOf (by rfl) T.z_tuple (pe_lc (own := [("_law_place", 4)]) (g := (gName 4)) (tt := tYes) (by rfl) sc_law_laid.nd (pi_range1 (by rfl) T.z_range (pa_cons (pe_op op_sub (pe_op op_sub (pe_op op_add (pe_callB call_len_seq (by rfl) T.z_len (by decide +kernel) (pa_cons (pv 0) pa_nil)) (pe_callB call_len_seq (by rfl) T.z_len (by decide +kernel) (pa_cons (pv 1) pa_nil))) pe_int) (pe_op op_mulW pe_int (pv 2))) pa_nil)) (blkOk_by (N := N_law_laid) (sc := defScope s_law_laid) (by decide +kernel)) (fun _ _ _ _ _ => (pg_name (i := 4) sc_law_laid.nd rfl (.inl rfl))) (fun _ _ _ _ _ => pts_nil) (fun _ _ _ _ _ => pe_int))))
    (pss_cons (ps_for PassesOwn.never (by rfl) (pi_range1 (by rfl) T.z_range (pa_cons (pe_op op_add (pv 2) pe_int) pa_nil)) (pg_name (i := 5) sc_law_laid.nd rfl (.inl rfl))
      (pss_cons (ps_set (i := 6) sc_law_laid.nd rfl (.inl rfl) (pe_call G_law_product (hr.mono (by decide)) (by rfl) T.g_law_product T.F_law_product.kp T.b_law_product .nil pass0 (pa_cons (pe_call G_law_derived hr (by rfl) T.g_law_derived T.F_law_derived.kp T.b_law_derived .nil pass0 (pa_cons (pv 0) (pa_cons (pe_op op_sub (pv 2) (pv 5)) (pa_cons (pv 5) pa_nil)))) (pa_cons (pe_call G_law_derived hr (by rfl) T.g_law_derived T.F_law_derived.kp T.b_law_derived .nil pass0 (pa_cons (pv 1) (pa_cons (pv 5) (pa_cons (pe_op op_sub (pv 2) (pv 5)) pa_nil)))) pa_nil))))
      (pss_cons (ps_set (i := 7) sc_law_laid.nd rfl (.inl rfl) (pe_call G_law_choose (hr.mono (by decide)) (by rfl) T.g_law_choose T.F_law_choose.kp T.b_law_choose .nil pass0 (pa_cons (pv 2) (pa_cons (pv 5) pa_nil))))
      (pss_one (ps_set (i := 3) sc_law_laid.nd rfl (.inl rfl) (pe_call G_law_plus (hr.mono (by decide)) (by rfl) T.g_law_plus T.F_law_plus.kp T.b_law_plus .nil pass0 (pa_cons (pv 3) (pa_cons (pe_call G_law_scaled (hr.mono (by decide)) (by rfl) T.g_law_scaled T.F_law_scaled.kp T.b_law_scaled .nil pass0 (pa_cons (pv 6) (pa_cons (pe_ifExp (pt_cmpR op_eq (pe_op op_mod (pv 5) pe_int) pe_int (nomark _)) (pv 7) (pe_op op_sub pe_int (pv 7))) pa_nil))) pa_nil))))))))
    (pss_one (ps_ret (pv 3)))))), ?_⟩
    refine ⟨_, rfl, a, _, rfl, .inr (SqT.of ha), _, rfl, b, _, rfl, .inr (SqT.of hb), ?_⟩
    rw [List.length_map, List.length_map]
    refine ⟨_, _, rfl, rfl, _, _, rfl, rfl, _, rfl, _, _, rfl, rfl, sm_mul (show sm 2 by show (2 : Nat) < 2 ^ 4000; exact lt400 (i := 1) (by decide) (by decide)) (sm_le (n := 100) (show ((t : Nat) : Int).natAbs ≤ 100 by omega) (by decide)), _, _, rfl, rfl, ?_⟩
    obtain ⟨N, hN⟩ : ∃ N, N = f.length + g.length - 1 - 2 * t := ⟨_, rfl⟩
    have eN : ((f.length : Int) + (g.length : Int) - 1 - 2 * (t : Int)) = (N : Int) := by omega
    dsimp only []
    rw [eN]
    refine ⟨N, rfl, by omega, by omega, fun D hD => lc_range (n := (N : Int).toNat) (fun j H' => H' = upd H D (.lst (tab j fun _ => 0))) rfl (fun j H' hj hP => ?_) (fun H' hP => ?_)⟩
    · subst hP
      refine ⟨rfl, _, upd_same, by rw [tab_len]; exact small1000 (by omega), ?_⟩
      rw [upd_upd, ← tab_snoc]
    · subst hP
      rw [Int.toNat_natCast, tab_tb]
      refine .inl ⟨D, _, rfl, SqL.of upd_same, fun p0 n0 => ?_⟩
      have sD := same_upd0 (o := .lst ((tb N fun _ => (0 : Int)).map V.int)) hD
      refine gen_upd _ p0 (tp (tb N fun _ => 0)) n0 fun H1 s1 f1 => ?_
      have s01 := sD.trans s1
      refine ⟨_, rfl, _, _, rfl, rfl, _, rfl, by omega, by omega, for_range (n := ((t : Int) + 1).toNat) (fun i σ H' => ∃ r y4 y5 y6 y7, σ = [some (.ref a), some (.ref b), some (.int t), some (.ref r), y4, y5, y6, y7] ∧ Same H H' ∧ H' r = some (tp (tb N (Lc t f g i)))) ⟨p0, none, none, none, none, rfl, s01, f1⟩ (fun i σ H' hi hP => ?_) (fun σ H' hP => ?_)⟩
      · obtain ⟨r, y4, y5, y6, y7, rfl, sH, hr2⟩ := hP
        have hi2 : i ≤ t := by omega
        have ei : (0 : Int) + (i : Int) = ((i : Nat) : Int) := by omega
        have et : (t : Int) - (0 + (i : Int)) = ((t - i : Nat) : Int) := by omega
        have l1 := dd_len (t - i) i f
        have l2 := dd_len i (t - i) g
        have of_ : DdOk (t - i) i f := ⟨by omega, by omega, fun u hu z hz => ok.smf u 0 (by omega) z hz, fun u hu z hz => ok.smf (t - i) u (by omega) z hz⟩
        have og : DdOk i (t - i) g := ⟨by omega, by omega, fun u hu z hz => ok.smg u 0 (by omega) z hz, fun u hu z hz => ok.smg i u (by omega) z hz⟩
        have n1 : dd (t - i) i f ≠ [] := ne_of2 (by omega)
        have n2 : dd i (t - i) g ≠ [] := ne_of2 (by omega)
        refine ⟨_, rfl, _, rfl, _, rfl, _, _, rfl, rfl, _, rfl, a, f, t - i, i, ?_, sH _ _ ha, of_, fun p3 H3 s3 f3 => ?_⟩
        · show [V.ref a, V.int ((t : Int) - (0 + (i : Int))), V.int (0 + (i : Int))] = _
          rw [et, ei]
        refine ⟨_, rfl, _, rfl, _, rfl, _, rfl, _, _, rfl, rfl, b, g, i, t - i, ?_, (sH.trans s3) _ _ hb, og, fun p4 H4 s4 f4 => ?_⟩
        · show [V.ref b, V.int (0 + (i : Int)), V.int ((t : Int) - (0 + (i : Int)))] = _
          rw [et, ei]
        refine ⟨p3, p4, _, _, rfl, s4 _ _ f3, f4, n1, n2, by omega, by omega, ok.smf _ _ (by omega), ok.smg _ _ (by omega), fun p5 H5 s5 _ f5 => ?_⟩
        refine ⟨_, rfl, _, rfl, t, i, by rw [ei]; rfl, hi2, by omega, ?_⟩
        have lm : (ml (dd (t - i) i f) (dd i (t - i) g)).length = N := by rw [ml_len]; omega
        have sm5 : ∀ z ∈ ml (dd (t - i) i f) (dd i (t - i) g), sm z := fun z hz => lt400 (Nat.le_trans (nm_mem hz) (Nat.le_trans (nm_ml _ _) (Nat.le_trans (Nat.mul_le_mul (ok.sf (t - i) i (by omega)) (ok.sg i (t - i) (by omega))) (Nat.le_of_eq (Nat.pow_add 2 1500 1500).symm)))) (by decide)
        have t5 := (s3.trans s4).trans s5
        have fin : ∀ c : Int, c = sgn i * ch t i → ∀ p6 H6, Same H5 H6 → H6 p6 = some (tp ((ml (dd (t - i) i f) (dd i (t - i) g)).map (c * ·))) → H6 r = some (tp (tb N (Lc t f g i))) ∧ (tb N (Lc t f g i)).length = ((ml (dd (t - i) i f) (dd i (t - i) g)).map (c * ·)).length ∧ zs 1 (tb N (Lc t f g i)) ((ml (dd (t - i) i f) (dd i (t - i) g)).map (c * ·)) = tb N (Lc t f g (i + 1)) := fun c hc p6 H6 s6 f6 => by
          have hlen : (tb N (Lc t f g i)).length = ((ml (dd (t - i) i f) (dd i (t - i) g)).map (c * ·)).length := by rw [tb_len, List.length_map, lm]
          refine ⟨(t5.trans s6) _ _ hr2, hlen, co_inj (by rw [zs_len hlen, tb_len, tb_len]) fun k => ?_⟩
          rw [co_zs' 1 hlen, co_map, co_tb, co_tb, hc]
          by_cases hk : k < N
          · rw [if_pos hk, if_pos hk, co_ml n2]
            show _ = Lc t f g i k + sgn i * ch t i * cv (dd (t - i) i f) (co (dd i (t - i) g)) k
            omega
          · rw [if_neg hk, if_neg hk, co_far (by rw [lm]; omega)]
            omega
        have bc : sm ((ch t i : Nat) : Int) := sm_ch (by omega)
        have bc' : sm (0 - ((ch t i : Nat) : Int)) := by
          show (0 - ((ch t i : Nat) : Int)).natAbs < _
          rw [Int.zero_sub, Int.natAbs_neg]
          exact bc
        refine ⟨_, rfl, _, rfl, _, rfl, _, _, rfl, rfl, (by show (0 : Int) < 2; decide), rfl, _, rfl, iteI (fun e => ?_) (fun e => ?_)⟩
        · have es : ((ch t i : Nat) : Int) = sgn i * ch t i := by
            unfold sgn
            rw [if_pos (by have : ((0 : Int) + (i : Int)) % 2 = 0 := e; omega), Int.one_mul]
          refine ⟨_, rfl, p5, _, _, rfl, f5, by rw [lm]; omega, sm5, bc, fun p6 H6 s6 _ f6 => ?_⟩
          obtain ⟨g1, g2, g3⟩ := fin _ es p6 H6 s6 f6
          exact ⟨r, p6, _, _, rfl, g1, f6, g2, by rw [tb_len]; omega, fun p7 H7 s7 _ f7 => ⟨p7, _, _, _, _, rfl, sH.trans ((t5.trans s6).trans s7), by rw [f7, g3]⟩⟩
        · have es : 0 - ((ch t i : Nat) : Int) = sgn i * ch t i := by
            unfold sgn
            rw [if_neg (by have : ¬ ((0 : Int) + (i : Int)) % 2 = 0 := e; omega)]
            omega
          refine ⟨_, rfl, _, _, rfl, rfl, p5, _, _, rfl, f5, by rw [lm]; omega, sm5, bc', fun p6 H6 s6 _ f6 => ?_⟩
          obtain ⟨g1, g2, g3⟩ := fin _ es p6 H6 s6 f6
          exact ⟨r, p6, _, _, rfl, g1, f6, g2, by rw [tb_len]; omega, fun p7 H7 s7 _ f7 => ⟨p7, _, _, _, _, rfl, sH.trans ((t5.trans s6).trans s7), by rw [f7, g3]⟩⟩
      · obtain ⟨r, y4, y5, y6, y7, rfl, sH, hr2⟩ := hP
        rw [show ((t : Int) + 1).toNat = t + 1 by omega, hN, L_tab ok.lf ok.lg] at hr2
        exact ⟨_, rfl, q r H' sH hr2⟩
end
end K13

set_option Elab.async false
set_option linter.all false
set_option maxRecDepth 100000
set_option maxHeartbeats 4000000
namespace K13
open PySem PySem.Spec PyProof.Rows L2 StX RZ MyR SlX OwnR OwnF EnumT
theorem su_zero : ∀ n, su n (fun _ => 0) = 0
  | 0 => rfl
  | n + 1 => by
    show su n (fun _ => 0) + 0 = 0
    rw [su_zero n]
    rfl
theorem su_mul (c : Int) (φ : Nat → Int) : ∀ n, su n (fun k => c * φ k) = c * su n φ
  | 0 => by show (0 : Int) = c * 0; omega
  | n + 1 => by
    show su n (fun k => c * φ k) + c * φ n = c * (su n φ + φ n)
    rw [su_mul c φ n, Int.mul_add]
/-- a pair table, derived by x and v, less what is derived by y and u -/
def lst (n m : Nat) (t : Nat → Nat → Int) (i j : Nat) : Int := ((n : Int) - 1 - i) * (j + 1) * t i (j + 1) - ((i : Int) + 1) * ((m : Int) - 1 - j) * t (i + 1) j
/-- so often -/
def lsn (n m : Nat) (t : Nat → Nat → Int) : Nat → Nat → Nat → Int
  | 0 => t
  | u + 1 => lst (n - u) (m - u) (lsn n m t u)
/-- the entries if both pairs of letters are one -/
def wh (n m : Nat) (t : Nat → Nat → Int) (k : Nat) : Int := su n fun i => su m fun j => if i + j = k then t i j else 0
/-- so far -/
def whp (m : Nat) (t : Nat → Nat → Int) (i j k : Nat) : Int := wh i m t k + su j fun j' => if i + j' = k then t i j' else 0
theorem whp_0 {m : Nat} {t : Nat → Nat → Int} {i k : Nat} : whp m t i 0 k = wh i m t k := by show wh i m t k + 0 = _; omega
theorem whp_end {m : Nat} {t : Nat → Nat → Int} {i k : Nat} : whp m t i m k = wh (i + 1) m t k := rfl
theorem whp_step {m : Nat} {t : Nat → Nat → Int} {i j k : Nat} : (if k = i + j then whp m t i j (i + j) + t i j else whp m t i j k) = whp m t i (j + 1) k := by
  have e : whp m t i (j + 1) k = whp m t i j k + if i + j = k then t i j else 0 := by
    show wh i m t k + (su j _ + (if i + j = k then t i j else 0)) = wh i m t k + su j _ + _
    rw [Int.add_assoc]
  rw [e]
  by_cases h : k = i + j
  · subst h
    rw [if_pos rfl, if_pos rfl]
  · rw [if_neg h, if_neg (Ne.symm h), Int.add_zero]
/-- the parts -/
def pt (n m : Nat) (t : Nat → Nat → Int) (u : Nat) : List Int := tb (n + m - 1 - 2 * u) (wh (n - u) (m - u) (lsn n m t u))
theorem pt_len (n m : Nat) (t : Nat → Nat → Int) (u : Nat) : (pt n m t u).length = n + m - 1 - 2 * u := tb_len _ _
theorem lst_lin (n m : Nat) (c : Int) (a b : Nat → Nat → Int) : lst n m (fun i j => a i j + c * b i j) = fun i j => lst n m a i j + c * lst n m b i j := by
  funext i j
  unfold lst
  grind
theorem lsn_lin (n m : Nat) (c : Int) (a b : Nat → Nat → Int) : ∀ u, lsn n m (fun i j => a i j + c * b i j) u = fun i j => lsn n m a u i j + c * lsn n m b u i j
  | 0 => rfl
  | u + 1 => by
    show lst (n - u) (m - u) (lsn n m (fun i j => a i j + c * b i j) u) = _
    rw [lsn_lin n m c a b u, lst_lin]
    rfl
theorem wh_lin (n m : Nat) (c : Int) (a b : Nat → Nat → Int) (k : Nat) : wh n m (fun i j => a i j + c * b i j) k = wh n m a k + c * wh n m b k := by
  unfold wh
  rw [← su_mul, ← su_add]
  refine su_congr _ fun i _ => ?_
  rw [← su_mul, ← su_add]
  refine su_congr _ fun j _ => ?_
  split <;> grind
theorem tb_ext {n : Nat} {f g : Nat → Int} (h : ∀ k, k < n → f k = g k) : tb n f = tb n g := by
  unfold tb
  exact List.map_congr_left fun k hk => h k (List.mem_range.mp hk)
theorem zs_tbs (c : Int) (n : Nat) (f g : Nat → Int) : zs c (tb n f) (tb n g) = tb n fun k => f k + c * g k := by
  refine co_inj (by rw [zs_len (by rw [tb_len, tb_len]), tb_len, tb_len]) fun k => ?_
  rw [co_zs' c (by rw [tb_len, tb_len]), co_tb, co_tb, co_tb]
  split <;> grind
theorem map_tb (c : Int) (n : Nat) (f : Nat → Int) : (tb n f).map (c * ·) = tb n fun k => c * f k := by
  unfold tb
  rw [List.map_map]
  rfl
theorem pt_zs (n m : Nat) (c : Int) (a b : Nat → Nat → Int) (u : Nat) : pt n m (fun i j => a i j + c * b i j) u = zs c (pt n m a u) (pt n m b u) := by
  unfold pt
  rw [zs_tbs, lsn_lin]
  exact tb_ext fun k _ => wh_lin _ _ _ _ _ _
/-! ### tables of two forms -/
theorem lsn_succ (n m : Nat) (t : Nat → Nat → Int) : ∀ u, lsn n m t (u + 1) = lsn (n - 1) (m - 1) (lst n m t) u
  | 0 => rfl
  | u + 1 => by
    show lst (n - (u + 1)) (m - (u + 1)) (lsn n m t (u + 1)) = lst (n - 1 - u) (m - 1 - u) (lsn (n - 1) (m - 1) (lst n m t) u)
    rw [lsn_succ n m t u, Nat.sub_sub, Nat.sub_sub, Nat.add_comm 1 u]
theorem pt_succ (n m : Nat) (t : Nat → Nat → Int) (u : Nat) : pt n m t (u + 1) = tb (n - 1 + (m - 1) - 1 - 2 * u) (wh (n - 1 - u) (m - 1 - u) (lsn (n - 1) (m - 1) (lst n m t) u)) ∨ n = 0 ∨ m = 0 := by
  by_cases hn : n = 0
  · exact .inr (.inl hn)
  by_cases hm : m = 0
  · exact .inr (.inr hm)
  left
  unfold pt
  rw [lsn_succ, Nat.sub_sub n 1 u, Nat.sub_sub m 1 u, Nat.add_comm 1 u]
  congr 1
  omega
theorem co_dX (l : List Int) (i : Nat) : co (dX l) i = co l i * ((l.length : Int) - 1 - i) := by
  unfold dX
  rw [co_tb]
  split
  · rfl
  · by_cases h : i < l.length
    · rw [show ((l.length : Int) - 1 - i) = 0 by omega, Int.mul_zero]
    · rw [co_far (by omega), Int.zero_mul]
theorem co_dY (l : List Int) (i : Nat) : co (dY l) i = co l (i + 1) * ((i : Int) + 1) := by
  unfold dY
  rw [co_tb]
  split
  · rfl
  · rw [co_far (by omega), Int.zero_mul]
theorem lst_two (f g : List Int) : lst f.length g.length (fun i j => co f i * co g j) = fun i j => co (dX f) i * co (dY g) j + (-1) * (co (dY f) i * co (dX g) j) := by
  funext i j
  unfold lst
  rw [co_dX, co_dY, co_dX, co_dY]
  grind
theorem whp_J (f g : List Int) (k : Nat) : ∀ i, i ≤ f.length → wh i g.length (fun i j => co f i * co g j) k = cv (f.take i) (co g) k
  | 0, _ => by rw [List.take_zero]; rfl
  | i + 1, h => by
    have hJ : ∀ j, whp g.length (fun i j => co f i * co g j) i j k = J f (co g) i j k := fun j => by
      induction j with
      | zero => rw [whp_0, J_0, whp_J f g k i (by omega)]
      | succ j ih =>
        rw [← whp_step, ← J_step]
        by_cases z : k = i + j
        · rw [if_pos z, if_pos z, ← z, ih]
        · rw [if_neg z, if_neg z, ih]
    rw [← whp_end, hJ, J_end h]
theorem pt_two : ∀ (u : Nat) (f g : List Int), u + 1 ≤ f.length → u + 1 ≤ g.length → pt f.length g.length (fun i j => co f i * co g j) u = L u f g
  | 0, f, g, hf, hg => by
    show tb (f.length + g.length - 1 - 2 * 0) (wh f.length g.length fun i j => co f i * co g j) = tb (f.length + g.length - 1) (cv f (co g))
    refine tb_ext fun k _ => ?_
    rw [whp_J f g k _ (Nat.le_refl _), List.take_length]
  | u + 1, f, g, hf, hg => by
    rcases pt_succ f.length g.length (fun i j => co f i * co g j) u with e | e | e
    · rw [e, lst_two]
      have l1 := dX_len f
      have l2 := dY_len f
      have l3 := dX_len g
      have l4 := dY_len g
      have p := pt_zs (f.length - 1) (g.length - 1) (-1) (fun i j => co (dX f) i * co (dY g) j) (fun i j => co (dY f) i * co (dX g) j) u
      have p1 := pt_two u (dX f) (dY g) (by omega) (by omega)
      have p2 := pt_two u (dY f) (dX g) (by omega) (by omega)
      rw [l1, l4] at p1
      rw [l2, l3] at p2
      rw [p1, p2] at p
      exact p
    · omega
    · omega
/-! ### bounds -/
def Tle (n m B : Nat) (t : Nat → Nat → Int) : Prop := ∀ i j, i < n → j < m → (t i j).natAbs ≤ B
theorem mul_abs {a b c : Int} {A B C : Nat} (ha : a.natAbs ≤ A) (hb : b.natAbs ≤ B) (hc : c.natAbs ≤ C) : (a * b * c).natAbs ≤ A * B * C := by
  rw [Int.natAbs_mul, Int.natAbs_mul]
  exact Nat.mul_le_mul (Nat.mul_le_mul ha hb) hc
theorem lst_le {n m B : Nat} {t : Nat → Nat → Int} (h : Tle n m B t) (hn : n ≤ 7) (hm : m ≤ 7) : Tle (n - 1) (m - 1) (2 ^ 7 * B) (lst n m t) := fun i j hi hj => by
  unfold lst
  have h1 := mul_abs (a := (n : Int) - 1 - i) (b := (j : Int) + 1) (A := 7) (B := 7) (by omega) (by omega) (h i (j + 1) (by omega) (by omega))
  have h2 := mul_abs (a := (i : Int) + 1) (b := (m : Int) - 1 - j) (A := 7) (B := 7) (by omega) (by omega) (h (i + 1) j (by omega) (by omega))
  generalize ((n : Int) - 1 - i) * ((j : Int) + 1) * t i (j + 1) = X at h1 ⊢
  generalize ((i : Int) + 1) * ((m : Int) - 1 - j) * t (i + 1) j = Y at h2 ⊢
  show (X - Y).natAbs ≤ 128 * B
  omega
theorem lsn_le {n m B : Nat} {t : Nat → Nat → Int} (h : Tle n m B t) (hn : n ≤ 7) (hm : m ≤ 7) : ∀ u, Tle (n - u) (m - u) (2 ^ (7 * u) * B) (lsn n m t u)
  | 0 => by
    show Tle n m (1 * B) t
    rw [Nat.one_mul]
    exact h
  | u + 1 => by
    have r := lst_le (lsn_le h hn hm u) (by omega) (by omega)
    rw [Nat.sub_sub, Nat.sub_sub, ← Nat.mul_assoc, ← Nat.pow_add, show 7 + 7 * u = 7 * (u + 1) by omega] at r
    exact r
theorem su_abs {B : Nat} {φ : Nat → Int} : ∀ n, (∀ k, k < n → (φ k).natAbs ≤ B) → (su n φ).natAbs ≤ n * B
  | 0, _ => Nat.zero_le _
  | n + 1, h => by
    show (su n φ + φ n).natAbs ≤ _
    have h1 := su_abs n fun k hk => h k (by omega)
    have h2 := h n (by omega)
    rw [Nat.succ_mul]
    omega
theorem wh_abs {n m B : Nat} {t : Nat → Nat → Int} (h : Tle n m B t) (k : Nat) : (wh n m t k).natAbs ≤ n * (m * B) := su_abs n fun i hi => su_abs m fun j hj => by
  split
  · exact h i j hi hj
  · exact Nat.zero_le _
end K13

set_option Elab.async false
set_option linter.all false
set_option maxRecDepth 100000
set_option maxHeartbeats 4000000
namespace K13
open PySem PySem.Spec PyProof.Rows L2 StX RZ MyR SlX OwnR OwnF EnumT SeqE
theorem _root_.SeqE.Sq.lt {K : PySem.W.Frag} {H : Hp} {a : Addr} {xs : List V} (h : Sq H a xs) : SqL K H a xs ∨ SqT K H a xs := h.elim (fun e => .inr (SqT.of e)) fun e => .inl (SqL.of e)
/-- at a a table of lists or of tuples -/
def Ts (H : Hp) (a : Addr) (n m : Nat) (t : Nat → Nat → Int) : Prop := ∃ rs : List Addr, rs.length = n ∧ Sq H a (rs.map V.ref) ∧ ∀ i (h : i < rs.length), Sq H rs[i] (tab m (t i))
theorem Ts.same {H H' : Hp} {a : Addr} {n m : Nat} {t : Nat → Nat → Int} (h : Ts H a n m t) (s : Same H H') : Ts H' a n m t := by
  obtain ⟨rs, l, h1, h2⟩ := h
  exact ⟨rs, l, h1.same s, fun i hi => (h2 i hi).same s⟩
theorem Ts.at {K : PySem.W.Frag} {H : Hp} {a : Addr} {n m : Nat} {t : Nat → Nat → Int} {i : Int} {k : Nat} {Q : VK} (h : Ts H a n m t) (e : i = (k : Int)) (hk : k < n) (q : ∀ r, Sq H r (tab m (t k)) → Q (.ref r) H) : rIx K (.ref a) (.int i) H Q := by
  obtain ⟨rs, l, h1, h2⟩ := h
  have hk2 : k < rs.length := by omega
  have e1 : (rs.map V.ref)[k]? = some (V.ref rs[k]) := by
    rw [List.getElem?_map, List.getElem?_eq_getElem hk2]
    rfl
  exact ix_sq h1 (at_of e e1) (q _ (h2 k hk2))
theorem row_at {K : PySem.W.Frag} {H : Hp} {r : Addr} {m : Nat} {f : Nat → Int} {i : Int} {k : Nat} {Q : VK} (h : Sq H r (tab m f)) (e : i = (k : Int)) (hk : k < m) (q : Q (.int (f k)) H) : rIx K (.ref r) (.int i) H Q :=
  ix_sq h (at_of e (tab_get hk)) q
/-- a loop over enumerate of a list or of a tuple that stays -/
theorem for_enumS {K : PySem.W.Frag} {ta : TA} {a : Addr} {xs : List V} {g : TG} {tb : TS} {D : Ends} {σ : L2.St} {H : Hp} (hs0 : Sq H a xs) (hta : ∀ Q : List V → Hp → Prop, Q [.ref a] H → ta σ H Q) (Pv : Nat → L2.St → Hp → Prop) (h0 : Pv 0 σ H) (hq : ∀ i σ H', Pv i σ H' → ∀ o, H a = some o → H' a = some o)
    (hs : ∀ (i : Nat) (x : V) (T : Addr) (σ : L2.St) (H : Hp), xs[i]? = some x → Pv i σ H → H T = none → g (.ref T) σ (upd H T (.tup [.int (i : Nat), x])) fun σ2 H2 => tb { D with nx := Pv (i + 1), ct := Pv (i + 1), bk := D.nx } σ2 H2) (hd : ∀ σ H, Pv xs.length σ H → D.nx σ H) : tFor (iEnumS K ta) g tb D σ H := by
  rcases hs0 with e | e
  · exact .inr (hta _ ⟨a, xs, rfl, SqT.of e, for_enumT Pv h0 (fun i σ H' p => SqT.of (hq i σ H' p _ e)) hs hd⟩)
  · exact .inl (hta _ ⟨a, xs, rfl, SqL.of e, for_enum Pv h0 (fun i σ H' p => SqL.of (hq i σ H' p _ e)) hs hd⟩)
theorem tab_int {m : Nat} {f : Nat → Int} {j : Nat} {x : V} (h : (tab m f)[j]? = some x) : j < m ∧ x = .int (f j) := by
  have hj : j < m := by
    have := (List.getElem?_eq_some_iff.mp h).1
    rwa [tab_len] at this
  rw [tab_get hj] at h
  exact ⟨hj, (Option.some.inj h).symm⟩
section
variable {P : Program} {w : World} {K : PySem.W.Frag} {mg : Str → Option Value} {base : Heap}
theorem abs2 {a b : Int} {A B : Nat} (ha : a.natAbs ≤ A) (hb : b.natAbs ≤ B) : (a * b).natAbs ≤ A * B := by
  rw [Int.natAbs_mul]
  exact Nat.mul_le_mul ha hb
theorem sm9 {a b : Int} (ha : a.natAbs ≤ 9) (hb : b.natAbs ≤ 9) : sm a ∧ sm b ∧ sm (a * b) :=
  ⟨Nat.lt_of_le_of_lt ha (lt400 (i := 4) (by decide) (by decide)), Nat.lt_of_le_of_lt hb (lt400 (i := 4) (by decide) (by decide)), Nat.lt_of_le_of_lt (abs2 ha hb) (lt400 (i := 7) (by decide) (by decide))⟩
theorem Tle.sm {n m : Nat} {t : Nat → Nat → Int} (h : Tle n m (2 ^ 700) t) {i j : Nat} (hi : i < n) (hj : j < m) : sm (t i j) := lt400 (h i j hi hj) (by decide)
theorem _root_.L2.Same.sx {R : Addr} {H H2 H3 : Hp} (s : Same H H2) (x : Sx R H2 H3) (n : H R = none) : Same H H3 := fun b o e => x b o (ne_of_none e n) (s b o e)
theorem Ll.ts {H : Hp} {p : Addr} {ss : List Addr} {n m : Nat} {t : Nat → Nat → Int} (h : H p = some (.lst (ss.map V.ref))) (l : Ll H ss n fun k => tb m (t k)) : Ts H p n m t :=
  ⟨ss, l.len, .inr h, fun i hi => .inr (by rw [l.row i hi, tab_tb])⟩
def spOnce : Sp := fun vs H Q _ => ∃ (a : Addr) (n m : Nat) (t : Nat → Nat → Int), vs = [.ref a] ∧ Ts H a n m t ∧ 1 ≤ n ∧ 1 ≤ m ∧ n ≤ 7 ∧ m ≤ 7 ∧ Tle n m (2 ^ 700) t ∧ ∀ p H', Same H H' → Ts H' p (n - 1) (m - 1) (lst n m t) → Q (.ref p) H'
theorem ok_parted_once (T : Facts K mg) : FnOk P w K mg base CX0 1 T.f_parted_once T.fd_parted_once ["table"] spOnce := by
  refine T.F_parted_once.ok sc_parted_once (fun vs H Q E h => ?_) (fun cdv A outer s H vs Q E hr h => ?_)
  · obtain ⟨a, n, m, t, rfl, _⟩ := h
    rfl
  · obtain ⟨a, n, m, t, rfl, ht, h1, h2, h3, h4, tl, q⟩ := h
    refine ⟨_, (PSs.nox (pss_cons (ps_par (i := 1) (j := 2) (by rfl) sc_parted_once.nd rfl rfl (by decide) rfl rfl (pa_cons (pe_op op_sub (pe_callB call_len_seq (by rfl) T.z_len (by decide +kernel) (pa_cons (pv 0) pa_nil)) pe_int) (pa_cons (pe_op op_sub (pe_callB call_len_seq (by rfl) T.z_len (by decide +kernel) (pa_cons (pe_ix ix_seq (pv 0) pe_int (fun _ _ => rfl)) pa_nil)) pe_int) pa_nil)) (by rfl))
    (pss_cons (ps_set (i := 3) sc_parted_once.nd rfl (.inl rfl) (pe_lst pa_nil))
    (pss_cons (ps_for PassesOwn.never (by rfl) (pi_range1 (by rfl) T.z_range (pa_cons (pv 1) pa_nil)) (pg_name (i := 4) sc_parted_once.nd rfl (.inl rfl))
      (pss_cons (ps_set (i := 5) sc_parted_once.nd rfl (.inl rfl) (pe_lst pa_nil))
      (pss_cons (ps_for PassesOwn.never (by rfl) (pi_range1 (by rfl) T.z_range (pa_cons (pv 2) pa_nil)) (pg_name (i := 6) sc_parted_once.nd rfl (.inl rfl))
        (pss_one (ps_expr (pe_bm PySem.F.plainAttrs_list PySem.F.slot_list_append PySem.F.type_list_append mt_append (pv 5) (pa_cons (pe_op op_sub (pe_op op_mulW (pe_op op_mulW (pe_op op_sub (pv 1) (pv 4)) (pe_op op_add (pv 6) pe_int)) (pe_ix ix_seq (pe_ix ix_seq (pv 0) (pv 4) (fun _ _ => rfl)) (pe_op op_add (pv 6) pe_int) (fun _ _ => rfl))) (pe_op op_mulW (pe_op op_mulW (pe_op op_add (pv 4) pe_int) (pe_op op_sub (pv 2) (pv 6))) (pe_ix ix_seq (pe_ix ix_seq (pv 0) (pe_op op_add (pv 4) pe_int) (fun _ _ => rfl)) (pv 6) (fun _ _ => rfl)))) pa_nil)))))
      (pss_one (ps_expr (pe_bm PySem.F.plainAttrs_list PySem.F.slot_list_append PySem.F.type_list_append mt_append (pv 3) (pa_cons (pv 5) pa_nil)))))))
    (pss_one (ps_ret (pv 3))))))), ?_⟩
    have ⟨rs, lr, hs, hrow⟩ := ht
    refine ⟨_, rfl, a, _, rfl, hs.lt, _, _, rfl, rfl, _, rfl, ht.at (k := 0) rfl (by omega) fun r0 hr0 => ⟨r0, _, rfl, hr0.lt, _, _, rfl, rfl, _, _, rfl, ?_⟩⟩
    rw [List.length_map, lr, tab_len]
    refine ⟨Nat.zero_le _, fun D nD => gen_upd H D _ nD fun H1 s1 f1 => ?_⟩
    refine ⟨_, rfl, (n : Int) - 1, rfl, by omega, by omega, for_range (n := ((n : Int) - 1).toNat) (fun i σ H' => ∃ ss y4 y5 y6, σ = [some (.ref a), some (.int ((n : Int) - 1)), some (.int ((m : Int) - 1)), some (.ref D), y4, y5, y6] ∧ Same H H' ∧ H' D = some (.lst (ss.map V.ref)) ∧ (∀ r ∈ ss, r ≠ D) ∧ Ll H' ss i fun k => tb (m - 1) (lst n m t k)) ⟨[], none, none, none, rfl, s1, f1, fun r hr => (nomatch hr), rfl, fun k hk => absurd hk (Nat.not_lt_zero k)⟩ (fun i σ H' hi hP => ?_) (fun σ H' hP => ?_)⟩
    · obtain ⟨ss, y4, y5, y6, rfl, sH, hD, ne, ll⟩ := hP
      refine ⟨Nat.zero_le _, fun R nR => gen_upd H' R _ nR fun H2 s2 f2 => ?_⟩
      have nR0 := Same.free sH nR
      have DR : D ≠ R := ne_of_none hD nR
      refine ⟨_, rfl, (m : Int) - 1, rfl, by omega, by omega, for_range (n := ((m : Int) - 1).toNat) (fun j σ H3 => ∃ y6, σ = [some (.ref a), some (.int ((n : Int) - 1)), some (.int ((m : Int) - 1)), some (.ref D), some (.int (0 + (i : Int))), some (.ref R), y6] ∧ Sx R H2 H3 ∧ H3 R = some (.lst (tab j (lst n m t i)))) ⟨_, rfl, Sx.refl R H2, f2⟩ (fun j σ H3 hj hP => ?_) (fun σ H3 hP => ?_)⟩
      · obtain ⟨y6, rfl, sx, hR⟩ := hP
        have ht3 : Ts H3 a n m t := ht.same (L2.Same.sx (sH.trans s2) sx nR0)
        obtain ⟨a1, a2, a3⟩ := sm9 (a := (n : Int) - 1 - (0 + (i : Int))) (b := 0 + (j : Int) + 1) (by omega) (by omega)
        obtain ⟨b1, b2, b3⟩ := sm9 (a := 0 + (i : Int) + 1) (b := (m : Int) - 1 - (0 + (j : Int))) (by omega) (by omega)
        refine ⟨_, rfl, .inl ⟨rfl, _, SqL.of hR⟩, _, rfl, _, rfl, _, _, rfl, rfl, _, rfl, _, _, rfl, rfl, _, _, rfl, rfl, sm_mul a1 a2, _, rfl, _, rfl, ht3.at (k := i) (by omega) (by omega) fun r hr => ⟨_, rfl, _, _, rfl, rfl, row_at hr (k := j + 1) (by omega) (by omega) ⟨_, _, rfl, rfl, sm_mul a3 (tl.sm (by omega) (by omega)), ?_⟩⟩⟩
        refine ⟨_, rfl, _, _, rfl, rfl, _, rfl, _, rfl, _, _, rfl, rfl, _, _, rfl, rfl, sm_mul b1 b2, _, rfl, _, rfl, _, _, rfl, rfl, ht3.at (k := i + 1) (by omega) (by omega) fun r2 hr2 => ⟨_, rfl, row_at hr2 (k := j) (by omega) (by omega) ⟨_, _, rfl, rfl, sm_mul b3 (tl.sm (by omega) (by omega)), _, _, rfl, rfl, R, _, _, rfl, rfl, hR, by rw [tab_len]; exact small1000 (by omega), ?_⟩⟩⟩
        refine ⟨_, rfl, sx.trans Sx.upd, ?_⟩
        rw [upd_same, ← tab_snoc, Int.zero_add, Int.zero_add]
        rfl
      · obtain ⟨y6, rfl, sx, hR⟩ := hP
        rw [show ((m : Int) - 1).toNat = m - 1 by omega, tab_tb] at hR
        refine ⟨_, rfl, .inl ⟨rfl, _, SqL.of (sx _ _ DR (s2 _ _ hD))⟩, _, rfl, D, _, _, rfl, rfl, sx _ _ DR (s2 _ _ hD), by rw [List.length_map, ll.len]; exact small1000 (by omega), ss ++ [R], _, _, _, rfl, ?_, by rw [upd_same, List.map_append]; rfl, fun r hr => ?_, ll.snoc (fun k hk => ?_) (by rw [upd_ne (Ne.symm DR)]; exact hR) rfl⟩
        · exact L2.Same.sx (L2.Same.sx (sH.trans s2) sx nR0) Sx.upd nD
        · rcases List.mem_append.mp hr with e | e
          · exact ne r e
          · rw [List.mem_singleton.mp e]
            exact Ne.symm DR
        · have e0 := ll.row k hk
          rw [upd_ne (ne _ (List.getElem_mem hk)), sx _ _ (ne_of_none e0 nR) (s2 _ _ e0), e0]
    · obtain ⟨ss, y4, y5, y6, rfl, sH, hD, ne, ll⟩ := hP
      rw [show ((n : Int) - 1).toNat = n - 1 by omega] at ll
      exact ⟨_, rfl, q D H' sH (Ll.ts hD ll)⟩
def spTog : Sp := fun vs H Q _ => ∃ (a : Addr) (n m : Nat) (t : Nat → Nat → Int), vs = [.ref a] ∧ Ts H a n m t ∧ 1 ≤ n ∧ 1 ≤ m ∧ n ≤ 13 ∧ m ≤ 13 ∧ ∀ p H', Same H H' → H' p = some (tp (tb (n + m - 1) (wh n m t))) → Q (.ref p) H'
theorem ok_put_together (T : Facts K mg) : FnOk P w K mg base CX0 1 T.f_put_together T.fd_put_together ["table"] spTog := by
  refine T.F_put_together.ok sc_put_together (fun vs H Q E h => ?_) (fun cdv A outer s H vs Q E hr h => ?_)
  · obtain ⟨a, n, m, t, rfl, _⟩ := h
    rfl
  · obtain ⟨a, n, m, t, rfl, ht, h1, h2, h3, h4, q⟩ := h
    refine ⟨_, (PSs.nox (pss_cons (ps_set (i := 1) sc_put_together.nd rfl (.inl rfl) (pe_op op_rep (pe_lst (pa_cons pe_int pa_nil)) (pe_op op_sub (pe_op op_add (pe_callB call_len_seq (by rfl) T.z_len (by decide +kernel) (pa_cons (pv 0) pa_nil)) (pe_callB call_len_seq (by rfl) T.z_len (by decide +kernel) (pa_cons (pe_ix ix_seq (pv 0) pe_int (fun _ _ => rfl)) pa_nil))) pe_int)))
    (pss_cons (ps_for PassesOwn.never (by rfl) (SeqE.pi_enumS (by rfl) T.z_enumerate (pa_cons (pv 0) pa_nil)) (pg_tup (by rfl) (pgs_cons (pg_name (i := 2) sc_put_together.nd rfl (.inl rfl)) (pgs_cons (pg_name (i := 3) sc_put_together.nd rfl (.inl rfl)) pgs_nil)))
      (pss_one (ps_for PassesOwn.never (by rfl) (SeqE.pi_enumS (by rfl) T.z_enumerate (pa_cons (pv 3) pa_nil)) (pg_tup (by rfl) (pgs_cons (pg_name (i := 4) sc_put_together.nd rfl (.inl rfl)) (pgs_cons (pg_name (i := 5) sc_put_together.nd rfl (.inl rfl)) pgs_nil)))
        (pss_one (ps_augS (pv 1) (pe_op op_add (pv 2) (pv 4)) OwnC.get_list (pv 5) ip_add set_list)))))
    (pss_one (ps_ret (pe_tupleOf (by rfl) T.z_tuple (pv 1))))))), ?_⟩
    refine ⟨by show 1 ≤ sizeLine; decide, fun p0 n0 => gen_upd H p0 (.lst [.int 0]) n0 fun H0 s0 f0 => ?_⟩
    have ht0 := ht.same s0
    obtain ⟨rs, lr, hs, hrow⟩ := ht
    refine ⟨_, rfl, a, _, rfl, (hs.same s0).lt, _, rfl, ht0.at (k := 0) rfl (by omega) fun r0 hr0 => ⟨r0, _, rfl, hr0.lt, _, _, rfl, rfl, _, _, rfl, rfl, ?_⟩⟩
    rw [List.length_map, lr, tab_len]
    obtain ⟨N, hN⟩ : ∃ N, N = n + m - 1 := ⟨_, rfl⟩
    have eN : ((n : Int) + (m : Int) - 1) = (N : Int) := by omega
    dsimp only []
    rw [eN]
    have hz1 : [V.int 0].length * (N : Int).toNat ≤ sizeLine := by
      have hz : (1000 : Nat) ≤ sizeLine := by decide
      show 1 * (N : Int).toNat ≤ sizeLine
      omega
    refine ⟨p0, N, _, rfl, rfl, f0, by omega, by omega, hz1, fun R nR => ?_⟩
    rw [Int.toNat_natCast, tab_rep0]
    refine gen_upd H0 R _ nR fun H1 s1 f1 => ?_
    have s01 := s0.trans s1
    have nRH : H R = none := Same.free s0 nR
    refine for_enumS (xs := rs.map V.ref) (hs.same s01) (fun Q q => ⟨_, rfl, q⟩) (fun i σ H' => ∃ y2 y3 y4 y5, σ = [some (.ref a), some (.ref R), y2, y3, y4, y5] ∧ Sx R H1 H' ∧ H' R = some (.lst (tab N (wh i m t)))) ⟨none, none, none, none, rfl, Sx.refl R H1, ?_⟩ (fun i σ H' hP => ?_) (fun i x B σ H' hxi hP hB => ?_) (fun σ H' hP => ?_)
    · exact f1
    · obtain ⟨y2, y3, y4, y5, _, sH, _⟩ := hP
      intro o ho
      have hRa : a ≠ R := by
        rcases hs with e | e <;> exact ne_of_none e nRH
      exact sH _ _ hRa ho
    · obtain ⟨y2, y3, y4, y5, rfl, sH, hL⟩ := hP
      obtain ⟨hi, rfl⟩ := get_ref hxi
      have hi2 : i < n := by omega
      refine ⟨B, _, rfl, SqT.of upd_same, rfl, _, _, rfl, _, _, rfl, rfl, ?_⟩
      refine gen_upd H' B _ hB (fun H2 s2 _ => ?_)
      have sH2 : Sx R H1 H2 := sH.trans (Sx.of s2)
      have hL2 := s2 _ _ hL
      have hr2 := (hrow i hi).same (L2.Same.sx s01 sH2 nRH)
      have hrR : rs[i] ≠ R := by
        rcases hrow i hi with e | e <;> exact ne_of_none e nRH
      rw [tab_ext (g := whp m t i 0) fun k hk => whp_0.symm] at hL2
      refine for_enumS hr2 (fun Q q => ⟨_, rfl, q⟩) (fun j σ H3 => ∃ y4 y5, σ = [some (.ref a), some (.ref R), some (.int ((i : Nat) : Int)), some (.ref rs[i]), y4, y5] ∧ Sx R H2 H3 ∧ H3 R = some (.lst (tab N (whp m t i j)))) ⟨y4, y5, rfl, Sx.refl R H2, hL2⟩ (fun j σ H3 hP => ?_) (fun j y B2 σ H3 hyj hP hB2 => ?_) (fun σ H3 hP => ?_)
      · obtain ⟨y4, y5, _, sH3, _⟩ := hP
        exact fun o ho => sH3 _ _ hrR ho
      · obtain ⟨y4, y5, rfl, sH3, hL3⟩ := hP
        obtain ⟨hj, rfl⟩ := tab_int hyj
        refine ⟨B2, _, rfl, SqT.of upd_same, rfl, _, _, rfl, _, _, rfl, rfl, ?_⟩
        refine gen_upd H3 B2 _ hB2 (fun H4 s4 _ => ?_)
        have sH4 : Sx R H2 H4 := sH3.trans (Sx.of s4)
        have hL4 := s4 _ _ hL3
        have e1 : ((i : Nat) : Int) + ((j : Nat) : Int) = ((i + j : Nat) : Int) := by omega
        refine ⟨_, rfl, _, rfl, _, rfl, _, _, rfl, rfl, R, _, i + j, _, rfl, by rw [← e1], SqL.of hL4, tab_get (by omega), _, rfl, _, _, rfl, rfl, R, _, _, (i + j), rfl, rfl, hL4, ?_, ?_⟩
        · rw [tab_len]
          exact ix_at e1 (by omega)
        · refine ⟨_, _, rfl, sH4.trans Sx.upd, ?_⟩
          rw [upd_same, tab_set]
          congr 2
          exact tab_ext fun k hk => whp_step
      · obtain ⟨y4, y5, rfl, sH3, hL3⟩ := hP
        rw [tab_len] at hL3
        exact ⟨_, _, _, _, rfl, sH2.trans sH3, hL3⟩
    · obtain ⟨y2, y3, y4, y5, rfl, sH, hL⟩ := hP
      rw [List.length_map, lr] at hL
      refine ⟨_, rfl, .inl ⟨R, _, rfl, SqL.of hL, fun p np => q p _ (fun d o e => ?_) ?_⟩⟩
      · exact same_upd0 np _ _ (sH _ _ (ne_of_none e nRH) (s01 _ _ e))
      · rw [upd_same, tab_tb, hN]
theorem ok_law_pair_whole (T : Facts K mg) : FnOk P w K mg base CX0 1 T.f_law_pair_whole T.fd_law_pair_whole ["_law_table"] spTog := by
  refine T.F_law_pair_whole.ok sc_law_pair_whole (fun vs H Q E h => ?_) (fun cdv A outer s H vs Q E hr h => ?_)
  · obtain ⟨a, n, m, t, rfl, _⟩ := h
    rfl
  · obtain ⟨a, n, m, t, rfl, ht, h1, h2, h3, h4, q⟩ := h
    refine ⟨_, (PSs.nox (pss_cons (ps_setLc (i := 1) (own := [("_law_place", 2)]) (g := (gName 2)) (tt := tYes) rfl sc_law_pair_whole.nd rfl rfl (sw_true rfl rfl rfl (by decide +kernel)) (pi_range1 (by rfl) T.z_range (pa_cons (pe_op op_sub (pe_op op_add (pe_callB call_len_seq (by rfl) T.z_len (by decide +kernel) (pa_cons (pv 0) pa_nil)) (pe_callB call_len_seq (by rfl) T.z_len (by decide +kernel) (pa_cons (pe_ix ix_seq (pv 0) pe_int (fun _ _ => rfl)) pa_nil))) pe_int) pa_nil)) (blkOk_by (N := N_law_pair_whole) (sc := defScope s_law_pair_whole) (by decide +kernel)) (fun _ _ _ _ _ => (pg_name (i := 2) sc_law_pair_whole.nd rfl (.inl rfl))) (fun _ _ _ _ _ => pts_nil) (fun _ _ _ _ _ => pe_int))
    (pss_cons (ps_for PassesOwn.never (by rfl) (SeqE.pi_enumS (by rfl) T.z_enumerate (pa_cons (pv 0) pa_nil)) (pg_tup (by rfl) (pgs_cons (pg_name (i := 3) sc_law_pair_whole.nd rfl (.inl rfl)) (pgs_cons (pg_name (i := 4) sc_law_pair_whole.nd rfl (.inl rfl)) pgs_nil)))
      (pss_one (ps_for PassesOwn.never (by rfl) (SeqE.pi_enumS (by rfl) T.z_enumerate (pa_cons (pv 4) pa_nil)) (pg_tup (by rfl) (pgs_cons (pg_name (i := 5) sc_law_pair_whole.nd rfl (.inl rfl)) (pgs_cons (pg_name (i := 6) sc_law_pair_whole.nd rfl (.inl rfl)) pgs_nil)))
        (pss_one (ps_asg (pe_op op_add (pe_ix ix_list (pv 1) (pe_op op_add (pv 3) (pv 5)) (fun _ _ => rfl)) (pv 6)) (pg_sub (pv 1) (pe_op op_add (pv 3) (pv 5)) set_list))))))
    (pss_one (ps_ret (pe_tupleOf (by rfl) T.z_tuple (pv 1))))))), ?_⟩
    have ht0 := ht
    obtain ⟨rs, lr, hs, hrow⟩ := ht
    refine ⟨_, rfl, a, _, rfl, hs.lt, _, rfl, ht0.at (k := 0) rfl (by omega) fun r0 hr0 => ⟨r0, _, rfl, hr0.lt, ?_⟩⟩
    rw [List.length_map, lr, tab_len]
    obtain ⟨N, hN⟩ : ∃ N, N = n + m - 1 := ⟨_, rfl⟩
    have eN : ((n : Int) + (m : Int) - 1) = (N : Int) := by omega
    refine ⟨_, _, rfl, rfl, _, _, rfl, rfl, ?_⟩
    dsimp only []
    rw [eN]
    refine ⟨N, rfl, by omega, by omega, fun R nRH => lc_range (n := (N : Int).toNat) (fun j H' => H' = upd H R (.lst (tab j fun _ => 0))) rfl (fun j H' hj hP => ?_) (fun H' hP => ?_)⟩
    · subst hP
      refine ⟨rfl, _, upd_same, by rw [tab_len]; exact small1000 (by omega), ?_⟩
      rw [upd_upd, ← tab_snoc]
    · subst hP
      rw [Int.toNat_natCast]
      refine gen_upd H R _ nRH fun H1 s01 f1 => ?_
      refine for_enumS (xs := rs.map V.ref) (hs.same s01) (fun Q q => ⟨_, rfl, q⟩) (fun i σ H' => ∃ y2 y3 y4 y5 y6, σ = [some (.ref a), some (.ref R), y2, y3, y4, y5, y6] ∧ Sx R H1 H' ∧ H' R = some (.lst (tab N (wh i m t)))) ⟨none, none, none, none, none, rfl, Sx.refl R H1, ?_⟩ (fun i σ H' hP => ?_) (fun i x B σ H' hxi hP hB => ?_) (fun σ H' hP => ?_)
      · exact f1
      · obtain ⟨y2, y3, y4, y5, y6, _, sH, _⟩ := hP
        intro o ho
        have hRa : a ≠ R := by
          rcases hs with e | e <;> exact ne_of_none e nRH
        exact sH _ _ hRa ho
      · obtain ⟨y2, y3, y4, y5, y6, rfl, sH, hL⟩ := hP
        obtain ⟨hi, rfl⟩ := get_ref hxi
        have hi2 : i < n := by omega
        refine ⟨B, _, rfl, SqT.of upd_same, rfl, _, _, rfl, _, _, rfl, rfl, ?_⟩
        refine gen_upd H' B _ hB (fun H2 s2 _ => ?_)
        have sH2 : Sx R H1 H2 := sH.trans (Sx.of s2)
        have hL2 := s2 _ _ hL
        have hr2 := (hrow i hi).same (L2.Same.sx s01 sH2 nRH)
        have hrR : rs[i] ≠ R := by
          rcases hrow i hi with e | e <;> exact ne_of_none e nRH
        rw [tab_ext (g := whp m t i 0) fun k hk => whp_0.symm] at hL2
        refine for_enumS hr2 (fun Q q => ⟨_, rfl, q⟩) (fun j σ H3 => ∃ y2 y5 y6, σ = [some (.ref a), some (.ref R), y2, some (.int ((i : Nat) : Int)), some (.ref rs[i]), y5, y6] ∧ Sx R H2 H3 ∧ H3 R = some (.lst (tab N (whp m t i j)))) ⟨y2, y5, y6, rfl, Sx.refl R H2, hL2⟩ (fun j σ H3 hP => ?_) (fun j y B2 σ H3 hyj hP hB2 => ?_) (fun σ H3 hP => ?_)
        · obtain ⟨y2, y5, y6, _, sH3, _⟩ := hP
          exact fun o ho => sH3 _ _ hrR ho
        · obtain ⟨y2, y5, y6, rfl, sH3, hL3⟩ := hP
          obtain ⟨hj, rfl⟩ := tab_int hyj
          refine ⟨B2, _, rfl, SqT.of upd_same, rfl, _, _, rfl, _, _, rfl, rfl, ?_⟩
          refine gen_upd H3 B2 _ hB2 (fun H4 s4 _ => ?_)
          have sH4 : Sx R H2 H4 := sH3.trans (Sx.of s4)
          have hL4 := s4 _ _ hL3
          have e1 : ((i : Nat) : Int) + ((j : Nat) : Int) = ((i + j : Nat) : Int) := by omega
          refine ⟨_, rfl, _, rfl, _, rfl, _, _, rfl, rfl, R, _, _, _, rfl, rfl, SqL.of hL4, at_of e1 (tab_get (by omega)), _, rfl, _, _, rfl, rfl, ?_⟩
          refine ⟨_, rfl, _, rfl, _, rfl, _, _, rfl, rfl, R, _, _, (i + j), rfl, rfl, hL4, ?_, ?_⟩
          · rw [tab_len]
            exact ix_at e1 (by omega)
          · refine ⟨_, _, _, rfl, sH4.trans Sx.upd, ?_⟩
            rw [upd_same, tab_set]
            congr 2
            exact tab_ext fun k hk => whp_step
        · obtain ⟨y2, y5, y6, rfl, sH3, hL3⟩ := hP
          rw [tab_len] at hL3
          exact ⟨_, _, _, _, _, rfl, sH2.trans sH3, hL3⟩
      · obtain ⟨y2, y3, y4, y5, y6, rfl, sH, hL⟩ := hP
        rw [List.length_map, lr] at hL
        refine ⟨_, rfl, .inl ⟨R, _, rfl, SqL.of hL, fun p np => q p _ (fun d o e => ?_) ?_⟩⟩
        · exact same_upd0 np _ _ (sH _ _ (ne_of_none e nRH) (s01 _ _ e))
        · rw [upd_same, tab_tb, hN]
theorem ok_law_pair_less (T : Facts K mg) : FnOk P w K mg base CX0 1 T.f_law_pair_less T.fd_law_pair_less ["_law_table"] spOnce := by
  refine T.F_law_pair_less.ok sc_law_pair_less (fun vs H Q E h => ?_) (fun cdv A outer s H vs Q E hr h => ?_)
  · obtain ⟨a, n, m, t, rfl, _⟩ := h
    rfl
  · obtain ⟨a, n, m, t, rfl, ht, h1, h2, h3, h4, tl, q⟩ := h
    refine ⟨_, (PSs.nox (pss_cons (ps_par3 (i := 1) (j := 2) (l := 3) (by rfl) sc_law_pair_less.nd rfl rfl rfl (by decide) (by decide) (by decide) rfl rfl rfl (pa_cons (pe_op op_sub (pe_callB call_len_seq (by rfl) T.z_len (by decide +kernel) (pa_cons (pv 0) pa_nil)) pe_int) (pa_cons (pe_op op_sub (pe_callB call_len_seq (by rfl) T.z_len (by decide +kernel) (pa_cons (pe_ix ix_seq (pv 0) pe_int (fun _ _ => rfl)) pa_nil)) pe_int) (pa_cons (pe_lst pa_nil) pa_nil))) (by rfl))
    (pss_cons (ps_for PassesOwn.never (by rfl) (pi_range1 (by rfl) T.z_range (pa_cons (pv 1) pa_nil)) (pg_name (i := 4) sc_law_pair_less.nd rfl (.inl rfl))
      (pss_cons (ps_par (i := 5) (j := 6) (by rfl) sc_law_pair_less.nd rfl rfl (by decide) rfl rfl (pa_cons (pe_ix ix_seq (pv 0) (pv 4) (fun _ _ => rfl)) (pa_cons (pe_ix ix_seq (pv 0) (pe_op op_add (pv 4) pe_int) (fun _ _ => rfl)) pa_nil)) (by rfl))
      (pss_cons (ps_set (i := 7) sc_law_pair_less.nd rfl (.inl rfl) (pe_lst pa_nil))
      (pss_cons (ps_for PassesOwn.never (by rfl) (pi_range1 (by rfl) T.z_range (pa_cons (pv 2) pa_nil)) (pg_name (i := 8) sc_law_pair_less.nd rfl (.inl rfl))
        (pss_cons (ps_set (i := 9) sc_law_pair_less.nd rfl (.inl rfl) (pe_op op_mulW (pe_op op_mulW (pe_op op_sub (pv 1) (pv 4)) (pe_op op_add (pv 8) pe_int)) (pe_ix ix_seq (pv 5) (pe_op op_add (pv 8) pe_int) (fun _ _ => rfl))))
        (pss_one (ps_expr (pe_bm PySem.F.plainAttrs_list PySem.F.slot_list_append PySem.F.type_list_append mt_append (pv 7) (pa_cons (pe_op op_sub (pv 9) (pe_op op_mulW (pe_op op_mulW (pe_op op_add (pv 4) pe_int) (pe_op op_sub (pv 2) (pv 8))) (pe_ix ix_seq (pv 6) (pv 8) (fun _ _ => rfl)))) pa_nil))))))
      (pss_one (ps_expr (pe_bm PySem.F.plainAttrs_list PySem.F.slot_list_append PySem.F.type_list_append mt_append (pv 3) (pa_cons (pv 7) pa_nil))))))))
    (pss_one (ps_ret (pv 3)))))), ?_⟩
    have ⟨rs, lr, hs, hrow⟩ := ht
    refine ⟨_, rfl, a, _, rfl, hs.lt, _, _, rfl, rfl, _, rfl, ht.at (k := 0) rfl (by omega) fun r0 hr0 => ⟨r0, _, rfl, hr0.lt, _, _, rfl, rfl, Nat.zero_le _, fun D nD => ⟨_, _, _, rfl, ?_⟩⟩⟩
    rw [List.length_map, lr, tab_len]
    refine gen_upd H D _ nD fun H1 s1 f1 => ?_
    refine ⟨_, rfl, (n : Int) - 1, rfl, by omega, by omega, for_range (n := ((n : Int) - 1).toNat) (fun i σ H' => ∃ ss y4 y5 y6 y7 y8 y9, σ = [some (.ref a), some (.int ((n : Int) - 1)), some (.int ((m : Int) - 1)), some (.ref D), y4, y5, y6, y7, y8, y9] ∧ Same H H' ∧ H' D = some (.lst (ss.map V.ref)) ∧ (∀ r ∈ ss, r ≠ D) ∧ Ll H' ss i fun k => tb (m - 1) (lst n m t k)) ⟨[], none, none, none, none, none, none, rfl, s1, f1, fun r hr => (nomatch hr), rfl, fun k hk => absurd hk (Nat.not_lt_zero k)⟩ (fun i σ H' hi hP => ?_) (fun σ H' hP => ?_)⟩
    · obtain ⟨ss, y4, y5, y6, y7, y8, y9, rfl, sH, hD, ne, ll⟩ := hP
      refine ⟨_, rfl, _, rfl, (ht.same sH).at (k := i) (by omega) (by omega) fun r1 hr1 => ⟨_, rfl, _, rfl, _, _, rfl, rfl, (ht.same sH).at (k := i + 1) (by omega) (by omega) fun r2 hr2 => ⟨_, _, rfl, Nat.zero_le _, fun R nR => gen_upd H' R _ nR fun H2 s2 f2 => ?_⟩⟩⟩
      have nR0 := Same.free sH nR
      have DR : D ≠ R := ne_of_none hD nR
      have q1 : r1 ≠ R := by
        rcases hr1 with e | e <;> exact ne_of_none e nR
      have q2 : r2 ≠ R := by
        rcases hr2 with e | e <;> exact ne_of_none e nR
      have keep : ∀ {r : Addr} {xs : List V} {H3 : Hp}, Sq H' r xs → r ≠ R → Sx R H2 H3 → Sq H3 r xs := fun h n x => h.elim (fun e => .inl (x _ _ n (s2 _ _ e))) fun e => .inr (x _ _ n (s2 _ _ e))
      refine ⟨_, rfl, (m : Int) - 1, rfl, by omega, by omega, for_range (n := ((m : Int) - 1).toNat) (fun j σ H3 => ∃ y8 y9, σ = [some (.ref a), some (.int ((n : Int) - 1)), some (.int ((m : Int) - 1)), some (.ref D), some (.int (0 + (i : Int))), some (.ref r1), some (.ref r2), some (.ref R), y8, y9] ∧ Sx R H2 H3 ∧ H3 R = some (.lst (tab j (lst n m t i)))) ⟨_, _, rfl, Sx.refl R H2, f2⟩ (fun j σ H3 hj hP => ?_) (fun σ H3 hP => ?_)⟩
      · obtain ⟨y8, y9, rfl, sx, hR⟩ := hP
        obtain ⟨a1, a2, a3⟩ := sm9 (a := (n : Int) - 1 - (0 + (i : Int))) (b := 0 + (j : Int) + 1) (by omega) (by omega)
        obtain ⟨b1, b2, b3⟩ := sm9 (a := 0 + (i : Int) + 1) (b := (m : Int) - 1 - (0 + (j : Int))) (by omega) (by omega)
        refine ⟨_, rfl, _, rfl, _, _, rfl, rfl, _, rfl, _, _, rfl, rfl, _, _, rfl, rfl, sm_mul a1 a2, _, rfl, _, rfl, _, _, rfl, rfl, row_at (keep hr1 q1 sx) (k := j + 1) (by omega) (by omega) ⟨_, _, rfl, rfl, sm_mul a3 (tl.sm (by omega) (by omega)), ?_⟩⟩
        refine ⟨_, rfl, .inl ⟨rfl, _, SqL.of hR⟩, _, rfl, _, rfl, _, _, rfl, rfl, _, rfl, _, rfl, _, _, rfl, rfl, _, _, rfl, rfl, sm_mul b1 b2, _, rfl, _, rfl, row_at (keep hr2 q2 sx) (k := j) (by omega) (by omega) ⟨_, _, rfl, rfl, sm_mul b3 (tl.sm (by omega) (by omega)), _, _, rfl, rfl, R, _, _, rfl, rfl, hR, by rw [tab_len]; exact small1000 (by omega), ?_⟩⟩
        refine ⟨_, _, rfl, sx.trans Sx.upd, ?_⟩
        rw [upd_same, ← tab_snoc, Int.zero_add, Int.zero_add]
        rfl
      · obtain ⟨y8, y9, rfl, sx, hR⟩ := hP
        rw [show ((m : Int) - 1).toNat = m - 1 by omega, tab_tb] at hR
        refine ⟨_, rfl, .inl ⟨rfl, _, SqL.of (sx _ _ DR (s2 _ _ hD))⟩, _, rfl, D, _, _, rfl, rfl, sx _ _ DR (s2 _ _ hD), by rw [List.length_map, ll.len]; exact small1000 (by omega), ss ++ [R], _, _, _, _, _, _, rfl, ?_, by rw [upd_same, List.map_append]; rfl, fun r hr => ?_, ll.snoc (fun k hk => ?_) (by rw [upd_ne (Ne.symm DR)]; exact hR) rfl⟩
        · exact L2.Same.sx (L2.Same.sx (sH.trans s2) sx nR0) Sx.upd nD
        · rcases List.mem_append.mp hr with e | e
          · exact ne r e
          · rw [List.mem_singleton.mp e]
            exact Ne.symm DR
        · have e0 := ll.row k hk
          rw [upd_ne (ne _ (List.getElem_mem hk)), sx _ _ (ne_of_none e0 nR) (s2 _ _ e0), e0]
    · obtain ⟨ss, y4, y5, y6, y7, y8, y9, rfl, sH, hD, ne, ll⟩ := hP
      rw [show ((n : Int) - 1).toNat = n - 1 by omega] at ll
      exact ⟨_, rfl, q D H' sH (Ll.ts hD ll)⟩
end
end K13

set_option Elab.async false
set_option linter.all false
set_option maxRecDepth 100000
set_option maxHeartbeats 4000000
namespace K13
open PySem PySem.Spec PyProof.Rows L2 StX RZ MyR SlX OwnR OwnF EnumT SeqE
/-- at a a table of tuples -/
def Tt (H : Hp) (a : Addr) (n m : Nat) (t : Nat → Nat → Int) : Prop := ∃ rs : List Addr, rs.length = n ∧ H a = some (.tup (rs.map V.ref)) ∧ ∀ i (h : i < rs.length), H rs[i] = some (tp (tb m (t i)))
theorem Tt.same {H H' : Hp} {a : Addr} {n m : Nat} {t : Nat → Nat → Int} (h : Tt H a n m t) (s : Same H H') : Tt H' a n m t := by
  obtain ⟨rs, l, h1, h2⟩ := h
  exact ⟨rs, l, s _ _ h1, fun i hi => s _ _ (h2 i hi)⟩
theorem Tt.ts {H : Hp} {a : Addr} {n m : Nat} {t : Nat → Nat → Int} (h : Tt H a n m t) : Ts H a n m t := by
  obtain ⟨rs, l, h1, h2⟩ := h
  exact ⟨rs, l, .inl h1, fun i hi => .inl (by rw [h2 i hi, tab_tb])⟩
theorem all_true : ∀ n, (List.replicate n true).all id = true
  | 0 => rfl
  | n + 1 => by
    rw [List.replicate_succ, List.all_cons, all_true n]
    rfl
theorem tb_mem {n : Nat} {f : Nat → Int} {z : Int} (h : z ∈ tb n f) : ∃ j, j < n ∧ z = f j := by
  unfold tb at h
  obtain ⟨j, hj, e⟩ := List.mem_map.mp h
  exact ⟨j, List.mem_range.mp hj, e.symm⟩
section
variable {P : Program} {w : World} {K : PySem.W.Frag} {mg : Str → Option Value} {base : Heap}
def spIsPT : Sp := fun vs H Q _ => ∃ (a : Addr) (n m : Nat) (t : Nat → Nat → Int), vs = [.ref a] ∧ Tt H a n m t ∧ 1 ≤ n ∧ 1 ≤ m ∧ n ≤ 13 ∧ m ≤ 13 ∧ (∀ i j, i < n → j < m → Sho (t i j)) ∧ ∀ H', Same H H' → Q (.bl true) H'
theorem ok_is_pair_table (T : Facts K mg) : FnOk P w K mg base CX0 4 T.f_is_pair_table T.fd_is_pair_table ["value"] spIsPT := by
  have G_are_short : FnOk P w K mg base CX0 3 T.f_are_short T.fd_are_short ["value"] spAreShort := ok_are_short T
  refine T.F_is_pair_table.ok sc_is_pair_table (fun vs H Q E h => ?_) (fun cdv A outer s H vs Q E hr h => ?_)
  · obtain ⟨a, n, m, t, rfl, _⟩ := h
    rfl
  · obtain ⟨a, n, m, t, rfl, ht, h1, h2, h3, h4, hs, q⟩ := h
    have ⟨rs, lr, ha, hrow⟩ := ht
    refine ⟨_, (PSs.nox (pss_cons (ps_if (pw_or (pt_not (pt_val (pe_callB call_isi (by rfl) T.z_isinstance (by decide +kernel) (pa_cons (pv 0) (pa_cons (pe_bltn (v := .ty "tuple") (by rfl) T.z_tuple (by decide +kernel) rfl) pa_nil))))) (pw_or1 (pt_not (pt_chain op_le op_le pe_int (pe_callB call_len_seq (by rfl) T.z_len (by decide +kernel) (pa_cons (pv 0) pa_nil)) (pe_op op_add (pe_glob (v := .int 12) (by rfl) T.c_MOST_PAIRED.choose_spec ⟨_, rfl⟩) pe_int))))).pt
      (pss_one (ps_ret pe_bl))
      pss_nil)
    (pss_cons (ps_if (pt_not (pt_val (pe_callB (cr_all (by rfl)) (by rfl) T.z_all (by decide +kernel) (pa_cons (pe_lc (own := [("row", 1)]) (g := (gName 1)) (tt := tYes) (by rfl) sc_is_pair_table.nd (pi_tup (pv 0)) (blkOk_by (N := N_is_pair_table) (sc := defScope s_is_pair_table) (by decide +kernel)) (fun _ _ _ _ _ => (pg_name (i := 1) sc_is_pair_table.nd rfl (.inl rfl))) (fun _ _ _ _ _ => pts_nil) (fun _ _ _ _ _ => (pe_and (pe_callB (call_isi : CallR _ _ (rIsi K)) (by rfl) T.z_isinstance (by decide +kernel) (pa_cons (pv 1) (pa_cons (pe_bltn (v := .ty "tuple") (by rfl) T.z_tuple (by decide +kernel) rfl) pa_nil))) (pe_one (pe_chain op_le op_le pe_int (pe_callB (call_len_seq : CallR _ _ (Evl.rLenS K)) (by rfl) T.z_len (by decide +kernel) (pa_cons (pv 1) pa_nil)) (pe_op op_add (pe_glob (v := .int 12) (by rfl) T.c_MOST_PAIRED.choose_spec ⟨_, rfl⟩) pe_int)))))) pa_nil))))
      (pss_one (ps_ret pe_bl))
      pss_nil)
    (pss_one (ps_ret (pe_callB (cr_all (by rfl)) (by rfl) T.z_all (by decide +kernel) (pa_cons (pe_lc (own := [("row", 1)]) (g := (gName 1)) (tt := tYes) (by rfl) sc_is_pair_table.nd (pi_tup (pv 0)) (blkOk_by (N := N_is_pair_table) (sc := defScope s_is_pair_table) (by decide +kernel)) (fun _ _ _ _ _ => (pg_name (i := 1) sc_is_pair_table.nd rfl (.inl rfl))) (fun _ _ _ _ _ => pts_nil) (fun _ _ _ _ _ => (pe_and (pe_call G_are_short hr (by rfl) T.g_are_short T.F_are_short.kp T.b_are_short .nil pass0 (pa_cons (pv 1) pa_nil)) (pe_one (pe_cmpR op_eq (pe_callB (call_len_seq : CallR _ _ (Evl.rLenS K)) (by rfl) T.z_len (by decide +kernel) (pa_cons (pv 1) pa_nil)) (pe_callB (call_len_seq : CallR _ _ (Evl.rLenS K)) (by rfl) T.z_len (by decide +kernel) (pa_cons (pe_ix (ix_tup : IxR _ (rIxT K)) (pv 0) pe_int (fun _ _ => rfl)) pa_nil)) (nomark _)))))) pa_nil))))))), ?_⟩
    refine ⟨_, rfl, .ref a, .ty "tuple", .type "tuple", .type "tuple", true, rfl, .ty "tuple", .base (.tup ha), kit_ty (show kitB "tuple" "tuple" = some true by decide +kernel), true, rfl, iteF ?_⟩
    refine ⟨_, rfl, a, _, rfl, .inr (SqT.of ha), 1, _, rfl, rfl, true, ?_, iteT ⟨_, _, rfl, rfl, _, _, rfl, rfl, true, ?_, iteF ?_⟩⟩
    · rw [List.length_map]
      show V.bl (decide ((1 : Int) ≤ (rs.length : Int))) = V.bl true
      rw [decide_eq_true (by omega)]
    · rw [List.length_map]
      show V.bl (decide ((rs.length : Int) ≤ 12 + 1)) = V.bl true
      rw [decide_eq_true (by omega)]
    · refine ⟨_, rfl, a, rfl, ⟨_, SqT.of ha⟩, fun D hD => lc_tup (xs := rs.map V.ref) (fun i H' => Same H H' ∧ H' D = some (.lst (List.replicate i (V.bl true)))) ⟨same_upd0 hD, upd_same⟩ (fun i H' _ hP => SqT.of (hP.1 _ _ ha)) (fun i x H' hx hP => ?_) (fun H' hP => ?_)⟩
      · obtain ⟨sH, hL⟩ := hP
        obtain ⟨hi, rfl⟩ := get_ref hx
        have hr2 := sH _ _ (hrow i hi)
        refine ⟨rfl, _, rfl, .ref rs[i], .ty "tuple", .type "tuple", .type "tuple", true, rfl, .ty "tuple", .base (.tup hr2), kit_ty (show kitB "tuple" "tuple" = some true by decide +kernel), true, rfl, iteT ?_⟩
        refine ⟨_, rfl, _, _, rfl, .inr (SqT.of hr2), 1, _, rfl, rfl, true, ?_, iteT ⟨_, _, rfl, rfl, _, _, rfl, rfl, _, hL, ?_, fun b o e => ?_, ?_⟩⟩
        · rw [List.length_map, tb_len]
          show V.bl (decide ((1 : Int) ≤ (m : Int))) = V.bl true
          rw [decide_eq_true (by omega)]
        · rw [List.length_replicate]
          exact small1000 (by omega)
        · rw [upd_ne (ne_of_none e hD)]
          exact sH _ _ e
        · rw [upd_same, List.length_map, tb_len, List.replicate_succ']
          show some (HO.lst (_ ++ [V.bl (decide ((m : Int) ≤ 12 + 1))])) = _
          rw [decide_eq_true (by omega)]
      · obtain ⟨sH, hL⟩ := hP
        rw [List.length_map, ← List.map_replicate] at hL
        refine ⟨D, List.replicate rs.length true, rfl, SqL.of hL, true, by rw [all_true], iteF ?_⟩
        have e0 : (rs.map V.ref)[0]? = some (V.ref rs[0]) := by
          rw [List.getElem?_map, List.getElem?_eq_getElem (by omega)]
          rfl
        refine ⟨_, rfl, a, rfl, ⟨_, SqT.of (sH _ _ ha)⟩, fun D2 hD2 => lc_tup (xs := rs.map V.ref) (fun i H2 => Same H' H2 ∧ H2 D2 = some (.lst (List.replicate i (V.bl true)))) ⟨same_upd0 hD2, upd_same⟩ (fun i H2 _ hP => SqT.of (hP.1 _ _ (sH _ _ ha))) (fun i x H2 hx hP => ?_) (fun H2 hP => ?_)⟩
        · obtain ⟨s2, hL2⟩ := hP
          obtain ⟨hi, rfl⟩ := get_ref hx
          have hr2 := s2 _ _ (sH _ _ (hrow i hi))
          have hr0 := s2 _ _ (sH _ _ (hrow 0 (by omega)))
          have ha2 := s2 _ _ (sH _ _ ha)
          refine ⟨rfl, _, rfl, rs[i], tb m (t i), rfl, hr2, by rw [tb_len]; omega, fun z hz => ?_, fun H3 s3 => ⟨true, rfl, iteT ⟨_, rfl, _, _, rfl, .inr (SqT.of (s3 _ _ hr2)), _, rfl, a, _, _, _, rfl, rfl, SqT.of (s3 _ _ ha2), at_of (j := 0) rfl e0, _, _, rfl, .inr (SqT.of (s3 _ _ hr0)), rfl, _, s3 _ _ hL2, ?_, fun b o e => ?_, ?_⟩⟩⟩
          · obtain ⟨j, hj, rfl⟩ := tb_mem hz
            exact hs i j (by omega) hj
          · rw [List.length_replicate]
            exact small1000 (by omega)
          · rw [upd_ne (ne_of_none e hD2)]
            exact s3 _ _ (s2 _ _ e)
          · rw [upd_same, List.length_map, List.length_map, tb_len, tb_len, List.replicate_succ']
            show some (HO.lst (_ ++ [V.bl (decide (V.int (m : Int) = V.int (m : Int)))])) = _
            rw [decide_eq_true rfl]
        · obtain ⟨s2, hL2⟩ := hP
          rw [List.length_map, ← List.map_replicate] at hL2
          refine ⟨D2, List.replicate rs.length true, rfl, SqL.of hL2, ?_⟩
          rw [all_true]
          exact q _ (sH.trans s2)
end
end K13

set_option Elab.async false
set_option linter.all false
set_option maxRecDepth 100000
set_option maxHeartbeats 4000000
namespace K13
open PySem PySem.Spec PyProof.Rows L2 StX RZ MyR SlX OwnR OwnF EnumT SeqE
theorem Fo.lst {C a F : Addr} {H : Hp} {o : HO} {xs : List V} {ns : List Int} (h : Fo C H a ns) (hF : H F = some (.lst xs)) : Fo C (upd H F o) a ns := by
  obtain ⟨dx, t, h1, h2, h3⟩ := h
  refine ⟨dx, t, ?_, ?_, ?_⟩
  · rw [upd_ne (fun q => ?_)]
    · exact h1
    · rw [q, hF] at h1
      cases h1
  · rw [upd_ne (fun q => ?_)]
    · exact h2
    · rw [q, hF] at h2
      cases h2
  · rw [upd_ne (fun q => ?_)]
    · exact h3
    · rw [q, hF] at h3
      cases h3
theorem Ts.lst {C p F : Addr} {H : Hp} {o : HO} {fs : List Addr} {n m : Nat} {t : Nat → Nat → Int} (h : Ts H p n m t) (hn : 1 ≤ n) (hm : 1 ≤ m) (hF : H F = some (.lst (fs.map V.ref))) (h0 : 1 ≤ fs.length) (hf : ∀ u (hu : u < fs.length), ∃ ns, Fo C H fs[u] ns) : Ts (upd H F o) p n m t := by
  obtain ⟨rs, lr, h1, h2⟩ := h
  have keep : ∀ {b : Addr} {xs : List V}, Sq H b xs → b ≠ F → Sq (upd H F o) b xs := fun q ne => q.elim (fun e => .inl (by rw [upd_ne ne]; exact e)) fun e => .inr (by rw [upd_ne ne]; exact e)
  refine ⟨rs, lr, keep h1 fun q => ?_, fun i hi => keep (h2 i hi) fun q => ?_⟩
  · rw [q] at h1
    rcases h1 with e | e
    · rw [hF] at e
      cases e
    · rw [hF] at e
      have e2 := HO.lst.inj (Option.some.inj e)
      obtain ⟨ns, dx, x, f1, _⟩ := hf 0 (by omega)
      have hr := h2 0 (by omega)
      have e3 := congrArg (fun l => l[0]?) e2
      simp only [List.getElem?_map] at e3
      rw [List.getElem?_eq_getElem (by omega), List.getElem?_eq_getElem (by omega)] at e3
      have e4 : fs[0] = rs[0] := V.ref.inj (Option.some.inj e3)
      rw [← e4] at hr
      rcases hr with e | e <;> rw [f1] at e <;> cases e
  · have hr := h2 i hi
    rw [q] at hr
    rcases hr with e | e
    · rw [hF] at e
      cases e
    · rw [hF] at e
      have e2 := HO.lst.inj (Option.some.inj e)
      have e3 := congrArg (fun l => l[0]?) e2
      simp only [List.getElem?_map] at e3
      rw [List.getElem?_eq_getElem (by omega), tab_get (by omega)] at e3
      cases e3
section
variable {P : Program} {w : World} {K : PySem.W.Frag} {mg : Str → Option Value} {base : Heap}
def spParts (C : Addr) : Sp := fun vs H Q _ => ∃ (a : Addr) (n m : Nat) (t : Nat → Nat → Int), vs = [.ref a] ∧ Tt H a n m t ∧ 1 ≤ n ∧ 1 ≤ m ∧ n ≤ 7 ∧ m ≤ 7 ∧ Tle n m (2 ^ 130) t ∧ ∀ p H' (fs : List Addr), Same H H' → H' p = some (.tup (fs.map V.ref)) → fs.length = min n m → (∀ u (h : u < fs.length), Fo C H' fs[u] (pt n m t u)) → Q (.ref p) H'
theorem ok_table_parts (T : Facts K mg) : FnOk P w K mg base CX0 8 T.f_table_parts T.fd_table_parts ["table"] (spParts T.C_Form) := by
  have G_is_pair_table := ok_is_pair_table (P := P) (w := w) (base := base) T
  have G_put_together := ok_put_together (P := P) (w := w) (base := base) T
  have G_parted_once := ok_parted_once (P := P) (w := w) (base := base) T
  have G_form_of : FnOk P w K mg base CX0 7 T.f_form_of T.fd_form_of ["entries"] (spMake T.C_Form) := ok_form_of T
  refine T.F_table_parts.ok sc_table_parts (fun vs H Q E h => ?_) (fun cdv A outer s H vs Q E hr h => ?_)
  · obtain ⟨a, n, m, t, rfl, _⟩ := h
    rfl
  · obtain ⟨a, n, m, t, rfl, ht, h1, h2, h3, h4, tl, q⟩ := h
    have sho : ∀ i j, i < n → j < m → Sho (t i j) := fun i j hi hj => Nat.lt_of_le_of_lt (tl i j hi hj) (by decide)
    refine ⟨_, (PSs.nox (pss_cons (ps_if (pt_not (pt_val (pe_call G_is_pair_table (hr.mono (by decide)) (by rfl) T.g_is_pair_table T.F_is_pair_table.kp T.b_is_pair_table .nil pass0 (pa_cons (pv 0) pa_nil))))
      (pss_one ps_never)
      pss_nil)
    (pss_cons (ps_if (pt_cmpR op_gt (pe_op op_sub (pe_op op_add (pe_callB call_len_seq (by rfl) T.z_len (by decide +kernel) (pa_cons (pv 0) pa_nil)) (pe_callB call_len_seq (by rfl) T.z_len (by decide +kernel) (pa_cons (pe_ix ix_tup (pv 0) pe_int (fun _ _ => rfl)) pa_nil))) pe_int) (pe_glob (v := .int 12) (by rfl) T.c_MOST_PAIRED.choose_spec ⟨_, rfl⟩) (nomark _))
      (pss_one ps_never)
      pss_nil)
    (pss_cons (ps_par (i := 1) (j := 2) (by rfl) sc_table_parts.nd rfl rfl (by decide) rfl rfl (pa_cons (pe_lst (pa_cons (pe_call G_form_of hr (by rfl) T.g_form_of T.F_form_of.kp T.b_form_of .nil pass0 (pa_cons (pe_call G_put_together (hr.mono (by decide)) (by rfl) T.g_put_together T.F_put_together.kp T.b_put_together .nil pass0 (pa_cons (pv 0) pa_nil)) pa_nil)) pa_nil)) (pa_cons (pv 0) pa_nil)) (by rfl))
    (pss_cons (ps_for PassesOwn.never (by rfl) (pi_range1 (by rfl) T.z_range (pa_cons (pe_op op_sub (pe_callB (call_min2 (by rfl)) (by rfl) T.z_min (by decide +kernel) (pa_cons (pe_callB call_len_seq (by rfl) T.z_len (by decide +kernel) (pa_cons (pv 0) pa_nil)) (pa_cons (pe_callB call_len_seq (by rfl) T.z_len (by decide +kernel) (pa_cons (pe_ix ix_tup (pv 0) pe_int (fun _ _ => rfl)) pa_nil)) pa_nil))) pe_int) pa_nil)) (pg_name (i := 3) sc_table_parts.nd rfl (.inl rfl))
      (pss_cons (ps_set (i := 2) sc_table_parts.nd rfl (.inl rfl) (pe_call G_parted_once (hr.mono (by decide)) (by rfl) T.g_parted_once T.F_parted_once.kp T.b_parted_once .nil pass0 (pa_cons (pv 2) pa_nil)))
      (pss_one (ps_expr (pe_bm PySem.F.plainAttrs_list PySem.F.slot_list_append PySem.F.type_list_append mt_append (pv 1) (pa_cons (pe_call G_form_of hr (by rfl) T.g_form_of T.F_form_of.kp T.b_form_of .nil pass0 (pa_cons (pe_call G_put_together (hr.mono (by decide)) (by rfl) T.g_put_together T.F_put_together.kp T.b_put_together .nil pass0 (pa_cons (pv 2) pa_nil)) pa_nil)) pa_nil))))))
    (pss_one (ps_ret (pe_tupleOf (by rfl) T.z_tuple (pv 1))))))))), ?_⟩
    refine ⟨_, rfl, a, n, m, t, rfl, ht, h1, h2, by omega, by omega, sho, fun H1 s1 => ⟨true, rfl, iteF ?_⟩⟩
    have ht1 := ht.same s1
    have ts1 := ht1.ts
    have ⟨rs, lr, ha, hrow⟩ := ht1
    have e0 : (rs.map V.ref)[0]? = some (V.ref rs[0]) := by
      rw [List.getElem?_map, List.getElem?_eq_getElem (by omega)]
      rfl
    have hr0 := hrow 0 (by omega)
    refine ⟨_, rfl, a, _, rfl, .inr (SqT.of ha), _, rfl, a, _, _, _, rfl, rfl, SqT.of ha, at_of (j := 0) rfl e0, _, _, rfl, .inr (SqT.of hr0), _, _, rfl, rfl, _, _, rfl, rfl, _, _, rfl, rfl, _, rfl, ?_⟩
    rw [List.length_map, List.length_map, tb_len, lr]
    rw [decide_eq_false (show ¬ (12 : Int) < (n : Int) + (m : Int) - 2 by omega)]
    refine iteF ⟨_, rfl, a, n, m, t, rfl, ts1, h1, h2, by omega, by omega, fun p2 H2 s2 g2 => ⟨p2, _, rfl, g2, fun p3 H3 s3 n3 f3 => ⟨by show 1 ≤ sizeLine; decide, fun F nF => ⟨_, rfl, _, _, rfl, gen_upd H3 F (.lst [.ref p3]) nF fun H4 s4 f4 => ?_⟩⟩⟩⟩
    have s14 := (s2.trans s3).trans s4
    refine ⟨_, rfl, a, _, rfl, .inr (SqT.of (s14 _ _ ha)), _, rfl, a, _, _, _, rfl, rfl, SqT.of (s14 _ _ ha), at_of (j := 0) rfl e0, _, _, rfl, .inr (SqT.of (s14 _ _ hr0)), _, _, rfl, ?_⟩
    rw [List.length_map, List.length_map, tb_len, lr]
    have em : (if (m : Int) < (n : Int) then (m : Int) else (n : Int)) = ((min n m : Nat) : Int) := by split <;> omega
    rw [em]
    obtain ⟨M, hM⟩ : ∃ M, M = min n m := ⟨_, rfl⟩
    rw [← hM]
    refine ⟨_, _, rfl, rfl, _, rfl, by omega, by omega, for_range (n := ((M : Int) - 1).toNat) (fun u σ H' => ∃ (fs : List Addr) (h : Addr) (y3 : Option V), σ = [some (.ref a), some (.ref F), some (.ref h), y3] ∧ Same H H' ∧ H' F = some (.lst (fs.map V.ref)) ∧ fs.length = u + 1 ∧ (∀ v (hv : v < fs.length), Fo T.C_Form H' fs[v] (pt n m t v)) ∧ Ts H' h (n - u) (m - u) (lsn n m t u)) ⟨[p3], a, none, rfl, s1.trans s14, f4, rfl, fun v hv => ?_, ts1.same s14⟩ (fun u σ H' hu hP => ?_) (fun σ H' hP => ?_)⟩
    · have hv0 : v = 0 := by simp at hv; omega
      subst hv0
      exact f3.same s4
    · obtain ⟨fs, h, y3, rfl, sH, hF, lf, ff, ts⟩ := hP
      have nFH : H F = none := Same.free ((s1.trans s2).trans s3) nF
      have lb := lsn_le tl h3 h4 u
      have lb2 : Tle (n - u) (m - u) (2 ^ 700) (lsn n m t u) := fun i j hi hj => Nat.le_trans (lb i j hi hj) (by
        rw [← Nat.pow_add]
        exact Nat.pow_le_pow_right (by decide) (by omega))
      refine ⟨_, rfl, h, n - u, m - u, lsn n m t u, rfl, ts, by omega, by omega, by omega, by omega, lb2, fun h5 H5 s5 ts5 => ?_⟩
      have F5 := s5 _ _ hF
      refine ⟨_, rfl, .inl ⟨rfl, _, SqL.of F5⟩, _, rfl, h5, n - u - 1, m - u - 1, _, rfl, ts5, by omega, by omega, by omega, by omega, fun p6 H6 s6 g6 => ⟨p6, _, rfl, g6, fun p7 H7 s7 n7 f7 => ⟨F, _, _, rfl, rfl, (s6.trans s7) _ _ F5, by rw [List.length_map, lf]; exact small1000 (by omega), fs ++ [p7], h5, _, rfl, ?_, ?_, by rw [List.length_append, lf]; rfl, fun v hv => ?_, ?_⟩⟩⟩
      · exact fun b o e => by
          rw [upd_ne (ne_of_none e nFH)]
          exact s7 _ _ (s6 _ _ (s5 _ _ (sH _ _ e)))
      · rw [upd_same, List.map_append]
        rfl
      · have F7 := (s6.trans s7) _ _ F5
        by_cases c : v < fs.length
        · rw [show (fs ++ [p7])[v] = fs[v] from List.getElem_append_left _]
          exact Fo.lst ((ff v c).same ((s5.trans s6).trans s7)) F7
        · have ev : v = fs.length := by rw [List.length_append] at hv; simp at hv; omega
          subst ev
          rw [show (fs ++ [p7])[fs.length] = p7 by rw [List.getElem_append_right (Nat.le_refl _)]; simp]
          refine Fo.lst ?_ F7
          have ep : pt n m t fs.length = tb (n - u - 1 + (m - u - 1) - 1) (wh (n - u - 1) (m - u - 1) (lst (n - u) (m - u) (lsn n m t u))) := by
            rw [lf]
            unfold pt
            rw [show n + m - 1 - 2 * (u + 1) = n - u - 1 + (m - u - 1) - 1 by omega, Nat.sub_sub n u 1, Nat.sub_sub m u 1]
            rfl
          rw [ep]
          exact f7
      · have F7 := (s6.trans s7) _ _ F5
        have t7 := ts5.same (s6.trans s7)
        rw [Nat.sub_sub n u 1, Nat.sub_sub m u 1] at t7
        exact Ts.lst t7 (by omega) (by omega) F7 (by omega) fun v hv => ⟨_, (ff v hv).same ((s5.trans s6).trans s7)⟩
    · obtain ⟨fs, h, y3, rfl, sH, hF, lf, ff, ts⟩ := hP
      refine ⟨_, rfl, .inl ⟨F, _, rfl, SqL.of hF, fun p np => q p _ fs (fun d o e => ?_) upd_same (by omega) fun v hv => ?_⟩⟩
      · exact same_upd0 np _ _ (sH _ _ e)
      · exact (ff v hv).same (same_upd0 np)
end
end K13

set_option Elab.async false
set_option linter.all false
set_option maxRecDepth 100000
set_option maxHeartbeats 4000000
namespace K13
open PySem PySem.Spec PyProof.Rows L2 StX RZ MyR SlX OwnR OwnF EnumT SeqE
section
variable {P : Program} {w : World} {K : PySem.W.Frag} {mg : Str → Option Value} {base : Heap}
def spPairL : Sp := fun vs H Q _ => ∃ (a b : Addr) (xs ys : List Int), vs = [.ref a, .ref b] ∧ H a = some (tp xs) ∧ H b = some (tp ys) ∧ xs.length ≤ 100 ∧ ys.length ≤ 100 ∧ (∀ x ∈ xs, sm x) ∧ (∀ y ∈ ys, sm y) ∧ ∀ p H', Same H H' → Tt H' p xs.length ys.length (fun i j => co xs i * co ys j) → Q (.ref p) H'
theorem ok_law_pair_product (T : Facts K mg) : FnOk P w K mg base CX0 1 T.f_law_pair_product T.fd_law_pair_product ["_law_one", "_law_other"] spPairL := by
  refine T.F_law_pair_product.ok sc_law_pair_product (fun vs H Q E h => ?_) (fun cdv A outer s H vs Q E hr h => ?_)
  · obtain ⟨a, b, xs, ys, rfl, _⟩ := h
    rfl
  · obtain ⟨a, b, xs, ys, rfl, ha, hb, lx, ly, hx, hy, q⟩ := h
    refine ⟨_, (PSs.nox (pss_one (ps_ret (pe_tupleOf (by rfl) T.z_tuple (pe_lc (own := [("_law_first", 3)]) (g := (gName 3)) (tt := tYes) (by rfl) sc_law_pair_product.nd (pi_tup (pv 0)) (blkOk_by (N := N_law_pair_product) (sc := defScope s_law_pair_product) (by decide +kernel)) (fun _ _ _ _ _ => (pg_name (i := 3) sc_law_pair_product.nd rfl (.inr rfl))) (fun _ _ _ _ _ => pts_nil) (fun _ _ _ _ _ => (pe_tupleOf (by rfl) T.z_tuple (pe_lc (own := [("_law_second", 2)]) (g := (gName 2)) (tt := tYes) (by rfl) sc_law_pair_product.nd (pi_tup (pv 1) : PI _ _ _ (iTup K _)) (blkOk_by (N := N_law_pair_product) (sc := relS _ (defScope s_law_pair_product)) (by decide +kernel)) (fun _ _ _ _ _ => (pg_name (i := 2) sc_law_pair_product.nd rfl (.inl rfl))) (fun _ _ _ _ _ => pts_nil) (fun _ _ _ _ _ => (pe_op op_mulW (pv 3) (pv 2)))) : PE _ _ (tThen _ (kTup K))))))))), ?_⟩
    refine ⟨_, rfl, a, rfl, ⟨_, SqT.of ha⟩, fun D hD => lc_tup (xs := xs.map V.int) (fun i H' => Same H H' ∧ ∃ rs, H' D = some (.lst (rs.map V.ref)) ∧ rs.length = i ∧ Fr H rs ∧ ∀ k (hk : k < rs.length), H' rs[k] = some (tp (tb ys.length fun j => co xs k * co ys j))) ⟨same_upd0 hD, [], upd_same, rfl, fun r hr => (nomatch hr), fun k hk => absurd hk (Nat.not_lt_zero k)⟩ (fun i H' _ hP => SqT.of (hP.1 _ _ ha)) (fun i x H' hxi hP => ?_) (fun H' hP => ?_)⟩
    · obtain ⟨sH, rs, hL, lr, fr, hrow⟩ := hP
      obtain ⟨hi, rfl⟩ := int_get hxi
      refine ⟨rfl, ?_⟩
      refine ⟨_, rfl, b, rfl, ⟨_, SqT.of (sH _ _ hb)⟩, fun D2 hD2 => lc_tup (xs := ys.map V.int) (fun j H2 => Same H' H2 ∧ H2 D2 = some (.lst (tab j fun j => co xs i * co ys j))) ⟨same_upd0 hD2, upd_same⟩ (fun j H2 _ hP => SqT.of (hP.1 _ _ (sH _ _ hb))) (fun j y H2 hyj hP => ?_) (fun H2 hP => ?_)⟩
      · obtain ⟨s2, hL2⟩ := hP
        obtain ⟨hj, rfl⟩ := int_get hyj
        refine ⟨rfl, _, rfl, _, rfl, _, _, rfl, rfl, sm_mul (sm_co hx hi) (sm_co hy hj), _, hL2, by rw [tab_len]; exact small1000 (by omega), fun d o e => ?_, ?_⟩
        · rw [upd_ne (ne_of_none e hD2)]
          exact s2 _ _ e
        · rw [upd_same, ← tab_snoc]
      · obtain ⟨s2, hL2⟩ := hP
        rw [List.length_map, tab_tb] at hL2
        refine .inl ⟨D2, _, rfl, SqL.of hL2, fun p np => ?_⟩
        have DD : D2 ≠ D := fun z => by rw [z, hL] at hD2; cases hD2
        have pD : p ≠ D := fun z => by rw [z, s2 _ _ hL] at np; cases np
        have pn : H p = none := Same.free (sH.trans s2) np
        refine ⟨_, same_upd0 np _ _ (s2 _ _ hL), by rw [List.length_map, lr]; exact small1000 (by omega), fun d o e => ?_, rs ++ [p], by rw [upd_same, List.map_append]; rfl, by rw [List.length_append, lr]; rfl, fr.snoc pn, fun k hk => ?_⟩
        · rw [upd_ne (ne_of_none e hD)]
          exact same_upd0 np _ _ (s2 _ _ (sH _ _ e))
        · by_cases c : k < rs.length
          · rw [show (rs ++ [p])[k] = rs[k] from List.getElem_append_left _]
            have e0 := hrow k c
            have nk : rs[k] ≠ D := fun z => by
              rw [z, hL] at e0
              cases e0
            rw [upd_ne nk, same_upd0 np _ _ (s2 _ _ e0)]
          · have ek : k = rs.length := by rw [List.length_append] at hk; simp at hk; omega
            subst ek
            rw [show (rs ++ [p])[rs.length] = p by rw [List.getElem_append_right (Nat.le_refl _)]; simp, upd_ne pD, upd_same, lr]
    · obtain ⟨sH, rs, hL, lr, fr, hrow⟩ := hP
      rw [List.length_map] at lr
      refine .inl ⟨D, _, rfl, SqL.of hL, fun p np => q p _ (fun d o e => ?_) ⟨rs, lr, upd_same, fun k hk => ?_⟩⟩
      · exact same_upd0 np _ _ (sH _ _ e)
      · exact same_upd0 np _ _ (hrow k hk)
end
end K13

set_option Elab.async false
set_option linter.all false
set_option maxRecDepth 100000
set_option maxHeartbeats 4000000
namespace K13
open PySem PySem.Spec PyProof.Rows L2 StX RZ MyR SlX OwnR OwnF EnumT SeqE
theorem Ts.lst2 {p F q0 : Addr} {l : List Int} {H : Hp} {o : HO} {fs : List Addr} {n m : Nat} {t : Nat → Nat → Int} (h : Ts H p n m t) (hn : 1 ≤ n) (hm : 1 ≤ m) (hF : H F = some (.lst (fs.map V.ref))) (h0 : fs[0]? = some q0) (hq : H q0 = some (tp l)) (hl : l.length ≠ m) : Ts (upd H F o) p n m t := by
  obtain ⟨rs, lr, h1, h2⟩ := h
  obtain ⟨f0, e0⟩ := List.getElem?_eq_some_iff.mp h0
  have keep : ∀ {b : Addr} {xs : List V}, Sq H b xs → b ≠ F → Sq (upd H F o) b xs := fun q ne => q.elim (fun e => .inl (by rw [upd_ne ne]; exact e)) fun e => .inr (by rw [upd_ne ne]; exact e)
  refine ⟨rs, lr, keep h1 fun q => ?_, fun i hi => keep (h2 i hi) fun q => ?_⟩
  · rw [q] at h1
    rcases h1 with e | e
    · rw [hF] at e
      cases e
    · rw [hF] at e
      have e2 := HO.lst.inj (Option.some.inj e)
      have hr := h2 0 (by omega)
      have e3 := congrArg (fun l => l[0]?) e2
      simp only [List.getElem?_map] at e3
      rw [List.getElem?_eq_getElem (by omega), List.getElem?_eq_getElem (by omega)] at e3
      have e4 : fs[0] = rs[0] := V.ref.inj (Option.some.inj e3)
      rw [← e4, e0] at hr
      rcases hr with e | e
      · rw [hq] at e
        have e5 := congrArg List.length (HO.tup.inj (Option.some.inj e))
        rw [List.length_map, tab_len] at e5
        exact hl e5
      · rw [hq] at e
        cases e
  · have hr := h2 i hi
    rw [q] at hr
    rcases hr with e | e
    · rw [hF] at e
      cases e
    · rw [hF] at e
      have e2 := HO.lst.inj (Option.some.inj e)
      have e3 := congrArg (fun l => l[0]?) e2
      simp only [List.getElem?_map] at e3
      rw [h0, tab_get (by omega)] at e3
      cases e3
section
variable {P : Program} {w : World} {K : PySem.W.Frag} {mg : Str → Option Value} {base : Heap}
def spLParts : Sp := fun vs H Q _ => ∃ (a : Addr) (n m : Nat) (t : Nat → Nat → Int), vs = [.ref a] ∧ Ts H a n m t ∧ 1 ≤ n ∧ 1 ≤ m ∧ n ≤ 7 ∧ m ≤ 7 ∧ Tle n m (2 ^ 600) t ∧ ∀ p H' (fs : List Addr), Same H H' → H' p = some (.lst (fs.map V.ref)) → fs.length = min n m → (∀ u (h : u < fs.length), H' fs[u] = some (tp (pt n m t u))) → Q (.ref p) H'
theorem ok_law_pair_parts (T : Facts K mg) : FnOk P w K mg base CX0 2 T.f_law_pair_parts T.fd_law_pair_parts ["_law_table"] spLParts := by
  have G_law_pair_whole := ok_law_pair_whole (P := P) (w := w) (base := base) T
  have G_law_pair_less := ok_law_pair_less (P := P) (w := w) (base := base) T
  refine T.F_law_pair_parts.ok sc_law_pair_parts (fun vs H Q E h => ?_) (fun cdv A outer s H vs Q E hr h => ?_)
  · obtain ⟨a, n, m, t, rfl, _⟩ := h
    rfl
  · obtain ⟨a, n, m, t, rfl, ts1, h1, h2, h3, h4, tl, q⟩ := h
    refine ⟨_, (PSs.nox (pss_cons (ps_par (i := 1) (j := 2) (by rfl) sc_law_pair_parts.nd rfl rfl (by decide) rfl rfl (pa_cons (pe_lst (pa_cons (pe_call G_law_pair_whole hr (by rfl) T.g_law_pair_whole T.F_law_pair_whole.kp T.b_law_pair_whole .nil pass0 (pa_cons (pv 0) pa_nil)) pa_nil)) (pa_cons (pv 0) pa_nil)) (by rfl))
    (pss_cons (ps_for PassesOwn.never (by rfl) (pi_range1 (by rfl) T.z_range (pa_cons (pe_op op_sub (pe_callB (call_min2 (by rfl)) (by rfl) T.z_min (by decide +kernel) (pa_cons (pe_callB call_len_seq (by rfl) T.z_len (by decide +kernel) (pa_cons (pv 0) pa_nil)) (pa_cons (pe_callB call_len_seq (by rfl) T.z_len (by decide +kernel) (pa_cons (pe_ix ix_seq (pv 0) pe_int (fun _ _ => rfl)) pa_nil)) pa_nil))) pe_int) pa_nil)) (pg_name (i := 3) sc_law_pair_parts.nd rfl (.inl rfl))
      (pss_cons (ps_set (i := 2) sc_law_pair_parts.nd rfl (.inl rfl) (pe_call G_law_pair_less hr (by rfl) T.g_law_pair_less T.F_law_pair_less.kp T.b_law_pair_less .nil pass0 (pa_cons (pv 2) pa_nil)))
      (pss_one (ps_expr (pe_bm PySem.F.plainAttrs_list PySem.F.slot_list_append PySem.F.type_list_append mt_append (pv 1) (pa_cons (pe_call G_law_pair_whole hr (by rfl) T.g_law_pair_whole T.F_law_pair_whole.kp T.b_law_pair_whole .nil pass0 (pa_cons (pv 2) pa_nil)) pa_nil))))))
    (pss_one (ps_ret (pv 1)))))), ?_⟩
    refine ⟨_, rfl, a, n, m, t, rfl, ts1, h1, h2, by omega, by omega, fun p2 H2 s2 g2 => ⟨by show 1 ≤ sizeLine; decide, fun F nF => ⟨_, rfl, _, _, rfl, gen_upd H2 F (.lst [.ref p2]) nF fun H4 s4 f4 => ?_⟩⟩⟩
    have s14 := s2.trans s4
    have ts4 := ts1.same s14
    have ⟨rs, lr, hs, hrow⟩ := ts4
    refine ⟨_, rfl, a, _, rfl, hs.lt, _, rfl, ts4.at (k := 0) rfl (by omega) fun r0 hr0 => ⟨r0, _, rfl, hr0.lt, _, _, rfl, ?_⟩⟩
    rw [List.length_map, tab_len, lr]
    have em : (if (m : Int) < (n : Int) then (m : Int) else (n : Int)) = ((min n m : Nat) : Int) := by split <;> omega
    rw [em]
    obtain ⟨M, hM⟩ : ∃ M, M = min n m := ⟨_, rfl⟩
    rw [← hM]
    refine ⟨_, _, rfl, rfl, _, rfl, by omega, by omega, for_range (n := ((M : Int) - 1).toNat) (fun u σ H' => ∃ (fs : List Addr) (h : Addr) (y3 : Option V), σ = [some (.ref a), some (.ref F), some (.ref h), y3] ∧ Same H H' ∧ H' F = some (.lst (fs.map V.ref)) ∧ fs.length = u + 1 ∧ (∀ v (hv : v < fs.length), H' fs[v] = some (tp (pt n m t v))) ∧ Ts H' h (n - u) (m - u) (lsn n m t u)) ⟨[p2], a, none, rfl, s14, f4, rfl, fun v hv => ?_, ts4⟩ (fun u σ H' hu hP => ?_) (fun σ H' hP => ?_)⟩
    · have hv0 : v = 0 := by simp at hv; omega
      subst hv0
      exact s4 _ _ g2
    · obtain ⟨fs, h, y3, rfl, sH, hF, lf, ff, ts⟩ := hP
      have nFH : H F = none := Same.free s2 nF
      have lb := lsn_le tl h3 h4 u
      have lb2 : Tle (n - u) (m - u) (2 ^ 700) (lsn n m t u) := fun i j hi hj => Nat.le_trans (lb i j hi hj) (by
        rw [← Nat.pow_add]
        exact Nat.pow_le_pow_right (by decide) (by omega))
      refine ⟨_, rfl, h, n - u, m - u, lsn n m t u, rfl, ts, by omega, by omega, by omega, by omega, lb2, fun h5 H5 s5 ts5 => ?_⟩
      have F5 := s5 _ _ hF
      refine ⟨_, rfl, .inl ⟨rfl, _, SqL.of F5⟩, _, rfl, h5, n - u - 1, m - u - 1, _, rfl, ts5, by omega, by omega, by omega, by omega, fun p6 H6 s6 g6 => ⟨F, _, _, rfl, rfl, s6 _ _ F5, by rw [List.length_map, lf]; exact small1000 (by omega), fs ++ [p6], h5, _, rfl, ?_, ?_, by rw [List.length_append, lf]; rfl, fun v hv => ?_, ?_⟩⟩
      · exact fun b o e => by
          rw [upd_ne (ne_of_none e nFH)]
          exact s6 _ _ (s5 _ _ (sH _ _ e))
      · rw [upd_same, List.map_append]
        rfl
      · have F7 := s6 _ _ F5
        by_cases c : v < fs.length
        · rw [show (fs ++ [p6])[v] = fs[v] from List.getElem_append_left _]
          have e7 := (s5.trans s6) _ _ (ff v c)
          rw [upd_ne (fun z => by rw [z, F7] at e7; cases e7)]
          exact e7
        · have ev : v = fs.length := by rw [List.length_append] at hv; simp at hv; omega
          subst ev
          rw [show (fs ++ [p6])[fs.length] = p6 by rw [List.getElem_append_right (Nat.le_refl _)]; simp]
          have ep : pt n m t fs.length = tb (n - u - 1 + (m - u - 1) - 1) (wh (n - u - 1) (m - u - 1) (lst (n - u) (m - u) (lsn n m t u))) := by
            rw [lf]
            unfold pt
            rw [show n + m - 1 - 2 * (u + 1) = n - u - 1 + (m - u - 1) - 1 by omega, Nat.sub_sub n u 1, Nat.sub_sub m u 1]
            rfl
          rw [ep, upd_ne (fun z => by rw [z, F7] at g6; cases g6)]
          exact g6
      · have F7 := s6 _ _ F5
        have t7 := ts5.same s6
        rw [Nat.sub_sub n u 1, Nat.sub_sub m u 1] at t7
        exact Ts.lst2 t7 (by omega) (by omega) F7 (List.getElem?_eq_getElem (show 0 < fs.length by omega)) ((s5.trans s6) _ _ (ff 0 (by omega))) (by rw [pt_len]; omega)
    · obtain ⟨fs, h, y3, rfl, sH, hF, lf, ff, ts⟩ := hP
      exact ⟨_, rfl, q F H' fs sH hF (by omega) ff⟩
end
end K13

set_option Elab.async false
set_option linter.all false
set_option maxRecDepth 100000
set_option maxHeartbeats 4000000
namespace K13
open PySem PySem.Spec PyProof.Rows L2 StX RZ MyR SlX OwnR OwnF EnumT SeqE
section
variable {P : Program} {w : World} {K : PySem.W.Frag} {mg : Str → Option Value} {base : Heap}
end
end K13

set_option Elab.async false
set_option linter.all false
set_option maxRecDepth 100000
set_option maxHeartbeats 4000000
namespace K13
open PySem PySem.Spec PyProof.Rows L2 StX RZ MyR SlX OwnR OwnF EnumT SeqE
/-! ### rows of tuples as data -/
def TD (ls : List (List Int)) : List PyData := ls.map fun l => .tuple (l.map PyData.int)
theorem lay_td : ∀ ls : List (List Int), PyData.canLayAll0 (TD ls) = true
  | [] => rfl
  | l :: r => by
    show (PyData.canLay0 (.tuple (l.map PyData.int)) && PyData.canLayAll0 (TD r)) = true
    rw [lay_td r, show PyData.canLay0 (.tuple (l.map PyData.int)) = PyData.canLayAll0 (l.map PyData.int) from rfl, lay_ints]
    rfl
theorem depth_td : ∀ ls : List (List Int), PyData.depthAll (TD ls) ≤ 1
  | [] => Nat.zero_le _
  | l :: r => by
    show max (PyData.depth (.tuple (l.map PyData.int))) (PyData.depthAll (TD r)) ≤ 1
    have h := depth_td r
    rw [show PyData.depth (.tuple (l.map PyData.int)) = PyData.depthAll (l.map PyData.int) + 1 from rfl, depth_ints]
    omega
theorem shaped_ltd (ls : List (List Int)) : SeqAt.shaped (.list (TD ls)) = true := by
  unfold SeqAt.shaped
  rw [show PyData.canLay0 (.list (TD ls)) = PyData.canLayAll0 (TD ls) from rfl, lay_td]
  rw [show PyData.depth (.list (TD ls)) = PyData.depthAll (TD ls) + 1 from rfl, decide_eq_true (show PyData.depthAll (TD ls) + 1 ≤ 64 by have := depth_td ls; omega)]
  rfl
theorem eqv_ltd (ls : List (List Int)) : PyData.eqv (.list (TD ls)) (.list (TD ls)) = true := SeqAt.eqv_refl _ (lay_td ls)
/-- the parts' rows -/
def rw_ (n : Nat) (φ : Nat → List Int) : List (List Int) := (List.range n).map φ
theorem dpAll_fn {K : PySem.W.Frag} {H : Hp} : ∀ (rs : List Addr) (n : Nat) (φ : Nat → List Int), rs.length = n → (∀ u (h : u < rs.length), H rs[u] = some (tp (φ u))) → DpAll K H (rs.map V.ref) (TD (rw_ n φ))
  | [], n, φ, hn, _ => by
    subst hn
    exact .nil
  | r :: rs, n, φ, hn, h => by
    subst hn
    unfold rw_
    rw [List.length_cons, List.range_succ_eq_map, List.map_cons, List.map_cons, List.map_map]
    exact .cons (.tup (SqT.of (h 0 (by simp))) (dpAll_ints _)) (dpAll_fn rs _ (fun u => φ (u + 1)) rfl fun u hu => h (u + 1) (by simpa using hu))
theorem eq_lrows {K : PySem.W.Frag} {H : Hp} {a b : Addr} {rs ss : List Addr} {n : Nat} {φ ψ : Nat → List Int} {Q : VK} (ha : H a = some (.lst (rs.map V.ref))) (hb : H b = some (.lst (ss.map V.ref))) (lr : rs.length = n) (ls : ss.length = n) (h1 : ∀ u (h : u < rs.length), H rs[u] = some (tp (φ u))) (h2 : ∀ u (h : u < ss.length), H ss[u] = some (tp (ψ u))) (e : ∀ u, u < n → φ u = ψ u) (q : Q (.bl true) H) : rEqD K (.ref a) (.ref b) H Q := by
  have h2' : ∀ u (h : u < ss.length), H ss[u] = some (tp (φ u)) := fun u h => by rw [h2 u h, e u (by omega)]
  refine ⟨_, _, .lst (SqL.of ha) (dpAll_fn rs n φ lr h1), .lst (SqL.of hb) (dpAll_fn ss n φ ls h2'), shaped_ltd _, shaped_ltd _, ?_⟩
  rw [eqv_ltd]
  exact q
section
variable {P : Program} {w : World} {K : PySem.W.Frag} {mg : Str → Option Value} {base : Heap}
end
end K13

set_option Elab.async false
set_option linter.all false
set_option maxRecDepth 100000
set_option maxHeartbeats 4000000
namespace K13
open PySem PySem.Spec PyProof.Rows L2 StX RZ MyR SlX OwnR OwnF EnumT SeqE
theorem Tt.sx {H H' : Hp} {a d : Addr} {n m : Nat} {t : Nat → Nat → Int} (h : Tt H a n m t) (hd : Dc H d) (s : Sx d H H') : Tt H' a n m t := by
  obtain ⟨rs, l, h1, h2⟩ := h
  obtain ⟨x, y, z, e⟩ := hd
  refine ⟨rs, l, s _ _ (fun q => ?_) h1, fun i hi => s _ _ (fun q => ?_) (h2 i hi)⟩
  · rw [q, e] at h1
    cases h1
  · have h3 := h2 i hi
    rw [q, e] at h3
    cases h3
/-- rows so far in the list at D -/
def Bl (H : Hp) (D : Addr) (φ : Nat → List Int) (i : Nat) : Prop := ∃ rs : List Addr, H D = some (.lst (rs.map V.ref)) ∧ rs.length = i ∧ ∀ k (hk : k < rs.length), H rs[k] = some (tp (φ k))
theorem Bl.nil {H : Hp} {D : Addr} {φ : Nat → List Int} : Bl (upd H D (.lst [])) D φ 0 := ⟨[], upd_same, rfl, fun k hk => absurd hk (Nat.not_lt_zero k)⟩
theorem Bl.step {Hs H H2 : Hp} {D p : Addr} {φ : Nat → List Int} {i : Nat} (hP : Same Hs H ∧ Bl H D φ i) (hD : Hs D = none) (s : Same H H2) (hp : H2 p = some (tp (φ i))) (hi : i + 1 ≤ 1000) :
    ∃ acc, H2 D = some (.lst acc) ∧ acc.length < sizeLine ∧ (Same Hs (upd H2 D (.lst (acc ++ [.ref p]))) ∧ Bl (upd H2 D (.lst (acc ++ [.ref p]))) D φ (i + 1)) := by
  obtain ⟨sH, rs, hL, lr, hrow⟩ := hP
  have hL2 := s _ _ hL
  refine ⟨_, hL2, by rw [List.length_map, lr]; exact small1000 (by omega), fun d o e => ?_, rs ++ [p], by rw [upd_same, List.map_append]; rfl, by rw [List.length_append, lr]; rfl, fun k hk => ?_⟩
  · rw [upd_ne (ne_of_none e hD)]
    exact s _ _ (sH _ _ e)
  · by_cases c : k < rs.length
    · rw [show (rs ++ [p])[k] = rs[k] from List.getElem_append_left _]
      have e0 := s _ _ (hrow k c)
      rw [upd_ne (fun z => by rw [z, hL2] at e0; cases e0)]
      exact e0
    · have ek : k = rs.length := by rw [List.length_append] at hk; simp at hk; omega
      subst ek
      rw [show (rs ++ [p])[rs.length] = p by rw [List.getElem_append_right (Nat.le_refl _)]; simp, upd_ne (fun z => by rw [z, hL2] at hp; cases hp), hp, lr]
section
variable {P : Program} {w : World} {K : PySem.W.Frag} {mg : Str → Option Value} {base : Heap}
end
end K13

set_option Elab.async false
set_option linter.all false
set_option maxRecDepth 100000
set_option maxHeartbeats 2000000
set_option exponentiation.threshold 10000
/-! levels: acting is a sum of products with the level entries -/
namespace K13
open PySem PySem.Spec PyProof.Rows L2 FDivQ LA
def dotn (r c : List Int) (i : Nat) : List Int := tb i fun k => co r k * co c k
def dot (r c : List Int) : Int := (dotn r c r.length).sum
def fc : Nat → Nat
  | 0 => 1
  | n + 1 => (n + 1) * fc n
theorem S_ext {f : Nat → Int} {n : Nat} : ∀ {N : Nat}, n ≤ N → (∀ i, n ≤ i → f i = 0) → S N f = S n f
  | 0, h, _ => by
    have : n = 0 := by omega
    rw [this]
  | N + 1, h, hz => by
    by_cases c : n = N + 1
    · rw [c]
    · show S N f + f N = _
      rw [hz N (by omega), Int.add_zero, S_ext (by omega) hz]
theorem S_head (f : Nat → Int) (n : Nat) : S (n + 1) f = f 0 + S n fun i => f (i + 1) := by
  rw [S_skip f 0 n (Nat.zero_le _)]
  rfl
theorem conv_aux {m : List Int} : ∀ (l : List Int) (g : Nat → Int) (N : Nat), l.length + m.length ≤ N + 1 → S N (fun c => cv l (co m) c * g c) = S l.length fun a => co l a * S m.length fun b => co m b * g (a + b)
  | [], g, N, _ => by
    rw [S_zero fun i _ => by rw [cv_nil, Int.zero_mul]]
    rfl
  | x :: xs, g, N, h => by
    have hm : m.length ≤ N := by rw [List.length_cons] at h; omega
    have e1 : S m.length (fun b => co m b * g (0 + b)) = S N fun b => co m b * g b := by
      rw [S_ext (f := fun b => co m b * g b) hm fun i hi => by rw [co_far hi, Int.zero_mul]]
      exact S_congr fun b _ => by rw [Nat.zero_add]
    rw [List.length_cons, S_head]
    show _ = x * _ + S xs.length fun i => co xs i * S m.length fun b => co m b * g (i + 1 + b)
    rw [e1, ← S_mul]
    have e2 : (S xs.length fun i => co xs i * S m.length fun b => co m b * g (i + 1 + b)) = S xs.length fun i => co xs i * S m.length fun b => co m b * (fun c => g (c + 1)) (i + b) := S_congr fun i _ => by
      congr 1
      exact S_congr fun b _ => by
        show co m b * g (i + 1 + b) = co m b * g (i + b + 1)
        congr 2
        omega
    rw [e2]
    cases N with
    | zero =>
      rw [List.length_cons] at h
      have hx : xs = [] := List.eq_nil_of_length_eq_zero (by omega)
      subst hx
      rfl
    | succ N =>
      rw [← conv_aux xs (fun c => g (c + 1)) N (by rw [List.length_cons] at h; omega), S_head, S_head, cv_zero]
      have e3 : (S N fun i => cv (x :: xs) (co m) (i + 1) * g (i + 1)) = S N (fun i => x * (co m (i + 1) * g (i + 1))) + S N fun c => cv xs (co m) c * (fun c => g (c + 1)) c := by
        rw [← S_add]
        exact S_congr fun i _ => by rw [cv_succ, Int.add_mul, Int.mul_assoc]
      rw [e3, ← Int.mul_assoc, Int.add_assoc]
theorem conv {l m : List Int} (hm : m ≠ []) (g : Nat → Int) : S (ml l m).length (fun c => co (ml l m) c * g c) = S l.length fun a => co l a * S m.length fun b => co m b * g (a + b) := by
  rw [← conv_aux l g (ml l m).length (by rw [ml_len]; omega)]
  exact S_congr fun c _ => by rw [co_ml hm]
end K13

set_option Elab.async false
set_option linter.all false
set_option maxRecDepth 100000
set_option maxHeartbeats 2000000
/-! plain: pair tables: crossing against the step of the parts; a table is told by its parts; polars -/
namespace K13
open PySem PySem.Spec PyProof.Rows L2 StX RZ MyR SlX OwnR OwnF EnumT
/-- equal in the first n rows and m columns -/
def Eqt (n m : Nat) (a b : Nat → Nat → Int) : Prop := ∀ i j, i < n → j < m → a i j = b i j
theorem Eqt.trans {n m : Nat} {a b c : Nat → Nat → Int} (h : Eqt n m a b) (g : Eqt n m b c) : Eqt n m a c := fun i j hi hj => (h i j hi hj).trans (g i j hi hj)
theorem Eqt.symm {n m : Nat} {a b : Nat → Nat → Int} (h : Eqt n m a b) : Eqt n m b a := fun i j hi hj => (h i j hi hj).symm
theorem lst_congr {n m : Nat} {a b : Nat → Nat → Int} (h : Eqt n m a b) : Eqt (n - 1) (m - 1) (lst n m a) (lst n m b) := fun i j hi hj => by
  unfold lst
  rw [h i (j + 1) (by omega) (by omega), h (i + 1) j (by omega) (by omega)]
theorem lsn_congr {n m : Nat} {a b : Nat → Nat → Int} (h : Eqt n m a b) : ∀ u, Eqt (n - u) (m - u) (lsn n m a u) (lsn n m b u)
  | 0 => h
  | u + 1 => by
    rw [show n - (u + 1) = n - u - 1 by omega, show m - (u + 1) = m - u - 1 by omega]
    exact lst_congr (lsn_congr h u)
theorem wh_congr {n m : Nat} {a b : Nat → Nat → Int} (h : Eqt n m a b) (k : Nat) : wh n m a k = wh n m b k := by
  unfold wh
  refine su_congr n fun i hi => su_congr m fun j hj => ?_
  by_cases c : i + j = k
  · rw [if_pos c, if_pos c, h i j hi hj]
  · rw [if_neg c, if_neg c]
/-- the table times x v - y u -/
def crs (n m : Nat) (t : Nat → Nat → Int) (i j : Nat) : Int := (if 1 ≤ j ∧ i < n then t i (j - 1) else 0) - (if 1 ≤ i ∧ j < m then t (i - 1) j else 0)
theorem crs_congr {n m : Nat} {a b : Nat → Nat → Int} (h : Eqt n m a b) : Eqt (n + 1) (m + 1) (crs n m a) (crs n m b) := fun i j hi hj => by
  unfold crs
  congr 1
  · by_cases c : 1 ≤ j ∧ i < n
    · rw [if_pos c, if_pos c, h i (j - 1) c.2 (by omega)]
    · rw [if_neg c, if_neg c]
  · by_cases c : 1 ≤ i ∧ j < m
    · rw [if_pos c, if_pos c, h (i - 1) j (by omega) c.2]
    · rw [if_neg c, if_neg c]
/-- the step of a crossed table -/
theorem lst_crs {n m : Nat} (hn : 1 ≤ n) (hm : 1 ≤ m) (t : Nat → Nat → Int) : Eqt n m (lst (n + 1) (m + 1) (crs n m t)) (fun i j => crs (n - 1) (m - 1) (lst n m t) i j + ((n : Int) + m) * t i j) := fun i j hi hj => by
  obtain ⟨a, rfl⟩ : ∃ a, n = a + 1 := ⟨n - 1, by omega⟩
  obtain ⟨b, rfl⟩ : ∃ b, m = b + 1 := ⟨m - 1, by omega⟩
  have e1 : crs (a + 1) (b + 1) t i (j + 1) = t i j - (if 1 ≤ i ∧ j < b then t (i - 1) (j + 1) else 0) := by
    unfold crs
    rw [if_pos ⟨by omega, hi⟩, Nat.add_sub_cancel]
    congr 1
    by_cases c : 1 ≤ i ∧ j < b
    · rw [if_pos c, if_pos ⟨c.1, by omega⟩]
    · rw [if_neg c, if_neg (fun z => c ⟨z.1, by omega⟩)]
  have e2 : crs (a + 1) (b + 1) t (i + 1) j = (if 1 ≤ j ∧ i < a then t (i + 1) (j - 1) else 0) - t i j := by
    unfold crs
    rw [if_pos (show 1 ≤ i + 1 ∧ j < b + 1 from ⟨by omega, hj⟩), Nat.add_sub_cancel]
    congr 1
    by_cases c : 1 ≤ j ∧ i < a
    · rw [if_pos c, if_pos ⟨c.1, by omega⟩]
    · rw [if_neg c, if_neg (fun z => c ⟨z.1, by omega⟩)]
  have e3 : crs a b (lst (a + 1) (b + 1) t) i j = ((a : Int) - i) * j * t i j - (if 1 ≤ j ∧ i < a then ((i : Int) + 1) * ((b : Int) - j + 1) * t (i + 1) (j - 1) else 0) - ((if 1 ≤ i ∧ j < b then ((a : Int) - i + 1) * ((j : Int) + 1) * t (i - 1) (j + 1) else 0) - (i : Int) * ((b : Int) - j) * t i j) := by
    unfold crs
    congr 1
    · by_cases c : 1 ≤ j ∧ i < a
      · rw [if_pos c, if_pos c]
        unfold lst
        obtain ⟨j', rfl⟩ : ∃ j', j = j' + 1 := ⟨j - 1, by omega⟩
        rw [Nat.add_sub_cancel]
        push_cast
        grind
      · rw [if_neg c, if_neg c]
        have : ((a : Int) - i) * j = 0 := by
          by_cases c1 : 1 ≤ j
          · have : (a : Int) - i = 0 := by omega
            rw [this, Int.zero_mul]
          · have : (j : Int) = 0 := by omega
            rw [this, Int.mul_zero]
        rw [this]
        omega
    · by_cases c : 1 ≤ i ∧ j < b
      · rw [if_pos c, if_pos c]
        unfold lst
        obtain ⟨i', rfl⟩ : ∃ i', i = i' + 1 := ⟨i - 1, by omega⟩
        rw [Nat.add_sub_cancel]
        push_cast
        grind
      · rw [if_neg c, if_neg c]
        have : (i : Int) * ((b : Int) - j) = 0 := by
          by_cases c1 : 1 ≤ i
          · have : (b : Int) - j = 0 := by omega
            rw [this, Int.mul_zero]
          · have : (i : Int) = 0 := by omega
            rw [this, Int.zero_mul]
        rw [this]
        omega
  show lst (a + 1 + 1) (b + 1 + 1) (crs (a + 1) (b + 1) t) i j = crs a b (lst (a + 1) (b + 1) t) i j + _
  rw [e3]
  show ((a + 1 + 1 : Nat) - 1 - (i : Int)) * (j + 1) * crs (a + 1) (b + 1) t i (j + 1) - ((i : Int) + 1) * ((b + 1 + 1 : Nat) - 1 - (j : Int)) * crs (a + 1) (b + 1) t (i + 1) j = _
  rw [e1, e2]
  push_cast
  split <;> split <;> grind
theorem su_ext {φ : Nat → Int} : ∀ n, (∀ k, n ≤ k → φ k = 0) → ∀ d, su (n + d) φ = su n φ
  | n, h, 0 => rfl
  | n, h, d + 1 => by
    show su (n + d) φ + φ (n + d) = _
    rw [su_ext n h d, h (n + d) (by omega), Int.add_zero]
theorem su_first (φ : Nat → Int) : ∀ n, su (n + 1) φ = φ 0 + su n fun k => φ (k + 1)
  | 0 => by show (0 : Int) + φ 0 = φ 0 + 0; omega
  | n + 1 => by
    show su (n + 1) φ + φ (n + 1) = φ 0 + (su n _ + φ (n + 1))
    rw [su_first φ n, Int.add_assoc]
theorem su_nil {φ : Nat → Int} {n : Nat} (h : ∀ k, k < n → φ k = 0) : su n φ = 0 := (su_congr n h).trans (su_zero n)
theorem su_sub (φ ψ : Nat → Int) (n : Nat) : su n (fun k => φ k - ψ k) = su n φ - su n ψ := by
  have : su n (fun k => φ k - ψ k) = su n (fun k => φ k + (-1) * ψ k) := su_congr n fun k _ => by omega
  rw [this, su_add, su_mul]
  omega
/-- the whole of a crossed table is 0 -/
theorem wh_crs (n m : Nat) (t : Nat → Nat → Int) (k : Nat) : wh (n + 1) (m + 1) (crs n m t) k = 0 := by
  have eA : (su (n + 1) fun i => su (m + 1) fun j => if i + j = k then (if 1 ≤ j ∧ i < n then t i (j - 1) else 0) else 0) = su n fun i => su m fun j => if i + j + 1 = k then t i j else 0 := by
    show su n _ + su (m + 1) _ = _
    rw [show (su (m + 1) fun j => if n + j = k then (if 1 ≤ j ∧ n < n then t n (j - 1) else 0) else 0) = 0 from
      su_nil fun j _ => by rw [if_neg (show ¬ (1 ≤ j ∧ n < n) from fun z => by omega)]; split <;> rfl, Int.add_zero]
    refine su_congr n fun i hi => ?_
    rw [su_first, if_neg (show ¬ (1 ≤ 0 ∧ i < n) from fun z => by omega)]
    rw [show (if i + 0 = k then (0 : Int) else 0) = 0 by split <;> rfl, Int.zero_add]
    refine su_congr m fun j hj => ?_
    rw [if_pos (show 1 ≤ j + 1 ∧ i < n from ⟨by omega, hi⟩), Nat.add_sub_cancel, Nat.add_assoc]
  have eB : (su (n + 1) fun i => su (m + 1) fun j => if i + j = k then (if 1 ≤ i ∧ j < m then t (i - 1) j else 0) else 0) = su n fun i => su m fun j => if i + j + 1 = k then t i j else 0 := by
    rw [su_first]
    rw [show (su (m + 1) fun j => if 0 + j = k then (if 1 ≤ 0 ∧ j < m then t (0 - 1) j else 0) else 0) = 0 from
      su_nil fun j _ => by rw [if_neg (show ¬ (1 ≤ 0 ∧ j < m) from fun z => by omega)]; split <;> rfl, Int.zero_add]
    refine su_congr n fun i hi => ?_
    show su m _ + (if i + 1 + m = k then (if 1 ≤ i + 1 ∧ m < m then t (i + 1 - 1) m else 0) else 0) = _
    rw [if_neg (show ¬ (1 ≤ i + 1 ∧ m < m) from fun z => by omega), show (if i + 1 + m = k then (0 : Int) else 0) = 0 by split <;> rfl, Int.add_zero]
    refine su_congr m fun j hj => ?_
    rw [if_pos (show 1 ≤ i + 1 ∧ j < m from ⟨by omega, hj⟩), Nat.add_sub_cancel, show i + 1 + j = i + j + 1 by omega]
  have e : wh (n + 1) (m + 1) (crs n m t) k = (su (n + 1) fun i => su (m + 1) fun j => if i + j = k then (if 1 ≤ j ∧ i < n then t i (j - 1) else 0) else 0) - (su (n + 1) fun i => su (m + 1) fun j => if i + j = k then (if 1 ≤ i ∧ j < m then t (i - 1) j else 0) else 0) := by
    rw [← su_sub]
    refine su_congr _ fun i _ => ?_
    rw [← su_sub]
    refine su_congr _ fun j _ => ?_
    unfold crs
    split
    · rfl
    · rfl
  rw [e, eA, eB, Int.sub_self]
/-- all steps of a crossed table -/
def kap (n m u : Nat) : Int := (u : Int) * ((n : Int) + m - u + 1)
theorem lsn_crs {n m : Nat} (t : Nat → Nat → Int) : ∀ u, u ≤ n → u ≤ m → Eqt (n + 1 - u) (m + 1 - u) (lsn (n + 1) (m + 1) (crs n m t) u) (fun i j => crs (n - u) (m - u) (lsn n m t u) i j + (if u = 0 then 0 else kap n m u * lsn n m t (u - 1) i j))
  | 0, _, _ => fun i j _ _ => by
    show crs n m t i j = crs n m t i j + (if (0 : Nat) = 0 then 0 else kap n m 0 * lsn n m t (0 - 1) i j)
    rw [if_pos rfl, Int.add_zero]
  | u + 1, hn, hm => by
    have ih := lsn_crs (n := n) (m := m) t u (by omega) (by omega)
    intro i j hi hj
    have h1 := lst_congr ih i j (by omega) (by omega)
    show lst (n + 1 - u) (m + 1 - u) (lsn (n + 1) (m + 1) (crs n m t) u) i j = _
    rw [h1]
    have e0 : lst (n + 1 - u) (m + 1 - u) (fun i j => crs (n - u) (m - u) (lsn n m t u) i j + (if u = 0 then 0 else kap n m u * lsn n m t (u - 1) i j)) i j
        = lst (n + 1 - u) (m + 1 - u) (crs (n - u) (m - u) (lsn n m t u)) i j + (if u = 0 then 0 else kap n m u * lst (n + 1 - u) (m + 1 - u) (lsn n m t (u - 1)) i j) := by
      by_cases c : u = 0
      · simp only [c, if_true, Int.add_zero]
      · simp only [if_neg c]
        exact congrFun (congrFun (lst_lin (n + 1 - u) (m + 1 - u) (kap n m u) (crs (n - u) (m - u) (lsn n m t u)) (lsn n m t (u - 1))) i) j
    rw [e0]
    have h2 := lst_crs (n := n - u) (m := m - u) (by omega) (by omega) (lsn n m t u) i j (by omega) (by omega)
    rw [show n - u + 1 = n + 1 - u by omega, show m - u + 1 = m + 1 - u by omega] at h2
    rw [h2]
    dsimp only
    rw [if_neg (Nat.succ_ne_zero u), Nat.add_sub_cancel, show n - (u + 1) = n - u - 1 by omega, show m - (u + 1) = m - u - 1 by omega]
    show crs (n - u - 1) (m - u - 1) (lst (n - u) (m - u) (lsn n m t u)) i j + _ + _ = crs (n - u - 1) (m - u - 1) (lst (n - u) (m - u) (lsn n m t u)) i j + _
    by_cases c : u = 0
    · subst c
      rw [if_pos rfl, Int.add_zero]
      congr 1
      unfold kap
      show ((n - 0 : Nat) + ((m - 0 : Nat) : Int)) * t i j = ((0 + 1 : Nat) : Int) * _ * t i j
      rw [Nat.sub_zero, Nat.sub_zero]
      congr 1
      omega
    · rw [if_neg c]
      have e3 : lst (n + 1 - u) (m + 1 - u) (lsn n m t (u - 1)) = lsn n m t u := by
        obtain ⟨v, rfl⟩ : ∃ v, u = v + 1 := ⟨u - 1, by omega⟩
        rw [show n + 1 - (v + 1) = n - v by omega, show m + 1 - (v + 1) = m - v by omega]
        rfl
      rw [e3, Int.add_assoc]
      congr 1
      have a1 : ((n - u : Nat) : Int) = n - u := by omega
      have a2 : ((m - u : Nat) : Int) = m - u := by omega
      rw [a1, a2, ← Int.add_mul]
      congr 1
      unfold kap
      push_cast
      grind
theorem wh_lsn_crs {n m : Nat} (t : Nat → Nat → Int) {u : Nat} (hn : u ≤ n) (hm : u ≤ m) (h0 : 1 ≤ u) (k : Nat) : wh (n + 1 - u) (m + 1 - u) (lsn (n + 1) (m + 1) (crs n m t) u) k = kap n m u * wh (n + 1 - u) (m + 1 - u) (lsn n m t (u - 1)) k := by
  rw [wh_congr (lsn_crs t u hn hm), wh_congr (b := fun i j => crs (n - u) (m - u) (lsn n m t u) i j + kap n m u * lsn n m t (u - 1) i j) (fun i j _ _ => by rw [if_neg (by omega)]), wh_lin, show n + 1 - u = n - u + 1 by omega, show m + 1 - u = m - u + 1 by omega, wh_crs, Int.zero_add]
theorem su_pick (φ : Nat → Int) (i k : Nat) : ∀ m, su m (fun j => if i + j = k then φ j else 0) = if i ≤ k ∧ k - i < m then φ (k - i) else 0
  | 0 => by rw [if_neg (fun z => by omega)]; rfl
  | m + 1 => by
    show su m _ + (if i + m = k then φ m else 0) = _
    rw [su_pick φ i k m]
    by_cases c : i + m = k
    · rw [if_neg (fun z => by omega), if_pos c, if_pos (show i ≤ k ∧ k - i < m + 1 from ⟨by omega, by omega⟩), Int.zero_add, show k - i = m by omega]
    · rw [if_neg c, Int.add_zero]
      by_cases d : i ≤ k ∧ k - i < m
      · rw [if_pos d, if_pos ⟨d.1, by omega⟩]
      · rw [if_neg d, if_neg (fun z => d ⟨z.1, by omega⟩)]
def tcut (n m : Nat) (t : Nat → Nat → Int) (i j : Nat) : Int := if i < n ∧ j < m then t i j else 0
def pk (n m : Nat) (t : Nat → Nat → Int) (i k : Nat) : Int := su i fun i' => if i' ≤ k then tcut n m t i' (k - i') else 0
theorem wh_pk (n m : Nat) (t : Nat → Nat → Int) (k : Nat) : wh n m t k = pk n m t n k := by
  unfold wh pk
  refine su_congr n fun i hi => ?_
  rw [su_pick]
  unfold tcut
  by_cases c : i ≤ k
  · rw [if_pos c]
    by_cases d : k - i < m
    · rw [if_pos ⟨c, d⟩, if_pos ⟨hi, d⟩]
    · rw [if_neg (fun z => d z.2), if_neg (fun z => d z.2)]
  · rw [if_neg c, if_neg fun z => c z.1]
theorem crossed_of {a b : Nat} {t : Nat → Nat → Int} (h : ∀ k, wh (a + 1) (b + 1) t k = 0) : Eqt (a + 1) (b + 1) t (crs a b fun i j => pk (a + 1) (b + 1) t (i + 1) (i + j + 1)) := fun i j hi hj => by
  have hz : ∀ k, pk (a + 1) (b + 1) t (a + 1) k = 0 := fun k => by rw [← wh_pk]; exact h k
  have st : pk (a + 1) (b + 1) t (i + 1) (i + j) = pk (a + 1) (b + 1) t i (i + j) + t i j := by
    show pk (a + 1) (b + 1) t i (i + j) + (if i ≤ i + j then tcut (a + 1) (b + 1) t i (i + j - i) else 0) = _
    rw [if_pos (Nat.le_add_right i j), Nat.add_sub_cancel_left]
    unfold tcut
    rw [if_pos ⟨hi, hj⟩]
  have t1 : (if 1 ≤ j ∧ i < a then pk (a + 1) (b + 1) t (i + 1) (i + (j - 1) + 1) else 0) = pk (a + 1) (b + 1) t (i + 1) (i + j) := by
    by_cases c : 1 ≤ j ∧ i < a
    · rw [if_pos c, show i + (j - 1) + 1 = i + j by omega]
    · rw [if_neg c]
      by_cases e : i = a
      · subst e
        exact (hz _).symm
      · have ej : j = 0 := by omega
        subst ej
        rw [← hz (i + 0)]
        obtain ⟨d, ed⟩ : ∃ d, a + 1 = i + 1 + d := ⟨a - i, by omega⟩
        rw [ed]
        unfold pk
        exact su_ext (i + 1) (fun k hk => by rw [if_neg (by omega)]) d
  have t2 : (if 1 ≤ i ∧ j < b then pk (a + 1) (b + 1) t (i - 1 + 1) (i - 1 + j + 1) else 0) = pk (a + 1) (b + 1) t i (i + j) := by
    by_cases c : 1 ≤ i ∧ j < b
    · rw [if_pos c, show i - 1 + 1 = i by omega, show i - 1 + j + 1 = i + j by omega]
    · rw [if_neg c]
      by_cases e : i = 0
      · subst e
        rfl
      · have ej : j = b := by omega
        subst ej
        refine Eq.symm ?_
        unfold pk
        refine su_nil fun k hk => ?_
        rw [if_pos (by omega)]
        unfold tcut
        rw [if_neg (fun z => by omega)]
  show t i j = (if 1 ≤ j ∧ i < a then pk (a + 1) (b + 1) t (i + 1) (i + (j - 1) + 1) else 0) - (if 1 ≤ i ∧ j < b then pk (a + 1) (b + 1) t (i - 1 + 1) (i - 1 + j + 1) else 0)
  rw [t1, t2, st]
  omega
theorem kap_ne {n m u : Nat} (h : 1 ≤ u) (hn : u ≤ n) : kap n m u ≠ 0 := by
  unfold kap
  intro z
  rcases Int.mul_eq_zero.mp z with z | z <;> omega
/-- a table all of whose parts are 0 is 0 -/
theorem told_zero : ∀ (n m : Nat) (t : Nat → Nat → Int), (∀ u, u < n → u < m → ∀ k, wh (n - u) (m - u) (lsn n m t u) k = 0) → Eqt n m t fun _ _ => 0
  | 0, _, _, _ => fun i _ hi _ => absurd hi (Nat.not_lt_zero i)
  | _ + 1, 0, _, _ => fun _ j _ hj => absurd hj (Nat.not_lt_zero j)
  | a + 1, b + 1, t, h => by
    have c := crossed_of (a := a) (b := b) (t := t) fun k => h 0 (by omega) (by omega) k
    generalize (fun i j => pk (a + 1) (b + 1) t (i + 1) (i + j + 1)) = g at c
    have ih := told_zero a b g fun v hv hw k => by
      have h1 := h (v + 1) (by omega) (by omega) k
      rw [wh_congr (lsn_congr c (v + 1)), wh_lsn_crs g (by omega) (by omega) (by omega), Nat.add_sub_cancel, show a + 1 - (v + 1) = a - v by omega, show b + 1 - (v + 1) = b - v by omega] at h1
      exact (Int.mul_eq_zero.mp h1).resolve_left (kap_ne (by omega) (by omega))
    refine c.trans ((crs_congr ih).trans fun i j _ _ => ?_)
    unfold crs
    split <;> split <;> rfl
theorem wh_far {n m k : Nat} {t : Nat → Nat → Int} (h : n + m - 1 ≤ k) : wh n m t k = 0 := by
  unfold wh
  exact su_nil fun i hi => su_nil fun j hj => by rw [if_neg (by omega)]
theorem pt_wh {n m u k : Nat} {t : Nat → Nat → Int} (hn : u < n) (hm : u < m) : co (pt n m t u) k = wh (n - u) (m - u) (lsn n m t u) k := by
  unfold pt
  rw [co_tb]
  by_cases c : k < n + m - 1 - 2 * u
  · rw [if_pos c]
  · rw [if_neg c, wh_far (by omega)]
/-- a table is told by its parts -/
theorem told_uniq {n m : Nat} {a b : Nat → Nat → Int} (h : ∀ u, u < n → u < m → pt n m a u = pt n m b u) : Eqt n m a b := fun i j hi hj => by
  have := told_zero n m (fun i j => a i j + (-1) * b i j) (fun u hn hm k => by
    rw [lsn_lin, wh_lin, ← pt_wh hn hm, ← pt_wh hn hm, h u hn hm]
    omega) i j hi hj
  dsimp only at this
  omega
/-! ### polars -/
theorem ch_step (n k : Nat) : ((k : Int) + 1) * (ch (n + 1) (k + 1) : Int) = ((n : Int) + 1) * (ch n k : Int) := by
  have h := ch_mul n k
  have e : (ch (n + 1) (k + 1) : Int) = (ch n k : Int) + (ch n (k + 1) : Int) := by
    show ((ch n k + ch n (k + 1) : Nat) : Int) = _
    push_cast
    rfl
  rw [e]
  grind
def vd (p q k : Nat) : Int := su (p + 1) fun i => if i ≤ k then (ch p i : Int) * (ch q (k - i) : Int) else 0
theorem vd_eq : ∀ p q k : Nat, vd p q k = (ch (p + q) k : Int)
  | 0, q, k => by
    show (0 : Int) + (if 0 ≤ k then (ch 0 0 : Int) * (ch q (k - 0) : Int) else 0) = _
    rw [if_pos (Nat.zero_le k), Nat.sub_zero, Nat.zero_add, Int.zero_add]
    show (1 : Int) * _ = _
    rw [Int.one_mul]
  | p + 1, q, k => by
    have e1 : vd (p + 1) q k = (su (p + 1 + 1) fun i => if i ≤ k then (ch p i : Int) * (ch q (k - i) : Int) else 0) + su (p + 1 + 1) fun i => if i ≤ k then (if i = 0 then 0 else (ch p (i - 1) : Int)) * (ch q (k - i) : Int) else 0 := by
      unfold vd
      rw [← su_add]
      refine su_congr _ fun i _ => ?_
      by_cases c : i ≤ k
      · rw [if_pos c, if_pos c, if_pos c, ← Int.add_mul]
        congr 1
        cases i with
        | zero => rw [ch_zero, ch_zero]; rfl
        | succ i =>
          rw [if_neg (Nat.succ_ne_zero i), Nat.add_sub_cancel]
          show ((ch p i + ch p (i + 1) : Nat) : Int) = _
          push_cast
          omega
      · rw [if_neg c, if_neg c, if_neg c]
        rfl
    have e2 : (su (p + 1 + 1) fun i => if i ≤ k then (ch p i : Int) * (ch q (k - i) : Int) else 0) = vd p q k := by
      show vd p q k + (if p + 1 ≤ k then (ch p (p + 1) : Int) * (ch q (k - (p + 1)) : Int) else 0) = _
      rw [ch_far p (p + 1) (Nat.lt_succ_self p)]
      split <;> simp
    have e3 : (su (p + 1 + 1) fun i => if i ≤ k then (if i = 0 then 0 else (ch p (i - 1) : Int)) * (ch q (k - i) : Int) else 0) = if k = 0 then 0 else vd p q (k - 1) := by
      rw [su_first, if_pos (Nat.zero_le k), if_pos rfl, Int.zero_mul, Int.zero_add]
      cases k with
      | zero =>
        rw [if_pos rfl]
        exact su_nil fun i _ => by rw [if_neg (by omega)]
      | succ k =>
        rw [if_neg (Nat.succ_ne_zero k), Nat.add_sub_cancel]
        refine su_congr _ fun i _ => ?_
        by_cases c : i ≤ k
        · rw [if_pos c, if_pos (show i + 1 ≤ k + 1 by omega), if_neg (Nat.succ_ne_zero i), Nat.add_sub_cancel, show k + 1 - (i + 1) = k - i by omega]
        · rw [if_neg c, if_neg (show ¬ i + 1 ≤ k + 1 by omega)]
    rw [e1, e2, e3, vd_eq p q k, vd_eq p q (k - 1)]
    cases k with
    | zero => rw [if_pos rfl, ch_zero, ch_zero, Int.add_zero]
    | succ k =>
      rw [if_neg (Nat.succ_ne_zero k), Nat.add_sub_cancel, show p + 1 + q = (p + q) + 1 by omega]
      show _ = ((ch (p + q) k + ch (p + q) (k + 1) : Nat) : Int)
      push_cast
      omega
/-- the polar of a form -/
def pol (p q B : Nat) (h : Nat → Int) (i j : Nat) : Int := (ch p i : Int) * (ch q j : Int) * (B : Int).fdiv (ch (p + q) (i + j) : Nat) * h (i + j)
theorem lst_pol (p q B : Nat) (h : Nat → Int) : lst (p + 1) (q + 1) (pol p q B h) = fun _ _ => 0 := by
  funext i j
  unfold lst pol
  rw [show i + 1 + j = i + (j + 1) by omega]
  generalize (B : Int).fdiv (ch (p + q) (i + (j + 1)) : Nat) * h (i + (j + 1)) = X
  have h1 := ch_mul p i
  have h2 := ch_mul q j
  have e1 : ((p + 1 : Nat) : Int) - 1 - i = p - i := by omega
  have e2 : ((q + 1 : Nat) : Int) - 1 - j = q - j := by omega
  rw [e1, e2]
  grind
theorem wh_pol {p q B : Nat} {h : Nat → Int} {k : Nat} (hB : ch (p + q) k ∣ B) : wh (p + 1) (q + 1) (pol p q B h) k = (B : Int) * h k ∨ p + q < k := by
  by_cases hk : p + q < k
  · exact .inr hk
  · refine .inl ?_
    have e : wh (p + 1) (q + 1) (pol p q B h) k = (vd p q k) * ((B : Int).fdiv (ch (p + q) k : Nat) * h k) := by
      unfold wh vd
      rw [Int.mul_comm, ← su_mul]
      refine su_congr _ fun i hi => ?_
      rw [su_pick (fun j => pol p q B h i j)]
      by_cases c : i ≤ k
      · rw [if_pos c]
        by_cases d : k - i < q + 1
        · rw [if_pos ⟨c, d⟩]
          unfold pol
          rw [show i + (k - i) = k by omega]
          grind
        · rw [if_neg (fun z => d z.2), ch_far q (k - i) (by omega)]
          simp
      · rw [if_neg c, if_neg (fun z => c z.1), Int.mul_zero]
    rw [e, vd_eq, ← Int.mul_assoc]
    congr 1
    exact Int.mul_fdiv_cancel' (Int.ofNat_dvd.mpr hB)
/-! ### crossed so often -/
def css (n m : Nat) (t : Nat → Nat → Int) : Nat → Nat → Nat → Int
  | 0 => t
  | u + 1 => crs (n + u) (m + u) (css n m t u)
def pit (n m : Nat) : Nat → Int
  | 0 => 1
  | s + 1 => kap (n + s) (m + s) (s + 1) * pit n m s
theorem wh_zero (n m k : Nat) : wh n m (fun _ _ => 0) k = 0 := by
  unfold wh
  exact su_nil fun i _ => su_nil fun j _ => by split <;> rfl
theorem lst_zero (n m : Nat) : lst n m (fun _ _ => 0) = fun _ _ => 0 := by
  funext i j
  unfold lst
  rw [Int.mul_zero, Int.mul_zero]
  rfl
theorem lsn_zero (n m : Nat) (t : Nat → Nat → Int) (h : lst n m t = fun _ _ => 0) : ∀ u, lsn n m t (u + 1) = fun _ _ => 0
  | 0 => by
    show lst (n - 0) (m - 0) t = _
    exact h
  | u + 1 => by
    show lst (n - (u + 1)) (m - (u + 1)) (lsn n m t (u + 1)) = _
    rw [lsn_zero n m t h u, lst_zero]
theorem wh_css {n m : Nat} (t : Nat → Nat → Int) (h : lst n m t = fun _ _ => 0) (k : Nat) : ∀ s u, u < n + s → u < m + s → wh (n + s - u) (m + s - u) (lsn (n + s) (m + s) (css n m t s) u) k = if u = s then pit n m s * wh n m t k else 0
  | 0, 0, _, _ => by
    rw [if_pos rfl]
    show wh n m t k = 1 * _
    rw [Int.one_mul]
  | 0, u + 1, _, _ => by
    rw [if_neg (Nat.succ_ne_zero u)]
    show wh (n + 0 - (u + 1)) (m + 0 - (u + 1)) (lsn n m t (u + 1)) k = 0
    rw [lsn_zero n m t h u, wh_zero]
  | s + 1, 0, _, _ => by
    rw [if_neg (Nat.succ_ne_zero s).symm]
    exact wh_crs (n + s) (m + s) (css n m t s) k
  | s + 1, u + 1, hn, hm => by
    have e := wh_lsn_crs (n := n + s) (m := m + s) (css n m t s) (u := u + 1) (by omega) (by omega) (by omega) k
    rw [Nat.add_sub_cancel, show n + s + 1 - (u + 1) = n + s - u by omega, show m + s + 1 - (u + 1) = m + s - u by omega, wh_css t h k s u (by omega) (by omega)] at e
    show wh (n + (s + 1) - (u + 1)) (m + (s + 1) - (u + 1)) (lsn (n + s + 1) (m + s + 1) (crs (n + s) (m + s) (css n m t s)) (u + 1)) k = _
    rw [show n + (s + 1) - (u + 1) = n + s - u by omega, show m + (s + 1) - (u + 1) = m + s - u by omega, e]
    by_cases c : u = s
    · subst c
      rw [if_pos rfl, if_pos rfl, ← Int.mul_assoc]
      rfl
    · rw [if_neg c, if_neg (fun z => c (Nat.succ.inj z)), Int.mul_zero]
theorem pit_eq (p q : Nat) : ∀ t, pit (p + 1) (q + 1) t = ((fc t * fc t * ch (p + q + t + 1) t : Nat) : Int)
  | 0 => by
    rw [ch_zero]
    rfl
  | t + 1 => by
    show kap (p + 1 + t) (q + 1 + t) (t + 1) * pit (p + 1) (q + 1) t = _
    rw [pit_eq p q t]
    have h := ch_step (p + q + t + 1) t
    unfold kap
    show _ = ((((t + 1) * fc t) * ((t + 1) * fc t) * ch (p + q + t + 1 + 1) (t + 1) : Nat) : Int)
    push_cast
    push_cast at h
    grind
end K13

set_option Elab.async false
set_option linter.all false
set_option maxRecDepth 100000
set_option maxHeartbeats 2000000
set_option exponentiation.threshold 10000
/-! plain: the table of some parts -/
namespace K13
open PySem PySem.Spec PyProof.Rows L2 StX RZ MyR SlX OwnR OwnF EnumT
/-- the least number that some divide -/
def lcmS (f : Nat → Nat) : Nat → Nat
  | 0 => 1
  | n + 1 => Nat.lcm (lcmS f n) (f n)
theorem lcmS_dvd {f : Nat → Nat} : ∀ {n i : Nat}, i < n → f i ∣ lcmS f n
  | n + 1, i, h => by
    show f i ∣ Nat.lcm (lcmS f n) (f n)
    by_cases c : i = n
    · rw [c]
      exact Nat.dvd_lcm_right _ _
    · exact Nat.dvd_trans (lcmS_dvd (n := n) (by omega)) (Nat.dvd_lcm_left _ _)
theorem lcmS_pos {f : Nat → Nat} : ∀ {n : Nat}, (∀ i, i < n → 0 < f i) → 0 < lcmS f n
  | 0, _ => Nat.one_pos
  | n + 1, h => Nat.lcm_pos (lcmS_pos fun i hi => h i (by omega)) (h n (Nat.lt_succ_self n))
def lob (N : Nat) : Nat := lcmS (ch N) (N + 1)
def pbt (a b t : Nat) : Nat := fc t * fc t * ch (a + b - t + 1) t
def shb (a b t : Nat) : Nat := lob (a + b - 2 * t) * pbt a b t
def whW (a b k : Nat) : Nat := lcmS (shb a b) k
theorem nums : ∀ a, a < 7 → ∀ b, b < 7 → ((∀ t, t < 8 → shb a b t < 2 ^ 60 ∧ (t ≤ a → t ≤ b → 0 < shb a b t)) ∧ ∀ k, k < 8 → whW a b k < 2 ^ 60) := by decide +kernel
theorem lobs : ∀ N, N < 13 → (lob N < 2 ^ 20 ∧ 0 < lob N) ∧ ∀ k, k < 14 → lcmS (ch N) k < 2 ^ 20 ∧ ch N k < 2 ^ 20 := by decide +kernel
theorem ch_pos {n k : Nat} (h : k ≤ n) : 0 < ch n k := by
  induction n generalizing k with
  | zero =>
    have : k = 0 := by omega
    subst this
    rw [ch_zero]
    exact Nat.one_pos
  | succ n ih =>
    cases k with
    | zero => rw [ch_zero]; exact Nat.one_pos
    | succ k => exact Nat.add_pos_left (ih (by omega)) _
theorem key (q x y s W h : Int) (m : q * s = W) (e : s = y * x) : q * (x * (y * h)) = W * h := by
  rw [← m, e]
  grind
section
variable {a b : Nat} (W : Nat) (h : Nat → Nat → Int)
/-- the table of the first k parts -/
def fw (a b W : Nat) (h : Nat → Nat → Int) : Nat → Nat → Nat → Int
  | 0 => fun _ _ => 0
  | k + 1 => fun i j => fw a b W h k i j + (W : Int).fdiv (shb a b k : Nat) * css (a - k + 1) (b - k + 1) (pol (a - k) (b - k) (lob (a + b - 2 * k)) (h k)) k i j
theorem wh_fw {u κ : Nat} (hu : u ≤ a) (hv : u ≤ b) (hκ : κ ≤ a + b - 2 * u) : ∀ k, k ≤ a + 1 → k ≤ b + 1 → (∀ t, t < k → shb a b t ∣ W) → wh (a + 1 - u) (b + 1 - u) (lsn (a + 1) (b + 1) (fw a b W h k) u) κ = if u < k then (W : Int) * h u κ else 0
  | 0, _, _, _ => by
    rw [if_neg (Nat.not_lt_zero u)]
    show wh _ _ (lsn (a + 1) (b + 1) (fun _ _ => 0) u) κ = 0
    cases u with
    | zero => exact wh_zero _ _ _
    | succ u => rw [lsn_zero _ _ _ (lst_zero _ _), wh_zero]
  | k + 1, ha, hb, hd => by
    have ih := wh_fw hu hv hκ k (by omega) (by omega) fun t ht => hd t (by omega)
    show wh _ _ (lsn (a + 1) (b + 1) (fun i j => fw a b W h k i j + (W : Int).fdiv (shb a b k : Nat) * css (a - k + 1) (b - k + 1) (pol (a - k) (b - k) (lob (a + b - 2 * k)) (h k)) k i j) u) κ = _
    rw [lsn_lin, wh_lin, ih]
    have c := wh_css (n := a - k + 1) (m := b - k + 1) (pol (a - k) (b - k) (lob (a + b - 2 * k)) (h k)) (lst_pol _ _ _ _) κ k u (by omega) (by omega)
    rw [show a - k + 1 + k = a + 1 by omega, show b - k + 1 + k = b + 1 by omega] at c
    rw [c]
    by_cases e : u = k
    · subst e
      rw [if_neg (Nat.lt_irrefl u), if_pos rfl, if_pos (Nat.lt_succ_self u), Int.zero_add, pit_eq]
      have eN : a - u + (b - u) = a + b - 2 * u := by omega
      have hB : ch (a - u + (b - u)) κ ∣ lob (a + b - 2 * u) := by
        rw [eN]
        exact lcmS_dvd (by omega)
      rcases wh_pol (h := h u) hB with z | z
      · rw [z]
        have e1 : a - u + (b - u) + u + 1 = a + b - u + 1 := by omega
        rw [e1]
        have dv : ((shb a b u : Nat) : Int) ∣ (W : Int) := Int.ofNat_dvd.mpr (hd u (Nat.lt_succ_self u))
        have m : (W : Int).fdiv (shb a b u : Nat) * (shb a b u : Nat) = W := Int.fdiv_mul_cancel dv
        have es : ((shb a b u : Nat) : Int) = (lob (a + b - 2 * u) : Nat) * ((fc u * fc u * ch (a + b - u + 1) u : Nat) : Int) := by
          unfold shb pbt
          push_cast
          rfl
        exact key _ _ _ _ _ _ m es
      · omega
    · rw [if_neg e, Int.mul_zero, Int.add_zero]
      by_cases d : u < k
      · rw [if_pos d, if_pos (by omega)]
      · rw [if_neg d, if_neg (by omega)]
end
end K13

set_option Elab.async false
set_option linter.all false
set_option maxRecDepth 100000
set_option maxHeartbeats 4000000
/-! what numbers the table of parts rests on -/
namespace K13
open PySem PySem.Spec PyProof.Rows L2 StX RZ MyR SlX OwnR OwnF EnumT SeqE
theorem fc_le : ∀ t, t < 13 → fc t < 2 ^ 40 := by decide
theorem sm_nat {n i : Nat} (h : n ≤ 2 ^ i) (hi : i < 4000 := by decide) : sm ((n : Nat) : Int) := lt400 (i := i) (show ((n : Nat) : Int).natAbs ≤ 2 ^ i by omega) hi
theorem log_nat {n i : Nat} (h : n < 2 ^ i) (hi : i < 4000 := by decide) : ((n : Nat) : Int).natAbs.log2 < 9000 :=
  Nat.lt_trans (PySem.Flt.log2_lt_of (k := 4000) (by decide) (by show n < 2 ^ 4000; exact Nat.lt_of_lt_of_le h (Nat.pow_le_pow_right (by decide) (Nat.le_of_lt hi)))) (by decide)
section
variable {P : Program} {w : World} {K : PySem.W.Frag} {mg : Str → Option Value} {base : Heap}
def spFac : Sp := fun vs H Q _ => ∃ t : Nat, vs = [.int t] ∧ t ≤ 12 ∧ Q (.int (fc t : Nat)) H
theorem ok_factorial_of (T : Facts K mg) : FnOk P w K mg base CX0 1 T.f_factorial_of T.fd_factorial_of ["number"] spFac := by
  refine T.F_factorial_of.ok sc_factorial_of (fun vs H Q E h => ?_) (fun cdv A outer s H vs Q E hr h => ?_)
  · obtain ⟨t, rfl, _⟩ := h
    rfl
  · obtain ⟨t, rfl, ht, q⟩ := h
    refine ⟨_, (PSs.nox (pss_cons (ps_set (i := 1) sc_factorial_of.nd rfl (.inl rfl) pe_int)
    (pss_cons (ps_for PassesOwn.never (by rfl) (pi_range2 (by rfl) T.z_range (pa_cons pe_int (pa_cons (pe_op op_add (pv 0) pe_int) pa_nil))) (pg_name (i := 2) sc_factorial_of.nd rfl (.inl rfl))
      (pss_one (ps_aug (i := 1) sc_factorial_of.nd rfl (.inl rfl) (pv 2) AugM.ip_mulW)))
    (pss_one (ps_ret (pv 1)))))), ?_⟩
    refine ⟨_, rfl, _, _, rfl, rfl, 2, (t : Int) + 1, rfl, ⟨by decide, by decide, by omega, by omega⟩, for_range (n := ((t : Int) + 1 - 2).toNat) (fun i σ H' => ∃ y, σ = [some (.int t), some (.int (fc (i + 1) : Nat)), y] ∧ H' = H) ⟨none, rfl, rfl⟩ (fun i σ H' hi hP => ?_) (fun σ H' hP => ?_)⟩
    · obtain ⟨y, rfl, rfl⟩ := hP
      have hb := fc_le (i + 1) (by omega)
      refine ⟨_, rfl, _, rfl, _, _, rfl, rfl, sm_mul (sm_nat (Nat.le_of_lt hb)) (sm_le (n := 100) (by omega) (by decide)), some (.int (2 + (i : Int))), ?_, rfl⟩
      have e : ((fc (i + 1) : Nat) : Int) * (2 + (i : Int)) = ((fc (i + 1 + 1) : Nat) : Int) := by
        show _ = (((i + 1 + 1) * fc (i + 1) : Nat) : Int)
        push_cast
        grind
      show [some (V.int t), some (V.int (((fc (i + 1) : Nat) : Int) * (2 + (i : Int)))), _] = _
      rw [e]
    · obtain ⟨y, rfl, rfl⟩ := hP
      refine ⟨_, rfl, ?_⟩
      by_cases c : t = 0
      · subst c
        exact q
      · rw [show ((t : Int) + 1 - 2).toNat + 1 = t by omega]
        exact q
def spLob : Sp := fun vs H Q _ => ∃ N : Nat, vs = [.int N] ∧ N ≤ 12 ∧ Q (.int (lob N : Nat)) H
theorem ok_lots_bottom (T : Facts K mg) : FnOk P w K mg base CX0 2 T.f_lots_bottom T.fd_lots_bottom ["many"] spLob := by
  have G_lots_of := ok_lots_of (P := P) (w := w) (base := base) T
  refine T.F_lots_bottom.ok sc_lots_bottom (fun vs H Q E h => ?_) (fun cdv A outer s H vs Q E hr h => ?_)
  · obtain ⟨t, rfl, _⟩ := h
    rfl
  · obtain ⟨N, rfl, hN, q⟩ := h
    refine ⟨_, (PSs.nox (pss_cons (ps_set (i := 1) sc_lots_bottom.nd rfl (.inl rfl) pe_int)
    (pss_cons (ps_for PassesOwn.never (by rfl) (pi_range1 (by rfl) T.z_range (pa_cons (pe_op op_add (pv 0) pe_int) pa_nil)) (pg_name (i := 2) sc_lots_bottom.nd rfl (.inl rfl))
      (pss_one (ps_set (i := 1) sc_lots_bottom.nd rfl (.inl rfl) (pe_callBfun LcmX.cr_lcm (by rfl) T.m_lcm (pa_cons (pv 1) (pa_cons (pe_call G_lots_of hr (by rfl) T.g_lots_of T.F_lots_of.kp T.b_lots_of .nil pass0 (pa_cons (pv 0) (pa_cons (pv 2) pa_nil))) pa_nil))))))
    (pss_one (ps_ret (pv 1)))))), ?_⟩
    have lb := (lobs N (by omega)).2
    refine ⟨_, rfl, _, _, rfl, rfl, (N : Int) + 1, rfl, by omega, by omega, for_range (n := ((N : Int) + 1).toNat) (fun i σ H' => ∃ y, σ = [some (.int N), some (.int (lcmS (ch N) i : Nat)), y] ∧ H' = H) ⟨none, rfl, rfl⟩ (fun i σ H' hi hP => ?_) (fun σ H' hP => ?_)⟩
    · obtain ⟨y, rfl, rfl⟩ := hP
      have hb := lb i (by omega)
      refine ⟨_, rfl, _, rfl, _, rfl, N, i, ?_, by omega, by omega, ?_⟩
      · show [V.int N, V.int (0 + (i : Int))] = _
        rw [Int.zero_add]
      refine ⟨_, _, rfl, Nat.lt_trans (show ((lcmS (ch N) i : Nat) : Int).natAbs < 2 ^ 20 by omega) (by decide), Nat.lt_trans (show ((ch N i : Nat) : Int).natAbs < 2 ^ 20 by omega) (by decide), some (.int (0 + (i : Int))), rfl, rfl⟩
    · obtain ⟨y, rfl, rfl⟩ := hP
      rw [show ((N : Int) + 1).toNat = N + 1 by omega]
      exact ⟨_, rfl, q⟩
def spPbt : Sp := fun vs H Q _ => ∃ a b t : Nat, vs = [.int a, .int b, .int t] ∧ t ≤ a ∧ t ≤ b ∧ a + b ≤ 12 ∧ Q (.int (pbt a b t : Nat)) H
theorem ok_part_bottom (T : Facts K mg) : FnOk P w K mg base CX0 2 T.f_part_bottom T.fd_part_bottom ["first", "second", "times"] spPbt := by
  have G_lots_of := ok_lots_of (P := P) (w := w) (base := base) T
  have G_factorial_of := ok_factorial_of (P := P) (w := w) (base := base) T
  refine T.F_part_bottom.ok sc_part_bottom (fun vs H Q E h => ?_) (fun cdv A outer s H vs Q E hr h => ?_)
  · obtain ⟨a, b, t, rfl, _⟩ := h
    rfl
  · obtain ⟨a, b, t, rfl, h1, h2, h3, q⟩ := h
    refine ⟨_, (PSs.nox (pss_one (ps_ret (pe_op op_mulW (pe_op op_mulW (pe_call G_factorial_of hr (by rfl) T.g_factorial_of T.F_factorial_of.kp T.b_factorial_of .nil pass0 (pa_cons (pv 2) pa_nil)) (pe_call G_factorial_of hr (by rfl) T.g_factorial_of T.F_factorial_of.kp T.b_factorial_of .nil pass0 (pa_cons (pv 2) pa_nil))) (pe_call G_lots_of hr (by rfl) T.g_lots_of T.F_lots_of.kp T.b_lots_of .nil pass0 (pa_cons (pe_op op_add (pe_op op_sub (pe_op op_add (pv 0) (pv 1)) (pv 2)) pe_int) (pa_cons (pv 2) pa_nil))))))), ?_⟩
    have hb := fc_le t (by omega)
    have sf : sm ((fc t : Nat) : Int) := sm_nat (Nat.le_of_lt hb)
    have sff : sm (((fc t : Nat) : Int) * ((fc t : Nat) : Int)) := lt400 (i := 80) (by rw [Int.natAbs_mul]; exact Nat.le_trans (Nat.mul_le_mul (show ((fc t : Nat) : Int).natAbs ≤ 2 ^ 40 by omega) (show ((fc t : Nat) : Int).natAbs ≤ 2 ^ 40 by omega)) (by decide)) (by decide)
    refine ⟨_, rfl, t, rfl, by omega, _, rfl, t, rfl, by omega, _, _, rfl, rfl, sm_mul sf sf, _, rfl, _, rfl, _, _, rfl, rfl, _, rfl, _, _, rfl, rfl, _, _, rfl, rfl, _, rfl, a + b - t + 1, t, ?_, by omega, by omega, _, _, rfl, rfl, sm_mul sff (sm_ch (by omega)), ?_⟩
    · show [V.int ((a : Int) + (b : Int) - (t : Int) + 1), V.int t] = _
      rw [show (a : Int) + (b : Int) - (t : Int) + 1 = ((a + b - t + 1 : Nat) : Int) by omega]
    · have e : ((fc t : Nat) : Int) * ((fc t : Nat) : Int) * ((ch (a + b - t + 1) t : Nat) : Int) = ((pbt a b t : Nat) : Int) := by
        unfold pbt
        push_cast
        rfl
      show Q (V.int (((fc t : Nat) : Int) * ((fc t : Nat) : Int) * ((ch (a + b - t + 1) t : Nat) : Int))) H
      rw [e]
      exact q
end
end K13

set_option Elab.async false
set_option linter.all false
set_option maxRecDepth 100000
set_option maxHeartbeats 4000000
/-! polars as tables -/
namespace K13
open PySem PySem.Spec PyProof.Rows L2 StX RZ MyR SlX OwnR OwnF EnumT SeqE
/-- at a a list of lists -/
def Tl (H : Hp) (a : Addr) (n m : Nat) (t : Nat → Nat → Int) : Prop := ∃ rs : List Addr, H a = some (.lst (rs.map V.ref)) ∧ Ll H rs n fun k => tb m (t k)
theorem Tl.same {H H' : Hp} {a : Addr} {n m : Nat} {t : Nat → Nat → Int} (h : Tl H a n m t) (s : Same H H') : Tl H' a n m t := by
  obtain ⟨rs, h1, h2⟩ := h
  exact ⟨rs, s _ _ h1, h2.same s⟩
theorem Tl.cong {H : Hp} {a : Addr} {n m : Nat} {t s : Nat → Nat → Int} (h : Tl H a n m t) (e : Eqt n m t s) : Tl H a n m s := by
  obtain ⟨rs, h1, h2⟩ := h
  refine ⟨rs, h1, h2.len, fun k hk => ?_⟩
  rw [h2.row k hk, tb_ext fun j hj => e k j (by have := h2.len; omega) hj]
theorem fdiv_abs {B c : Nat} : ((B : Int).fdiv (c : Nat)).natAbs ≤ B := by
  rw [Int.fdiv_eq_ediv_of_nonneg _ (by omega)]
  have : ((B : Int) / (c : Int)) = ((B / c : Nat) : Int) := by push_cast; rfl
  rw [this]
  show B / c ≤ B
  exact Nat.div_le_self _ _
section
variable {P : Program} {w : World} {K : PySem.W.Frag} {mg : Str → Option Value} {base : Heap}
def spPolar : Sp := fun vs H Q _ => ∃ (e : Addr) (l : List Int) (a b B : Nat), vs = [.ref e, .int a, .int b, .int B] ∧ H e = some (tp l) ∧ l.length = a + b + 1 ∧ a + b ≤ 12 ∧ B < 2 ^ 20 ∧ (∀ z ∈ l, z.natAbs ≤ 2 ^ 300) ∧ ∀ p H', Same H H' → Tl H' p (a + 1) (b + 1) (pol a b B (co l)) → Q (.ref p) H'
theorem ok_polar_table (T : Facts K mg) : FnOk P w K mg base CX0 2 T.f_polar_table T.fd_polar_table ["entries", "first", "second", "bottom"] spPolar := by
  have G_lots_of := ok_lots_of (P := P) (w := w) (base := base) T
  refine T.F_polar_table.ok sc_polar_table (fun vs H Q E h => ?_) (fun cdv A outer s H vs Q E hr h => ?_)
  · obtain ⟨e, l, a, b, B, rfl, _⟩ := h
    rfl
  · obtain ⟨e, l, a, b, B, rfl, he, hl, hab, hB, hb, q⟩ := h
    refine ⟨_, (PSs.nox (pss_cons (ps_set (i := 4) sc_polar_table.nd rfl (.inl rfl) (pe_lst pa_nil))
    (pss_cons (ps_for PassesOwn.never (by rfl) (pi_range1 (by rfl) T.z_range (pa_cons (pe_op op_add (pv 1) pe_int) pa_nil)) (pg_name (i := 5) sc_polar_table.nd rfl (.inl rfl))
      (pss_cons (ps_set (i := 6) sc_polar_table.nd rfl (.inl rfl) (pe_lst pa_nil))
      (pss_cons (ps_for PassesOwn.never (by rfl) (pi_range1 (by rfl) T.z_range (pa_cons (pe_op op_add (pv 2) pe_int) pa_nil)) (pg_name (i := 7) sc_polar_table.nd rfl (.inl rfl))
        (pss_cons (ps_set (i := 8) sc_polar_table.nd rfl (.inl rfl) (pe_op op_fdivZ (pv 3) (pe_call G_lots_of hr (by rfl) T.g_lots_of T.F_lots_of.kp T.b_lots_of .nil pass0 (pa_cons (pe_op op_add (pv 1) (pv 2)) (pa_cons (pe_op op_add (pv 5) (pv 7)) pa_nil)))))
        (pss_one (ps_expr (pe_bm PySem.F.plainAttrs_list PySem.F.slot_list_append PySem.F.type_list_append mt_append (pv 6) (pa_cons (pe_op op_mulW (pe_op op_mulW (pe_op op_mulW (pe_call G_lots_of hr (by rfl) T.g_lots_of T.F_lots_of.kp T.b_lots_of .nil pass0 (pa_cons (pv 1) (pa_cons (pv 5) pa_nil))) (pe_call G_lots_of hr (by rfl) T.g_lots_of T.F_lots_of.kp T.b_lots_of .nil pass0 (pa_cons (pv 2) (pa_cons (pv 7) pa_nil)))) (pv 8)) (pe_ix ix_tup (pv 0) (pe_op op_add (pv 5) (pv 7)) (fun _ _ => rfl))) pa_nil))))))
      (pss_one (ps_expr (pe_bm PySem.F.plainAttrs_list PySem.F.slot_list_append PySem.F.type_list_append mt_append (pv 4) (pa_cons (pv 6) pa_nil)))))))
    (pss_one (ps_ret (pv 4)))))), ?_⟩
    refine ⟨Nat.zero_le _, fun D nD => gen_upd H D _ nD fun H1 s1 f1 => ?_⟩
    refine ⟨_, rfl, _, _, rfl, rfl, (a : Int) + 1, rfl, by omega, by omega, for_range (n := ((a : Int) + 1).toNat) (fun i σ H' => ∃ ss y5 y6 y7 y8, σ = [some (.ref e), some (.int a), some (.int b), some (.int B), some (.ref D), y5, y6, y7, y8] ∧ Same H H' ∧ H' D = some (.lst (ss.map V.ref)) ∧ (∀ r ∈ ss, r ≠ D) ∧ Ll H' ss i fun k => tb (b + 1) (pol a b B (co l) k)) ⟨[], none, none, none, none, rfl, s1, f1, fun r hr => (nomatch hr), rfl, fun k hk => absurd hk (Nat.not_lt_zero k)⟩ (fun i σ H' hi hP => ?_) (fun σ H' hP => ?_)⟩
    · obtain ⟨ss, y5, y6, y7, y8, rfl, sH, hD, ne, ll⟩ := hP
      refine ⟨Nat.zero_le _, fun R nR => gen_upd H' R _ nR fun H2 s2 f2 => ?_⟩
      have nR0 := Same.free sH nR
      have DR : D ≠ R := ne_of_none hD nR
      refine ⟨_, rfl, _, _, rfl, rfl, (b : Int) + 1, rfl, by omega, by omega, for_range (n := ((b : Int) + 1).toNat) (fun j σ H3 => ∃ y7 y8, σ = [some (.ref e), some (.int a), some (.int b), some (.int B), some (.ref D), some (.int (0 + (i : Int))), some (.ref R), y7, y8] ∧ Sx R H2 H3 ∧ H3 R = some (.lst (tab j (pol a b B (co l) i)))) ⟨_, _, rfl, Sx.refl R H2, f2⟩ (fun j σ H3 hj hP => ?_) (fun σ H3 hP => ?_)⟩
      · obtain ⟨y7, y8, rfl, sx, hR⟩ := hP
        have he3 : H3 e = some (tp l) := L2.Same.sx (sH.trans s2) sx nR0 _ _ he
        have hi2 : i ≤ a := by omega
        have hj2 : j ≤ b := by omega
        have cp := ch_pos (show i + j ≤ a + b by omega)
        have c1 := ch_le (a + b) (i + j)
        refine ⟨_, rfl, _, rfl, _, rfl, _, _, rfl, rfl, _, rfl, _, rfl, _, _, rfl, rfl, a + b, i + j, ?_, by omega, by omega, _, _, rfl, rfl, ⟨by omega, log_nat (i := 20) (Nat.lt_of_le_of_lt c1 (Nat.pow_lt_pow_right (by decide) (by omega)))⟩, ?_⟩
        · show [V.int ((a : Int) + (b : Int)), V.int (0 + (i : Int) + (0 + (j : Int)))] = _
          rw [show (a : Int) + (b : Int) = ((a + b : Nat) : Int) by omega, show 0 + (i : Int) + (0 + (j : Int)) = ((i + j : Nat) : Int) by omega]
        have sa : sm ((ch a i : Nat) : Int) := sm_ch (by omega)
        have sb : sm ((ch b j : Nat) : Int) := sm_ch (by omega)
        have ba : ((ch a i : Nat) : Int).natAbs ≤ 2 ^ 12 := Nat.le_trans (ch_le a i) (Nat.pow_le_pow_right (by decide) (by omega))
        have bb : ((ch b j : Nat) : Int).natAbs ≤ 2 ^ 12 := Nat.le_trans (ch_le b j) (Nat.pow_le_pow_right (by decide) (by omega))
        have b1 := abs2 ba bb
        have b2 : ((B : Int).fdiv (ch (a + b) (i + j) : Nat)).natAbs ≤ 2 ^ 20 := Nat.le_trans fdiv_abs (Nat.le_of_lt hB)
        have b3 := abs2 b1 b2
        have hk : i + j < l.length := by omega
        have b4 := hb _ (co_memE hk)
        refine ⟨_, rfl, .inl ⟨rfl, _, SqL.of hR⟩, _, rfl, _, rfl, a, i, ?_, by omega, by omega, _, rfl, _, rfl, b, j, ?_, by omega, by omega, _, _, rfl, rfl, sm_mul sa sb, _, rfl, _, _, rfl, rfl, sm_mul (lt400 (i := 24) (Nat.le_trans b1 (by decide)) (by decide)) (lt400 b2 (by decide)), _, rfl, _, rfl, _, rfl, _, _, rfl, rfl, e, _, i + j, _, rfl, ?_, SqT.of he3, atI_nat (j := i + j) (get_int hk), _, _, rfl, rfl, sm_mul (lt400 (i := 44) (Nat.le_trans b3 (by decide)) (by decide)) (lt400 b4 (by decide)), R, _, _, rfl, rfl, hR, by rw [tab_len]; exact small1000 (by omega), ?_⟩
        · show [V.int (a : Int), V.int (0 + (i : Int))] = _
          rw [Int.zero_add]
        · show [V.int (b : Int), V.int (0 + (j : Int))] = _
          rw [Int.zero_add]
        · show V.int (0 + (i : Int) + (0 + (j : Int))) = _
          rw [Int.zero_add, Int.zero_add]
        refine ⟨_, _, rfl, sx.trans Sx.upd, ?_⟩
        rw [upd_same, ← tab_snoc]
        rfl
      · obtain ⟨y7, y8, rfl, sx, hR⟩ := hP
        rw [show ((b : Int) + 1).toNat = b + 1 by omega, tab_tb] at hR
        refine ⟨_, rfl, .inl ⟨rfl, _, SqL.of (sx _ _ DR (s2 _ _ hD))⟩, _, rfl, D, _, _, rfl, rfl, sx _ _ DR (s2 _ _ hD), by rw [List.length_map, ll.len]; exact small1000 (by omega), ss ++ [R], _, _, _, _, rfl, ?_, by rw [upd_same, List.map_append]; rfl, fun r hr => ?_, ll.snoc (fun k hk => ?_) (by rw [upd_ne (Ne.symm DR)]; exact hR) rfl⟩
        · exact L2.Same.sx (L2.Same.sx (sH.trans s2) sx nR0) Sx.upd nD
        · rcases List.mem_append.mp hr with e | e
          · exact ne r e
          · rw [List.mem_singleton.mp e]
            exact Ne.symm DR
        · have e0 := ll.row k hk
          rw [upd_ne (ne _ (List.getElem_mem hk)), sx _ _ (ne_of_none e0 nR) (s2 _ _ e0), e0]
    · obtain ⟨ss, y5, y6, y7, y8, rfl, sH, hD, ne, ll⟩ := hP
      rw [show ((a : Int) + 1).toNat = a + 1 by omega] at ll
      exact ⟨_, rfl, q D H' sH ⟨ss, hD, ll⟩⟩
end
end K13

set_option Elab.async false
set_option linter.all false
set_option maxRecDepth 100000
set_option maxHeartbeats 4000000
/-! a table times x v - y u, changed in place -/
namespace K13
open PySem PySem.Spec PyProof.Rows L2 StX RZ MyR SlX OwnR OwnF EnumT SeqE
/-- fresh rows that may change -/
structure Gd (H0 H : Hp) (D : Addr) (rs : List Addr) (n m : Nat) (g : Nat → Nat → Int) : Prop where
  lst : H D = some (.lst (rs.map V.ref))
  len : rs.length = n
  row : ∀ k (h : k < rs.length), H rs[k] = some (.lst (tab m (g k)))
  free : Fr H0 rs
  nd : rs.Nodup
  fd : H0 D = none
  same : Same H0 H
theorem Gd.keep {H0 H H' : Hp} {D : Addr} {rs : List Addr} {n m : Nat} {g : Nat → Nat → Int} (h : Gd H0 H D rs n m g) (s : Same H H') : Gd H0 H' D rs n m g :=
  ⟨s _ _ h.lst, h.len, fun k hk => s _ _ (h.row k hk), h.free, h.nd, h.fd, h.same.trans s⟩
theorem Gd.cong {H0 H : Hp} {D : Addr} {rs : List Addr} {n m : Nat} {g f : Nat → Nat → Int} (h : Gd H0 H D rs n m g) (e : Eqt n m g f) : Gd H0 H D rs n m f :=
  ⟨h.lst, h.len, fun k hk => by rw [h.row k hk, tab_tb, tab_tb, tb_ext fun j hj => e k j (by have := h.len; omega) hj], h.free, h.nd, h.fd, h.same⟩
theorem Gd.ne {H0 H : Hp} {D : Addr} {rs : List Addr} {n m : Nat} {g : Nat → Nat → Int} (h : Gd H0 H D rs n m g) {p : Nat} (hp : p < rs.length) : D ≠ rs[p] := fun z => by
  have h1 := h.lst
  have h2 := h.row p hp
  rw [← z, h1] at h2
  have h3 := HO.lst.inj (Option.some.inj h2)
  have h4 : (rs.map V.ref)[0]? = some (V.ref rs[0]) := by
    rw [List.getElem?_map, List.getElem?_eq_getElem (show 0 < rs.length by omega)]
    rfl
  rw [h3] at h4
  have hm : 0 < m := by
    have := (List.getElem?_eq_some_iff.mp h4).1
    rwa [tab_len] at this
  rw [tab_get hm] at h4
  cases h4
theorem Gd.put {H0 H : Hp} {D : Addr} {rs : List Addr} {n m : Nat} {g : Nat → Nat → Int} (h : Gd H0 H D rs n m g) {p q : Nat} (hp : p < rs.length) (v : Int) :
    Gd H0 (upd H rs[p] (.lst ((tab m (g p)).set q (.int v)))) D rs n m fun i j => if i = p ∧ j = q then v else g i j := by
  refine ⟨by rw [upd_ne (h.ne hp)]; exact h.lst, h.len, fun k hk => ?_, h.free, h.nd, h.fd, fun b o e => ?_⟩
  · by_cases c : k = p
    · subst c
      rw [upd_same, tab_set]
      congr 2
      refine congrArg (tab m) (funext fun j => ?_)
      by_cases d : j = q
      · rw [if_pos d, if_pos ⟨rfl, d⟩]
      · rw [if_neg d, if_neg (fun z => d z.2)]
    · have ne : rs[k] ≠ rs[p] := fun z => c ((List.getElem_inj h.nd).mp z)
      rw [upd_ne ne, h.row k hk]
      congr 2
      refine congrArg (tab m) (funext fun j => ?_)
      rw [if_neg (fun z => c z.1)]
  · rw [upd_ne (ne_of_none e (h.free _ (List.getElem_mem hp)))]
    exact h.same _ _ e
theorem Gd.tl {H0 H : Hp} {D : Addr} {rs : List Addr} {n m : Nat} {g : Nat → Nat → Int} (h : Gd H0 H D rs n m g) : Tl H D n m g :=
  ⟨rs, h.lst, h.len, fun k hk => by rw [h.row k hk, tab_tb]⟩
/-- the crossed table so far -/
def cg (m : Nat) (t : Nat → Nat → Int) (i j p q : Nat) : Int := (if 1 ≤ q ∧ q ≤ m ∧ (p < i ∨ p = i ∧ q ≤ j) then t p (q - 1) else 0) - (if 1 ≤ p ∧ q < m ∧ (p ≤ i ∨ p = i + 1 ∧ q < j) then t (p - 1) q else 0)
theorem cg_0 (m : Nat) (t : Nat → Nat → Int) (p q : Nat) : cg m t 0 0 p q = 0 := by
  unfold cg
  rw [if_neg (by omega), if_neg (by omega)]
  rfl
theorem ite_iff {c d : Prop} [Decidable c] [Decidable d] {x : Int} (h : c ↔ d) : (if c then x else 0) = if d then x else 0 := by
  by_cases e : c
  · rw [if_pos e, if_pos (h.mp e)]
  · rw [if_neg e, if_neg (fun z => e (h.mpr z))]
theorem cg_next (m : Nat) (t : Nat → Nat → Int) (i p q : Nat) : cg m t i m p q = cg m t (i + 1) 0 p q := by
  unfold cg
  rw [ite_iff (c := 1 ≤ q ∧ q ≤ m ∧ (p < i ∨ p = i ∧ q ≤ m)) (d := 1 ≤ q ∧ q ≤ m ∧ (p < i + 1 ∨ p = i + 1 ∧ q ≤ 0)) (by omega), ite_iff (c := 1 ≤ p ∧ q < m ∧ (p ≤ i ∨ p = i + 1 ∧ q < m)) (d := 1 ≤ p ∧ q < m ∧ (p ≤ i + 1 ∨ p = i + 1 + 1 ∧ q < 0)) (by omega)]
theorem cg_end {n m : Nat} {t : Nat → Nat → Int} : Eqt (n + 1) (m + 1) (cg m t n 0) (crs n m t) := fun p q hp hq => by
  unfold cg crs
  rw [ite_iff (c := 1 ≤ q ∧ q ≤ m ∧ (p < n ∨ p = n ∧ q ≤ 0)) (d := 1 ≤ q ∧ p < n) (by omega), ite_iff (c := 1 ≤ p ∧ q < m ∧ (p ≤ n ∨ p = n + 1 ∧ q < 0)) (d := 1 ≤ p ∧ q < m) (by omega)]
theorem cg_step {m : Nat} {t : Nat → Nat → Int} {i j : Nat} (hj : j < m) (p q : Nat) :
    (if p = i + 1 ∧ q = j then cg m t i j (i + 1) j - t i j else if p = i ∧ q = j + 1 then cg m t i j i (j + 1) + t i j else cg m t i j p q) = cg m t i (j + 1) p q := by
  by_cases c : p = i + 1 ∧ q = j
  · obtain ⟨rfl, rfl⟩ := c
    rw [if_pos ⟨rfl, rfl⟩]
    unfold cg
    rw [if_neg (c := 1 ≤ q ∧ q ≤ m ∧ (i + 1 < i ∨ i + 1 = i ∧ q ≤ q)) (by omega), if_neg (c := 1 ≤ i + 1 ∧ q < m ∧ (i + 1 ≤ i ∨ i + 1 = i + 1 ∧ q < q)) (by omega), if_neg (c := 1 ≤ q ∧ q ≤ m ∧ (i + 1 < i ∨ i + 1 = i ∧ q ≤ q + 1)) (by omega), if_pos (c := 1 ≤ i + 1 ∧ q < m ∧ (i + 1 ≤ i ∨ i + 1 = i + 1 ∧ q < q + 1)) (by omega), Nat.add_sub_cancel]
    omega
  · rw [if_neg c]
    by_cases d : p = i ∧ q = j + 1
    · obtain ⟨rfl, rfl⟩ := d
      rw [if_pos ⟨rfl, rfl⟩]
      unfold cg
      rw [if_neg (c := 1 ≤ j + 1 ∧ j + 1 ≤ m ∧ (p < p ∨ p = p ∧ j + 1 ≤ j)) (by omega), if_pos (c := 1 ≤ j + 1 ∧ j + 1 ≤ m ∧ (p < p ∨ p = p ∧ j + 1 ≤ j + 1)) (by omega), ite_iff (c := 1 ≤ p ∧ j + 1 < m ∧ (p ≤ p ∨ p = p + 1 ∧ j + 1 < j)) (d := 1 ≤ p ∧ j + 1 < m ∧ (p ≤ p ∨ p = p + 1 ∧ j + 1 < j + 1)) (by omega), Nat.add_sub_cancel]
      omega
    · rw [if_neg d]
      unfold cg
      rw [ite_iff (c := 1 ≤ q ∧ q ≤ m ∧ (p < i ∨ p = i ∧ q ≤ j)) (d := 1 ≤ q ∧ q ≤ m ∧ (p < i ∨ p = i ∧ q ≤ j + 1)) (by omega), ite_iff (c := 1 ≤ p ∧ q < m ∧ (p ≤ i ∨ p = i + 1 ∧ q < j)) (d := 1 ≤ p ∧ q < m ∧ (p ≤ i ∨ p = i + 1 ∧ q < j + 1)) (by omega)]
section
variable {P : Program} {w : World} {K : PySem.W.Frag} {mg : Str → Option Value} {base : Heap}
def spCross : Sp := fun vs H Q _ => ∃ (a : Addr) (n m : Nat) (t : Nat → Nat → Int), vs = [.ref a] ∧ Tl H a n m t ∧ 1 ≤ n ∧ n ≤ 12 ∧ m ≤ 12 ∧ ∀ p H', Same H H' → Tl H' p (n + 1) (m + 1) (crs n m t) → Q (.ref p) H'
theorem ok_times_crossed (T : Facts K mg) : FnOk P w K mg base CX0 1 T.f_times_crossed T.fd_times_crossed ["table"] spCross := by
  refine T.F_times_crossed.ok sc_times_crossed (fun vs H Q E h => ?_) (fun cdv A outer s H vs Q E hr h => ?_)
  · obtain ⟨a, n, m, t, rfl, _⟩ := h
    rfl
  · obtain ⟨a, n, m, t, rfl, ⟨rs, ha, hr⟩, h1, h3, h4, q⟩ := h
    have hrow : ∀ k (h : k < rs.length), H rs[k] = some (.lst (tab m (t k))) := fun k hk => by
      rw [hr.row k hk, tab_tb]
    have lr := hr.len
    refine ⟨_, (PSs.nox (pss_cons (ps_setLc (i := 1) (own := [("at", 2)]) (g := (gName 2)) (tt := tYes) rfl sc_times_crossed.nd rfl rfl (sw_true rfl rfl rfl (by decide +kernel)) (pi_range1 (by rfl) T.z_range (pa_cons (pe_op op_add (pe_callB call_len_seq (by rfl) T.z_len (by decide +kernel) (pa_cons (pv 0) pa_nil)) pe_int) pa_nil)) (blkOk_by (N := N_times_crossed) (sc := defScope s_times_crossed) (by decide +kernel)) (fun _ _ _ _ _ => (pg_name (i := 2) sc_times_crossed.nd rfl (.inl rfl))) (fun _ _ _ _ _ => pts_nil) (fun _ _ _ _ _ => (pe_op op_rep (pe_lst (pa_cons pe_int pa_nil)) (pe_op op_add (pe_callB (call_len_seq : CallR _ _ (Evl.rLenS K)) (by rfl) T.z_len (by decide +kernel) (pa_cons (pe_ix (ix_list : IxR _ (rIxL K)) (pv 0) pe_int (fun _ _ => rfl)) pa_nil)) pe_int))))
    (pss_cons (ps_for PassesOwn.never (by rfl) (pi_enum (by rfl) T.z_enumerate (pa_cons (pv 0) pa_nil)) (pg_tup (by rfl) (pgs_cons (pg_name (i := 3) sc_times_crossed.nd rfl (.inl rfl)) (pgs_cons (pg_name (i := 4) sc_times_crossed.nd rfl (.inl rfl)) pgs_nil)))
      (pss_one (ps_for PassesOwn.never (by rfl) (pi_enum (by rfl) T.z_enumerate (pa_cons (pv 4) pa_nil)) (pg_tup (by rfl) (pgs_cons (pg_name (i := 5) sc_times_crossed.nd rfl (.inl rfl)) (pgs_cons (pg_name (i := 6) sc_times_crossed.nd rfl (.inl rfl)) pgs_nil)))
        (pss_cons (ps_augS (pe_ix ix_list (pv 1) (pv 3) (fun _ _ => rfl)) (pe_op op_add (pv 5) pe_int) OwnC.get_list (pv 6) ip_add set_list)
        (pss_one (ps_augS (pe_ix ix_list (pv 1) (pe_op op_add (pv 3) pe_int) (fun _ _ => rfl)) (pv 5) OwnC.get_list (pv 6) ip_sub set_list))))))
    (pss_one (ps_ret (pv 1)))))), ?_⟩
    refine ⟨_, rfl, a, _, rfl, .inl (SqL.of ha), _, _, rfl, rfl, (n : Int) + 1, ?_, by omega, by omega, fun D nD => lc_range (n := ((n : Int) + 1).toNat) (fun i H' => ∃ ss, Gd H H' D ss i (m + 1) fun _ _ => 0) ⟨[], upd_same, rfl, fun k hk => absurd hk (Nat.not_lt_zero k), fun r hr => (nomatch hr), List.nodup_nil, nD, same_upd0 nD⟩ (fun i H' hi hP => ?_) (fun H' hP => ?_)⟩
    · rw [List.length_map, lr]
    · obtain ⟨ss, G⟩ := hP
      have r0 := G.same _ _ (hrow 0 (by omega))
      refine ⟨rfl, by show 1 ≤ sizeLine; decide, fun p0 n0 => gen_upd H' p0 (.lst [.int 0]) n0 fun H2 s2 f2 => ?_⟩
      have G2 := G.keep s2
      refine ⟨_, rfl, a, _, 0, _, rfl, rfl, SqL.of (G2.same _ _ ha), atI_nat (j := 0) (v := .ref rs[0]) (by rw [List.getElem?_map, List.getElem?_eq_getElem (show 0 < rs.length by omega)]; rfl), rs[0], _, rfl, .inl (SqL.of (s2 _ _ r0)), _, _, rfl, rfl, ?_⟩
      rw [tab_len]
      have hz1 : [V.int 0].length * ((m : Int) + 1).toNat ≤ sizeLine := by
        have hz : (1000 : Nat) ≤ sizeLine := by decide
        show 1 * ((m : Int) + 1).toNat ≤ sizeLine
        omega
      refine ⟨p0, (m : Int) + 1, _, rfl, rfl, f2, by omega, by omega, hz1, fun R nR => ?_⟩
      rw [show ((m : Int) + 1).toNat = m + 1 by omega, tab_rep0]
      refine gen_upd H2 R _ nR fun H3 s3 f3 => ?_
      have G3 := G2.keep s3
      have nD3 : R ≠ D := fun z => by
        rw [z, G2.lst] at nR
        cases nR
      have G0 := G.len
      refine ⟨_, G3.lst, by rw [List.length_map, G.len]; exact small1000 (by omega), ss ++ [R], ?_⟩
      refine ⟨by rw [upd_same, List.map_append]; rfl, by rw [List.length_append, G.len]; rfl, fun k hk => ?_, G.free.snoc (Same.free (G2.same) nR), ?_, nD, fun b o e => ?_⟩
      · by_cases c : k < ss.length
        · rw [show (ss ++ [R])[k] = ss[k] from List.getElem_append_left _, upd_ne (Ne.symm (G3.ne c))]
          exact G3.row k c
        · have ek : k = ss.length := by rw [List.length_append] at hk; simp at hk; omega
          subst ek
          rw [show (ss ++ [R])[ss.length] = R by rw [List.getElem_append_right (Nat.le_refl _)]; simp, upd_ne nD3]
          exact f3
      · rw [List.nodup_append]
        refine ⟨G.nd, by simp, fun x hx y hy => ?_⟩
        rw [List.mem_singleton.mp hy]
        intro z
        obtain ⟨k, hk, ek⟩ := List.getElem_of_mem hx
        have := G2.row k hk
        rw [ek, z, nR] at this
        cases this
      · rw [upd_ne (ne_of_none e nD)]
        exact G3.same _ _ e
    · obtain ⟨ss, G⟩ := hP
      rw [show ((n : Int) + 1).toNat = n + 1 by omega] at G
      have ls := G.len
      refine ⟨_, rfl, a, _, rfl, SqL.of (G.same _ _ ha), for_enum (xs := rs.map V.ref) (fun i σ H' => ∃ y3 y4 y5 y6, σ = [some (.ref a), some (.ref D), none, y3, y4, y5, y6] ∧ Gd H H' D ss (n + 1) (m + 1) (cg m t i 0)) ⟨none, none, none, none, rfl, G.cong fun p q _ _ => (cg_0 m t p q).symm⟩ (fun i σ H' hP => ?_) (fun i x B σ H' hx hP hB => ?_) (fun σ H' hP => ?_)⟩
      · obtain ⟨_, _, _, _, _, G1⟩ := hP
        exact SqL.of (G1.same _ _ ha)
      · obtain ⟨y3, y4, y5, y6, rfl, G1⟩ := hP
        obtain ⟨hi, rfl⟩ := get_ref hx
        refine ⟨B, _, rfl, SqT.of upd_same, rfl, _, _, rfl, _, _, rfl, rfl, ?_⟩
        refine gen_upd H' B _ hB fun H2 s2 _ => ?_
        have G2 := G1.keep s2
        refine ⟨_, rfl, rs[i], _, rfl, SqL.of (G2.same _ _ (hrow i hi)), for_enum (xs := tab m (t i)) (fun j σ H3 => ∃ y5 y6, σ = [some (.ref a), some (.ref D), none, some (.int ((i : Nat) : Int)), some (.ref rs[i]), y5, y6] ∧ Gd H H3 D ss (n + 1) (m + 1) (cg m t i j)) ⟨y5, y6, rfl, G2⟩ (fun j σ H3 hP => ?_) (fun j y B2 σ H3 hy hP hB2 => ?_) (fun σ H3 hP => ?_)⟩
        · obtain ⟨_, _, _, G3⟩ := hP
          exact SqL.of (G3.same _ _ (hrow i hi))
        · obtain ⟨y5, y6, rfl, G3⟩ := hP
          obtain ⟨hj, rfl⟩ := tab_int hy
          refine ⟨B2, _, rfl, SqT.of upd_same, rfl, _, _, rfl, _, _, rfl, rfl, ?_⟩
          refine gen_upd H3 B2 _ hB2 fun H4 s4 _ => ?_
          have G4 := G3.keep s4
          have at_ : ∀ {p : Nat} (hp : p < ss.length), (ss.map V.ref)[p]? = some (V.ref ss[p]) := fun {p} hp => by
            rw [List.getElem?_map, List.getElem?_eq_getElem hp]
            rfl
          have hi1 : i < ss.length := by omega
          have hi2 : i + 1 < ss.length := by omega
          refine ⟨_, rfl, _, rfl, D, _, i, _, rfl, rfl, SqL.of G4.lst, atI_nat (j := i) (at_ hi1), _, rfl, _, _, rfl, rfl, ss[i], _, j + 1, _, rfl, rfl, SqL.of (G4.row i hi1), tab_get (by omega), _, rfl, _, _, rfl, rfl, ss[i], _, _, j + 1, rfl, rfl, G4.row i hi1, ?_, ?_⟩
          · rw [tab_len]
            exact ix_at rfl (by omega)
          have G5 := G4.put (q := j + 1) hi1 (cg m t i j i (j + 1) + t i j)
          refine ⟨_, rfl, _, rfl, _, _, rfl, rfl, D, _, i + 1, _, rfl, rfl, SqL.of G5.lst, atI_nat (j := i + 1) (at_ hi2), _, rfl, ss[i + 1], _, j, _, rfl, rfl, SqL.of (G5.row (i + 1) hi2), tab_get (by omega), _, rfl, _, _, rfl, rfl, ss[i + 1], _, _, j, rfl, rfl, G5.row (i + 1) hi2, ?_, ?_⟩
          · rw [tab_len]
            exact ix_at rfl (by omega)
          refine ⟨_, _, rfl, ?_⟩
          refine (G5.put (q := j) hi2 _).cong fun p q hp hq => ?_
          show (if p = i + 1 ∧ q = j then (if i + 1 = i ∧ j = j + 1 then cg m t i j i (j + 1) + t i j else cg m t i j (i + 1) j) - t i j else if p = i ∧ q = j + 1 then cg m t i j i (j + 1) + t i j else cg m t i j p q) = _
          rw [← cg_step hj p q]
          by_cases c : p = i + 1 ∧ q = j
          · rw [if_pos c, if_pos c, if_neg (show ¬ (i + 1 = i ∧ j = j + 1) by omega)]
          · rw [if_neg c, if_neg c]
        · obtain ⟨y5, y6, rfl, G3⟩ := hP
          rw [tab_len] at G3
          exact ⟨_, _, _, _, rfl, G3.cong fun p q _ _ => cg_next m t i p q⟩
      · obtain ⟨y3, y4, y5, y6, rfl, G1⟩ := hP
        rw [List.length_map, lr] at G1
        exact ⟨_, rfl, q D H' G1.same (G1.cong cg_end).tl⟩
end
end K13

set_option Elab.async false
set_option linter.all false
set_option maxRecDepth 100000
set_option maxHeartbeats 4000000
set_option exponentiation.threshold 10000
/-! the table of some parts, times a number -/
namespace K13
open PySem PySem.Spec PyProof.Rows L2 StX RZ MyR SlX OwnR OwnF EnumT SeqE
theorem pol_le {a b B : Nat} {l : List Int} (hl : l.length = a + b + 1) (hab : a + b ≤ 12) (hB : B < 2 ^ 20) (hb : ∀ z ∈ l, z.natAbs ≤ 2 ^ 300) : Tle (a + 1) (b + 1) (2 ^ 344) (pol a b B (co l)) := fun i j hi hj => by
  have ba : ((ch a i : Nat) : Int).natAbs ≤ 2 ^ 12 := Nat.le_trans (ch_le a i) (Nat.pow_le_pow_right (by decide) (by omega))
  have bb : ((ch b j : Nat) : Int).natAbs ≤ 2 ^ 12 := Nat.le_trans (ch_le b j) (Nat.pow_le_pow_right (by decide) (by omega))
  have b2 : ((B : Int).fdiv (ch (a + b) (i + j) : Nat)).natAbs ≤ 2 ^ 20 := Nat.le_trans fdiv_abs (Nat.le_of_lt hB)
  exact Nat.le_trans (abs2 (abs2 (abs2 ba bb) b2) (hb _ (co_memE (show i + j < l.length by omega)))) (by decide)
theorem crs_le {n m X : Nat} {t : Nat → Nat → Int} (h : Tle n m X t) : Tle (n + 1) (m + 1) (2 * X) (crs n m t) := fun i j hi hj => by
  unfold crs
  have h1 : ((if 1 ≤ j ∧ i < n then t i (j - 1) else 0) : Int).natAbs ≤ X := by
    split
    · exact h _ _ (by omega) (by omega)
    · exact Nat.zero_le _
  have h2 : ((if 1 ≤ i ∧ j < m then t (i - 1) j else 0) : Int).natAbs ≤ X := by
    split
    · exact h _ _ (by omega) (by omega)
    · exact Nat.zero_le _
  omega
theorem css_le {n m X : Nat} {t : Nat → Nat → Int} (h : Tle n m X t) : ∀ u, Tle (n + u) (m + u) (2 ^ u * X) (css n m t u)
  | 0 => by
    rw [Nat.pow_zero, Nat.one_mul]
    exact h
  | u + 1 => by
    have := crs_le (css_le h u)
    rw [← Nat.mul_assoc, Nat.mul_comm 2 (2 ^ u), ← Nat.pow_succ] at this
    exact this
section
variable {a b W : Nat} {h : Nat → List Int}
theorem cs_le (ha : a ≤ 6) (hb : b ≤ 6) (hab : a + b ≤ 10) {k : Nat} (hk : k ≤ a) (hk2 : k ≤ b) (hl : (h k).length = a + b - 2 * k + 1) (hs : ∀ z ∈ h k, z.natAbs ≤ 2 ^ 300) :
    Tle (a + 1) (b + 1) (2 ^ 350) (css (a - k + 1) (b - k + 1) (pol (a - k) (b - k) (lob (a + b - 2 * k)) (co (h k))) k) := by
  have := css_le (pol_le (a := a - k) (b := b - k) (B := lob (a + b - 2 * k)) (by omega) (by omega) (lobs _ (by omega)).1.1 hs) k
  rw [show a - k + 1 + k = a + 1 by omega, show b - k + 1 + k = b + 1 by omega] at this
  exact fun i j hi hj => Nat.le_trans (this i j hi hj) (by
    rw [← Nat.pow_add]
    exact Nat.pow_le_pow_right (by decide) (by omega))
theorem fw_le (hW : W ≤ 2 ^ 60) (ha : a ≤ 6) (hb : b ≤ 6) (hab : a + b ≤ 10) : ∀ k, k ≤ a + 1 → k ≤ b + 1 → (∀ u, u < k → (h u).length = a + b - 2 * u + 1 ∧ ∀ z ∈ h u, z.natAbs ≤ 2 ^ 300) → Tle (a + 1) (b + 1) (k * 2 ^ 410) (fw a b W (fun u κ => co (h u) κ) k)
  | 0, _, _, _ => fun _ _ _ _ => Nat.zero_le _
  | k + 1, h1, h2, hh => fun i j hi hj => by
    have ih := fw_le hW ha hb hab k (by omega) (by omega) (fun u hu => hh u (by omega)) i j hi hj
    have c := cs_le ha hb hab (show k ≤ a by omega) (show k ≤ b by omega) (hh k (Nat.lt_succ_self k)).1 (hh k (Nat.lt_succ_self k)).2 i j hi hj
    have f : ((W : Int).fdiv (shb a b k : Nat)).natAbs ≤ 2 ^ 60 := Nat.le_trans fdiv_abs hW
    have m := abs2 f c
    show (_ + _ : Int).natAbs ≤ _
    refine Nat.le_trans (Int.natAbs_add_le _ _) (Nat.le_trans (Nat.add_le_add ih m) ?_)
    have e : 2 ^ 60 * 2 ^ 350 = 2 ^ 410 := by rw [← Nat.pow_add]
    rw [e]
    exact Nat.le_of_eq (Nat.succ_mul k (2 ^ 410)).symm
end
section
variable {P : Program} {w : World} {K : PySem.W.Frag} {mg : Str → Option Value} {base : Heap}
def spWholeT (C : Addr) : Sp := fun vs H Q _ => ∃ (ps : Addr) (fs : List Addr) (a b : Nat) (h : Nat → List Int), vs = [.int a, .int b, .ref ps] ∧ H ps = some (.tup (fs.map V.ref)) ∧ fs.length = min a b + 1 ∧ (∀ u (hu : u < fs.length), Fo C H fs[u] (h u)) ∧ (∀ u, u < fs.length → (h u).length = a + b - 2 * u + 1 ∧ ∀ z ∈ h u, z.natAbs ≤ 2 ^ 300) ∧ a + b ≤ 10 ∧ a ≤ 6 ∧ b ≤ 6 ∧
  ∀ p r H', Same H H' → H' p = some (.tup [.ref r, .int (whW a b (min a b + 1) : Nat)]) → Tl H' r (a + 1) (b + 1) (fw a b (whW a b (min a b + 1)) (fun u κ => co (h u) κ) (min a b + 1)) → Q (.ref p) H'
theorem ok_whole_table (T : Facts K mg) : FnOk P w K mg base CX0 3 T.f_whole_table T.fd_whole_table ["first", "second", "parts"] (spWholeT T.C_Form) := by
  have G_lots_bottom := ok_lots_bottom (P := P) (w := w) (base := base) T
  have G_part_bottom := ok_part_bottom (P := P) (w := w) (base := base) T
  have G_polar_table := ok_polar_table (P := P) (w := w) (base := base) T
  have G_times_crossed := ok_times_crossed (P := P) (w := w) (base := base) T
  have G_Form_entries := ok_Form_entries (P := P) (w := w) (base := base) T
  refine T.F_whole_table.ok sc_whole_table (fun vs H Q E h => ?_) (fun cdv A outer s H vs Q E hr h => ?_)
  · obtain ⟨ps, fs, a, b, h, rfl, _⟩ := h
    rfl
  · obtain ⟨ps, fs, a, b, h, rfl, hps, lf, hf, hh, hab, ha, hb, q⟩ := h
    refine ⟨_, (PSs.nox (pss_cons (ps_par (i := 3) (j := 4) (by rfl) sc_whole_table.nd rfl rfl (by decide) rfl rfl (pa_cons (pe_lst pa_nil) (pa_cons pe_int pa_nil)) (by rfl))
    (pss_cons (ps_for PassesOwn.never (by rfl) (pi_enumT (by rfl) T.z_enumerate (pa_cons (pv 2) pa_nil)) (pg_tup (by rfl) (pgs_cons (pg_name (i := 5) sc_whole_table.nd rfl (.inl rfl)) (pgs_cons (pg_name (i := 6) sc_whole_table.nd rfl (.inl rfl)) pgs_nil)))
      (pss_cons (ps_expr (pe_bm PySem.F.plainAttrs_list PySem.F.slot_list_append PySem.F.type_list_append mt_append (pv 3) (pa_cons (pe_call G_lots_bottom hr (by rfl) T.g_lots_bottom T.F_lots_bottom.kp T.b_lots_bottom .nil pass0 (pa_cons (pe_op op_sub (pe_callB call_len_seq (by rfl) T.z_len (by decide +kernel) (pa_cons (pe_prp (pv 6) T.oc_Form T.pr_Form_entries G_Form_entries T.b_Form_entries (hr.mono (by decide))) pa_nil)) pe_int) pa_nil)) pa_nil)))
      (pss_one (ps_set (i := 4) sc_whole_table.nd rfl (.inl rfl) (pe_callBfun LcmX.cr_lcm (by rfl) T.m_lcm (pa_cons (pv 4) (pa_cons (pe_op op_mulW (pe_ix ix_list (pv 3) (pv 5) (fun _ _ => rfl)) (pe_call G_part_bottom hr (by rfl) T.g_part_bottom T.F_part_bottom.kp T.b_part_bottom .nil pass0 (pa_cons (pv 0) (pa_cons (pv 1) (pa_cons (pv 5) pa_nil))))) pa_nil)))))))
    (pss_cons (ps_setLc (i := 7) (own := [("at", 8)]) (g := (gName 8)) (tt := tYes) rfl sc_whole_table.nd rfl rfl (sw_true rfl rfl rfl (by decide +kernel)) (pi_range1 (by rfl) T.z_range (pa_cons (pe_op op_add (pv 0) pe_int) pa_nil)) (blkOk_by (N := N_whole_table) (sc := defScope s_whole_table) (by decide +kernel)) (fun _ _ _ _ _ => (pg_name (i := 8) sc_whole_table.nd rfl (.inl rfl))) (fun _ _ _ _ _ => pts_nil) (fun _ _ _ _ _ => (pe_op op_rep (pe_lst (pa_cons pe_int pa_nil)) (pe_op op_add (pv 1) pe_int))))
    (pss_cons (ps_for PassesOwn.never (by rfl) (pi_enumT (by rfl) T.z_enumerate (pa_cons (pv 2) pa_nil)) (pg_tup (by rfl) (pgs_cons (pg_name (i := 5) sc_whole_table.nd rfl (.inl rfl)) (pgs_cons (pg_name (i := 6) sc_whole_table.nd rfl (.inl rfl)) pgs_nil)))
      (pss_cons (ps_set (i := 9) sc_whole_table.nd rfl (.inl rfl) (pe_call G_polar_table hr (by rfl) T.g_polar_table T.F_polar_table.kp T.b_polar_table .nil pass0 (pa_cons (pe_prp (pv 6) T.oc_Form T.pr_Form_entries G_Form_entries T.b_Form_entries (hr.mono (by decide))) (pa_cons (pe_op op_sub (pv 0) (pv 5)) (pa_cons (pe_op op_sub (pv 1) (pv 5)) (pa_cons (pe_ix ix_list (pv 3) (pv 5) (fun _ _ => rfl)) pa_nil))))))
      (pss_cons (ps_for PassesOwn.never (by rfl) (pi_range1 (by rfl) T.z_range (pa_cons (pv 5) pa_nil)) (pg_name (i := 10) sc_whole_table.nd rfl (.inl rfl))
        (pss_one (ps_set (i := 9) sc_whole_table.nd rfl (.inl rfl) (pe_call G_times_crossed (hr.mono (by decide)) (by rfl) T.g_times_crossed T.F_times_crossed.kp T.b_times_crossed .nil pass0 (pa_cons (pv 9) pa_nil)))))
      (pss_cons (ps_set (i := 11) sc_whole_table.nd rfl (.inr rfl) (pe_op op_fdivZ (pv 4) (pe_op op_mulW (pe_ix ix_list (pv 3) (pv 5) (fun _ _ => rfl)) (pe_call G_part_bottom hr (by rfl) T.g_part_bottom T.F_part_bottom.kp T.b_part_bottom .nil pass0 (pa_cons (pv 0) (pa_cons (pv 1) (pa_cons (pv 5) pa_nil)))))))
      (pss_one (ps_setLc (i := 7) (own := [("row", 14), ("line", 15)]) (g := (gTup K 2 (gCons (gName 14) (gCons (gName 15) gNil)))) (tt := tYes) rfl sc_whole_table.nd rfl rfl (sw_true rfl rfl rfl (by decide +kernel)) (pi_zipA (by rfl) T.z_zip (pa_cons (pv 7) (pa_cons (pv 9) pa_nil))) (blkOk_by (N := N_whole_table) (sc := defScope s_whole_table) (by decide +kernel)) (fun _ _ _ _ _ => (pg_tup (by rfl) (pgs_cons (pg_name (i := 14) sc_whole_table.nd rfl (.inl rfl)) (pgs_cons (pg_name (i := 15) sc_whole_table.nd rfl (.inl rfl)) pgs_nil)))) (fun _ _ _ _ _ => pts_nil) (fun _ _ _ _ _ => (pe_lc (own := [("one", 12), ("other", 13)]) (g := (gTup K 2 (gCons (gName 12) (gCons (gName 13) gNil)))) (tt := tYes) (by rfl) sc_whole_table.nd (pi_zipA (by rfl) T.z_zip (pa_cons (pv 14) (pa_cons (pv 15) pa_nil)) : PI _ _ _ (iZipA K _)) (blkOk_by (N := N_whole_table) (sc := relS _ (defScope s_whole_table)) (by decide +kernel)) (fun _ _ _ _ _ => (pg_tup (by rfl) (pgs_cons (pg_name (i := 12) sc_whole_table.nd rfl (.inl rfl)) (pgs_cons (pg_name (i := 13) sc_whole_table.nd rfl (.inl rfl)) pgs_nil)))) (fun _ _ _ _ _ => pts_nil) (fun _ _ _ _ _ => (pe_op op_add (pv 12) (pe_op op_mulW (pv 11) (pv 13))))))))))))
    (pss_one (ps_ret (pe_tup (pa_cons (pv 7) (pa_cons (pv 4) pa_nil)))))))))), ?_⟩
    have nm := nums a (by omega) b (by omega)
    refine ⟨Nat.zero_le _, fun S nS => ⟨_, _, rfl, gen_upd H S (.lst []) nS fun H1 s1 f1 => ?_⟩⟩
    refine ⟨_, rfl, ps, _, rfl, SqT.of (s1 _ _ hps), for_enumT (xs := fs.map V.ref) (fun k σ H' => ∃ y5 y6, σ = [some (.int a), some (.int b), some (.ref ps), some (.ref S), some (.int (whW a b k : Nat)), y5, y6, none, none, none, none, none, none, none, none, none] ∧ Same H H' ∧ H' S = some (.lst (tab k fun u => (lob (a + b - 2 * u) : Nat)))) ⟨none, none, rfl, s1, f1⟩ (fun k σ H' hP => ?_) (fun k x B σ H' hx hP hB => ?_) (fun σ H' hP => ?_)⟩
    · obtain ⟨_, _, _, sH, _⟩ := hP
      exact SqT.of (sH _ _ hps)
    · obtain ⟨y5, y6, rfl, sH, hS⟩ := hP
      obtain ⟨hk, rfl⟩ := get_ref hx
      refine ⟨B, _, rfl, SqT.of upd_same, rfl, _, _, rfl, _, _, rfl, rfl, ?_⟩
      refine gen_upd H' B _ hB fun H2 s2 _ => ?_
      have hS2 := s2 _ _ hS
      have fo := (hf k hk).same (sH.trans s2)
      obtain ⟨hl, hz⟩ := hh k hk
      have hW := nm.2 k (by omega)
      have hb1 := nm.1 k (by omega)
      refine ⟨_, rfl, .inl ⟨rfl, _, SqL.of hS2⟩, _, rfl, prop_ent fo fun t ht => ⟨t, _, rfl, .inr (SqT.of ht), _, _, rfl, rfl, ?_⟩⟩
      rw [List.length_map, hl]
      refine ⟨a + b - 2 * k, ?_, by omega, S, _, _, rfl, rfl, hS2, by rw [tab_len]; exact small1000 (by omega), ?_⟩
      · show [V.int (((a + b - 2 * k + 1 : Nat) : Int) - 1)] = _
        rw [show ((a + b - 2 * k + 1 : Nat) : Int) - 1 = ((a + b - 2 * k : Nat) : Int) by omega]
      have hS3 : upd H2 S (.lst (tab k (fun u => ((lob (a + b - 2 * u) : Nat) : Int)) ++ [V.int (lob (a + b - 2 * k) : Nat)])) S = some (.lst (tab (k + 1) fun u => ((lob (a + b - 2 * u) : Nat) : Int))) := by
        rw [upd_same, tab_snoc]
      have sm3 : Same H (upd H2 S (.lst (tab k (fun u => ((lob (a + b - 2 * u) : Nat) : Int)) ++ [V.int (lob (a + b - 2 * k) : Nat)]))) := fun d o e => by
        rw [upd_ne (ne_of_none e nS)]
        exact s2 _ _ (sH _ _ e)
      generalize (upd H2 S (.lst (tab k (fun u => ((lob (a + b - 2 * u) : Nat) : Int)) ++ [V.int (lob (a + b - 2 * k) : Nat)]))) = H3 at hS3 sm3 ⊢
      have lo := (lobs (a + b - 2 * k) (by omega)).1.1
      have e1 : ((lob (a + b - 2 * k) : Nat) : Int) * ((pbt a b k : Nat) : Int) = ((shb a b k : Nat) : Int) := by
        unfold shb
        push_cast
        rfl
      refine ⟨_, rfl, _, rfl, _, rfl, S, _, k, _, rfl, rfl, SqL.of hS3, atI_nat (j := k) (tab_get (Nat.lt_succ_self k)), _, rfl, _, rfl, _, rfl, a, b, k, rfl, by omega, by omega, by omega, _, _, rfl, rfl, sm_mul (sm_nat (Nat.le_of_lt lo)) (sm_nat (i := 60) ?_), _, _, rfl, ?_, ?_, ?_⟩
      · have p0 : 0 < lob (a + b - 2 * k) := (lobs _ (by omega)).1.2
        have : pbt a b k ≤ shb a b k := Nat.le_mul_of_pos_left _ p0
        exact Nat.le_trans this (Nat.le_of_lt hb1.1)
      · exact Nat.lt_trans (show ((whW a b k : Nat) : Int).natAbs < 2 ^ 60 by omega) (by decide)
      · rw [e1]
        exact Nat.lt_trans (show ((shb a b k : Nat) : Int).natAbs < 2 ^ 60 by omega) (by decide)
      · refine ⟨some (.int ((k : Nat) : Int)), some (.ref fs[k]), ?_, sm3, hS3⟩
        rw [e1]
        rfl
    · obtain ⟨y5, y6, rfl, sH, hS⟩ := hP
      rw [List.length_map] at hS ⊢
      have eW : whW a b fs.length = whW a b (min a b + 1) := by rw [lf]
      rw [eW]
      obtain ⟨W, hWe⟩ : ∃ W, W = whW a b (min a b + 1) := ⟨_, rfl⟩
      rw [← hWe]
      have hW60 : W < 2 ^ 60 := by
        rw [hWe]
        exact nm.2 _ (by omega)
      refine ⟨_, rfl, _, _, rfl, rfl, (a : Int) + 1, rfl, by omega, by omega, fun F nF => lc_range (n := ((a : Int) + 1).toNat) (fun i H3 => Same H' H3 ∧ ∃ ss, H3 F = some (.lst (ss.map V.ref)) ∧ (∀ r ∈ ss, r ≠ F) ∧ Ll H3 ss i fun _ => tb (b + 1) fun _ => 0) ⟨same_upd0 nF, [], upd_same, fun r hr => (nomatch hr), rfl, fun k hk => absurd hk (Nat.not_lt_zero k)⟩ (fun i H3 hi hP => ?_) (fun H3 hP => ?_)⟩
      · obtain ⟨s3, ss, hF, ne, ll⟩ := hP
        refine ⟨rfl, by show 1 ≤ sizeLine; decide, fun p0 n0 => gen_upd H3 p0 (.lst [.int 0]) n0 fun H4 s4 f4 => ?_⟩
        have hz1 : [V.int 0].length * ((b : Int) + 1).toNat ≤ sizeLine := by
          have hz : (1000 : Nat) ≤ sizeLine := by decide
          show 1 * ((b : Int) + 1).toNat ≤ sizeLine
          omega
        refine ⟨_, rfl, _, _, rfl, rfl, p0, (b : Int) + 1, _, rfl, rfl, f4, by omega, by omega, hz1, fun R nR => ?_⟩
        rw [show ((b : Int) + 1).toNat = b + 1 by omega, tab_rep0]
        refine gen_upd H4 R _ nR fun H5 s5 f5 => ?_
        have hF5 := s5 _ _ (s4 _ _ hF)
        have RF : R ≠ F := fun z => by
          rw [z, s4 _ _ hF] at nR
          cases nR
        refine ⟨_, hF5, by rw [List.length_map, ll.len]; exact small1000 (by omega), fun d o e => ?_, ss ++ [R], by rw [upd_same, List.map_append]; rfl, fun r hr => ?_, ll.snoc (fun k hk => ?_) (by rw [upd_ne RF, f5, tab_tb]) rfl⟩
        · rw [upd_ne (ne_of_none e nF)]
          exact s5 _ _ (s4 _ _ (s3 _ _ e))
        · rcases List.mem_append.mp hr with e | e
          · exact ne r e
          · rw [List.mem_singleton.mp e]
            exact RF
        · have e0 := ll.row k hk
          rw [upd_ne (ne _ (List.getElem_mem hk)), s5 _ _ (s4 _ _ e0), e0]
      · obtain ⟨s3, ss, hF, ne, ll⟩ := hP
        rw [show ((a : Int) + 1).toNat = a + 1 by omega] at ll
        have tl0 : Tl H3 F (a + 1) (b + 1) (fw a b W (fun u κ => co (h u) κ) 0) := ⟨ss, hF, ll⟩
        have s03 := sH.trans s3
        have hS3 := s3 _ _ hS
        rw [lf] at hS3
        refine ⟨_, rfl, ps, _, rfl, SqT.of (s03 _ _ hps), for_enumT (xs := fs.map V.ref) (fun k σ H' => ∃ y5 y6 y9 y10 y11 F, σ = [some (.int a), some (.int b), some (.ref ps), some (.ref S), some (.int W), y5, y6, some (.ref F), none, y9, y10, y11, none, none, none, none] ∧ Same H3 H' ∧ Tl H' F (a + 1) (b + 1) (fw a b W (fun u κ => co (h u) κ) k)) ⟨_, _, _, _, _, F, rfl, fun _ _ z => z, tl0⟩ (fun k σ H' hP => ?_) (fun k x B σ H' hx hP hB => ?_) (fun σ H' hP => ?_)⟩
        · obtain ⟨_, _, _, _, _, _, _, sH, _⟩ := hP
          exact SqT.of (sH _ _ (s03 _ _ hps))
        · obtain ⟨y5, y6, y9, y10, y11, F, rfl, s4, tF⟩ := hP
          obtain ⟨hk, rfl⟩ := get_ref hx
          refine ⟨B, _, rfl, SqT.of upd_same, rfl, _, _, rfl, _, _, rfl, rfl, ?_⟩
          refine gen_upd H' B _ hB fun H5 s5 _ => ?_
          have s35 := s4.trans s5
          have hS5 := s35 _ _ hS3
          have fo := (hf k hk).same (s03.trans s35)
          obtain ⟨hl, hz⟩ := hh k hk
          have hk' : k < min a b + 1 := by omega
          have hka : k ≤ a := by omega
          have hkb : k ≤ b := by omega
          have tF5 := tF.same s5
          have lo := (lobs (a + b - 2 * k) (by omega)).1
          have hb1 := nm.1 k (by omega)
          refine ⟨_, rfl, prop_ent fo fun t ht => ⟨_, rfl, _, rfl, _, _, rfl, rfl, _, rfl, _, rfl, _, _, rfl, rfl, _, rfl, _, rfl, S, _, k, _, rfl, rfl, SqL.of hS5, atI_nat (j := k) (tab_get hk'), t, h k, a - k, b - k, lob (a + b - 2 * k), ?_, ht, by omega, by omega, lo.1, hz, fun p6 H6 s6 t6 => ?_⟩⟩
          · show [V.ref t, V.int ((a : Int) - (k : Int)), V.int ((b : Int) - (k : Int)), V.int ((lob (a + b - 2 * k) : Nat) : Int)] = _
            rw [show (a : Int) - (k : Int) = ((a - k : Nat) : Int) by omega, show (b : Int) - (k : Int) = ((b - k : Nat) : Int) by omega]
          refine ⟨_, rfl, k, rfl, by omega, by omega, for_range (n := (k : Int).toNat) (fun u σ H7 => ∃ y10 p, σ = [some (.int a), some (.int b), some (.ref ps), some (.ref S), some (.int W), some (.int ((k : Nat) : Int)), some (.ref fs[k]), some (.ref F), none, some (.ref p), y10, y11, none, none, none, none] ∧ Same H6 H7 ∧ Tl H7 p (a - k + 1 + u) (b - k + 1 + u) (css (a - k + 1) (b - k + 1) (pol (a - k) (b - k) (lob (a + b - 2 * k)) (co (h k))) u)) ⟨y10, p6, rfl, fun _ _ z => z, t6⟩ (fun u σ H7 hu hP => ?_) (fun σ H7 hP => ?_)⟩
          · obtain ⟨y10, p, rfl, s7, t7⟩ := hP
            exact ⟨_, rfl, p, _, _, _, rfl, t7, by omega, by omega, by omega, fun p8 H8 s8 t8 => ⟨_, _, rfl, s7.trans s8, t8⟩⟩
          · obtain ⟨y10, p, rfl, s7, t7⟩ := hP
            rw [Int.toNat_natCast, show a - k + 1 + k = a + 1 by omega, show b - k + 1 + k = b + 1 by omega] at t7
            have s57 := s6.trans s7
            have hS7 := s57 _ _ hS5
            have e1 : ((lob (a + b - 2 * k) : Nat) : Int) * ((pbt a b k : Nat) : Int) = ((shb a b k : Nat) : Int) := by
              unfold shb
              push_cast
              rfl
            have sp := hb1.2 hka hkb
            refine ⟨_, rfl, _, rfl, _, rfl, S, _, k, _, rfl, rfl, SqL.of hS7, atI_nat (j := k) (tab_get hk'), _, rfl, _, rfl, _, rfl, a, b, k, rfl, by omega, by omega, by omega, _, _, rfl, rfl, sm_mul (sm_nat (Nat.le_of_lt lo.1)) (sm_nat (i := 60) ?_), ?_⟩
            · have : pbt a b k ≤ shb a b k := Nat.le_mul_of_pos_left _ lo.2
              exact Nat.le_trans this (Nat.le_of_lt hb1.1)
            dsimp only
            rw [e1]
            refine ⟨_, _, rfl, rfl, ⟨by omega, log_nat (i := 60) hb1.1⟩, ?_⟩
            obtain ⟨fc', hfc⟩ : ∃ fc' : Int, fc' = (W : Int).fdiv (shb a b k : Nat) := ⟨_, rfl⟩
            dsimp only
            rw [← hfc]
            have hfb : fc'.natAbs ≤ 2 ^ 60 := by
              rw [hfc]
              exact Nat.le_trans fdiv_abs (Nat.le_of_lt hW60)
            have cs := cs_le ha hb hab hka hkb hl hz
            obtain ⟨g, hg⟩ : ∃ g, g = css (a - k + 1) (b - k + 1) (pol (a - k) (b - k) (lob (a + b - 2 * k)) (co (h k))) k := ⟨_, rfl⟩
            rw [← hg] at t7 cs
            obtain ⟨fo', hfo⟩ : ∃ f, f = fw a b W (fun u κ => co (h u) κ) k := ⟨_, rfl⟩
            have tF7 := tF5.same s57
            rw [← hfo] at tF7
            obtain ⟨rs1, x1, y1⟩ := tF7
            obtain ⟨rs2, x2, y2⟩ := t7
            have lr1 := y1.len
            have lr2 := y2.len
            refine ⟨_, rfl, _, rfl, F, p, _, _, rfl, .inl ⟨SqL.of x1, SqL.of x2, fun D hD => lc_zipL (xs := rs1.map V.ref) (ys := rs2.map V.ref) (by rw [List.length_map, List.length_map, lr1, lr2]) (fun i H' => Same H7 H' ∧ ∃ ss, H' D = some (.lst (ss.map V.ref)) ∧ (∀ r ∈ ss, r ≠ D) ∧ Ll H' ss i fun i => tb (b + 1) fun j => fo' i j + fc' * g i j) ⟨same_upd0 hD, [], upd_same, fun r hr => (nomatch hr), rfl, fun k hk => absurd hk (Nat.not_lt_zero k)⟩ (fun i H' _ hP => ⟨SqL.of (hP.1 _ _ x1), SqL.of (hP.1 _ _ x2)⟩) (fun i x y T2 H' hx hy hP hT => ?_) (fun H' hP => ?_)⟩⟩
            · obtain ⟨s8, ss, hD8, ne8, ll8⟩ := hP
              obtain ⟨hi1, rfl⟩ := get_ref hx
              obtain ⟨hi2, rfl⟩ := get_ref hy
              refine ⟨T2, _, rfl, SqT.of upd_same, rfl, _, _, rfl, _, _, rfl, rfl, rfl, ?_⟩
              refine gen_upd H' T2 _ hT fun H9 s9 _ => ?_
              have r1 := s9 _ _ (s8 _ _ (y1.row i hi1))
              have r2 := s9 _ _ (s8 _ _ (y2.row i hi2))
              have r1' : H9 rs1[i] = some (.lst (tab (b + 1) (fo' i))) := by
                rw [r1, tab_tb]
              have r2' : H9 rs2[i] = some (.lst (tab (b + 1) (g i))) := by
                rw [r2, tab_tb]
              refine ⟨_, rfl, _, rfl, rs1[i], rs2[i], _, _, rfl, .inl ⟨SqL.of r1', SqL.of r2', fun D2 hD2 => lc_zipL (xs := tab (b + 1) (fo' i)) (ys := tab (b + 1) (g i)) (by rw [tab_len, tab_len]) (fun j H3 => Same H9 H3 ∧ H3 D2 = some (.lst (tab j fun j => fo' i j + fc' * g i j))) ⟨same_upd0 hD2, upd_same⟩ (fun j H3 _ hP => ⟨SqL.of (hP.1 _ _ r1'), SqL.of (hP.1 _ _ r2')⟩) (fun j x y T3 H3 hx hy hP3 hT3 => ?_) (fun H3 hP3 => ?_)⟩⟩
              · obtain ⟨s3', hL3⟩ := hP3
                obtain ⟨hj, rfl⟩ := tab_int hx
                obtain ⟨_, rfl⟩ := tab_int hy
                have sA := same_upd0 (o := .tup [.int (fo' i j), .int (g i j)]) hT3
                refine ⟨T3, _, rfl, SqT.of upd_same, rfl, _, _, rfl, _, _, rfl, rfl, rfl, _, rfl, _, rfl, _, rfl, _, _, rfl, rfl, sm_mul (lt400 hfb (by decide)) (lt400 (cs i j (by omega) hj) (by decide)), _, _, rfl, rfl, _, sA _ _ hL3, by rw [tab_len]; exact small1000 (by omega), fun b o e => ?_, ?_⟩
                · rw [upd_ne (ne_of_none e hD2)]
                  exact sA _ _ (s3' _ _ e)
                · rw [upd_same, ← tab_snoc]
              · obtain ⟨s3', hL3⟩ := hP3
                rw [tab_len] at hL3
                have D2D : D2 ≠ D := fun z => by
                  rw [z, s9 _ _ hD8] at hD2
                  cases hD2
                have hDD := s3' _ _ (s9 _ _ hD8)
                refine ⟨_, hDD, by rw [List.length_map, ll8.len]; exact small1000 (by omega), fun d o e => ?_, ss ++ [D2], by rw [upd_same, List.map_append]; rfl, fun r hr => ?_, ll8.snoc (fun k hk => ?_) (by rw [upd_ne D2D, hL3, tab_tb]) rfl⟩
                · rw [upd_ne (ne_of_none e hD)]
                  exact s3' _ _ (s9 _ _ (s8 _ _ e))
                · rcases List.mem_append.mp hr with e | e
                  · exact ne8 r e
                  · rw [List.mem_singleton.mp e]
                    exact D2D
                · have e0 := ll8.row k hk
                  rw [upd_ne (ne8 _ (List.getElem_mem hk)), s3' _ _ (s9 _ _ e0), e0]
            · obtain ⟨s8, ss, hD8, ne8, ll8⟩ := hP
              rw [List.length_map, lr1] at ll8
              refine ⟨_, _, _, _, _, D, rfl, (s35.trans s57).trans s8, ss, hD8, ?_⟩
              rw [hfo, hg, hfc] at ll8
              exact ll8
        · obtain ⟨y5, y6, y9, y10, y11, F, rfl, s4, tF⟩ := hP
          rw [List.length_map, lf] at tF
          refine ⟨_, rfl, _, rfl, by show 2 ≤ sizeLine; decide, fun p np => ?_⟩
          rw [hWe] at tF ⊢
          exact q p F _ ((s03.trans s4).trans (same_upd0 np)) upd_same (tF.same (same_upd0 np))
end
end K13

set_option Elab.async false
set_option linter.all false
set_option maxRecDepth 100000
set_option maxHeartbeats 2000000
set_option exponentiation.threshold 10000
/-! plain: a table and its bottom in lowest terms -/
namespace K13
open PySem PySem.Spec PyProof.Rows L2 StX RZ MyR SlX OwnR OwnF EnumT
def flat (m : Nat) (t : Nat → Nat → Int) : Nat → List Int
  | 0 => []
  | n + 1 => flat m t n ++ tb m (t n)
theorem mem_flat {m : Nat} {t : Nat → Nat → Int} {x : Int} : ∀ {n : Nat}, x ∈ flat m t n ↔ ∃ i j, i < n ∧ j < m ∧ x = t i j
  | 0 => ⟨fun h => (nomatch h), fun ⟨i, _, h, _⟩ => absurd h (Nat.not_lt_zero i)⟩
  | n + 1 => by
    show x ∈ flat m t n ++ tb m (t n) ↔ _
    rw [List.mem_append, mem_flat]
    constructor
    · rintro (⟨i, j, hi, hj, e⟩ | h)
      · exact ⟨i, j, by omega, hj, e⟩
      · unfold tb at h
        obtain ⟨j, hj, e⟩ := List.mem_map.mp h
        exact ⟨n, j, Nat.lt_succ_self n, List.mem_range.mp hj, e.symm⟩
    · rintro ⟨i, j, hi, hj, e⟩
      by_cases c : i = n
      · right
        subst c
        unfold tb
        exact List.mem_map.mpr ⟨j, List.mem_range.mpr hj, e.symm⟩
      · exact .inl ⟨i, j, by omega, hj, e⟩
theorem gl_iff0 {d : Nat} (l : List Int) : d ∣ gl l ↔ ∀ x ∈ l, d ∣ x.natAbs :=
  ⟨fun h => ((gl_iff l 0).mp h).2, fun h => (gl_iff l 0).mpr ⟨Nat.dvd_zero d, h⟩⟩
theorem gl_flat {m n d : Nat} {t : Nat → Nat → Int} : d ∣ gl (flat m t n) ↔ ∀ i j, i < n → j < m → d ∣ (t i j).natAbs := by
  rw [gl_iff0]
  exact ⟨fun h i j hi hj => h _ (mem_flat.mpr ⟨i, j, hi, hj, rfl⟩), fun h x hx => by
    obtain ⟨i, j, hi, hj, rfl⟩ := mem_flat.mp hx
    exact h i j hi hj⟩
theorem flat_zero {m n : Nat} {t : Nat → Nat → Int} (h : gl (flat m t n) = 0) : Eqt n m t fun _ _ => 0 := fun i j hi hj => by
  have := gl_flat.mp (h ▸ Nat.dvd_refl _ : (0 : Nat) ∣ gl (flat m t n)) i j hi hj
  have := Nat.eq_zero_of_zero_dvd this
  show t i j = 0
  omega
section
variable (n m : Nat) (t : Nat → Nat → Int) (W : Nat)
def tgd : Nat := Nat.gcd (gl (flat m t n)) W
def ans (i j : Nat) : Int := if gl (flat m t n) = 0 then t i j else (t i j).fdiv (tgd n m t W : Nat)
def bot : Nat := if gl (flat m t n) = 0 then 1 else W / tgd n m t W
end
section
variable {n m : Nat} {t : Nat → Nat → Int} {W : Nat}
theorem tgd_pos (hW : 0 < W) : 0 < tgd n m t W := Nat.gcd_pos_of_pos_right _ hW
theorem ans_mul (hW : 0 < W) (h : gl (flat m t n) ≠ 0) {i j : Nat} (hi : i < n) (hj : j < m) : t i j = (tgd n m t W : Nat) * ans n m t W i j := by
  have d : ((tgd n m t W : Nat) : Int) ∣ t i j := Int.ofNat_dvd_left.mpr (gl_flat.mp (Nat.gcd_dvd_left _ _) i j hi hj)
  unfold ans
  rw [if_neg h, Int.mul_fdiv_cancel' d]
theorem bot_mul (h : gl (flat m t n) ≠ 0) : W = tgd n m t W * bot n m t W := by
  unfold bot
  rw [if_neg h]
  exact (Nat.mul_div_cancel' (Nat.gcd_dvd_right _ _)).symm
theorem bot_pos (hW : 0 < W) : 1 ≤ bot n m t W := by
  by_cases h : gl (flat m t n) = 0
  · unfold bot
    rw [if_pos h]
    exact Nat.le_refl 1
  · have := bot_mul (W := W) h
    refine Nat.pos_of_ne_zero fun z => ?_
    rw [z, Nat.mul_zero] at this
    omega
theorem bot_le (hW : 0 < W) : bot n m t W ≤ W := by
  unfold bot
  split
  · exact hW
  · exact Nat.div_le_self _ _
theorem ans_le {X : Nat} (h : Tle n m X t) : Tle n m X (ans n m t W) := fun i j hi hj => by
  unfold ans
  split
  · exact h i j hi hj
  · refine Nat.le_trans ?_ (h i j hi hj)
    have e : (t i j).fdiv (tgd n m t W : Nat) = t i j / (tgd n m t W : Nat) := Int.fdiv_eq_ediv_of_nonneg _ (by omega)
    rw [e]
    by_cases c : tgd n m t W = 0
    · rw [c]
      simp
    · have d : ((tgd n m t W : Nat) : Int) ∣ t i j := Int.ofNat_dvd_left.mpr (gl_flat.mp (Nat.gcd_dvd_left _ _) i j hi hj)
      obtain ⟨c', hc⟩ := d
      rw [hc, Int.mul_ediv_cancel_left _ (by omega), Int.natAbs_mul]
      exact Nat.le_mul_of_pos_left _ (by omega)
/-- nothing is shared -/
theorem ans_low (hW : 0 < W) : gl (flat m (ans n m t W) n ++ [(bot n m t W : Int)]) = 1 := by
  rw [gl_snoc]
  by_cases h : gl (flat m t n) = 0
  · have eb : bot n m t W = 1 := by unfold bot; rw [if_pos h]
    rw [eb]
    exact Nat.gcd_one_right _
  · refine Nat.dvd_one.mp ?_
    obtain ⟨d, hd⟩ : ∃ d, d = Nat.gcd (gl (flat m (ans n m t W) n)) ((bot n m t W : Nat) : Int).natAbs := ⟨_, rfl⟩
    rw [← hd]
    have d1 : d ∣ gl (flat m (ans n m t W) n) := hd ▸ Nat.gcd_dvd_left _ _
    have d2 : d ∣ bot n m t W := hd ▸ Nat.gcd_dvd_right _ _
    have g1 : tgd n m t W * d ∣ gl (flat m t n) := gl_flat.mpr fun i j hi hj => by
      rw [ans_mul hW h hi hj, Int.natAbs_mul]
      exact Nat.mul_dvd_mul (Nat.dvd_refl _) (gl_flat.mp d1 i j hi hj)
    have g2 : tgd n m t W * d ∣ W := by
      have e := bot_mul (W := W) h
      have : tgd n m t W * d ∣ tgd n m t W * bot n m t W := Nat.mul_dvd_mul (Nat.dvd_refl _) d2
      rwa [← e] at this
    have g3 : tgd n m t W * d ∣ tgd n m t W * 1 := by
      rw [Nat.mul_one]
      exact Nat.dvd_gcd g1 g2
    exact Nat.dvd_of_mul_dvd_mul_left (tgd_pos hW) g3
theorem ans_none (hW : 0 < W) (h : gl (flat m (ans n m t W) n) = 0) : bot n m t W = 1 := by
  by_cases c : gl (flat m t n) = 0
  · unfold bot
    rw [if_pos c]
  · exfalso
    refine c (Nat.eq_zero_of_zero_dvd (gl_flat.mpr fun i j hi hj => ?_))
    have z := flat_zero h i j hi hj
    rw [ans_mul hW c hi hj]
    show 0 ∣ ((tgd n m t W : Nat) * ans n m t W i j : Int).natAbs
    rw [z]
    simp
theorem wh_mul (c : Int) (a : Nat → Nat → Int) (k : Nat) : wh n m (fun i j => c * a i j) k = c * wh n m a k := by
  have := wh_lin n m c (fun _ _ => 0) a k
  rw [wh_zero, Int.zero_add] at this
  rw [← this]
  congr 1
  funext i j
  rw [Int.zero_add]
theorem lsn_mul (c : Int) (a : Nat → Nat → Int) : ∀ u, lsn n m (fun i j => c * a i j) u = fun i j => c * lsn n m a u i j
  | 0 => rfl
  | u + 1 => by
    show lst (n - u) (m - u) (lsn n m (fun i j => c * a i j) u) = fun i j => c * lst (n - u) (m - u) (lsn n m a u) i j
    rw [lsn_mul c a u]
    funext i j
    unfold lst
    grind
/-- the parts of what is told -/
theorem ans_parts (hW : 0 < W) {u : Nat} (hn : u < n) (hm : u < m) {h : List Int} (hl : h.length = n + m - 1 - 2 * u) (hp : ∀ k, k < n + m - 1 - 2 * u → wh (n - u) (m - u) (lsn n m t u) k = W * co h k) : pt n m (ans n m t W) u = h.map ((bot n m t W : Int) * ·) := by
  refine co_inj (by rw [pt_len, List.length_map, hl]) fun k => ?_
  by_cases hk : k < n + m - 1 - 2 * u
  · rw [pt_wh hn hm, co_scale]
    by_cases c : gl (flat m t n) = 0
    · have z := flat_zero c
      have e1 : wh (n - u) (m - u) (lsn n m t u) k = 0 := by
        rw [wh_congr (lsn_congr z u) k]
        have := lsn_mul (n := n) (m := m) 0 (fun _ _ => 0) u
        have e : lsn n m (fun _ _ => (0 : Int)) u = fun i j => 0 * lsn n m (fun _ _ => 0) u i j := by
          rw [← this]
          congr 1
        rw [e, wh_mul, Int.zero_mul]
      have e2 : wh (n - u) (m - u) (lsn n m (ans n m t W) u) k = wh (n - u) (m - u) (lsn n m t u) k := by
        refine wh_congr (lsn_congr (fun i j _ _ => ?_) u) k
        unfold ans
        rw [if_pos c]
      have e3 := hp k hk
      rw [e1] at e3
      rw [e2, e1]
      have : co h k = 0 := by
        rcases Int.mul_eq_zero.mp e3.symm with z | z
        · omega
        · exact z
      rw [this, Int.mul_zero]
    · have e1 : wh (n - u) (m - u) (lsn n m t u) k = (tgd n m t W : Nat) * wh (n - u) (m - u) (lsn n m (ans n m t W) u) k := by
        rw [wh_congr (lsn_congr (b := fun i j => ((tgd n m t W : Nat) : Int) * ans n m t W i j) (fun i j hi hj => ans_mul hW c hi hj) u) k, lsn_mul, wh_mul]
      have e2 := hp k hk
      have e3 : (W : Int) = ((tgd n m t W : Nat) : Int) * ((bot n m t W : Nat) : Int) := by
        have := bot_mul (W := W) c
        have h2 := congrArg (fun x : Nat => (x : Int)) this
        push_cast at h2
        exact h2
      rw [e1, e3, Int.mul_assoc] at e2
      have hp := tgd_pos (n := n) (m := m) (t := t) hW
      exact Int.eq_of_mul_eq_mul_left (by omega) e2
  · rw [co_far (by rw [pt_len]; omega), co_far (by rw [List.length_map]; omega)]
/-- the table itself, if it is whole -/
theorem ans_back (hW : 0 < W) {s : Nat → Nat → Int} (e : Eqt n m t fun i j => (W : Int) * s i j) : Eqt n m (ans n m t W) s ∧ bot n m t W = 1 := by
  by_cases c : gl (flat m t n) = 0
  · refine ⟨fun i j hi hj => ?_, by unfold bot; rw [if_pos c]⟩
    have z := flat_zero c i j hi hj
    have e2 := e i j hi hj
    unfold ans
    rw [if_pos c, z]
    dsimp only at e2 z
    rw [z] at e2
    rcases Int.mul_eq_zero.mp e2.symm with z | z
    · omega
    · exact z.symm
  · have hg : tgd n m t W = W := by
      refine Nat.gcd_eq_right (gl_flat.mpr fun i j hi hj => ?_)
      rw [e i j hi hj, Int.natAbs_mul]
      exact Nat.dvd_mul_right _ _
    refine ⟨fun i j hi hj => ?_, by unfold bot; rw [if_neg c, hg, Nat.div_self hW]⟩
    unfold ans
    rw [if_neg c, hg, e i j hi hj]
    show ((W : Int) * s i j).fdiv W = s i j
    exact Int.mul_fdiv_cancel_left _ (by omega)
end
end K13

set_option Elab.async false
set_option linter.all false
set_option maxRecDepth 100000
set_option maxHeartbeats 4000000
/-! what lists and tuples share (hints2.json) -/
namespace K13
open PySem PySem.Spec PyProof.Rows L2 StX RZ MyR SlX OwnR OwnF EnumT SeqE
section
variable {P : Program} {w : World} {K : PySem.W.Frag} {mg : Str → Option Value} {base : Heap}
theorem ok_shared_ofS (T : Facts K mg) : FnOk P w K mg base CX0 1 T.f_shared_of T.fd_shared_of ["numbers"] (spSharedS K) := by
  refine T.F_shared_of.ok sc_shared_of (fun vs H Q E h => ?_) (fun cdv A outer s H vs Q E hr h => ?_)
  · obtain ⟨t, ns, rfl, _⟩ := h
    rfl
  · obtain ⟨t, ns, rfl, ht, q⟩ := h
    refine ⟨_, (PSs.nox (pss_cons (ps_set (i := 1) sc_shared_of.nd rfl (.inl rfl) pe_int)
    (pss_cons (ps_for PassesOwn.never (by rfl) (SeqE.PI_or (pi_tup (pv 0)) (pi_list (pv 0))) (pg_name (i := 2) sc_shared_of.nd rfl (.inl rfl))
      (pss_one (ps_set (i := 1) sc_shared_of.nd rfl (.inl rfl) (pe_callBfun cr_gcd (by rfl) T.m_gcd (pa_cons (pv 1) (pa_cons (pv 2) pa_nil))))))
    (pss_one (ps_ret (pv 1)))))), ?_⟩
    rcases ht with ht | ht
    · refine .inl ⟨_, rfl, t, rfl, ⟨_, ht⟩, for_tup (xs := ns.map V.int) (fun i σ H' => ∃ y, σ = [some (.ref t), some (.int ((gl (ns.take i) : Nat) : Int)), y] ∧ H' = H) ⟨none, rfl, rfl⟩ (fun i σ H' _ hP => by rw [hP.choose_spec.2]; exact ht) (fun i x σ H' hx hP => ?_) (fun σ H' hP => ?_)⟩
      · obtain ⟨y, rfl, rfl⟩ := hP
        obtain ⟨hi, rfl⟩ := int_get hx
        refine ⟨_, rfl, _, rfl, _, _, rfl, some (.int (co ns i)), ?_, rfl⟩
        rw [take_snoc hi, gl_snoc]
        rfl
      · obtain ⟨y, rfl, rfl⟩ := hP
        rw [List.length_map, List.take_length]
        exact ⟨_, rfl, q⟩
    · refine .inr ⟨_, rfl, t, rfl, ⟨_, ht⟩, for_list (xs := ns.map V.int) (fun i σ H' => ∃ y, σ = [some (.ref t), some (.int ((gl (ns.take i) : Nat) : Int)), y] ∧ H' = H) ⟨none, rfl, rfl⟩ (fun i σ H' _ hP => by rw [hP.choose_spec.2]; exact ht) (fun i x σ H' hx hP => ?_) (fun σ H' hP => ?_)⟩
      · obtain ⟨y, rfl, rfl⟩ := hP
        obtain ⟨hi, rfl⟩ := int_get hx
        refine ⟨_, rfl, _, rfl, _, _, rfl, some (.int (co ns i)), ?_, rfl⟩
        rw [take_snoc hi, gl_snoc]
        rfl
      · obtain ⟨y, rfl, rfl⟩ := hP
        rw [List.length_map, List.take_length]
        exact ⟨_, rfl, q⟩
end
end K13

set_option Elab.async false
set_option linter.all false
set_option maxRecDepth 100000
set_option maxHeartbeats 4000000
/-! the table of parts -/
namespace K13
open PySem PySem.Spec PyProof.Rows L2 StX RZ MyR SlX OwnR OwnF EnumT SeqE
/-- the parts as they stand -/
structure Pp (C : Addr) (H : Hp) (ps : Addr) (fs : List Addr) (a b : Nat) (h : Nat → List Int) : Prop where
  tup : H ps = some (.tup (fs.map V.ref))
  len : fs.length = min a b + 1
  fo : ∀ u (hu : u < fs.length), Fo C H fs[u] (h u)
  hl : ∀ u, u < fs.length → (h u).length = a + b - 2 * u + 1
theorem Pp.same {C : Addr} {H H' : Hp} {ps : Addr} {fs : List Addr} {a b : Nat} {h : Nat → List Int} (p : Pp C H ps fs a b h) (s : Same H H') : Pp C H' ps fs a b h :=
  ⟨s _ _ p.tup, p.len, fun u hu => (p.fo u hu).same s, p.hl⟩
section
variable {P : Program} {w : World} {K : PySem.W.Frag} {mg : Str → Option Value} {base : Heap}
def spArePt (C : Addr) : Sp := fun vs H Q _ => ∃ (ps : Addr) (fs : List Addr) (a b : Nat) (h : Nat → List Int), vs = [.int a, .int b, .ref ps] ∧ Pp C H ps fs a b h ∧ a + b ≤ 12 ∧ ∀ H', Same H H' → Q (.bl true) H'
theorem ok_are_parts_of (T : Facts K mg) : FnOk P w K mg base CX0 3 T.f_are_parts_of T.fd_are_parts_of ["first", "second", "value"] (spArePt T.C_Form) := by
  have G_Form_degree : FnOk P w K mg base CX0 1 T.f_Form_degree T.fd_Form_degree ["self"] (spDeg T.C_Form) := ok_Form_degree T
  refine T.F_are_parts_of.ok sc_are_parts_of (fun vs H Q E h => ?_) (fun cdv A outer s H vs Q E hr h => ?_)
  · obtain ⟨ps, fs, a, b, h, rfl, _⟩ := h
    rfl
  · obtain ⟨ps, fs, a, b, h, rfl, pp, hab, q⟩ := h
    refine ⟨_, (PSs.nox (pss_cons (ps_if (pw_or (pt_not (pt_val (pe_callB call_isi (by rfl) T.z_isinstance (by decide +kernel) (pa_cons (pv 2) (pa_cons (pe_bltn (v := .ty "tuple") (by rfl) T.z_tuple (by decide +kernel) rfl) pa_nil))))) (pw_or1 (pt_cmpR op_ne (pe_callB call_len_seq (by rfl) T.z_len (by decide +kernel) (pa_cons (pv 2) pa_nil)) (pe_op op_add (pe_callB (call_min2 (by rfl)) (by rfl) T.z_min (by decide +kernel) (pa_cons (pv 0) (pa_cons (pv 1) pa_nil))) pe_int) (nomark _)))).pt
      (pss_one (ps_ret pe_bl))
      pss_nil)
    (pss_cons (ps_if (pt_not (pt_val (pe_callB (cr_all (by rfl)) (by rfl) T.z_all (by decide +kernel) (pa_cons (pe_lc (own := [("one", 3)]) (g := (gName 3)) (tt := tYes) (by rfl) sc_are_parts_of.nd (pi_tup (pv 2)) (blkOk_by (N := N_are_parts_of) (sc := defScope s_are_parts_of) (by decide +kernel)) (fun _ _ _ _ _ => (pg_name (i := 3) sc_are_parts_of.nd rfl (.inl rfl))) (fun _ _ _ _ _ => pts_nil) (fun _ _ _ _ _ => (pe_callB (call_isiF T.C_Form : CallR _ _ (fun xs H Q => rIsi K xs H Q ∨ rIsiSl K (.ref T.C_Form) xs H Q)) (by rfl) T.z_isinstance (by decide +kernel) (pa_cons (pv 3) (pa_cons (pe_glob (v := .ref T.C_Form) (by rfl) T.g_Form rfl) pa_nil))))) pa_nil))))
      (pss_one (ps_ret pe_bl))
      pss_nil)
    (pss_one (ps_ret (pe_callB (cr_all (by rfl)) (by rfl) T.z_all (by decide +kernel) (pa_cons (pe_lc (own := [("one", 3), ("times", 4)]) (g := (gTup K 2 (gCons (gName 4) (gCons (gName 3) gNil)))) (tt := tYes) (by rfl) sc_are_parts_of.nd (pi_enumT (by rfl) T.z_enumerate (pa_cons (pv 2) pa_nil)) (blkOk_by (N := N_are_parts_of) (sc := defScope s_are_parts_of) (by decide +kernel)) (fun _ _ _ _ _ => (pg_tup (by rfl) (pgs_cons (pg_name (i := 4) sc_are_parts_of.nd rfl (.inl rfl)) (pgs_cons (pg_name (i := 3) sc_are_parts_of.nd rfl (.inl rfl)) pgs_nil)))) (fun _ _ _ _ _ => pts_nil) (fun _ _ _ _ _ => (pe_cmpR op_eq (pe_prp (pv 3) T.oc_Form T.pr_Form_degree G_Form_degree T.b_Form_degree (hr.mono (by decide))) (pe_op op_sub (pe_op op_add (pv 0) (pv 1)) (pe_op op_mulW pe_int (pv 4))) (nomark _)))) pa_nil))))))), ?_⟩
    have lf := pp.len
    refine ⟨_, rfl, .ref ps, .ty "tuple", .type "tuple", .type "tuple", true, rfl, .ty "tuple", .base (.tup pp.tup), kit_ty (show kitB "tuple" "tuple" = some true by decide +kernel), true, rfl, iteF ?_⟩
    refine ⟨_, rfl, ps, _, rfl, .inr (SqT.of pp.tup), _, rfl, _, rfl, _, _, rfl, _, _, rfl, rfl, rfl, _, rfl, ?_⟩
    have em : (if (b : Int) < (a : Int) then (b : Int) else (a : Int)) = ((min a b : Nat) : Int) := by split <;> omega
    rw [List.length_map, em, lf, decide_eq_true (show V.int ((min a b + 1 : Nat) : Int) = (fun i j => V.int (i + j)) ((min a b : Nat) : Int) 1 from rfl)]
    refine iteF ?_
    dsimp only [tNext]
    refine ⟨_, rfl, ps, rfl, ⟨_, SqT.of pp.tup⟩, fun D hD => lc_tup (xs := fs.map V.ref) (fun i H2 => H2 = upd H D (.lst (List.replicate i (V.bl true)))) rfl (fun i H2 hi hP => ?_) (fun i x H2 hx hP => ?_) (fun H2 hP => ?_)⟩
    · rw [hP]
      exact SqT.of (same_upd0 hD _ _ pp.tup)
    · subst hP
      obtain ⟨hi, rfl⟩ := get_ref hx
      obtain ⟨dx, t, hsl, _⟩ := ((pp.fo i hi).same (same_upd0 (o := .lst (List.replicate i (V.bl true))) hD)).slt
      refine ⟨rfl, _, rfl, isi_form (X := (cxOf CX0 P w K mg base N_are_parts_of (Str.ofString "are_parts_of") (defScope s_are_parts_of) T.f_are_parts_of cdv A outer s H E).nox) T.oc_Form hsl ⟨_, upd_same, ?_, ?_⟩⟩
      · rw [List.length_replicate]
        exact small1000 (by omega)
      · rw [upd_upd, List.replicate_succ']
    · subst hP
      rw [List.length_map]
      refine ⟨D, List.replicate fs.length true, rfl, SqL.of (by rw [upd_same, List.map_replicate]), true, by rw [all_true], iteF ?_⟩
      have sD : Same H (upd H D (.lst (List.replicate fs.length (V.bl true)))) := same_upd0 hD
      have p2 := pp.same sD
      generalize (upd H D (.lst (List.replicate fs.length (V.bl true)))) = H2 at sD p2
      refine ⟨_, rfl, ps, _, rfl, SqT.of p2.tup, fun D2 hD2 => lc_enumT (xs := fs.map V.ref) (fun i H3 => Same H2 H3 ∧ H3 D2 = some (.lst (List.replicate i (V.bl true)))) ⟨same_upd0 hD2, upd_same⟩ (fun i H3 _ hP => SqT.of (hP.1 _ _ p2.tup)) (fun i x B H3 hx hP hB => ?_) (fun H3 hP => ?_)⟩
      · obtain ⟨s3, hL3⟩ := hP
        obtain ⟨hi, rfl⟩ := get_ref hx
        have sA := same_upd0 (o := .tup [.int ((i : Nat) : Int), .ref fs[i]]) hB
        have fo := (p2.fo i hi).same (s3.trans sA)
        refine ⟨B, _, rfl, SqT.of upd_same, rfl, _, _, rfl, _, _, rfl, rfl, rfl, _, rfl, prop_deg fo ⟨_, rfl, _, rfl, _, _, rfl, rfl, _, rfl, _, _, rfl, rfl, sm_mul (show sm 2 from lt400 (i := 1) (by decide) (by decide)) (sm_le (n := 100) (show ((i : Nat) : Int).natAbs ≤ 100 by omega) (by decide)), _, _, rfl, rfl, rfl, _, sA _ _ hL3, by rw [List.length_replicate]; exact small1000 (by omega), fun d o e => ?_, ?_⟩⟩
        · rw [upd_ne (ne_of_none e hD2)]
          exact sA _ _ (s3 _ _ e)
        · rw [upd_same, List.replicate_succ']
          have hl := p2.hl i hi
          rw [decide_eq_true (show V.int (((h i).length : Int) - 1) = (fun i j => V.int (i - j)) ((a : Int) + (b : Int)) (2 * ((i : Nat) : Int)) from congrArg V.int (by show ((h i).length : Int) - 1 = (a : Int) + (b : Int) - 2 * ((i : Nat) : Int); omega))]
      · obtain ⟨s3, hL3⟩ := hP
        rw [List.length_map] at hL3
        exact ⟨D2, List.replicate fs.length true, rfl, SqL.of (by rw [hL3, List.map_replicate]), by rw [all_true]; exact q _ (sD.trans s3)⟩
def spTabP (C : Addr) : Sp := fun vs H Q _ => ∃ (ps : Addr) (fs : List Addr) (a b : Nat) (h : Nat → List Int), vs = [.int a, .int b, .ref ps] ∧ Pp C H ps fs a b h ∧ (∀ u, u < min a b + 1 → ∀ z ∈ h u, z.natAbs ≤ 2 ^ 300) ∧ a + b ≤ 10 ∧ a ≤ 6 ∧ b ≤ 6 ∧
  ∀ p r H', Same H H' → H' p = some (.tup [.ref r, .int (bot (a + 1) (b + 1) (fw a b (whW a b (min a b + 1)) (fun u κ => co (h u) κ) (min a b + 1)) (whW a b (min a b + 1)) : Nat)]) → Tt H' r (a + 1) (b + 1) (ans (a + 1) (b + 1) (fw a b (whW a b (min a b + 1)) (fun u κ => co (h u) κ) (min a b + 1)) (whW a b (min a b + 1))) → Q (.ref p) H'
theorem ok_table_of_parts (T : Facts K mg) : FnOk P w K mg base CX0 4 T.f_table_of_parts T.fd_table_of_parts ["first", "second", "parts"] (spTabP T.C_Form) := by
  have G_is_from := ok_is_from (P := P) (w := w) (base := base) T
  have G_are_parts_of := ok_are_parts_of (P := P) (w := w) (base := base) T
  have G_whole_table := ok_whole_table (P := P) (w := w) (base := base) T
  have G_shared_of := ok_shared_ofS (P := P) (w := w) (base := base) T
  refine T.F_table_of_parts.ok sc_table_of_parts (fun vs H Q E h => ?_) (fun cdv A outer s H vs Q E hr h => ?_)
  · obtain ⟨ps, fs, a, b, h, rfl, _⟩ := h
    rfl
  · obtain ⟨ps, fs, a, b, h, rfl, pp, hz, hab, ha, hb, q⟩ := h
    refine ⟨_, (PSs.nox (pss_cons (ps_if (pt_not (pt_val (pe_call G_is_from (hr.mono (by decide)) (by rfl) T.g_is_from T.F_is_from.kp T.b_is_from .nil pass0 (pa_cons (pv 0) (pa_cons pe_int (pa_cons (pe_glob (v := .int 12) (by rfl) T.c_MOST_PAIRED.choose_spec ⟨_, rfl⟩) pa_nil))))))
      (pss_one ps_never)
      pss_nil)
    (pss_cons (ps_if (pt_not (pt_val (pe_call G_is_from (hr.mono (by decide)) (by rfl) T.g_is_from T.F_is_from.kp T.b_is_from .nil pass0 (pa_cons (pv 1) (pa_cons pe_int (pa_cons (pe_op op_sub (pe_glob (v := .int 12) (by rfl) T.c_MOST_PAIRED.choose_spec ⟨_, rfl⟩) (pv 0)) pa_nil))))))
      (pss_one ps_never)
      pss_nil)
    (pss_cons (ps_if (pt_not (pt_val (pe_call G_are_parts_of hr (by rfl) T.g_are_parts_of T.F_are_parts_of.kp T.b_are_parts_of .nil pass0 (pa_cons (pv 0) (pa_cons (pv 1) (pa_cons (pv 2) pa_nil))))))
      (pss_one ps_never)
      pss_nil)
    (pss_cons (ps_asg (pe_call G_whole_table hr (by rfl) T.g_whole_table T.F_whole_table.kp T.b_whole_table .nil pass0 (pa_cons (pv 0) (pa_cons (pv 1) (pa_cons (pv 2) pa_nil)))) (pg_tup (by rfl) (pgs_cons (pg_name (i := 3) sc_table_of_parts.nd rfl (.inl rfl)) (pgs_cons (pg_name (i := 4) sc_table_of_parts.nd rfl (.inl rfl)) pgs_nil))))
    (pss_cons (ps_set (i := 5) sc_table_of_parts.nd rfl (.inr rfl) (pe_call G_shared_of (hr.mono (by decide)) (by rfl) T.g_shared_of T.F_shared_of.kp T.b_shared_of .nil pass0 (pa_cons (pe_lc2 (own := [("row", 6), ("entry", 7)]) (vs1 := [7]) (g := (gName 6)) (g1 := (gName 7)) (tt := tYes) (tt1 := tYes) (by rfl) sc_table_of_parts.nd (pi_list (pv 3)) (blkOk_by (N := N_table_of_parts) (sc := defScope s_table_of_parts) (by decide +kernel)) (by decide) (fun _ _ _ _ _ => (pg_name (i := 6) sc_table_of_parts.nd rfl (.inl rfl))) (fun _ _ _ _ _ => pts_nil) (fun _ _ _ _ _ => (pi_list (pv 6) : PI _ _ _ (iList K _))) (fun _ _ _ _ _ => (pg_name (i := 7) sc_table_of_parts.nd rfl (.inl rfl))) (fun _ _ _ _ _ => pts_nil) (fun _ _ _ _ _ => (pv 7))) pa_nil)))
    (pss_cons (ps_if (pt_cmpR op_eq (pv 5) pe_int (nomark _))
      (pss_one (ps_ret (pe_tup (pa_cons (pe_tupleOf (by rfl) T.z_tuple (pe_lc (own := [("row", 6)]) (g := (gName 6)) (tt := tYes) (by rfl) sc_table_of_parts.nd (pi_list (pv 3)) (blkOk_by (N := N_table_of_parts) (sc := defScope s_table_of_parts) (by decide +kernel)) (fun _ _ _ _ _ => (pg_name (i := 6) sc_table_of_parts.nd rfl (.inl rfl))) (fun _ _ _ _ _ => pts_nil) (fun _ _ _ _ _ => (pe_tupleOf (by rfl) T.z_tuple (pv 6) : PE _ _ (tThen _ (kTup K)))))) (pa_cons pe_int pa_nil)))))
      pss_nil)
    (pss_cons (ps_set (i := 5) sc_table_of_parts.nd rfl (.inr rfl) (pe_call G_shared_of (hr.mono (by decide)) (by rfl) T.g_shared_of T.F_shared_of.kp T.b_shared_of .nil pass0 (pa_cons (pe_tup (pa_cons (pv 5) (pa_cons (pv 4) pa_nil))) pa_nil)))
    (pss_one (ps_ret (pe_tup (pa_cons (pe_tupleOf (by rfl) T.z_tuple (pe_lc (own := [("row", 6)]) (g := (gName 6)) (tt := tYes) (by rfl) sc_table_of_parts.nd (pi_list (pv 3)) (blkOk_by (N := N_table_of_parts) (sc := defScope s_table_of_parts) (by decide +kernel)) (fun _ _ _ _ _ => (pg_name (i := 6) sc_table_of_parts.nd rfl (.inl rfl))) (fun _ _ _ _ _ => pts_nil) (fun _ _ _ _ _ => (pe_tupleOf (by rfl) T.z_tuple (pe_lc (own := [("entry", 7)]) (g := (gName 7)) (tt := tYes) (by rfl) sc_table_of_parts.nd (pi_list (pv 6) : PI _ _ _ (iList K _)) (blkOk_by (N := N_table_of_parts) (sc := relS _ (defScope s_table_of_parts)) (by decide +kernel)) (fun _ _ _ _ _ => (pg_name (i := 7) sc_table_of_parts.nd rfl (.inl rfl))) (fun _ _ _ _ _ => pts_nil) (fun _ _ _ _ _ => (pe_op op_fdivZ (pv 7) (pv 5)))) : PE _ _ (tThen _ (kTup K)))))) (pa_cons (pe_op op_fdivZ (pv 4) (pv 5)) pa_nil))))))))))))), ?_⟩
    have lf := pp.len
    refine ⟨_, rfl, a, 0, 12, rfl, by omega, by omega, true, rfl, iteF ?_⟩
    refine ⟨_, rfl, _, rfl, _, _, rfl, rfl, b, 0, 12 - a, rfl, by omega, by omega, true, rfl, iteF ?_⟩
    refine ⟨_, rfl, _, rfl, _, rfl, ps, fs, a, b, h, rfl, pp, by omega, fun H1 s1 => ⟨true, rfl, iteF ?_⟩⟩
    have pp1 := pp.same s1
    refine ⟨_, rfl, _, rfl, _, rfl, ps, fs, a, b, h, rfl, pp1.tup, lf, pp1.fo, fun u hu => ⟨pp1.hl u hu, hz u (by omega)⟩, hab, ha, hb, fun p r H2 s2 hp tl => ⟨p, _, rfl, SqT.of hp, rfl, _, _, rfl, _, _, rfl, rfl, ?_⟩⟩
    obtain ⟨W, hWe⟩ : ∃ W, W = whW a b (min a b + 1) := ⟨_, rfl⟩
    have nm := nums a (by omega) b (by omega)
    have W60 : W < 2 ^ 60 := by
      rw [hWe]
      exact nm.2 _ (by omega)
    have W0 : 0 < W := by
      rw [hWe]
      exact lcmS_pos fun i hi => (nm.1 i (by omega)).2 (by omega) (by omega)
    rw [← hWe] at tl q
    rw [← hWe]
    clear hp
    obtain ⟨t, ht⟩ : ∃ t, t = fw a b W (fun u κ => co (h u) κ) (min a b + 1) := ⟨_, rfl⟩
    rw [← ht] at tl q
    obtain ⟨rs, hr1, hr2⟩ := tl
    have lr := hr2.len
    have row : ∀ k (hk : k < rs.length), H2 rs[k] = some (.lst (tab (b + 1) (t k))) := fun k hk => by
      rw [hr2.row k hk, tab_tb]
    have len_flat : ∀ i, i ≤ a + 1 → (flat (b + 1) t i).length ≤ 7 * i := fun i hi => by
      induction i with
      | zero => exact Nat.zero_le _
      | succ i ih =>
        have := ih (by omega)
        show (flat (b + 1) t i ++ tb (b + 1) (t i)).length ≤ _
        rw [List.length_append, tb_len]
        omega
    refine ⟨_, rfl, r, rfl, ⟨_, SqL.of hr1⟩, fun D hD => LcTwo.out_list (xs := rs.map V.ref) (fun i H3 => Same H2 H3 ∧ H3 D = some (.lst ((flat (b + 1) t i).map V.int))) ⟨same_upd0 hD, upd_same⟩ (fun i H3 _ hP => SqL.of (hP.1 _ _ hr1)) (fun i x H3 hx hP => ?_) (fun H3 hP => ?_)⟩
    · obtain ⟨s3, hL3⟩ := hP
      obtain ⟨hi, rfl⟩ := get_ref hx
      have r3 := s3 _ _ (row i hi)
      refine ⟨rfl, _, rfl, rs[i], rfl, ⟨_, SqL.of r3⟩, LcTwo.in_list (xs := tab (b + 1) (t i)) (fun j H4 => Same H2 H4 ∧ H4 D = some (.lst ((flat (b + 1) t i).map V.int ++ tab j (t i)))) ⟨s3, by rw [hL3]; show _ = some (HO.lst (_ ++ [])); rw [List.append_nil]⟩ (fun j H4 _ hP => SqL.of (hP.1 _ _ (row i hi))) (fun j y H4 hy hP => ?_) (fun H4 hP => ?_)⟩
      · obtain ⟨s4, hL4⟩ := hP
        obtain ⟨hj, rfl⟩ := tab_int hy
        refine ⟨rfl, _, rfl, _, hL4, ?_, fun d o e => ?_, ?_⟩
        · have := len_flat i (by omega)
          rw [List.length_append, List.length_map, tab_len]
          exact small1000 (by omega)
        · rw [upd_ne (ne_of_none e hD)]
          exact s4 _ _ e
        · rw [upd_same, List.append_assoc, tab_snoc]
      · obtain ⟨s4, hL4⟩ := hP
        rw [tab_len, tab_tb, ← List.map_append] at hL4
        exact ⟨s4, hL4⟩
    · obtain ⟨s3, hL3⟩ := hP
      rw [List.length_map, lr] at hL3
      have s13 := (s1.trans s2).trans s3
      refine ⟨D, flat (b + 1) t (a + 1), rfl, .inr (SqL.of hL3), _, rfl, rfl, _, rfl, ?_⟩
      have hr3 := s3 _ _ hr1
      have row3 : ∀ k (hk : k < rs.length), H3 rs[k] = some (.lst (tab (b + 1) (t k))) := fun k hk => s3 _ _ (row k hk)
      by_cases c : gl (flat (b + 1) t (a + 1)) = 0
      · rw [decide_eq_true (show V.int ((gl (flat (b + 1) t (a + 1)) : Nat) : Int) = V.int 0 by rw [c]; rfl)]
        refine iteT ?_
        refine ⟨_, rfl, r, rfl, ⟨_, SqL.of hr3⟩, fun E1 hE => lc_list (xs := rs.map V.ref) (fun i H4 => Same H3 H4 ∧ Bl H4 E1 (fun i => tb (b + 1) (t i)) i) ⟨same_upd0 hE, Bl.nil⟩ (fun i H4 _ hP => SqL.of (hP.1 _ _ hr3)) (fun i x H4 hx hP => ?_) (fun H4 hP => ?_)⟩
        · obtain ⟨hi, rfl⟩ := get_ref hx
          have r4 := hP.1 _ _ (row3 i hi)
          refine ⟨rfl, _, rfl, .inl ⟨rs[i], _, rfl, SqL.of r4, fun p np => Bl.step hP hE (same_upd0 np) (by rw [upd_same, tab_tb]) (by omega)⟩⟩
        · obtain ⟨s4, ss, hE4, l4, w4⟩ := hP
          rw [List.length_map, lr] at l4
          refine .inl ⟨E1, _, rfl, SqL.of hE4, fun p4 np4 => ⟨by show 2 ≤ sizeLine; decide, fun p5 np5 => q p5 p4 _ (((s13.trans s4).trans (same_upd0 np4)).trans (same_upd0 np5)) ?_ ?_⟩⟩
          · rw [upd_same]
            unfold bot
            rw [if_pos c]
            rfl
          · refine Tt.same ⟨ss, l4, upd_same, fun i hi => ?_⟩ (same_upd0 np5)
            refine (same_upd0 np4 _ _ (w4 i hi)).trans ?_
            congr 2
            refine tb_ext fun j hj => ?_
            unfold ans
            rw [if_pos c]
      · rw [decide_eq_false (show ¬ V.int ((gl (flat (b + 1) t (a + 1)) : Nat) : Int) = V.int 0 from fun z => c (Int.ofNat.inj (V.int.inj z)))]
        refine iteF ?_
        dsimp only [tNext]
        refine ⟨_, rfl, _, rfl, by show 2 ≤ sizeLine; decide, fun p6 np6 => ⟨p6, [((gl (flat (b + 1) t (a + 1)) : Nat) : Int), (W : Int)], rfl, .inl (SqT.of upd_same), ?_⟩⟩
        have eg : gl [((gl (flat (b + 1) t (a + 1)) : Nat) : Int), (W : Int)] = tgd (a + 1) (b + 1) t W := by
          show Nat.gcd (Nat.gcd 0 (gl (flat (b + 1) t (a + 1)))) W = _
          rw [Nat.gcd_zero_left]
          rfl
        rw [eg]
        have gpos : 0 < tgd (a + 1) (b + 1) t W := tgd_pos W0
        have gle : tgd (a + 1) (b + 1) t W ≤ W := Nat.le_of_dvd W0 (Nat.gcd_dvd_right _ _)
        have cd : ∀ x : Int, CDivZ x (tgd (a + 1) (b + 1) t W : Nat) := fun x => ⟨by omega, log_nat (i := 60) (Nat.lt_of_le_of_lt gle W60)⟩
        have s6 := same_upd0 (o := .tup [.int ((gl (flat (b + 1) t (a + 1)) : Nat) : Int), .int (W : Int)]) np6
        generalize (upd H3 p6 (.tup [.int ((gl (flat (b + 1) t (a + 1)) : Nat) : Int), .int (W : Int)])) = H6 at s6
        have hr6 := s6 _ _ hr3
        have row6 : ∀ k (hk : k < rs.length), H6 rs[k] = some (.lst (tab (b + 1) (t k))) := fun k hk => s6 _ _ (row3 k hk)
        refine ⟨_, rfl, r, rfl, ⟨_, SqL.of hr6⟩, fun E1 hE => lc_list (xs := rs.map V.ref) (fun i H4 => Same H6 H4 ∧ Bl H4 E1 (fun i => tb (b + 1) fun j => (t i j).fdiv (tgd (a + 1) (b + 1) t W : Nat)) i) ⟨same_upd0 hE, Bl.nil⟩ (fun i H4 _ hP => SqL.of (hP.1 _ _ hr6)) (fun i x H4 hx hP => ?_) (fun H4 hP => ?_)⟩
        · obtain ⟨hi, rfl⟩ := get_ref hx
          have r4 := hP.1 _ _ (row6 i hi)
          refine ⟨rfl, _, rfl, rs[i], rfl, ⟨_, SqL.of r4⟩, fun E2 hE2 => lc_list (xs := tab (b + 1) (t i)) (fun j H5 => Same H4 H5 ∧ H5 E2 = some (.lst (tab j fun j => (t i j).fdiv (tgd (a + 1) (b + 1) t W : Nat)))) ⟨same_upd0 hE2, upd_same⟩ (fun j H5 _ hP5 => SqL.of (hP5.1 _ _ r4)) (fun j y H5 hy hP5 => ?_) (fun H5 hP5 => ?_)⟩
          · obtain ⟨s5, hL5⟩ := hP5
            obtain ⟨hj, rfl⟩ := tab_int hy
            refine ⟨rfl, _, rfl, _, rfl, _, _, rfl, rfl, cd _, _, hL5, by rw [tab_len]; exact small1000 (by omega), fun d o e => ?_, ?_⟩
            · rw [upd_ne (ne_of_none e hE2)]
              exact s5 _ _ e
            · rw [upd_same, ← tab_snoc]
          · obtain ⟨s5, hL5⟩ := hP5
            rw [tab_len, tab_tb] at hL5
            exact .inl ⟨E2, _, rfl, SqL.of hL5, fun p np => Bl.step hP hE (s5.trans (same_upd0 np)) upd_same (by omega)⟩
        · obtain ⟨s4, ss, hE4, l4, w4⟩ := hP
          rw [List.length_map, lr] at l4
          refine .inl ⟨E1, _, rfl, SqL.of hE4, fun p4 np4 => ⟨_, rfl, _, rfl, _, _, rfl, rfl, cd _, by show 2 ≤ sizeLine; decide, fun p5 np5 => q p5 p4 _ ((((s13.trans s6).trans s4).trans (same_upd0 np4)).trans (same_upd0 np5)) ?_ ?_⟩⟩
          · rw [upd_same]
            have e : ((W : Nat) : Int).fdiv (tgd (a + 1) (b + 1) t W : Nat) = ((bot (a + 1) (b + 1) t W : Nat) : Int) := by
              unfold bot
              rw [if_neg c, Int.fdiv_eq_ediv_of_nonneg _ (by omega)]
              push_cast
              rfl
            dsimp only
            rw [e]
          · refine Tt.same ⟨ss, l4, upd_same, fun i hi => ?_⟩ (same_upd0 np5)
            refine (same_upd0 np4 _ _ (w4 i hi)).trans ?_
            congr 2
            refine tb_ext fun j hj => ?_
            unfold ans
            rw [if_neg c]
end
end K13

set_option Elab.async false
set_option linter.all false
set_option maxRecDepth 100000
set_option maxHeartbeats 4000000
namespace K13
open PySem PySem.Spec PyProof.Rows L2 StX RZ MyR SlX OwnR OwnF EnumT GxR GenNx FDivQ
/-- at t a tuple of tuples of ints -/
def Tl2 (H : Hp) (t : Addr) (rows : List (List Int)) : Prop := ∃ as : List Addr, H t = some (.tup (as.map V.ref)) ∧ RT H as rows
theorem RT.same {H H' : Hp} {as : List Addr} {rs : List (List Int)} (h : RT H as rs) (s : Same H H') : RT H' as rs := RX.imp (fun a r e => s _ _ e) h
theorem Tl2.same {H H' : Hp} {t : Addr} {rows : List (List Int)} (h : Tl2 H t rows) (s : Same H H') : Tl2 H' t rows := by
  obtain ⟨as, h1, h2⟩ := h
  exact ⟨as, s _ _ h1, h2.same s⟩
theorem RT.sts {Ps : List Addr} {H H' : Hp} {as : List Addr} {rs : List (List Int)} (h : RT H as rs) (s : Sts Ps H H') (g : Tg Ps H) : RT H' as rs := RX.imp (fun a r e => s.tup g e) h
theorem Tl2.sts {Ps : List Addr} {H H' : Hp} {t : Addr} {rows : List (List Int)} (h : Tl2 H t rows) (s : Sts Ps H H') (g : Tg Ps H) : Tl2 H' t rows := by
  obtain ⟨as, h1, h2⟩ := h
  exact ⟨as, s.tup g h1, h2.sts s g⟩
/-- the sizes of a table -/
structure Tz (rows : List (List Int)) (n : Nat) : Prop where
  l1 : 1 ≤ rows.length
  l2 : rows.length ≤ 24
  n1 : 1 ≤ n
  n2 : n ≤ 24
  ln : ∀ r ∈ rows, r.length = n
  sh : ∀ r ∈ rows, ∀ x ∈ r, Sho x
section
variable {P : Program} {w : World} {K : PySem.W.Frag} {mg : Str → Option Value} {base : Heap} {Ps : List Addr}
def spIsTab : Sp := fun vs H Q _ => ∃ (t : Addr) (rows : List (List Int)) (n : Nat), vs = [.ref t] ∧ Tl2 H t rows ∧ Tz rows n ∧ ∀ H', Same H H' → Q (.bl true) H'
theorem ok_is_table_in (T : Facts K mg) : FnOk P w K mg base CX0 3 T.f_is_table_in T.fd_is_table_in ["value"] spIsTab := by
  have G_is_short : FnOk P w K mg base CX0 2 T.f_is_short T.fd_is_short ["value"] spShort := ok_is_short T
  refine T.F_is_table_in.ok sc_is_table_in (fun vs H Q E h => ?_) (fun cdv A outer s H vs Q E hr h => ?_)
  · obtain ⟨t, rows, n, rfl, _⟩ := h
    rfl
  · obtain ⟨t, rows, n, rfl, ⟨as, ht, hA⟩, z, q⟩ := h
    refine ⟨_, (PSs.nox (pss_cons (ps_if (pw_or (pt_not (pt_val (pe_callB call_isi (by rfl) T.z_isinstance (by decide +kernel) (pa_cons (pv 0) (pa_cons (pe_bltn (v := .ty "tuple") (by rfl) T.z_tuple (by decide +kernel) rfl) pa_nil))))) (pw_or1 (pt_not (pt_chain op_le op_le pe_int (pe_callB call_len_seq (by rfl) T.z_len (by decide +kernel) (pa_cons (pv 0) pa_nil)) (pe_glob (v := .int 24) (by rfl) T.c_MAX_SIDE.choose_spec ⟨_, rfl⟩))))).pt
      (pss_one (ps_ret pe_bl))
      pss_nil)
    (pss_cons (ps_for PassesOwn.never (by rfl) (pi_tup (pv 0)) (pg_name (i := 1) sc_is_table_in.nd rfl (.inl rfl))
      (pss_cons (ps_if (pw_or (pt_not (pt_val (pe_callB call_isi (by rfl) T.z_isinstance (by decide +kernel) (pa_cons (pv 1) (pa_cons (pe_bltn (v := .ty "tuple") (by rfl) T.z_tuple (by decide +kernel) rfl) pa_nil))))) (pw_or (pt_not (pt_chain op_le op_le pe_int (pe_callB call_len_seq (by rfl) T.z_len (by decide +kernel) (pa_cons (pv 1) pa_nil)) (pe_glob (v := .int 24) (by rfl) T.c_MAX_SIDE.choose_spec ⟨_, rfl⟩))) (pw_or1 (pt_cmpR op_ne (pe_callB call_len_seq (by rfl) T.z_len (by decide +kernel) (pa_cons (pv 1) pa_nil)) (pe_callB call_len_seq (by rfl) T.z_len (by decide +kernel) (pa_cons (pe_ix ix_tup (pv 0) pe_int (fun _ _ => rfl)) pa_nil)) (nomark _))))).pt
        (pss_one (ps_ret pe_bl))
        pss_nil)
      (pss_one (ps_if (pt_not (pt_val (pe_callB (cr_all (by rfl)) (by rfl) T.z_all (by decide +kernel) (pa_cons (pe_lc (own := [("entry", 2)]) (g := (gName 2)) (tt := tYes) (by rfl) sc_is_table_in.nd (pi_tup (pv 1)) (blkOk_by (N := N_is_table_in) (sc := defScope s_is_table_in) (by decide +kernel)) (fun _ _ _ _ _ => (pg_name (i := 2) sc_is_table_in.nd rfl (.inl rfl))) (fun _ _ _ _ _ => pts_nil) (fun _ _ _ _ _ => (pe_call G_is_short hr (by rfl) T.g_is_short T.F_is_short.kp T.b_is_short .nil pass0 (pa_cons (pv 2) pa_nil)))) pa_nil))))
        (pss_one (ps_ret pe_bl))
        pss_nil))))
    (pss_one (ps_ret pe_bl))))), ?_⟩
    have alen := RX.len hA
    have z1 := z.l1
    have z2 := z.l2
    have z3 := z.n1
    have z4 := z.n2
    refine ⟨_, rfl, .ref t, .ty "tuple", .type "tuple", .type "tuple", true, rfl, .ty "tuple", .base (.tup ht), kit_ty (show kitB "tuple" "tuple" = some true by decide +kernel), true, rfl, iteF ?_⟩
    refine ⟨_, rfl, t, _, rfl, .inr (SqT.of ht), 1, _, rfl, rfl, true, ?_, iteT ⟨_, _, rfl, rfl, ?_⟩⟩
    · rw [List.length_map]
      show V.bl (decide ((1 : Int) ≤ (as.length : Int))) = V.bl true
      rw [decide_eq_true (by omega)]
    refine ⟨_, rfl, ?_⟩
    rw [List.length_map, decide_eq_true (show ((as.length : Nat) : Int) ≤ 24 by omega)]
    refine iteF ?_
    refine ⟨_, rfl, t, rfl, ⟨_, SqT.of ht⟩, for_tup (xs := as.map V.ref) (fun i σ H' => ∃ y1, σ = [some (.ref t), y1, none] ∧ Same H H') ⟨none, rfl, fun _ _ e => e⟩ (fun i σ H' _ hP => by
      obtain ⟨_, _, sH⟩ := hP
      exact SqT.of (sH _ _ ht)) (fun i x σ H' hx hP => ?_) (fun σ H' hP => ?_)⟩
    · obtain ⟨y1, rfl, sH⟩ := hP
      rw [List.getElem?_map] at hx
      obtain ⟨a, ha, rfl⟩ := Option.map_eq_some_iff.mp hx
      obtain ⟨a', r, g1, g2, g3⟩ := RX.get hA (by rw [← alen]; exact (List.getElem?_eq_some_iff.mp ha).1)
      rw [ha] at g1
      cases g1
      obtain ⟨a0, r0, k1, k2, k3⟩ := RX.get hA (i := 0) (by omega)
      have gH := sH _ _ g3
      have kH := sH _ _ k3
      have rl := z.ln r (List.mem_of_getElem? g2)
      have rs := z.sh r (List.mem_of_getElem? g2)
      have rl0 := z.ln r0 (List.mem_of_getElem? k2)
      refine ⟨_, rfl, .ref a, .ty "tuple", .type "tuple", .type "tuple", true, rfl, .ty "tuple", .base (.tup gH), kit_ty (show kitB "tuple" "tuple" = some true by decide +kernel), true, rfl, iteF ?_⟩
      refine ⟨_, rfl, a, _, rfl, .inr (SqT.of gH), 1, _, rfl, rfl, true, ?_, iteT ⟨_, _, rfl, rfl, ?_⟩⟩
      · rw [List.length_map]
        show V.bl (decide ((1 : Int) ≤ (r.length : Int))) = V.bl true
        rw [decide_eq_true (by omega)]
      refine ⟨_, rfl, ?_⟩
      rw [List.length_map, decide_eq_true (show ((r.length : Nat) : Int) ≤ 24 by omega)]
      refine iteF ?_
      refine ⟨_, rfl, a, _, rfl, .inr (SqT.of gH), _, rfl, t, _, 0, .ref a0, rfl, rfl, SqT.of (sH _ _ ht), atI_nat (j := 0) (by rw [List.getElem?_map, k1]; rfl), a0, _, rfl, .inr (SqT.of kH), rfl, _, rfl, ?_⟩
      rw [List.length_map, List.length_map, rl, rl0, decide_eq_true rfl]
      refine iteF ?_
      dsimp only [tNext]
      refine ⟨_, rfl, a, rfl, ⟨_, SqT.of gH⟩, fun D hD => lc_tup (xs := r.map V.int) (fun i H2 => H2 = upd H' D (.lst (List.replicate i (V.bl true)))) rfl (fun i H2 hi hP => ?_) (fun i x H2 hi hP => ?_) (fun H2 hP => ?_)⟩
      · rw [hP]
        exact SqT.of (same_upd0 hD _ _ gH)
      · subst hP
        rw [List.getElem?_map] at hi
        obtain ⟨y, hy, rfl⟩ := Option.map_eq_some_iff.mp hi
        have hlt : i < r.length := (List.getElem?_eq_some_iff.mp hy).1
        refine ⟨rfl, ⟨_, rfl, y, rfl, rs y (List.mem_of_getElem? hy), _, upd_same, ?_, ?_⟩⟩
        · rw [List.length_replicate]
          exact small1000 (by omega)
        · rw [upd_upd, List.replicate_succ']
      · subst hP
        rw [List.length_map]
        refine ⟨D, List.replicate r.length true, rfl, SqL.of (by rw [upd_same, List.map_replicate]), true, ?_, iteF ⟨_, rfl, fun b o e => same_upd0 hD _ _ (sH _ _ e)⟩⟩
        have e : (List.replicate r.length true).all id = true := by
          rw [List.all_eq_true]
          intro x hx
          rw [(List.mem_replicate.mp hx).2]
          rfl
        rw [e]
    · obtain ⟨y1, rfl, sH⟩ := hP
      exact q H' sH
theorem ok_require_rows (T : Facts K mg) : FnOk P w K mg base CX0 4 T.f_require_rows T.fd_require_rows ["value"] (fun vs H Q _ => ∃ (t : Addr) (rows : List (List Int)) (n : Nat), vs = [.ref t] ∧ Tl2 H t rows ∧ Tz rows n ∧ ∀ H', Same H H' → Q .non H') := by
  have G_is_table_in := ok_is_table_in (P := P) (w := w) (base := base) T
  refine T.F_require_rows.ok sc_require_rows (fun vs H Q E h => ?_) (fun cdv A outer s H vs Q E hr h => ?_)
  · obtain ⟨t, rows, n, rfl, _⟩ := h
    rfl
  · obtain ⟨t, rows, n, rfl, hA, z, q⟩ := h
    refine ⟨_, (PSs.nox (pss_one (ps_if (pt_not (pt_val (pe_call G_is_table_in hr (by rfl) T.g_is_table_in T.F_is_table_in.kp T.b_is_table_in .nil pass0 (pa_cons (pv 0) pa_nil))))
      (pss_one ps_never)
      pss_nil))), ?_⟩
    exact ⟨_, rfl, t, rows, n, rfl, hA, z, fun H' s' => ⟨true, rfl, iteF (q H' s')⟩⟩
def spRankT (Ps : List Addr) : Sp := fun vs H Q _ => ∃ (t : Addr) (rows : List (List Int)) (n : Nat), vs = [.ref t] ∧ Tl2 H t rows ∧ Tz rows n ∧ EOk less rows n ∧ Tg Ps H ∧ ∀ H', Sts Ps H H' → Tg Ps H' → Q (.int ((ech less rows n).length : Nat)) H'
theorem ok_rank (T : Facts K mg) (TB_first_of : TabB base mg T.c_first_of T.P_first_of) (hP : T.P_first_of ∈ Ps) : FnOk P w K mg base CX0 5 T.f_rank T.fd_rank ["table"] (spRankT Ps) := by
  have G_require_rows := ok_require_rows (P := P) (w := w) (base := base) T
  have G_rank_of := ok_rank_of (P := P) (w := w) (base := base) T TB_first_of hP
  refine T.F_rank.ok sc_rank (fun vs H Q E h => ?_) (fun cdv A outer s H vs Q E hr h => ?_)
  · obtain ⟨t, rows, n, rfl, _⟩ := h
    rfl
  · obtain ⟨t, rows, n, rfl, hA, z, ok, hG, q⟩ := h
    refine ⟨_, (PSs.nox (pss_cons (ps_expr (pe_call G_require_rows hr (by rfl) T.g_require_rows T.F_require_rows.kp T.b_require_rows .nil pass0 (pa_cons (pv 0) pa_nil)))
    (pss_one (ps_ret (pe_call G_rank_of hr (by rfl) T.g_rank_of T.F_rank_of.kp T.b_rank_of .nil pass0 (pa_cons (pv 0) (pa_cons (pe_callB call_len_seq (by rfl) T.z_len (by decide +kernel) (pa_cons (pe_ix ix_tup (pv 0) pe_int (fun _ _ => rfl)) pa_nil)) pa_nil))))))), ?_⟩
    refine ⟨_, rfl, t, rows, n, rfl, hA, z, fun H1 s1 => ?_⟩
    obtain ⟨as, ht, hR⟩ := hA.same s1
    obtain ⟨a0, r0, k1, k2, k3⟩ := RX.get hR (i := 0) z.l1
    have z2 := z.l2
    have z4 := z.n2
    refine ⟨_, rfl, _, rfl, t, _, 0, .ref a0, rfl, rfl, SqT.of ht, atI_nat (j := 0) (by rw [List.getElem?_map, k1]; rfl), a0, _, rfl, .inr (SqT.of k3), ?_⟩
    rw [List.length_map, z.ln r0 (List.mem_of_getElem? k2)]
    exact ⟨t, as, rows, n, rfl, .inl ht, RX.imp (fun a r e => .inl e) hR, by omega, by omega, z.ln, ok, hG.same s1, fun H2 s2 t2 => q H2 ((Sts.of s1).trans s2) t2⟩
end
/-- the rows of a table of two forms -/
theorem rank_two {w M : Nat} {f one : List Int} {rows : List (List Int)} (hr : ∀ k, k < rows.length → rows.getD k [] = one.map (co f k * ·)) (ho : one.length = w) (hM : ∀ r ∈ rows, ∀ x ∈ r, x.natAbs ≤ M) : (ech less rows w).length ≤ 1 := by
  have hw : ∀ r ∈ rows, r.length = w := fun r h => by
    obtain ⟨k, hk, e⟩ := List.mem_iff_getElem.mp h
    have := hr k hk
    rw [List.getD_eq_getElem?_getD, List.getElem?_eq_getElem hk] at this
    rw [← e]
    show (rows[k]).length = w
    rw [show rows[k] = one.map (co f k * ·) from this, List.length_map, ho]
  have T := told lePP hw hM
  refine LA.steinitz T.base.ind (B := fun _ j => co one j) fun i hi => (T.base.of i hi).trans fun k hk => ?_
  refine ⟨1, by decide, fun _ => co f k, fun j hj => ?_⟩
  show 1 * co (rows.getD k []) j = _
  rw [hr k hk, co_scale, Int.one_mul]
  show _ = (0 : Int) + _
  rw [Int.zero_add]
end K13

set_option Elab.async false
set_option linter.all false
set_option maxRecDepth 100000
set_option maxHeartbeats 4000000
set_option exponentiation.threshold 10000
/-! the law's own look at what is told -/
namespace K13
open PySem PySem.Spec PyProof.Rows L2 StX RZ MyR SlX OwnR OwnF EnumT SeqE
theorem cont_gl (l : List Int) : cont l = gl l := by
  have : ∀ i, i ≤ l.length → cont (l.take i) = gl (l.take i) := fun i => by
    induction i with
    | zero => intro _; rw [List.take_zero]; rfl
    | succ i ih =>
      intro hi
      rw [take_snoc (by omega), cont_snoc, gl_snoc, ih (by omega)]
  have h := this l.length (Nat.le_refl _)
  rwa [List.take_length] at h
section
variable {a b : Nat} {h : Nat → List Int}
theorem whW_pos (ha : a ≤ 6) (hb : b ≤ 6) : 0 < whW a b (min a b + 1) :=
  lcmS_pos fun i hi => ((nums a (by omega) b (by omega)).1 i (by omega)).2 (by omega) (by omega)
/-- the parts of the table of some parts, by their number -/
theorem fw_parts {W : Nat} (hW : W = whW a b (min a b + 1)) {u k : Nat} (hu : u < min a b + 1) (hk : k ≤ a + b - 2 * u) : wh (a + 1 - u) (b + 1 - u) (lsn (a + 1) (b + 1) (fw a b W (fun u κ => co (h u) κ) (min a b + 1)) u) k = W * co (h u) k := by
  rw [wh_fw W (fun u κ => co (h u) κ) (show u ≤ a by omega) (show u ≤ b by omega) hk (min a b + 1) (by omega) (by omega) fun t ht => by rw [hW]; exact lcmS_dvd ht, if_pos hu]
theorem tab_parts {W : Nat} (ha : a ≤ 6) (hb : b ≤ 6) (hW : W = whW a b (min a b + 1)) {u : Nat} (hu : u < min a b + 1) (hl : (h u).length = a + b - 2 * u + 1) :
    pt (a + 1) (b + 1) (ans (a + 1) (b + 1) (fw a b W (fun u κ => co (h u) κ) (min a b + 1)) W) u = (h u).map ((bot (a + 1) (b + 1) (fw a b W (fun u κ => co (h u) κ) (min a b + 1)) W : Int) * ·) :=
  ans_parts (hW ▸ whW_pos ha hb) (by omega) (by omega) (by omega) fun k hk => fw_parts hW hu (by omega)
theorem pt_mul {n m : Nat} (c : Int) (s : Nat → Nat → Int) (u : Nat) : pt n m (fun i j => c * s i j) u = (pt n m s u).map (c * ·) := by
  unfold pt
  rw [map_tb, lsn_mul]
  exact tb_ext fun k _ => wh_mul c _ k
/-- the parts of a table of integers give it back -/
theorem tab_back {W : Nat} (ha : a ≤ 6) (hb : b ≤ 6) (hW : W = whW a b (min a b + 1)) {s : Nat → Nat → Int} (hs : ∀ u, u < min a b + 1 → h u = pt (a + 1) (b + 1) s u) :
    Eqt (a + 1) (b + 1) (ans (a + 1) (b + 1) (fw a b W (fun u κ => co (h u) κ) (min a b + 1)) W) s ∧ bot (a + 1) (b + 1) (fw a b W (fun u κ => co (h u) κ) (min a b + 1)) W = 1 :=
  ans_back (hW ▸ whW_pos ha hb) (told_uniq fun u hn hm => by
    have hu : u < min a b + 1 := by omega
    have e : pt (a + 1) (b + 1) (fw a b W (fun u κ => co (h u) κ) (min a b + 1)) u = (h u).map ((W : Int) * ·) := by
      have hl : (h u).length = a + b - 2 * u + 1 := by
        rw [hs u hu, pt_len]
        omega
      refine co_inj (by rw [pt_len, List.length_map, hl]; omega) fun k => ?_
      by_cases hk : k ≤ a + b - 2 * u
      · rw [pt_wh hn hm, fw_parts hW hu hk, co_scale]
      · rw [co_far (by rw [pt_len]; omega), co_far (by rw [List.length_map]; omega)]
    rw [e, pt_mul, hs u hu])
end
section
variable {P : Program} {w : World} {K : PySem.W.Frag} {mg : Str → Option Value} {base : Heap}
theorem tab_repc (c : Int) : ∀ n, (List.replicate n [V.int c]).flatten = (List.replicate n c).map V.int
  | 0 => rfl
  | n + 1 => by
    rw [List.replicate_succ, List.flatten_cons, tab_repc c n, List.replicate_succ]
    rfl
def spShp : Sp := fun vs H Q _ => ∃ (p : Addr) (a b : Nat) (t : Nat → Nat → Int), vs = [.ref p, .int a, .int b] ∧ Tt H p (a + 1) (b + 1) t ∧ a ≤ 12 ∧ b ≤ 12 ∧ ∀ H', Same H H' → Q (.bl true) H'
theorem ok_law_is_shaped (T : Facts K mg) : FnOk P w K mg base CX0 1 T.f_law_is_shaped T.fd_law_is_shaped ["_law_table", "_law_first", "_law_second"] spShp := by
  refine T.F_law_is_shaped.ok sc_law_is_shaped (fun vs H Q E h => ?_) (fun cdv A outer s H vs Q E hr h => ?_)
  · obtain ⟨p, a, b, t, rfl, _⟩ := h
    rfl
  · obtain ⟨p, a, b, t, rfl, tt, ha, hb, q⟩ := h
    refine ⟨_, (PSs.nox (pss_cons (ps_if (pw_or (pt_not (pt_val (pe_callB call_isi (by rfl) T.z_isinstance (by decide +kernel) (pa_cons (pv 0) (pa_cons (pe_bltn (v := .ty "tuple") (by rfl) T.z_tuple (by decide +kernel) rfl) pa_nil))))) (pw_or1 (pt_cmpR (op_neD (hu64 hr)) (pe_lc (own := [("_law_row", 3)]) (g := (gName 3)) (tt := tYes) (by rfl) sc_law_is_shaped.nd (pi_tup (pv 0)) (blkOk_by (N := N_law_is_shaped) (sc := defScope s_law_is_shaped) (by decide +kernel)) (fun _ _ _ _ _ => (pg_name (i := 3) sc_law_is_shaped.nd rfl (.inl rfl))) (fun _ _ _ _ _ => pts_nil) (fun _ _ _ _ _ => (pe_callB (call_len_seq : CallR _ _ (Evl.rLenS K)) (by rfl) T.z_len (by decide +kernel) (pa_cons (pv 3) pa_nil)))) (pe_op op_rep (pe_lst (pa_cons (pe_op op_add (pv 2) pe_int) pa_nil)) (pe_op op_add (pv 1) pe_int)) (nomark _)))).pt
      (pss_one (ps_ret pe_bl))
      pss_nil)
    (pss_one (ps_ret (pe_callB (cr_all (by rfl)) (by rfl) T.z_all (by decide +kernel) (pa_cons (pe_lc (own := [("_law_row", 3)]) (g := (gName 3)) (tt := tYes) (by rfl) sc_law_is_shaped.nd (pi_tup (pv 0)) (blkOk_by (N := N_law_is_shaped) (sc := defScope s_law_is_shaped) (by decide +kernel)) (fun _ _ _ _ _ => (pg_name (i := 3) sc_law_is_shaped.nd rfl (.inl rfl))) (fun _ _ _ _ _ => pts_nil) (fun _ _ _ _ _ => (pe_callB (cr_all (by rfl) : CallR _ _ (rAll K)) (by rfl) T.z_all (by decide +kernel) (pa_cons (pe_lc (own := [("_law_entry", 4)]) (g := (gName 4)) (tt := tYes) (by rfl) sc_law_is_shaped.nd (pi_tup (pv 3) : PI _ _ _ (iTup K _)) (blkOk_by (N := N_law_is_shaped) (sc := relS _ (defScope s_law_is_shaped)) (by decide +kernel)) (fun _ _ _ _ _ => (pg_name (i := 4) sc_law_is_shaped.nd rfl (.inl rfl))) (fun _ _ _ _ _ => pts_nil) (fun _ _ _ _ _ => (pe_callB (call_isi : CallR _ _ (rIsi K)) (by rfl) T.z_isinstance (by decide +kernel) (pa_cons (pv 4) (pa_cons (pe_bltn (v := .ty "int") (by rfl) T.z_int (by decide +kernel) rfl) pa_nil))))) pa_nil)))) pa_nil)))))), ?_⟩
    have ⟨rs, lr, hp, row⟩ := tt
    refine ⟨_, rfl, .ref p, .ty "tuple", .type "tuple", .type "tuple", true, rfl, .ty "tuple", .base (.tup hp), kit_ty (show kitB "tuple" "tuple" = some true by decide +kernel), true, rfl, iteF ?_⟩
    refine ⟨_, rfl, p, rfl, ⟨_, SqT.of hp⟩, fun D hD => lc_tup (xs := rs.map V.ref) (fun i H2 => Same H H2 ∧ H2 D = some (.lst ((List.replicate i ((b + 1 : Nat) : Int)).map V.int))) ⟨same_upd0 hD, upd_same⟩ (fun i H2 _ hP => SqT.of (hP.1 _ _ hp)) (fun i x H2 hx hP => ?_) (fun H2 hP => ?_)⟩
    · obtain ⟨s2, hL⟩ := hP
      obtain ⟨hi, rfl⟩ := get_ref hx
      refine ⟨rfl, _, rfl, rs[i], _, rfl, .inr (SqT.of (s2 _ _ (row i hi))), _, hL, by rw [List.length_map, List.length_replicate]; exact small1000 (by omega), fun d o e => ?_, ?_⟩
      · rw [upd_ne (ne_of_none e hD)]
        exact s2 _ _ e
      · rw [upd_same, List.length_map, tb_len, List.replicate_succ', List.map_append]
        rfl
    · obtain ⟨s2, hL⟩ := hP
      rw [List.length_map, lr] at hL
      refine ⟨_, rfl, _, _, rfl, rfl, by show 1 ≤ sizeLine; decide, fun p0 n0 => gen_upd H2 p0 (.lst [.int ((b : Int) + 1)]) n0 fun H3 s3 f3 => ?_⟩
      have hz1 : [V.int ((b : Int) + 1)].length * ((a : Int) + 1).toNat ≤ sizeLine := by
        have hz : (1000 : Nat) ≤ sizeLine := by decide
        show 1 * ((a : Int) + 1).toNat ≤ sizeLine
        omega
      refine ⟨_, rfl, _, _, rfl, rfl, p0, (a : Int) + 1, _, rfl, rfl, f3, by omega, by omega, hz1, fun R nR => ?_⟩
      rw [show ((a : Int) + 1).toNat = a + 1 by omega, tab_repc]
      refine gen_upd H3 R _ nR fun H4 s4 f4 => ?_
      have s24 := s2.trans (s3.trans s4)
      refine ne_lintsL (xs := List.replicate (a + 1) ((b + 1 : Nat) : Int)) (ys := List.replicate (a + 1) ((b : Int) + 1)) (SqL.of ((s3.trans s4) _ _ hL)) (SqL.of f4) ⟨_, rfl, ?_⟩
      rw [decide_eq_true (show List.replicate (a + 1) ((b + 1 : Nat) : Int) = List.replicate (a + 1) ((b : Int) + 1) from rfl)]
      refine iteF ?_
      dsimp only [tNext]
      have hp4 := s24 _ _ hp
      have row4 : ∀ i (hi : i < rs.length), H4 rs[i] = some (tp (tb (b + 1) (t i))) := fun i hi => s24 _ _ (row i hi)
      refine ⟨_, rfl, p, rfl, ⟨_, SqT.of hp4⟩, fun D5 hD5 => lc_tup (xs := rs.map V.ref) (fun i H2 => Same H4 H2 ∧ H2 D5 = some (.lst (List.replicate i (V.bl true)))) ⟨same_upd0 hD5, upd_same⟩ (fun i H2 _ hP => SqT.of (hP.1 _ _ hp4)) (fun i x H6 hx hP => ?_) (fun H6 hP => ?_)⟩
      · obtain ⟨s6, hL6⟩ := hP
        obtain ⟨hi, rfl⟩ := get_ref hx
        have r6 := s6 _ _ (row4 i hi)
        refine ⟨rfl, _, rfl, rs[i], rfl, ⟨_, SqT.of r6⟩, fun D7 hD7 => lc_tup (xs := (tb (b + 1) (t i)).map V.int) (fun j H7 => Same H6 H7 ∧ H7 D7 = some (.lst (List.replicate j (V.bl true)))) ⟨same_upd0 hD7, upd_same⟩ (fun j H7 _ hP => SqT.of (hP.1 _ _ r6)) (fun j y H7 hy hP => ?_) (fun H7 hP => ?_)⟩
        · obtain ⟨s7, hL7⟩ := hP
          obtain ⟨hj, rfl⟩ := int_get hy
          rw [tb_len] at hj
          refine ⟨rfl, _, rfl, .int (co (tb (b + 1) (t i)) j), .ty "int", .type "int", .type "int", true, rfl, .ty "int", .base (.int _), kit_ty (show kitB "int" "int" = some true by decide +kernel), _, hL7, by rw [List.length_replicate]; exact small1000 (by omega), fun d o e => ?_, ?_⟩
          · rw [upd_ne (ne_of_none e hD7)]
            exact s7 _ _ e
          · rw [upd_same, List.replicate_succ']
        · obtain ⟨s7, hL7⟩ := hP
          rw [List.length_map, tb_len] at hL7
          refine ⟨D7, List.replicate (b + 1) true, rfl, SqL.of (by rw [hL7, List.map_replicate]), _, s7 _ _ hL6, by rw [List.length_replicate]; exact small1000 (by omega), fun d o e => ?_, ?_⟩
          · rw [upd_ne (ne_of_none e hD5)]
            exact s7 _ _ (s6 _ _ e)
          · rw [upd_same, all_true, List.replicate_succ']
      · obtain ⟨s6, hL6⟩ := hP
        rw [List.length_map, lr] at hL6
        exact ⟨D5, List.replicate (a + 1) true, rfl, SqL.of (by rw [hL6, List.map_replicate]), by rw [all_true]; exact q _ (s24.trans s6)⟩
/-- forms so far in the list at D -/
def Bf (C : Addr) (H : Hp) (D : Addr) (φ : Nat → List Int) (i : Nat) : Prop := ∃ rs : List Addr, H D = some (.lst (rs.map V.ref)) ∧ rs.length = i ∧ ∀ k (hk : k < rs.length), Fo C H rs[k] (φ k)
theorem Bf.nil {C : Addr} {H : Hp} {D : Addr} {φ : Nat → List Int} : Bf C (upd H D (.lst [])) D φ 0 := ⟨[], upd_same, rfl, fun k hk => absurd hk (Nat.not_lt_zero k)⟩
theorem Bf.step {C : Addr} {Hs H H2 : Hp} {D p : Addr} {φ : Nat → List Int} {i : Nat} (hP : Same Hs H ∧ Bf C H D φ i) (hD : Hs D = none) (s : Same H H2) (hp : Fo C H2 p (φ i)) (hi : i + 1 ≤ 1000) :
    ∃ acc, H2 D = some (.lst acc) ∧ acc.length < sizeLine ∧ (Same Hs (upd H2 D (.lst (acc ++ [.ref p]))) ∧ Bf C (upd H2 D (.lst (acc ++ [.ref p]))) D φ (i + 1)) := by
  obtain ⟨sH, rs, hL, lr, hrow⟩ := hP
  have hL2 := s _ _ hL
  refine ⟨_, hL2, by rw [List.length_map, lr]; exact small1000 (by omega), fun d o e => ?_, rs ++ [p], by rw [upd_same, List.map_append]; rfl, by rw [List.length_append, lr]; rfl, fun k hk => ?_⟩
  · rw [upd_ne (ne_of_none e hD)]
    exact s _ _ (sH _ _ e)
  · refine Fo.lst ?_ hL2
    by_cases c : k < rs.length
    · rw [show (rs ++ [p])[k] = rs[k] from List.getElem_append_left _]
      exact (hrow k c).same s
    · have ek : k = rs.length := by rw [List.length_append] at hk; simp at hk; omega
      subst ek
      rw [show (rs ++ [p])[rs.length] = p by rw [List.getElem_append_right (Nat.le_refl _)]; simp, lr]
      exact hp
/-- what stands as parts in a list of tuples -/
structure Lp (H : Hp) (ls : Addr) (fs : List Addr) (a b : Nat) (h : Nat → List Int) : Prop where
  lst : H ls = some (.lst (fs.map V.ref))
  len : fs.length = min a b + 1
  row : ∀ u (hu : u < fs.length), H fs[u] = some (tp (h u))
theorem Lp.same {H H' : Hp} {ls : Addr} {fs : List Addr} {a b : Nat} {h : Nat → List Int} (p : Lp H ls fs a b h) (s : Same H H') : Lp H' ls fs a b h :=
  ⟨s _ _ p.lst, p.len, fun u hu => s _ _ (p.row u hu)⟩
structure Hs (a b : Nat) (h : Nat → List Int) : Prop where
  len : ∀ u, u < min a b + 1 → (h u).length = a + b - 2 * u + 1
  bd : ∀ u, u < min a b + 1 → ∀ z ∈ h u, z.natAbs ≤ 2 ^ 190
  ab : a + b ≤ 10
  a6 : a ≤ 6
  b6 : b ≤ 6
theorem Hs.sho {a b : Nat} {h : Nat → List Int} (s : Hs a b h) {u : Nat} (hu : u < min a b + 1) : ∀ z ∈ h u, Sho z := fun z hz => Nat.lt_of_le_of_lt (s.bd u hu z hz) (by decide)
theorem Hs.bd3 {a b : Nat} {h : Nat → List Int} (s : Hs a b h) {u : Nat} (hu : u < min a b + 1) : ∀ z ∈ h u, z.natAbs ≤ 2 ^ 300 := fun z hz => Nat.le_trans (s.bd u hu z hz) (Nat.pow_le_pow_right (by decide) (by decide))
def spPR : Sp := fun vs H Q _ => ∃ (ls : Addr) (fs : List Addr) (a b : Nat) (h : Nat → List Int), vs = [.int a, .int b, .ref ls] ∧ Lp H ls fs a b h ∧ Hs a b h ∧ ∀ H', Same H H' → Q (.bl true) H'
theorem ok_law_parts_right (T : Facts K mg) : FnOk P w K mg base CX0 7 T.f_law_parts_right T.fd_law_parts_right ["_law_first", "_law_second", "_law_parts"] spPR := by
  have G_table_of_parts := ok_table_of_parts (P := P) (w := w) (base := base) T
  have G_law_is_shaped := ok_law_is_shaped (P := P) (w := w) (base := base) T
  have G_law_shared := ok_law_sharedC (P := P) (w := w) (base := base) T
  have G_law_pair_parts := ok_law_pair_parts (P := P) (w := w) (base := base) T
  have G_law_scaled := ok_law_scaled (P := P) (w := w) (base := base) T
  have G_Form_init := ok_Form_init (P := P) (w := w) (base := base) T
  refine T.F_law_parts_right.ok sc_law_parts_right (fun vs H Q E h => ?_) (fun cdv A outer s H vs Q E hr h => ?_)
  · obtain ⟨ls, fs, a, b, h, rfl, _⟩ := h
    rfl
  · obtain ⟨ls, fs, a, b, h, rfl, lp, hs, q⟩ := h
    refine ⟨_, (PSs.nox (pss_cons (ps_set (i := 3) sc_law_parts_right.nd rfl (.inl rfl) (pe_call G_table_of_parts (hr.mono (by decide)) (by rfl) T.g_table_of_parts T.F_table_of_parts.kp T.b_table_of_parts .nil pass0 (pa_cons (pv 0) (pa_cons (pv 1) (pa_cons (pe_tupleOf (by rfl) T.z_tuple (pe_lc (own := [("_law_part", 4)]) (g := (gName 4)) (tt := tYes) (by rfl) sc_law_parts_right.nd (pi_list (pv 2)) (blkOk_by (N := N_law_parts_right) (sc := defScope s_law_parts_right) (by decide +kernel)) (fun _ _ _ _ _ => (pg_name (i := 4) sc_law_parts_right.nd rfl (.inl rfl))) (fun _ _ _ _ _ => pts_nil) (fun _ _ _ _ _ => (pe_make T.mk_Form G_Form_init (hr.mono (by decide)) (by rfl) T.g_Form T.b_Form_init .nil pass0 (pa_cons (pv 4) pa_nil))))) pa_nil)))))
    (pss_cons (ps_asg (pv 3) (pg_tup (by rfl) (pgs_cons (pg_name (i := 5) sc_law_parts_right.nd rfl (.inl rfl)) (pgs_cons (pg_name (i := 6) sc_law_parts_right.nd rfl (.inr rfl)) pgs_nil))))
    (pss_cons (ps_if (pw_or (pt_not (pt_val (pe_callB call_isi (by rfl) T.z_isinstance (by decide +kernel) (pa_cons (pv 3) (pa_cons (pe_bltn (v := .ty "tuple") (by rfl) T.z_tuple (by decide +kernel) rfl) pa_nil))))) (pw_or (pt_not (pt_val (pe_call G_law_is_shaped (hr.mono (by decide)) (by rfl) T.g_law_is_shaped T.F_law_is_shaped.kp T.b_law_is_shaped .nil pass0 (pa_cons (pv 5) (pa_cons (pv 0) (pa_cons (pv 1) pa_nil)))))) (pw_or1 (pt_cmpR op_lt (pv 6) pe_int (nomark _))))).pt
      (pss_one (ps_ret pe_bl))
      pss_nil)
    (pss_cons (ps_set (i := 7) sc_law_parts_right.nd rfl (.inl rfl) (pe_lst pa_nil))
    (pss_cons (ps_for PassesOwn.never (by rfl) (pi_tup (pv 5)) (pg_name (i := 8) sc_law_parts_right.nd rfl (.inl rfl))
      (pss_one (ps_expr (pe_bm PySem.F.plainAttrs_list PySem.F.slot_list_extend PySem.F.type_list_extend mt_extend (pv 7) (pa_cons (pe_callTy call_list_of (by rfl) T.z_list (by decide +kernel) (pa_cons (pv 8) pa_nil)) pa_nil)))))
    (pss_cons (ps_if (pw_or (pt_cmpR op_ne (pe_call G_law_shared (hr.mono (by decide)) (by rfl) T.g_law_shared T.F_law_shared.kp T.b_law_shared .nil pass0 (pa_cons (pe_op op_cat (pv 7) (pe_lst (pa_cons (pv 6) pa_nil))) pa_nil)) pe_int (nomark _)) (pw_or1 (pw_and (pt_cmpR op_eq (pe_call G_law_shared (hr.mono (by decide)) (by rfl) T.g_law_shared T.F_law_shared.kp T.b_law_shared .nil pass0 (pa_cons (pv 7) pa_nil)) pe_int (nomark _)) (pw_and1 (pt_cmpR op_ne (pv 6) pe_int (nomark _)))).pt)).pt
      (pss_one (ps_ret pe_bl))
      pss_nil)
    (pss_one (ps_ret (pe_cmpR (op_eqD (hu64 hr)) (pe_call G_law_pair_parts (hr.mono (by decide)) (by rfl) T.g_law_pair_parts T.F_law_pair_parts.kp T.b_law_pair_parts .nil pass0 (pa_cons (pv 5) pa_nil)) (pe_lc (own := [("_law_part", 4)]) (g := (gName 4)) (tt := tYes) (by rfl) sc_law_parts_right.nd (pi_list (pv 2)) (blkOk_by (N := N_law_parts_right) (sc := defScope s_law_parts_right) (by decide +kernel)) (fun _ _ _ _ _ => (pg_name (i := 4) sc_law_parts_right.nd rfl (.inl rfl))) (fun _ _ _ _ _ => pts_nil) (fun _ _ _ _ _ => (pe_call G_law_scaled (hr.mono (by decide)) (by rfl) T.g_law_scaled T.F_law_scaled.kp T.b_law_scaled .nil pass0 (pa_cons (pv 4) (pa_cons (pv 6) pa_nil))))) (nomark _))))))))))), ?_⟩
    have lf := lp.len
    have ab := hs.ab
    have a6 := hs.a6
    have b6 := hs.b6
    refine ⟨_, rfl, _, rfl, _, rfl, ls, rfl, ⟨_, SqL.of lp.lst⟩, fun D hD => lc_list (xs := fs.map V.ref) (fun i H2 => Same H H2 ∧ Bf T.C_Form H2 D h i) ⟨same_upd0 hD, Bf.nil⟩ (fun i H2 _ hP => SqL.of (hP.1 _ _ lp.lst)) (fun i x H2 hx hP => ?_) (fun H2 hP => ?_)⟩
    · obtain ⟨hi, rfl⟩ := get_ref hx
      have hl := hs.len i (by omega)
      exact ⟨rfl, _, rfl, fun a1 dx1 x1 x2 x3 => mkF x1 x2 x3 (hP.1 _ _ (lp.row i hi)) (by omega) (by omega) (hs.sho (by omega)) fun H5 s5 f1 => Bf.step hP hD s5 f1 (by omega)⟩
    · obtain ⟨s2, gs, hL, lg, hg⟩ := hP
      rw [List.length_map, lf] at lg
      refine .inl ⟨D, _, rfl, SqL.of hL, fun p1 np1 => ?_⟩
      have pp : Pp T.C_Form (upd H2 p1 (.tup (gs.map V.ref))) p1 gs a b h := ⟨upd_same, lg, fun u hu => (hg u hu).same (same_upd0 np1), fun u hu => hs.len u (by omega)⟩
      have s3 := s2.trans (same_upd0 (o := .tup (gs.map V.ref)) np1)
      generalize (upd H2 p1 (.tup (gs.map V.ref))) = H3 at pp s3
      refine ⟨p1, gs, a, b, h, rfl, pp, fun u hu => hs.bd3 hu, ab, a6, b6, fun p2 r H4 s4 hp2 tr => ?_⟩
      obtain ⟨W, hW⟩ : ∃ W, W = whW a b (min a b + 1) := ⟨_, rfl⟩
      rw [← hW] at hp2 tr
      have W0 : 0 < W := hW ▸ whW_pos a6 b6
      have W60 : W < 2 ^ 60 := by
        rw [hW]
        exact (nums a (by omega) b (by omega)).2 _ (by omega)
      have key := fun u (hu : u < min a b + 1) => tab_parts (h := h) a6 b6 hW hu (hs.len u hu)
      obtain ⟨t, ht⟩ : ∃ t, t = fw a b W (fun u κ => co (h u) κ) (min a b + 1) := ⟨_, rfl⟩
      have tle : Tle (a + 1) (b + 1) (2 ^ 600) t := by
        rw [ht]
        exact fun i j hi hj => Nat.le_trans (fw_le (Nat.le_of_lt W60) a6 b6 ab (min a b + 1) (by omega) (by omega) (fun u hu => ⟨hs.len u hu, hs.bd3 hu⟩) i j hi hj) (Nat.le_trans (Nat.mul_le_mul (show min a b + 1 ≤ 2 ^ 3 by show min a b + 1 ≤ 8; omega) (Nat.le_refl _)) (by decide))
      rw [← ht] at hp2 tr key
      obtain ⟨s, hsn⟩ : ∃ s, s = ans (a + 1) (b + 1) t W := ⟨_, rfl⟩
      obtain ⟨B, hB⟩ : ∃ B, B = bot (a + 1) (b + 1) t W := ⟨_, rfl⟩
      have sle : Tle (a + 1) (b + 1) (2 ^ 600) s := hsn ▸ ans_le tle
      have low := ans_low (n := a + 1) (m := b + 1) (t := t) W0
      have non := ans_none (n := a + 1) (m := b + 1) (t := t) W0
      have B1 : 1 ≤ B := hB ▸ bot_pos W0
      have BW : B ≤ W := hB ▸ bot_le W0
      rw [← hsn, ← hB] at low non
      rw [← hsn] at tr key
      rw [← hB] at hp2 key
      have s04 := s3.trans s4
      refine ⟨_, rfl, p2, _, rfl, SqT.of hp2, rfl, _, _, rfl, _, _, rfl, rfl, ?_⟩
      refine ⟨_, rfl, .ref p2, .ty "tuple", .type "tuple", .type "tuple", true, rfl, .ty "tuple", .base (.tup hp2), kit_ty (show kitB "tuple" "tuple" = some true by decide +kernel), true, rfl, iteF ?_⟩
      refine ⟨_, rfl, _, rfl, _, rfl, r, a, b, s, rfl, tr, by omega, by omega, fun H5 s5 => ⟨true, rfl, iteF ?_⟩⟩
      have tr5 := tr.same s5
      refine ⟨_, rfl, _, _, rfl, rfl, _, rfl, ?_⟩
      rw [decide_eq_false (show ¬ ((B : Nat) : Int) < 1 by omega)]
      refine iteF ?_
      dsimp only [tNext]
      obtain ⟨rs, lr, hp5, row5⟩ := tr5
      have lp5 := lp.same (s04.trans s5)
      have s05 := s04.trans s5
      refine ⟨Nat.zero_le _, fun F nF => gen_upd H5 F (.lst []) nF fun H6 s6 f6 => ?_⟩
      have len_flat : ∀ i, i ≤ a + 1 → (flat (b + 1) s i).length ≤ 7 * i := fun i hi => by
        induction i with
        | zero => exact Nat.zero_le _
        | succ i ih =>
          have := ih (by omega)
          show (flat (b + 1) s i ++ tb (b + 1) (s i)).length ≤ _
          rw [List.length_append, tb_len]
          omega
      refine ⟨_, rfl, r, rfl, ⟨_, SqT.of (s6 _ _ hp5)⟩, for_tup (xs := rs.map V.ref) (fun i σ H' => ∃ y8, σ = [some (.int a), some (.int b), some (.ref ls), some (.ref p2), none, some (.ref r), some (.int B), some (.ref F), y8] ∧ Same H5 H' ∧ H' F = some (.lst ((flat (b + 1) s i).map V.int))) ⟨none, rfl, s6, f6⟩ (fun i σ H' _ hP => ?_) (fun i x σ H' hx hP => ?_) (fun σ H' hP => ?_)⟩
      · obtain ⟨_, _, sH, _⟩ := hP
        exact SqT.of (sH _ _ hp5)
      · obtain ⟨y8, rfl, sH, hF⟩ := hP
        obtain ⟨hi, rfl⟩ := get_ref hx
        have r6 := sH _ _ (row5 i hi)
        refine ⟨_, rfl, .inl ⟨rfl, _, SqL.of hF⟩, _, rfl, rs[i], _, rfl, .inr (SqT.of r6), fun l nl => ?_⟩
        have Fl : F ≠ l := ne_of_none hF nl
        refine ⟨F, l, _, _, rfl, rfl, by rw [upd_ne Fl]; exact hF, upd_same, ?_, ?_⟩
        · have := len_flat i (by omega)
          rw [List.length_map, List.length_map, tb_len]
          exact Nat.le_of_lt (small1000 (by omega))
        · refine ⟨_, rfl, fun d o e => ?_, ?_⟩
          · rw [upd_ne (ne_of_none e nF), upd_ne (ne_of_none (sH _ _ e) nl)]
            exact sH _ _ e
          · rw [upd_same, ← List.map_append]
            rfl
      · obtain ⟨y8, rfl, sH, hF⟩ := hP
        rw [List.length_map, lr] at hF
        have lfl := len_flat (a + 1) (Nat.le_refl _)
        refine ⟨_, rfl, _, rfl, by show 1 ≤ sizeLine; decide, fun q1 nq1 => gen_upd H' q1 (.lst [.int B]) nq1 fun H7 s7 f7 => ?_⟩
        have hF7 := s7 _ _ hF
        refine ⟨F, q1, _, _, rfl, rfl, hF7, f7, ?_, fun p8 np8 => ?_⟩
        · rw [List.length_map]
          show _ + 1 ≤ _
          exact Nat.le_of_lt (small1000 (by omega))
        have s8 := same_upd0 (o := .lst ((flat (b + 1) s (a + 1)).map V.int ++ [V.int B])) np8
        refine ⟨p8, flat (b + 1) s (a + 1) ++ [(B : Int)], rfl, .inr (SqL.of (by rw [upd_same, List.map_append]; rfl)), rfl, _, rfl, ?_⟩
        rw [cont_gl, low, decide_eq_true (show V.int ((1 : Nat) : Int) = V.int 1 from rfl)]
        refine iteF ?_
        generalize (upd H7 p8 (.lst ((flat (b + 1) s (a + 1)).map V.int ++ [V.int B]))) = H8 at s8
        have s58 := (sH.trans s7).trans s8
        have hF8 := s8 _ _ hF7
        refine ⟨_, rfl, F, flat (b + 1) s (a + 1), rfl, .inr (SqL.of hF8), rfl, _, rfl, ?_⟩
        rw [cont_gl]
        by_cases c : gl (flat (b + 1) s (a + 1)) = 0
        all_goals first
          | rw [c, decide_eq_true (show V.int ((0 : Nat) : Int) = V.int 0 from rfl)]
            refine iteT ⟨_, rfl, rfl, _, rfl, ?_⟩
            rw [decide_eq_true (show V.int ((B : Nat) : Int) = V.int 1 from by rw [non c]; rfl)]
            refine iteF ?_
          | rw [decide_eq_false (show ¬ V.int ((gl (flat (b + 1) s (a + 1)) : Nat) : Int) = V.int 0 from fun z => c (Int.ofNat.inj (V.int.inj z)))]
            refine iteF (iteF ?_)
        all_goals
          dsimp only [tNext]
          have tr8 : Tt H8 r (a + 1) (b + 1) s := ⟨rs, lr, s58 _ _ hp5, fun i hi => s58 _ _ (row5 i hi)⟩
          have lp8 := lp5.same s58
          refine ⟨_, rfl, r, a + 1, b + 1, s, rfl, tr8.ts, by omega, by omega, by omega, by omega, sle, fun p9 H9 fs9 s9 k9 l9 w9 => ?_⟩
          have lp9 := lp8.same s9
          refine ⟨_, rfl, ls, rfl, ⟨_, SqL.of lp9.lst⟩, fun E1 hE => lc_list (xs := fs.map V.ref) (fun i H2 => Same H9 H2 ∧ Bl H2 E1 (fun u => (h u).map ((B : Int) * ·)) i) ⟨same_upd0 hE, Bl.nil⟩ (fun i H2 _ hP => SqL.of (hP.1 _ _ lp9.lst)) (fun i x H2 hx hP => ?_) (fun H2 hP => ?_)⟩
          · obtain ⟨hi, rfl⟩ := get_ref hx
            have hl := hs.len i (by omega)
            exact ⟨rfl, _, rfl, _, rfl, fs[i], h i, B, rfl, hP.1 _ _ (lp9.row i hi), by omega, fun z hz => lt400 (hs.bd3 (by omega) z hz) (by decide), sm_nat (i := 60) (Nat.le_trans BW (Nat.le_of_lt W60)), fun p0 H0 s0 n0 g0 => Bl.step hP hE s0 g0 (by omega)⟩
          · obtain ⟨s10, gs2, k10, l10, w10⟩ := hP
            rw [List.length_map, lf] at l10
            refine eq_lrows (n := min a b + 1) (s10 _ _ k9) k10 (by omega) l10 (fun u hu => s10 _ _ (w9 u hu)) w10 (fun u hu => key u hu) ?_
            exact q _ (((s05.trans s58).trans s9).trans s10)
end
end K13

set_option Elab.async false
set_option linter.all false
set_option maxRecDepth 100000
set_option maxHeartbeats 4000000
set_option exponentiation.threshold 10000
/-! the law's tables of drawn parts -/
namespace K13
open PySem PySem.Spec PyProof.Rows L2 StX RZ MyR SlX OwnR OwnF EnumT SeqE GxR GenNx FDivQ
/-- drawn rows so far -/
def Bg (d : Addr) (H0 H : Hp) (D : Addr) (P : Nat → List Int → Prop) (i : Nat) : Prop := Sx d H0 H ∧ Dc H d ∧ ∃ rs : List Addr, H D = some (.lst (rs.map V.ref)) ∧ rs.length = i ∧ ∀ k (hk : k < rs.length), ∃ l, H rs[k] = some (tp l) ∧ P k l
theorem Bg.nil {d : Addr} {H0 : Hp} {D : Addr} {P : Nat → List Int → Prop} (hd : Dc H0 d) (hD : H0 D = none) : Bg d H0 (upd H0 D (.lst [])) D P 0 :=
  ⟨Sx.of (same_upd0 hD), hd.same (same_upd0 hD), [], upd_same, rfl, fun k hk => absurd hk (Nat.not_lt_zero k)⟩
theorem Bg.step {d : Addr} {H0 H H2 : Hp} {D p : Addr} {P : Nat → List Int → Prop} {i : Nat} {l : List Int} (h : Bg d H0 H D P i) (hd0 : Dc H0 d) (hD : H0 D = none) (s : Sx d H H2) (d2 : Dc H2 d) (hp : H2 p = some (tp l)) (hl : P i l) (hi : i + 1 ≤ 1000) :
    ∃ acc, H2 D = some (.lst acc) ∧ acc.length < sizeLine ∧ Bg d H0 (upd H2 D (.lst (acc ++ [.ref p]))) D P (i + 1) := by
  obtain ⟨s0, d1, rs, hL, lr, hrow⟩ := h
  have Dd : D ≠ d := hd0.ne hD
  have hL2 := s _ _ Dd hL
  refine ⟨_, hL2, by rw [List.length_map, lr]; exact small1000 (by omega), fun b o nb e => ?_, ?_, rs ++ [p], by rw [upd_same, List.map_append]; rfl, by rw [List.length_append, lr]; rfl, fun k hk => ?_⟩
  · rw [upd_ne (ne_of_none e hD)]
    exact s _ _ nb (s0 _ _ nb e)
  · obtain ⟨x, y, z, e⟩ := d2
    exact ⟨x, y, z, by rw [upd_ne (Ne.symm Dd)]; exact e⟩
  · by_cases c : k < rs.length
    · rw [show (rs ++ [p])[k] = rs[k] from List.getElem_append_left _]
      obtain ⟨l', e0, p0⟩ := hrow k c
      have e1 := s _ _ (dc_ne d1 e0) e0
      refine ⟨l', ?_, p0⟩
      rw [upd_ne (fun z => by rw [z, hL2] at e1; cases e1)]
      exact e1
    · have ek : k = rs.length := by rw [List.length_append] at hk; simp at hk; omega
      subst ek
      rw [show (rs ++ [p])[rs.length] = p by rw [List.getElem_append_right (Nat.le_refl _)]; simp]
      refine ⟨l, ?_, lr ▸ hl⟩
      rw [upd_ne (fun z => by rw [z, hL2] at hp; cases hp)]
      exact hp
theorem pick_all {H : Hp} {rs : List Addr} {P : Nat → List Int → Prop} (h : ∀ k (hk : k < rs.length), ∃ l, H rs[k] = some (tp l) ∧ P k l) : ∃ φ : Nat → List Int, ∀ k (hk : k < rs.length), H rs[k] = some (tp (φ k)) ∧ P k (φ k) := by
  refine ⟨fun k => if hk : k < rs.length then (h k hk).choose else [], fun k hk => ?_⟩
  dsimp only
  rw [dif_pos hk]
  exact (h k hk).choose_spec
/-- a table and a number, against another pair -/
theorem lay_pair (ls : List (List Int)) (B : Int) : PyData.canLayAll0 [.tuple (TD ls), .int B] = true := by
  show (PyData.canLayAll0 (TD ls) && (true && true)) = true
  rw [lay_td]
  rfl
theorem shaped_pair (ls : List (List Int)) (B : Int) : SeqAt.shaped (.tuple [.tuple (TD ls), .int B]) = true := by
  unfold SeqAt.shaped
  rw [show PyData.canLay0 (.tuple [.tuple (TD ls), .int B]) = PyData.canLayAll0 [.tuple (TD ls), .int B] from rfl, lay_pair]
  have e : PyData.depth (.tuple [.tuple (TD ls), .int B]) ≤ 64 := by
    show max (PyData.depthAll (TD ls) + 1) (max 0 0) + 1 ≤ 64
    have := depth_td ls
    omega
  rw [decide_eq_true e]
  rfl
theorem eqv_pair (ls : List (List Int)) (B : Int) : PyData.eqv (.tuple [.tuple (TD ls), .int B]) (.tuple [.tuple (TD ls), .int B]) = true := SeqAt.eqv_refl _ (lay_pair ls B)
theorem pair_dp {K : PySem.W.Frag} {H : Hp} {p r : Addr} {B : Int} {n m : Nat} {t : Nat → Nat → Int} (hp : H p = some (.tup [.ref r, .int B])) (ht : Tt H r n m t) : L2.Dp K H (.ref p) (.tuple [.tuple (TD (rw_ n fun i => tb m (t i))), .int B]) := by
  obtain ⟨rs, lr, h1, h2⟩ := ht
  exact .tup (SqT.of hp) (.cons (.tup (SqT.of h1) (dpAll_fn rs n (fun i => tb m (t i)) lr h2)) (.cons (.int B) .nil))
theorem ne_pair {K : PySem.W.Frag} {H : Hp} {p r p2 r2 : Addr} {B : Int} {n m : Nat} {t : Nat → Nat → Int} {Q : VK} (hp : H p = some (.tup [.ref r, .int B])) (ht : Tt H r n m t) (hp2 : H p2 = some (.tup [.ref r2, .int B])) (ht2 : Tt H r2 n m t) (q : Q (.bl false) H) : rNeD K (.ref p) (.ref p2) H Q := by
  refine ⟨_, _, pair_dp hp ht, pair_dp hp2 ht2, shaped_pair _ _, shaped_pair _ _, ?_⟩
  rw [eqv_pair]
  exact q
theorem eq_pair {K : PySem.W.Frag} {H : Hp} {p r p2 r2 : Addr} {B : Int} {n m : Nat} {t : Nat → Nat → Int} {Q : VK} (hp : H p = some (.tup [.ref r, .int B])) (ht : Tt H r n m t) (hp2 : H p2 = some (.tup [.ref r2, .int B])) (ht2 : Tt H r2 n m t) (q : Q (.bl true) H) : rEqD K (.ref p) (.ref p2) H Q := by
  refine ⟨_, _, pair_dp hp ht, pair_dp hp2 ht2, shaped_pair _ _, shaped_pair _ _, ?_⟩
  rw [eqv_pair]
  exact q
theorem Tt.eqt {H : Hp} {a : Addr} {n m : Nat} {t s : Nat → Nat → Int} (h : Tt H a n m t) (e : Eqt n m t s) : Tt H a n m s := by
  obtain ⟨rs, l, h1, h2⟩ := h
  exact ⟨rs, l, h1, fun i hi => by rw [h2 i hi, tb_ext fun j hj => e i j (by omega) hj]⟩
theorem rx_of {p : Addr → List Int → Prop} : ∀ {as : List Addr} {rs : List (List Int)}, as.length = rs.length → (∀ i (h : i < as.length) (h' : i < rs.length), p as[i] rs[i]) → RX p as rs
  | [], [], _, _ => True.intro
  | _ :: _, _ :: _, l, h => ⟨h 0 (Nat.succ_pos _) (Nat.succ_pos _), rx_of (Nat.succ.inj l) fun i hi hi' => h (i + 1) (Nat.succ_lt_succ hi) (Nat.succ_lt_succ hi')⟩
  | [], _ :: _, l, _ => (nomatch l)
  | _ :: _, [], l, _ => (nomatch l)
theorem Tt.tl2 {H : Hp} {a : Addr} {n m : Nat} {t : Nat → Nat → Int} (h : Tt H a n m t) : Tl2 H a ((List.range n).map fun i => tb m (t i)) := by
  obtain ⟨rs, l, h1, h2⟩ := h
  refine ⟨rs, h1, rx_of (by rw [List.length_map, List.length_range, l]) fun i hi hi' => ?_⟩
  rw [List.getElem_map, List.getElem_range]
  exact h2 i hi
theorem getD_range {n : Nat} {φ : Nat → List Int} {k : Nat} (h : k < n) : ((List.range n).map φ).getD k [] = φ k := by
  rw [List.getD_eq_getElem?_getD, List.getElem?_map, List.getElem?_range h]
  rfl
section
variable {P : Program} {w : World} {K : PySem.W.Frag} {mg : Str → Option Value} {base : Heap} {Ps : List Addr}
def spRt (Ps : List Addr) : Sp := fun vs H Q _ => ∃ d : Addr, vs = [.ref d] ∧ Dp d Ps H ∧ ∀ H', Sy d Ps H H' → Dp d Ps H' → Q (.bl true) H'
theorem ok_law_right (T : Facts K mg) (TB_first_of : TabB base mg T.c_first_of T.P_first_of) (hP : T.P_first_of ∈ Ps) : FnOk P w K mg base CX0 9 T.f_law_right T.fd_law_right ["_law_dice_here"] (spRt Ps) := by
  have G_law_roll : FnOk P w K mg base CX0 1 T.f_law_roll T.fd_law_roll ["_law_dice_here", "_law_total"] spRoll2 := (ok_law_roll T).imp roll2
  have G_law_near : FnOk P w K mg base CX0 2 T.f_law_near T.fd_law_near ["_law_dice_here", "_law_most"] spNear := ok_law_near T
  have G_law_form := ok_law_form (P := P) (w := w) (base := base) T
  have G_law_scaled := ok_law_scaled (P := P) (w := w) (base := base) T
  have G_law_parts_right := ok_law_parts_right (P := P) (w := w) (base := base) T
  have G_table_of_parts := ok_table_of_parts (P := P) (w := w) (base := base) T
  have G_table_parts := ok_table_parts (P := P) (w := w) (base := base) T
  have G_law_laid := ok_law_laid (P := P) (w := w) (base := base) T
  have G_Form_init := ok_Form_init (P := P) (w := w) (base := base) T
  have G_law_pair_product := ok_law_pair_product (P := P) (w := w) (base := base) T
  have G_rank := ok_rank (P := P) (w := w) (base := base) T TB_first_of hP
  refine T.F_law_right.ok sc_law_right (fun vs H Q E h => ?_) (fun cdv A outer s H vs Q E hr h => ?_)
  · obtain ⟨d, rfl, _⟩ := h
    rfl
  · obtain ⟨d, rfl, Dp0, q⟩ := h
    refine ⟨_, (PSs.nox (pss_cons (ps_set (i := 1) sc_law_right.nd rfl (.inr rfl) (pe_call G_law_roll (hr.mono (by decide)) (by rfl) T.g_law_roll T.F_law_roll.kp T.b_law_roll .nil pass0 (pa_cons (pv 0) (pa_cons pe_int pa_nil))))
    (pss_cons (ps_set (i := 2) sc_law_right.nd rfl (.inr rfl) (pe_call G_law_roll (hr.mono (by decide)) (by rfl) T.g_law_roll T.F_law_roll.kp T.b_law_roll .nil pass0 (pa_cons (pv 0) (pa_cons (pe_callB (call_min2 (by rfl)) (by rfl) T.z_min (by decide +kernel) (pa_cons pe_int (pa_cons (pe_op op_sub pe_int (pv 1)) pa_nil))) pa_nil))))
    (pss_cons (ps_set (i := 3) sc_law_right.nd rfl (.inl rfl) (pe_callB (call_min2 (by rfl)) (by rfl) T.z_min (by decide +kernel) (pa_cons (pv 1) (pa_cons (pv 2) pa_nil))))
    (pss_cons (ps_setLc (i := 4) (own := [("_law_times", 5)]) (g := (gName 5)) (tt := tYes) rfl sc_law_right.nd rfl rfl (sw_true rfl rfl rfl (by decide +kernel)) (pi_range1 (by rfl) T.z_range (pa_cons (pe_op op_add (pv 3) pe_int) pa_nil)) (blkOk_by (N := N_law_right) (sc := defScope s_law_right) (by decide +kernel)) (fun _ _ _ _ _ => (pg_name (i := 5) sc_law_right.nd rfl (.inl rfl))) (fun _ _ _ _ _ => pts_nil) (fun _ _ _ _ _ => (pe_call G_law_form (hr.mono (by decide)) (by rfl) T.g_law_form T.F_law_form.kp T.b_law_form .nil pass0 (pa_cons (pv 0) (pa_cons (pe_op op_sub (pe_op op_add (pv 1) (pv 2)) (pe_op op_mulW pe_int (pv 5))) pa_nil)))))
    (pss_cons (ps_setLc (i := 4) (own := [("_law_part", 6)]) (g := (gName 6)) (tt := tYes) rfl sc_law_right.nd rfl rfl (sw_true rfl rfl rfl (by decide +kernel)) (pi_list (pv 4)) (blkOk_by (N := N_law_right) (sc := defScope s_law_right) (by decide +kernel)) (fun _ _ _ _ _ => (pg_name (i := 6) sc_law_right.nd rfl (.inl rfl))) (fun _ _ _ _ _ => pts_nil) (fun _ _ _ _ _ => (pe_ifExp (pt_cmpR op_gt (pe_call G_law_roll (hr.mono (by decide)) (by rfl) T.g_law_roll T.F_law_roll.kp T.b_law_roll .nil pass0 (pa_cons (pv 0) (pa_cons pe_int pa_nil))) pe_int (nomark _)) (pv 6) (pe_call G_law_scaled (hr.mono (by decide)) (by rfl) T.g_law_scaled T.F_law_scaled.kp T.b_law_scaled .nil pass0 (pa_cons (pv 6) (pa_cons pe_int pa_nil))))))
    (pss_cons (ps_if (pt_not (pt_val (pe_call G_law_parts_right (hr.mono (by decide)) (by rfl) T.g_law_parts_right T.F_law_parts_right.kp T.b_law_parts_right .nil pass0 (pa_cons (pv 1) (pa_cons (pv 2) (pa_cons (pv 4) pa_nil))))))
      (pss_one (ps_ret pe_bl))
      pss_nil)
    (pss_cons (ps_set (i := 7) sc_law_right.nd rfl (.inl rfl) (pe_tupleOf (by rfl) T.z_tuple (pe_lc (own := [("_law_row", 9)]) (g := (gName 9)) (tt := tYes) (by rfl) sc_law_right.nd (pi_range1 (by rfl) T.z_range (pa_cons (pe_op op_add (pv 1) pe_int) pa_nil)) (blkOk_by (N := N_law_right) (sc := defScope s_law_right) (by decide +kernel)) (fun _ _ _ _ _ => (pg_name (i := 9) sc_law_right.nd rfl (.inl rfl))) (fun _ _ _ _ _ => pts_nil) (fun _ _ _ _ _ => (pe_tupleOf (by rfl) T.z_tuple (pe_lc (own := [("_law_place", 8)]) (g := (gName 8)) (tt := tYes) (by rfl) sc_law_right.nd (pi_range1 (by rfl) T.z_range (pa_cons (pe_op op_add (pv 2) pe_int) pa_nil)) (blkOk_by (N := N_law_right) (sc := relS _ (defScope s_law_right)) (by decide +kernel)) (fun _ _ _ _ _ => (pg_name (i := 8) sc_law_right.nd rfl (.inl rfl))) (fun _ _ _ _ _ => pts_nil) (fun _ _ _ _ _ => (pe_call G_law_near (hr.mono (by decide)) (by rfl) T.g_law_near T.F_law_near.kp T.b_law_near .nil pass0 (pa_cons (pv 0) (pa_cons pe_int pa_nil))))) : PE _ _ (tThen _ (kTup K)))))))
    (pss_cons (ps_if (pt_cmpR (op_neD (hu64 hr)) (pe_call G_table_of_parts (hr.mono (by decide)) (by rfl) T.g_table_of_parts T.F_table_of_parts.kp T.b_table_of_parts .nil pass0 (pa_cons (pv 1) (pa_cons (pv 2) (pa_cons (pe_call G_table_parts hr (by rfl) T.g_table_parts T.F_table_parts.kp T.b_table_parts .nil pass0 (pa_cons (pv 7) pa_nil)) pa_nil)))) (pe_tup (pa_cons (pv 7) (pa_cons pe_int pa_nil))) (nomark _))
      (pss_one (ps_ret pe_bl))
      pss_nil)
    (pss_cons (ps_asg (pe_tup (pa_cons (pe_call G_law_form (hr.mono (by decide)) (by rfl) T.g_law_form T.F_law_form.kp T.b_law_form .nil pass0 (pa_cons (pv 0) (pa_cons (pv 1) pa_nil))) (pa_cons (pe_call G_law_form (hr.mono (by decide)) (by rfl) T.g_law_form T.F_law_form.kp T.b_law_form .nil pass0 (pa_cons (pv 0) (pa_cons (pv 2) pa_nil))) pa_nil))) (pg_tup (by rfl) (pgs_cons (pg_name (i := 10) sc_law_right.nd rfl (.inr rfl)) (pgs_cons (pg_name (i := 11) sc_law_right.nd rfl (.inr rfl)) pgs_nil))))
    (pss_cons (ps_setLc (i := 12) (own := [("_law_times", 5)]) (g := (gName 5)) (tt := tYes) rfl sc_law_right.nd rfl rfl (sw_true rfl rfl rfl (by decide +kernel)) (pi_range1 (by rfl) T.z_range (pa_cons (pe_op op_add (pv 3) pe_int) pa_nil)) (blkOk_by (N := N_law_right) (sc := defScope s_law_right) (by decide +kernel)) (fun _ _ _ _ _ => (pg_name (i := 5) sc_law_right.nd rfl (.inl rfl))) (fun _ _ _ _ _ => pts_nil) (fun _ _ _ _ _ => (pe_call G_law_laid (hr.mono (by decide)) (by rfl) T.g_law_laid T.F_law_laid.kp T.b_law_laid .nil pass0 (pa_cons (pv 10) (pa_cons (pv 11) (pa_cons (pv 5) pa_nil))))))
    (pss_cons (ps_set (i := 13) sc_law_right.nd rfl (.inl rfl) (pe_call G_table_of_parts (hr.mono (by decide)) (by rfl) T.g_table_of_parts T.F_table_of_parts.kp T.b_table_of_parts .nil pass0 (pa_cons (pv 1) (pa_cons (pv 2) (pa_cons (pe_tupleOf (by rfl) T.z_tuple (pe_lc (own := [("_law_part", 6)]) (g := (gName 6)) (tt := tYes) (by rfl) sc_law_right.nd (pi_list (pv 12)) (blkOk_by (N := N_law_right) (sc := defScope s_law_right) (by decide +kernel)) (fun _ _ _ _ _ => (pg_name (i := 6) sc_law_right.nd rfl (.inl rfl))) (fun _ _ _ _ _ => pts_nil) (fun _ _ _ _ _ => (pe_make T.mk_Form G_Form_init (hr.mono (by decide)) (by rfl) T.g_Form T.b_Form_init .nil pass0 (pa_cons (pv 6) pa_nil))))) pa_nil)))))
    (pss_one (ps_ret (pe_and (pe_cmpR (op_eqD (hu64 hr)) (pv 13) (pe_tup (pa_cons (pe_call G_law_pair_product (hr.mono (by decide)) (by rfl) T.g_law_pair_product T.F_law_pair_product.kp T.b_law_pair_product .nil pass0 (pa_cons (pv 10) (pa_cons (pv 11) pa_nil))) (pa_cons pe_int pa_nil))) (nomark _)) (pe_one (pe_cmpR op_lt (pe_call G_rank (hr.mono (by decide)) (by rfl) T.g_rank T.F_rank.kp T.b_rank .nil pass0 (pa_cons (pe_ix ix_tup (pv 13) pe_int (fun _ _ => rfl)) pa_nil)) pe_int (nomark _)))))))))))))))))), ?_⟩
    have hd := Dp0.dd
    have lg : ∀ i : Nat, i < 100 → (i : Int).natAbs.log2 < 9000 := fun i hi => Nat.lt_trans (PySem.Flt.log2_lt_of (k := 10) (by decide) (by show i < 2 ^ 10; omega)) (by decide)
    refine ⟨_, rfl, d, 7, rfl, hd, by decide, lg 7 (by decide), fun a H1 ha s1 d1 => ?_⟩
    have ha : (a : Int) < 7 := ha
    have em : (if (11 - (a : Int)) < 7 then (11 - (a : Int)) else 7) = ((min 7 (11 - a) : Nat) : Int) := by split <;> omega
    refine ⟨_, rfl, _, rfl, _, _, rfl, rfl, _, _, rfl, d, ((min 7 (11 - a) : Nat) : Int), ?_, d1, by omega, lg _ (by omega), fun b H2 hb s2 d2 => ?_⟩
    · show [V.ref d, V.int (if (11 - (a : Int)) < 7 then (11 - (a : Int)) else 7)] = _
      rw [em]
    have hab : a + b ≤ 10 := by omega
    have a6 : a ≤ 6 := by omega
    have b6 : b ≤ 6 := by omega
    have em2 : (if (b : Int) < (a : Int) then (b : Int) else (a : Int)) = ((min a b : Nat) : Int) := by split <;> omega
    refine ⟨_, rfl, _, rfl, _, _, rfl, ?_⟩
    rw [em2]
    obtain ⟨M, hM⟩ : ∃ M, M = min a b := ⟨_, rfl⟩
    rw [← hM]
    have s02 := s1.trans s2
    refine ⟨_, rfl, _, _, rfl, rfl, (M : Int) + 1, rfl, by omega, by omega, fun D nD => lc_range (n := ((M : Int) + 1).toNat) (fun i H' => Bg d H2 H' D (fun k l => Bd l (a + b - 2 * k) (10 ^ 14)) i) (Bg.nil d2 nD) (fun i H' hi hP => ?_) (fun H' hP => ?_)⟩
    · have hi2 : i < M + 1 := by omega
      refine ⟨rfl, _, rfl, _, rfl, _, rfl, _, _, rfl, rfl, _, rfl, _, _, rfl, rfl, sm_mul (show sm 2 from lt400 (i := 1) (by decide) (by decide)) (sm_le (n := 100) (show ((0 : Int) + (i : Int)).natAbs ≤ 100 by omega) (by decide)), _, _, rfl, rfl, d, a + b - 2 * i, ?_, hP.2.1, by omega, fun p H3 l s3 d3 hp bd => hP.step d2 nD s3 d3 hp bd (by omega)⟩
      show [V.ref d, V.int ((a : Int) + (b : Int) - 2 * (0 + (i : Int)))] = _
      rw [show (a : Int) + (b : Int) - 2 * (0 + (i : Int)) = ((a + b - 2 * i : Nat) : Int) by omega]
    · rw [show ((M : Int) + 1).toNat = M + 1 by omega] at hP
      obtain ⟨s3, d3, rs, hL, lr, hrow⟩ := hP
      have s03 := s02.trans s3
      have Dd : D ≠ d := d2.ne nD
      refine ⟨_, rfl, D, rfl, ⟨_, SqL.of hL⟩, fun D2 nD2 => lc_list (xs := rs.map V.ref) (fun i H4 => Bg d H' H4 D2 (fun k l => Bd l (a + b - 2 * k) (10 ^ 14)) i) (Bg.nil d3 nD2) (fun i H4 _ hP => SqL.of (hP.1 _ _ Dd hL)) (fun i x H4 hx hP => ?_) (fun H4 hP => ?_)⟩
      · obtain ⟨hi, rfl⟩ := get_ref hx
        obtain ⟨l, e0, bd⟩ := hrow i hi
        have e4 := hP.1 _ _ (dc_ne d3 e0) e0
        refine ⟨rfl, _, rfl, d, 3, rfl, hP.2.1, by decide, lg 3 (by decide), fun r H5 hr5 s5 d5 => ⟨_, _, rfl, rfl, _, rfl, ?_⟩⟩
        by_cases c : (r : Int) > 0
        · rw [decide_eq_true c]
          exact iteT ⟨_, rfl, hP.step d3 nD2 s5 d5 (s5 _ _ (dc_ne hP.2.1 e4) e4) bd (by omega)⟩
        · rw [decide_eq_false c]
          have hl := bd.len
          refine iteF ⟨_, rfl, rs[i], l, 0, rfl, s5 _ _ (dc_ne hP.2.1 e4) e4, by omega, fun z hz => lt400 (i := 47) (Nat.le_trans (Nat.le_trans (nm_mem hz) bd.nm) (by decide)) (by decide), lt400 (i := 1) (by decide) (by decide), fun p H6 s6 n6 g6 => hP.step d3 nD2 (s5.trans (Sx.of s6)) (d5.same s6) g6 ⟨by rw [List.length_map, hl], ?_⟩ (by omega)⟩
          have e : (l.map fun x => 0 * x) = l.map fun _ => (0 : Int) := List.map_congr_left fun x _ => Int.zero_mul x
          rw [e]
          have z : ∀ l : List Int, nm (l.map fun _ => (0 : Int)) = 0 := fun l => by
            induction l with
            | nil => rfl
            | cons x l ih =>
              show (0 : Int).natAbs + nm (l.map fun _ => (0 : Int)) = 0
              rw [ih]
              rfl
          rw [z]
          exact Nat.zero_le _
      · rw [List.length_map, lr] at hP
        obtain ⟨s4, d4, fs, hE, lf, hrow2⟩ := hP
        have s04 := s03.trans s4
        obtain ⟨h, hh⟩ := pick_all hrow2
        have lp : Lp H4 D2 fs a b h := ⟨hE, by omega, fun u hu => (hh u hu).1⟩
        have hhs : Hs a b h := ⟨fun u hu => (hh u (by omega)).2.len, fun u hu z hz => Nat.le_trans (nm_mem hz) (Nat.le_trans (hh u (by omega)).2.nm (by decide)), hab, a6, b6⟩
        refine ⟨_, rfl, _, rfl, _, rfl, D2, fs, a, b, h, rfl, lp, hhs, fun H5 s5 => ⟨true, rfl, iteF ?_⟩⟩
        have d5 := d4.same s5
        have s05 := s04.trans (Sx.of s5)
        clear hh hhs lp lf hE hrow2 hrow hL lr
        dsimp only [tNext]
        refine ⟨_, rfl, _, _, rfl, rfl, (a : Int) + 1, rfl, by omega, by omega, fun D6 nD6 => lc_range (n := ((a : Int) + 1).toNat) (fun i H' => Bg d H5 H' D6 (fun k l => l.length = b + 1 ∧ ∀ x ∈ l, x.natAbs ≤ 9) i) (Bg.nil d5 nD6) (fun i H6 hi hP => ?_) (fun H6 hP => ?_)⟩
        · refine ⟨rfl, _, rfl, _, _, rfl, rfl, (b : Int) + 1, rfl, by omega, by omega, fun D7 nD7 => lc_range (n := ((b : Int) + 1).toNat) (fun j H7 => Sx d H6 H7 ∧ Dc H7 d ∧ ∃ l : List Int, H7 D7 = some (.lst (l.map V.int)) ∧ l.length = j ∧ ∀ x ∈ l, x.natAbs ≤ 9) ⟨Sx.of (same_upd0 nD7), hP.2.1.same (same_upd0 nD7), [], upd_same, rfl, fun x hx => by cases hx⟩ (fun j H7 hj hP7 => ?_) (fun H7 hP7 => ?_)⟩
          · obtain ⟨s7, d7, l, hL7, hl, hb9⟩ := hP7
            have nD : D7 ≠ d := hP.2.1.ne nD7
            refine ⟨rfl, _, rfl, d, 9, rfl, d7, by decide, by decide, fun r H8 r1 r2 s8 d8 => ⟨_, s8 D7 _ nD hL7, ?_, fun b o hb2 e => ?_, ?_, l ++ [r], ?_, ?_, fun x hx => ?_⟩⟩
            · rw [List.length_map]
              exact small1000 (by omega)
            · rw [upd_ne (ne_of_none e nD7)]
              exact (s7.trans s8) b o hb2 e
            · obtain ⟨x, y, z, e⟩ := d8
              exact ⟨x, y, z, by rw [upd_ne (Ne.symm nD)]; exact e⟩
            · rw [upd_same, List.map_append]
              rfl
            · rw [List.length_append, hl]
              rfl
            · rcases List.mem_append.mp hx with e | e
              · exact hb9 x e
              · rw [List.mem_singleton.mp e]
                omega
          · obtain ⟨s7, d7, l, hL7, hl, hb9⟩ := hP7
            exact .inl ⟨D7, _, rfl, SqL.of hL7, fun p np => hP.step d5 nD6 (s7.trans (Sx.of (same_upd0 np))) (d7.same (same_upd0 np)) upd_same ⟨by omega, hb9⟩ (by omega)⟩
        · rw [show ((a : Int) + 1).toNat = a + 1 by omega] at hP
          obtain ⟨s6, d6, rs, hL, lr, hrow⟩ := hP
          obtain ⟨φ, hφ⟩ := pick_all hrow
          refine .inl ⟨D6, _, rfl, SqL.of hL, fun tb0 ntb => ?_⟩
          obtain ⟨S, hS⟩ : ∃ S : Nat → Nat → Int, S = fun i j => co (φ i) j := ⟨_, rfl⟩
          have s7 := same_upd0 (o := .tup (rs.map V.ref)) ntb
          have tt : Tt (upd H6 tb0 (.tup (rs.map V.ref))) tb0 (a + 1) (b + 1) S := ⟨rs, lr, upd_same, fun i hi => by
            have e := (hφ i hi).1
            have l := (hφ i hi).2.1
            rw [s7 _ _ e, hS]
            congr 2
            have := tb_co (φ i)
            rw [l] at this
            rw [this]⟩
          have sle : Tle (a + 1) (b + 1) 9 S := fun i j hi hj => by
            have l := (hφ i (by omega)).2.1
            rw [hS]
            exact (hφ i (by omega)).2.2 _ (co_memE (by omega))
          have sle2 : Tle (a + 1) (b + 1) (2 ^ 130) S := fun i j hi hj => Nat.le_trans (sle i j hi hj) (by decide)
          generalize (upd H6 tb0 (.tup (rs.map V.ref))) = H7 at s7 tt
          have d7 := d6.same s7
          have s07 := s05.trans (s6.trans (Sx.of s7))
          refine ⟨_, rfl, _, rfl, _, rfl, tb0, a + 1, b + 1, S, rfl, tt, by omega, by omega, by omega, by omega, sle2, fun p8 H8 fs8 s8 k8 l8 w8 => ?_⟩
          have tt8 := tt.same s8
          have pp : Pp T.C_Form H8 p8 fs8 a b (pt (a + 1) (b + 1) S) := ⟨k8, by omega, w8, fun u hu => by rw [pt_len]; omega⟩
          refine ⟨p8, fs8, a, b, _, rfl, pp, fun u hu z hz => ?_, hab, a6, b6, fun p9 r9 H9 s9 k9 t9 => ?_⟩
          · obtain ⟨k, _, rfl⟩ := tb_mem hz
            exact Nat.le_trans (wh_abs (lsn_le sle (by omega) (by omega) u) k) (Nat.le_trans (Nat.mul_le_mul (show a + 1 - u ≤ 2 ^ 3 by show a + 1 - u ≤ 8; omega) (Nat.mul_le_mul (show b + 1 - u ≤ 2 ^ 3 by show b + 1 - u ≤ 8; omega) (Nat.mul_le_mul (Nat.pow_le_pow_right (by decide) (show 7 * u ≤ 49 by omega)) (show 9 ≤ 2 ^ 4 by decide)))) (by decide))
          have bk := tab_back (h := pt (a + 1) (b + 1) S) a6 b6 rfl (fun u _ => rfl)
          rw [bk.2] at k9
          have t9' := t9.eqt bk.1
          have tt9 := tt8.same s9
          refine ⟨_, rfl, by show 2 ≤ sizeLine; decide, fun p10 n10 => ?_⟩
          refine gen_upd H9 p10 (.tup [.ref tb0, .int 1]) n10 fun H10 s10 f10 => ?_
          refine ne_pair (B := 1) (s10 _ _ k9) (t9'.same s10) f10 (tt9.same s10) ⟨false, rfl, iteF ?_⟩
          dsimp only [tNext]
          have d10 := d7.same (s8.trans (s9.trans s10))
          have s010 := s07.trans (Sx.of (s8.trans (s9.trans s10)))
          clear bk t9 t9' tt9 k9 tt8 pp w8 k8 l8 tt sle sle2 hS hφ hrow lr hL f10
          refine ⟨_, rfl, _, rfl, d, a, rfl, d10, by omega, fun q1 H11 f s11 d11 e11 bf => ⟨_, rfl, _, rfl, d, b, rfl, d11, by omega, fun q2 H12 g s12 d12 e12 bg => ?_⟩⟩
          have e11' := s12 _ _ (dc_ne d11 e11) e11
          dsimp only [tNil]
          refine ⟨by show 2 ≤ sizeLine; decide, fun T0 nT0 => gen_upd H12 T0 (.tup [.ref q1, .ref q2]) nT0 fun H13 s13 g13 => ⟨T0, _, rfl, SqT.of g13, rfl, _, _, rfl, _, _, rfl, rfl, ?_⟩⟩
          have hf13 := s13 _ _ e11'
          have hg13 := s13 _ _ e12
          have d13 := d12.same s13
          have s013 := s010.trans (s11.trans (s12.trans (Sx.of s13)))
          have e14 : (10 : Nat) ^ 14 ≤ 2 ^ 47 := by decide
          have bf2 := bf.mono e14
          have bg2 := bg.mono e14
          have lf := bf.len
          have lg := bg.len
          have hL := fun t (ht : t < M + 1) => L_bd t bf2 bg2 (by omega) (by omega) (show t ≤ a by omega) (show t ≤ b by omega)
          have bdL : ∀ t, t < M + 1 → ∀ z ∈ L t f g, z.natAbs ≤ 2 ^ 190 := fun t ht z hz => Nat.le_trans (nm_mem hz) (Nat.le_trans (hL t ht).nm (Nat.le_trans (Nat.mul_le_mul (Nat.pow_le_pow_right (by decide) (show 7 * t ≤ 49 by omega)) (Nat.le_refl _)) (by decide)))
          have hhs : Hs a b (fun t => L t f g) := ⟨fun u hu => by have := (hL u (by omega)).len; omega, fun u hu => bdL u (by omega), hab, a6, b6⟩
          refine ⟨_, rfl, _, _, rfl, rfl, (M : Int) + 1, rfl, by omega, by omega, fun D14 n14 => lc_range (n := ((M : Int) + 1).toNat) (fun i H' => Same H13 H' ∧ Bl H' D14 (fun t => L t f g) i) ⟨same_upd0 n14, Bl.nil⟩ (fun i H' hi hP => ?_) (fun H' hP => ?_)⟩
          · refine ⟨rfl, _, rfl, _, rfl, _, rfl, q1, q2, f, g, i, ?_, hP.1 _ _ hf13, hP.1 _ _ hg13, ldOk_of (bf.mono (by decide)) (bg.mono (by decide)) (by omega) (by omega) (show i ≤ a by omega) (show i ≤ b by omega), fun p H s hp => Bl.step hP n14 s hp (by omega)⟩
            show [V.ref q1, V.ref q2, V.int (0 + (i : Int))] = _
            rw [Int.zero_add]
          · rw [show ((M : Int) + 1).toNat = M + 1 by omega] at hP
            obtain ⟨s14, ls, hLs, lls, wls⟩ := hP
            refine ⟨_, rfl, _, rfl, _, rfl, D14, rfl, ⟨_, SqL.of hLs⟩, fun D15 n15 => lc_list (xs := ls.map V.ref) (fun i H2 => Same H' H2 ∧ Bf T.C_Form H2 D15 (fun t => L t f g) i) ⟨same_upd0 n15, Bf.nil⟩ (fun i H2 _ hP => SqL.of (hP.1 _ _ hLs)) (fun i x H2 hx hP => ?_) (fun H2 hP => ?_)⟩
            · obtain ⟨hi, rfl⟩ := get_ref hx
              have hl : (L i f g).length = a + b - 2 * i + 1 := hhs.len i (by omega)
              exact ⟨rfl, _, rfl, fun a1 dx1 x1 x2 x3 => mkF x1 x2 x3 (hP.1 _ _ (wls i hi)) (show 1 ≤ (L i f g).length by omega) (show (L i f g).length ≤ 41 by omega) (hhs.sho (u := i) (by omega)) fun H5 s5 f1 => Bf.step hP n15 s5 f1 (by omega)⟩
            · obtain ⟨s15, gs, hG, lgs, wgs⟩ := hP
              rw [List.length_map, lls] at lgs
              refine .inl ⟨D15, _, rfl, SqL.of hG, fun p16 n16 => ?_⟩
              have pp : Pp T.C_Form (upd H2 p16 (.tup (gs.map V.ref))) p16 gs a b (fun t => L t f g) := ⟨upd_same, by omega, fun u hu => (wgs u hu).same (same_upd0 n16), fun u hu => hhs.len u (by omega)⟩
              have s16 := (s14.trans s15).trans (same_upd0 (o := .tup (gs.map V.ref)) n16)
              generalize (upd H2 p16 (.tup (gs.map V.ref))) = H16 at pp s16
              refine ⟨p16, gs, a, b, _, rfl, pp, fun u hu => hhs.bd3 hu, hab, a6, b6, fun p17 r17 H17 s17 k17 t17 => ?_⟩
              have bk := tab_back (h := fun t => L t f g) (s := fun i j => co f i * co g j) a6 b6 rfl (fun u hu => by
                have := pt_two u f g (by omega) (by omega)
                rw [lf, lg] at this
                exact this.symm)
              rw [bk.2] at k17
              have t17' := t17.eqt bk.1
              have s317 := s16.trans s17
              have smf : ∀ x ∈ f, sm x := fun x hx => lt400 (Nat.le_trans (nm_mem hx) bf2.nm) (by decide)
              have smg : ∀ x ∈ g, sm x := fun x hx => lt400 (Nat.le_trans (nm_mem hx) bg2.nm) (by decide)
              refine ⟨_, rfl, _, rfl, _, rfl, q1, q2, f, g, rfl, s317 _ _ hf13, s317 _ _ hg13, by omega, by omega, smf, smg, fun p18 H18 s18 t18 => ⟨by show 2 ≤ sizeLine; decide, fun p19 n19 => ?_⟩⟩
              rw [lf, lg] at t18
              refine gen_upd H18 p19 (.tup [.ref p18, .int 1]) n19 fun H19 s19 g19 => ?_
              have t19 := t17'.same (s18.trans s19)
              have k19 := (s18.trans s19) _ _ k17
              refine eq_pair (B := 1) k19 t19 g19 (t18.same s19) ⟨true, rfl, iteT ?_⟩
              have s019 := s013.trans (Sx.of (s317.trans (s18.trans s19)))
              have d19 := d13.same (s317.trans (s18.trans s19))
              have D19 := Dp0.sx s019 d19
              have prod : ∀ i j, i < a + 1 → j < b + 1 → (co f i * co g j).natAbs ≤ 2 ^ 94 := fun i j hi hj => Nat.le_trans (abs2 (Nat.le_trans (nm_mem (co_memE (show i < f.length by omega))) bf2.nm) (Nat.le_trans (nm_mem (co_memE (show j < g.length by omega))) bg2.nm)) (by decide)
              have hw : ∀ r ∈ (List.range (a + 1)).map fun i => tb (b + 1) fun j => co f i * co g j, r.length = b + 1 := fun r hr => by
                obtain ⟨i, _, rfl⟩ := List.mem_map.mp hr
                rw [tb_len]
              have hm : ∀ r ∈ (List.range (a + 1)).map fun i => tb (b + 1) fun j => co f i * co g j, ∀ x ∈ r, x.natAbs ≤ 2 ^ 94 := fun r hr x hx => by
                obtain ⟨i, hi, rfl⟩ := List.mem_map.mp hr
                obtain ⟨j, hj, rfl⟩ := tb_mem hx
                exact prod i j (List.mem_range.mp hi) hj
              refine ⟨_, rfl, p17, _, 0, _, rfl, rfl, SqT.of k19, atI_nat (j := 0) rfl, r17, _, b + 1, rfl, t19.tl2, ⟨?_, ?_, by omega, by omega, hw, fun r hr x hx => Nat.lt_of_le_of_lt (hm r hr x hx) (by decide)⟩, eokP hw hm ?_, D19.tt, fun H20 s20 t20 => ⟨_, _, rfl, rfl, ?_⟩⟩
              · rw [List.length_map, List.length_range]
                omega
              · rw [List.length_map, List.length_range]
                omega
              · rw [List.length_map, List.length_range]
                exact Nat.lt_of_le_of_lt (Bd_mono (R' := 7) (by omega)) (by decide +kernel)
              · have r1 := rank_two (f := f) (one := g) (w := b + 1) (M := 2 ^ 94) (rows := (List.range (a + 1)).map fun i => tb (b + 1) fun j => co f i * co g j) (fun k hk => by
                  rw [List.length_map, List.length_range] at hk
                  rw [getD_range hk, ← map_tb]
                  have := tb_co g
                  rw [lg] at this
                  rw [this]) lg hm
                show Q (V.bl (decide (((ech less ((List.range (a + 1)).map fun i => tb (b + 1) fun j => co f i * co g j) (b + 1)).length : Nat) < (2 : Int)))) H20
                rw [decide_eq_true (show (((ech less ((List.range (a + 1)).map fun i => tb (b + 1) fun j => co f i * co g j) (b + 1)).length : Nat) : Int) < 2 by omega)]
                exact q H20 ((Sy.ofD s019).trans (Sy.ofP s20)) (D19.sp s20 t20)
end
end K13

set_option Elab.async false
set_option linter.all false
set_option maxRecDepth 100000
set_option maxHeartbeats 4000000
set_option exponentiation.threshold 10000
namespace K13
open PySem PySem.Spec PyProof.Rows L2 StX RZ MyR SlX OwnR OwnF EnumT SeqE GxR GenNx FDivQ
/-- the table that a list of rows writes -/
def lt_ (ls : List (List Int)) (i j : Nat) : Int := co (ls.getD i []) j
theorem tt_of {H : Hp} {a : Addr} {rs : List Addr} {ls : List (List Int)} {n m : Nat} (h : H a = some (.tup (rs.map V.ref))) (l1 : rs.length = n) (l2 : ls.length = n) (h2 : ∀ i (h : i < rs.length) (h' : i < ls.length), H rs[i] = some (tp ls[i])) (h3 : ∀ l ∈ ls, l.length = m) : Tt H a n m (lt_ ls) := by
  refine ⟨rs, l1, h, fun i hi => ?_⟩
  have hi2 : i < ls.length := by omega
  rw [h2 i hi hi2]
  congr 2
  have e : tb m (lt_ ls i) = ls[i] := by
    have := tb_co ls[i]
    rw [h3 _ (List.getElem_mem hi2)] at this
    rw [← this]
    unfold lt_
    rw [List.getD_eq_getElem?_getD, List.getElem?_eq_getElem hi2]
    rfl
  rw [e]
def hA (u : Nat) : List Int := [[1, 1, -2, -2], [2, 4]].getD u []
def hB (u : Nat) : List Int := [[1, 0, 1], [1]].getD u []
def hC (u : Nat) : List Int := [[-4]].getD u []
def hD (u : Nat) : List Int := [[0, 0, 0], [0]].getD u []
def tA : List (List Int) := [[1, 1], [0, 0], [-2, -2]]
def tB : List (List Int) := [[2, 1], [-1, 2]]
def tC : List (List Int) := [[-4]]
def tD : List (List Int) := [[0, 0], [0, 0]]
theorem exA : Eqt 3 2 (ans (2 + 1) (1 + 1) (fw 2 1 (whW 2 1 (min 2 1 + 1)) (fun u κ => co (hA u) κ) (min 2 1 + 1)) (whW 2 1 (min 2 1 + 1))) (lt_ tA) ∧ bot (2 + 1) (1 + 1) (fw 2 1 (whW 2 1 (min 2 1 + 1)) (fun u κ => co (hA u) κ) (min 2 1 + 1)) (whW 2 1 (min 2 1 + 1)) = 1 :=
  ⟨fun i j hi hj => (by decide +kernel : ∀ i < 3, ∀ j < 2, ans (2 + 1) (1 + 1) (fw 2 1 (whW 2 1 (min 2 1 + 1)) (fun u κ => co (hA u) κ) (min 2 1 + 1)) (whW 2 1 (min 2 1 + 1)) i j = lt_ tA i j) i hi j hj, by decide +kernel⟩
theorem exB : Eqt 2 2 (ans (1 + 1) (1 + 1) (fw 1 1 (whW 1 1 (min 1 1 + 1)) (fun u κ => co (hB u) κ) (min 1 1 + 1)) (whW 1 1 (min 1 1 + 1))) (lt_ tB) ∧ bot (1 + 1) (1 + 1) (fw 1 1 (whW 1 1 (min 1 1 + 1)) (fun u κ => co (hB u) κ) (min 1 1 + 1)) (whW 1 1 (min 1 1 + 1)) = 2 :=
  ⟨fun i j hi hj => (by decide +kernel : ∀ i < 2, ∀ j < 2, ans (1 + 1) (1 + 1) (fw 1 1 (whW 1 1 (min 1 1 + 1)) (fun u κ => co (hB u) κ) (min 1 1 + 1)) (whW 1 1 (min 1 1 + 1)) i j = lt_ tB i j) i hi j hj, by decide +kernel⟩
theorem exC : Eqt 1 1 (ans (0 + 1) (0 + 1) (fw 0 0 (whW 0 0 (min 0 0 + 1)) (fun u κ => co (hC u) κ) (min 0 0 + 1)) (whW 0 0 (min 0 0 + 1))) (lt_ tC) ∧ bot (0 + 1) (0 + 1) (fw 0 0 (whW 0 0 (min 0 0 + 1)) (fun u κ => co (hC u) κ) (min 0 0 + 1)) (whW 0 0 (min 0 0 + 1)) = 1 :=
  ⟨fun i j hi hj => (by decide +kernel : ∀ i < 1, ∀ j < 1, ans (0 + 1) (0 + 1) (fw 0 0 (whW 0 0 (min 0 0 + 1)) (fun u κ => co (hC u) κ) (min 0 0 + 1)) (whW 0 0 (min 0 0 + 1)) i j = lt_ tC i j) i hi j hj, by decide +kernel⟩
theorem exD : Eqt 2 2 (ans (1 + 1) (1 + 1) (fw 1 1 (whW 1 1 (min 1 1 + 1)) (fun u κ => co (hD u) κ) (min 1 1 + 1)) (whW 1 1 (min 1 1 + 1))) (lt_ tD) ∧ bot (1 + 1) (1 + 1) (fw 1 1 (whW 1 1 (min 1 1 + 1)) (fun u κ => co (hD u) κ) (min 1 1 + 1)) (whW 1 1 (min 1 1 + 1)) = 1 :=
  ⟨fun i j hi hj => (by decide +kernel : ∀ i < 2, ∀ j < 2, ans (1 + 1) (1 + 1) (fw 1 1 (whW 1 1 (min 1 1 + 1)) (fun u κ => co (hD u) κ) (min 1 1 + 1)) (whW 1 1 (min 1 1 + 1)) i j = lt_ tD i j) i hi j hj, by decide +kernel⟩
def dTold : List PyData := [.tuple [.tuple (TD (rw_ 3 fun i => tb 2 (lt_ tA i))), .int 1], .tuple [.tuple (TD (rw_ 2 fun i => tb 2 (lt_ tB i))), .int 2]]
theorem lay_told : PyData.canLayAll0 dTold = true := by decide +kernel
theorem shp_told : SeqAt.shaped (.list dTold) = true := by decide +kernel
/-- two forms behind each other in a tuple -/
theorem pp2 {C : Addr} {H : Hp} {p a1 a2 : Addr} {a b : Nat} {h : Nat → List Int} (hp : H p = some (.tup [.ref a1, .ref a2])) (hm : min a b = 1) (f1 : Fo C H a1 (h 0)) (f2 : Fo C H a2 (h 1)) (l1 : (h 0).length = a + b + 1) (l2 : (h 1).length = a + b - 2 + 1) : Pp C H p [a1, a2] a b h :=
  ⟨hp, by rw [hm]; rfl, fun u hu => match u, hu with
    | 0, _ => f1
    | 1, _ => f2
    | u + 2, h => absurd h (by simp), fun u hu => match u, hu with
    | 0, _ => l1
    | 1, _ => l2
    | u + 2, h => absurd h (by simp)⟩
theorem pp1 {C : Addr} {H : Hp} {p a1 : Addr} {a b : Nat} {h : Nat → List Int} (hp : H p = some (.tup [.ref a1])) (hm : min a b = 0) (f1 : Fo C H a1 (h 0)) (l1 : (h 0).length = a + b + 1) : Pp C H p [a1] a b h :=
  ⟨hp, by rw [hm]; rfl, fun u hu => match u, hu with
    | 0, _ => f1
    | u + 1, h => absurd h (by simp), fun u hu => match u, hu with
    | 0, _ => l1
    | u + 1, h => absurd h (by simp)⟩
theorem tt1 {H : Hp} {p q1 : Addr} {l1 : List Int} {m : Nat} (h : H p = some (.tup [.ref q1])) (e1 : H q1 = some (tp l1)) (hl : ∀ l ∈ [l1], l.length = m) : Tt H p 1 m (lt_ [l1]) := tt_of (rs := [q1]) h rfl rfl (fun i h h' => match i, h, h' with
  | 0, _, _ => e1
  | i + 1, h, _ => absurd h (by simp)) hl
theorem tt2 {H : Hp} {p q1 q2 : Addr} {l1 l2 : List Int} {m : Nat} (h : H p = some (.tup [.ref q1, .ref q2])) (e1 : H q1 = some (tp l1)) (e2 : H q2 = some (tp l2)) (hl : ∀ l ∈ [l1, l2], l.length = m) : Tt H p 2 m (lt_ [l1, l2]) := tt_of (rs := [q1, q2]) h rfl rfl (fun i h h' => match i, h, h' with
  | 0, _, _ => e1
  | 1, _, _ => e2
  | i + 2, h, _ => absurd h (by simp)) hl
theorem tt3 {H : Hp} {p q1 q2 q3 : Addr} {l1 l2 l3 : List Int} {m : Nat} (h : H p = some (.tup [.ref q1, .ref q2, .ref q3])) (e1 : H q1 = some (tp l1)) (e2 : H q2 = some (tp l2)) (e3 : H q3 = some (tp l3)) (hl : ∀ l ∈ [l1, l2, l3], l.length = m) : Tt H p 3 m (lt_ [l1, l2, l3]) := tt_of (rs := [q1, q2, q3]) h rfl rfl (fun i h h' => match i, h, h' with
  | 0, _, _ => e1
  | 1, _, _ => e2
  | 2, _, _ => e3
  | i + 3, h, _ => absurd h (by simp)) hl
section
variable {P : Program} {w : World} {K : PySem.W.Frag} {mg : Str → Option Value} {base : Heap}
theorem ok_law (T : Facts K mg) (TB_first_of : TabB base mg T.c_first_of T.P_first_of) : FnOk P w K mg base CX0 10 T.f_law T.fd_law ["_law_script"] (spLawT K [T.P_first_of]) := by
  obtain ⟨Ps, ePs⟩ : ∃ Ps, [T.P_first_of] = Ps := ⟨_, rfl⟩
  have hP : T.P_first_of ∈ Ps := by rw [← ePs]; simp
  rw [ePs]
  have G_law_dice := ok_law_dice (P := P) (w := w) (base := base) T
  have G_law_right := ok_law_right (P := P) (w := w) (base := base) T TB_first_of hP
  have G_table_of_parts := ok_table_of_parts (P := P) (w := w) (base := base) T
  have G_Form_init : FnOk P w K mg base CX0 5 T.f_Form_init T.fd_Form_init ["self", "entries"] (spForm T.C_Told T.C_Form) := ok_Form_init T
  refine T.F_law.ok sc_law (fun vs H Q E h => ?_) (fun cdv A outer s H vs Q E hr h => ?_)
  · obtain ⟨a, ns, rfl, _⟩ := h
    rfl
  · obtain ⟨a, ns, rfl, ha, hn, hG, q⟩ := h
    refine ⟨_, (PSs.nox (pss_cons (ps_for PassesOwn.never (by rfl) (pi_range1 (by rfl) T.z_range (pa_cons (pe_callB (call_max2 (by rfl)) (by rfl) T.z_max (by decide +kernel) (pa_cons pe_int (pa_cons (pe_callB (call_min2 (by rfl)) (by rfl) T.z_min (by decide +kernel) (pa_cons pe_int (pa_cons (pe_callB call_len_seq (by rfl) T.z_len (by decide +kernel) (pa_cons (pv 0) pa_nil)) pa_nil))) pa_nil))) pa_nil)) (pg_name (i := 1) sc_law.nd rfl (.inl rfl))
      (pss_one (ps_if (pt_not (pt_val (pe_call G_law_right hr (by rfl) T.g_law_right T.F_law_right.kp T.b_law_right .nil pass0 (pa_cons (pe_call G_law_dice (hr.mono (by decide)) (by rfl) T.g_law_dice T.F_law_dice.kp T.b_law_dice .nil pass0 (pa_cons (pv 0) (pa_cons (pv 1) pa_nil))) pa_nil))))
        (pss_one (ps_ret pe_bl))
        pss_nil)))
    (pss_cons (ps_set (i := 2) sc_law.nd rfl (.inl rfl) (pe_lst (pa_cons (pe_call G_table_of_parts (hr.mono (by decide)) (by rfl) T.g_table_of_parts T.F_table_of_parts.kp T.b_table_of_parts .nil pass0 (pa_cons pe_int (pa_cons pe_int (pa_cons (pe_tup (pa_cons (pe_make T.mk_Form G_Form_init (hr.mono (by decide)) (by rfl) T.g_Form T.b_Form_init .nil pass0 (pa_cons (pe_tup (pa_cons pe_int (pa_cons pe_int (pa_cons (pe_un un_neg pe_int) (pa_cons (pe_un un_neg pe_int) pa_nil))))) pa_nil)) (pa_cons (pe_make T.mk_Form G_Form_init (hr.mono (by decide)) (by rfl) T.g_Form T.b_Form_init .nil pass0 (pa_cons (pe_tup (pa_cons pe_int (pa_cons pe_int pa_nil))) pa_nil)) pa_nil))) pa_nil)))) (pa_cons (pe_call G_table_of_parts (hr.mono (by decide)) (by rfl) T.g_table_of_parts T.F_table_of_parts.kp T.b_table_of_parts .nil pass0 (pa_cons pe_int (pa_cons pe_int (pa_cons (pe_tup (pa_cons (pe_make T.mk_Form G_Form_init (hr.mono (by decide)) (by rfl) T.g_Form T.b_Form_init .nil pass0 (pa_cons (pe_tup (pa_cons pe_int (pa_cons pe_int (pa_cons pe_int pa_nil)))) pa_nil)) (pa_cons (pe_make T.mk_Form G_Form_init (hr.mono (by decide)) (by rfl) T.g_Form T.b_Form_init .nil pass0 (pa_cons (pe_tup (pa_cons pe_int pa_nil)) pa_nil)) pa_nil))) pa_nil)))) pa_nil))))
    (pss_cons (ps_if (pt_cmpR (op_neD (hu64 hr)) (pv 2) (pe_lst (pa_cons (pe_tup (pa_cons (pe_tup (pa_cons (pe_tup (pa_cons pe_int (pa_cons pe_int pa_nil))) (pa_cons (pe_tup (pa_cons pe_int (pa_cons pe_int pa_nil))) (pa_cons (pe_tup (pa_cons (pe_un un_neg pe_int) (pa_cons (pe_un un_neg pe_int) pa_nil))) pa_nil)))) (pa_cons pe_int pa_nil))) (pa_cons (pe_tup (pa_cons (pe_tup (pa_cons (pe_tup (pa_cons pe_int (pa_cons pe_int pa_nil))) (pa_cons (pe_tup (pa_cons (pe_un un_neg pe_int) (pa_cons pe_int pa_nil))) pa_nil))) (pa_cons pe_int pa_nil))) pa_nil))) (nomark _))
      (pss_one (ps_ret pe_bl))
      pss_nil)
    (pss_cons (ps_set (i := 3) sc_law.nd rfl (.inl rfl) (pe_tup (pa_cons (pe_make T.mk_Form G_Form_init (hr.mono (by decide)) (by rfl) T.g_Form T.b_Form_init .nil pass0 (pa_cons (pe_tup (pa_cons pe_int (pa_cons pe_int (pa_cons pe_int pa_nil)))) pa_nil)) (pa_cons (pe_make T.mk_Form G_Form_init (hr.mono (by decide)) (by rfl) T.g_Form T.b_Form_init .nil pass0 (pa_cons (pe_tup (pa_cons pe_int pa_nil)) pa_nil)) pa_nil))))
    (pss_one (ps_ret (pe_and (pe_cmpR (op_eqD (hu64 hr)) (pe_call G_table_of_parts (hr.mono (by decide)) (by rfl) T.g_table_of_parts T.F_table_of_parts.kp T.b_table_of_parts .nil pass0 (pa_cons pe_int (pa_cons pe_int (pa_cons (pe_tup (pa_cons (pe_make T.mk_Form G_Form_init (hr.mono (by decide)) (by rfl) T.g_Form T.b_Form_init .nil pass0 (pa_cons (pe_tup (pa_cons (pe_un un_neg pe_int) pa_nil)) pa_nil)) pa_nil)) pa_nil)))) (pe_tup (pa_cons (pe_tup (pa_cons (pe_tup (pa_cons (pe_un un_neg pe_int) pa_nil)) pa_nil)) (pa_cons pe_int pa_nil))) (nomark _)) (pe_one (pe_cmpR (op_eqD (hu64 hr)) (pe_call G_table_of_parts (hr.mono (by decide)) (by rfl) T.g_table_of_parts T.F_table_of_parts.kp T.b_table_of_parts .nil pass0 (pa_cons pe_int (pa_cons pe_int (pa_cons (pv 3) pa_nil)))) (pe_tup (pa_cons (pe_tup (pa_cons (pe_tup (pa_cons pe_int (pa_cons pe_int pa_nil))) (pa_cons (pe_tup (pa_cons pe_int (pa_cons pe_int pa_nil))) pa_nil))) (pa_cons pe_int pa_nil))) (nomark _))))))))))), ?_⟩
    refine ⟨_, rfl, a, _, rfl, .inl ha, 4, _, rfl, 1, _, rfl, ?_⟩
    rw [List.length_map]
    obtain ⟨n, hn1, hn0⟩ : ∃ n : Int, (if (if ((ns.length : Nat) : Int) < 4 then ((ns.length : Nat) : Int) else 4) > 1 then (if ((ns.length : Nat) : Int) < 4 then ((ns.length : Nat) : Int) else 4) else 1) = n ∧ 0 ≤ n ∧ n ≤ 4 := ⟨_, rfl, by split <;> split <;> omega, by split <;> split <;> omega⟩
    rw [hn1]
    refine ⟨_, rfl, by omega, by omega, for_range (n := n.toNat) (fun i σ H' => ∃ y1, σ = [some (.ref a), y1, none, none] ∧ SqL K H' a (ns.map V.int) ∧ Tg Ps H') ⟨none, rfl, ha, hG⟩ (fun i σ H1 hi hP => ?_) (fun σ H1 hP => ?_)⟩
    · obtain ⟨y1, rfl, h1, p1⟩ := hP
      refine ⟨_, rfl, _, rfl, a, ns, i, ?_, h1, fun d x y z nd => ?_⟩
      · show [V.ref a, V.int (0 + (i : Int))] ++ [] = _
        rw [Int.zero_add]
        rfl
      have D1 : Dp d Ps (upd H1 d (dice x y z)) := ⟨⟨x, y, z, upd_same⟩, p1.same (same_upd0 nd)⟩
      exact ⟨d, rfl, D1, fun H2 s2 D2 => ⟨true, rfl, iteF ⟨_, rfl, script_Sy s2 nd p1 h1, D2.tt⟩⟩⟩
    · obtain ⟨y1, rfl, h1, t1⟩ := hP
      have z1 : 1 ≤ sizeLine := by decide
      have z2 : 2 ≤ sizeLine := by decide
      have z3 : 3 ≤ sizeLine := by decide
      have z4 : 4 ≤ sizeLine := by decide
      have sho : ∀ {l : List Int}, (∀ z ∈ l, z.natAbs ≤ 7) → ∀ z ∈ l, Sho z := fun h z hz => Nat.lt_of_le_of_lt (h z hz) (by decide)
      refine ⟨_, rfl, _, rfl, z4, fun u1 m1 => gen_upd H1 u1 (tp [1, 1, -2, -2]) m1 fun H2 s2 e1 => fun a1 dx x1 x2 x3 => mkF x1 x2 x3 e1 (by decide) (by decide) (sho (by decide)) fun H3 s3 f1 => ⟨z2, fun u2 m2 => gen_upd H3 u2 (tp [2, 4]) m2 fun H4 s4 e2 => fun a2 dx x1 x2 x3 => mkF x1 x2 x3 e2 (by decide) (by decide) (sho (by decide)) fun H5 s5 f2 => ⟨z2, fun u3 m3 => gen_upd H5 u3 (.tup [.ref a1, .ref a2]) m3 fun H6 s6 e3 => ?_⟩⟩⟩
      have ppA : Pp T.C_Form H6 u3 [a1, a2] 2 1 hA := pp2 e3 rfl (f1.same ((s4.trans s5).trans s6)) (f2.same s6) rfl rfl
      refine ⟨u3, [a1, a2], 2, 1, hA, rfl, ppA, fun u hu z hz => Nat.le_trans ((by decide : ∀ u < 2, ∀ z ∈ hA u, z.natAbs ≤ 7) u hu z hz) (by decide), by decide, by decide, by decide, fun p7 r7 H7 s7 k7 t7 => ?_⟩
      rw [exA.2] at k7
      have t7' : Tt H7 r7 3 2 (lt_ tA) := t7.eqt exA.1
      clear t7
      refine ⟨z3, fun u1 m1 => gen_upd H7 u1 (tp [1, 0, 1]) m1 fun H8 s8 e1 => fun a1 dx x1 x2 x3 => mkF x1 x2 x3 e1 (by decide) (by decide) (sho (by decide)) fun H9 s9 f1 => ⟨z1, fun u2 m2 => gen_upd H9 u2 (tp [1]) m2 fun H10 s10 e2 => fun a2 dx x1 x2 x3 => mkF x1 x2 x3 e2 (by decide) (by decide) (sho (by decide)) fun H11 s11 f2 => ⟨z2, fun u3 m3 => gen_upd H11 u3 (.tup [.ref a1, .ref a2]) m3 fun H12 s12 e3 => ?_⟩⟩⟩
      have ppB : Pp T.C_Form H12 u3 [a1, a2] 1 1 hB := pp2 e3 rfl (f1.same ((s10.trans s11).trans s12)) (f2.same s12) rfl rfl
      refine ⟨u3, [a1, a2], 1, 1, hB, rfl, ppB, fun u hu z hz => Nat.le_trans ((by decide : ∀ u < 2, ∀ z ∈ hB u, z.natAbs ≤ 7) u hu z hz) (by decide), by decide, by decide, by decide, fun p13 r13 H13 s13 k13 t13 => ?_⟩
      rw [exB.2] at k13
      have t13' : Tt H13 r13 2 2 (lt_ tB) := t13.eqt exB.1
      clear t13
      have s713 := (((s8.trans s9).trans s10).trans s11).trans (s12.trans s13)
      refine ⟨z2, fun L1 nL1 => gen_upd H13 L1 (.lst [.ref p7, .ref p13]) nL1 fun H14 s14 k14 => ?_⟩
      have dLs : ∀ Hx, Same H14 Hx → L2.Dp K Hx (.ref L1) (.list dTold) := fun Hx sx => .lst (SqL.of (sx _ _ k14)) (.cons (pair_dp (sx _ _ (s14 _ _ (s713 _ _ k7))) (t7'.same ((s713.trans s14).trans sx))) (.cons (pair_dp (sx _ _ (s14 _ _ k13)) (t13'.same (s14.trans sx))) .nil))
      clear k7 t7' k13 t13' ppA ppB k14 f1 f2 e1 e2 e3
      refine ⟨_, rfl, z2, fun q1 n1 => gen_upd H14 q1 (tp [1, 1]) n1 fun H15 s15 e1 => ⟨z2, fun q2 n2 => gen_upd H15 q2 (tp [0, 0]) n2 fun H16 s16 e2 => ⟨_, rfl, _, rfl, z2, fun q3 n3 => gen_upd H16 q3 (tp [-2, -2]) n3 fun H17 s17 e3 => ⟨z3, fun q4 n4 => gen_upd H17 q4 (.tup [.ref q1, .ref q2, .ref q3]) n4 fun H18 s18 e4 => ⟨z2, fun q5 n5 => gen_upd H18 q5 (.tup [.ref q4, .int 1]) n5 fun H19 s19 e5 => ?_⟩⟩⟩⟩⟩
      have uA : Tt H18 q4 3 2 (lt_ tA) := tt3 e4 (s18 _ _ (s17 _ _ (s16 _ _ e1))) (s18 _ _ (s17 _ _ e2)) (s18 _ _ e3) (by decide)
      have s1419 := (((s15.trans s16).trans s17).trans s18).trans s19
      refine ⟨z2, fun q6 n6 => gen_upd H19 q6 (tp [2, 1]) n6 fun H20 s20 e6 => ⟨_, rfl, z2, fun q7 n7 => gen_upd H20 q7 (tp [-1, 2]) n7 fun H21 s21 e7 => ⟨z2, fun q8 n8 => gen_upd H21 q8 (.tup [.ref q6, .ref q7]) n8 fun H22 s22 e8 => ⟨z2, fun q9 n9 => gen_upd H22 q9 (.tup [.ref q8, .int 2]) n9 fun H23 s23 e9 => ⟨z2, fun M2 nM2 => gen_upd H23 M2 (.lst [.ref q5, .ref q9]) nM2 fun H24 s24 k24 => ?_⟩⟩⟩⟩⟩
      have uB : Tt H22 q8 2 2 (lt_ tB) := tt2 e8 (s22 _ _ (s21 _ _ e6)) (s22 _ _ e7) (by decide)
      have s1924 := (((s20.trans s21).trans s22).trans s23).trans s24
      have dR : L2.Dp K H24 (.ref M2) (.list dTold) := .lst (SqL.of k24) (.cons (pair_dp (s1924 _ _ e5) (uA.same (s19.trans s1924))) (.cons (pair_dp (s24 _ _ e9) (uB.same (s23.trans s24))) .nil))
      have dL' : L2.Dp K H24 (.ref L1) (.list dTold) := dLs _ (s1419.trans s1924)
      refine ⟨_, _, dL', dR, shp_told, shp_told, ?_⟩
      rw [show PyData.eqv (.list dTold) (.list dTold) = true from SeqAt.eqv_refl _ lay_told]
      refine ⟨false, rfl, iteF ?_⟩
      clear uA uB dR dL' dLs e1 e2 e3 e4 e5 e6 e7 e8 e9 k24
      dsimp only [tNext]
      refine ⟨z3, fun u1 m1 => gen_upd H24 u1 (tp [0, 0, 0]) m1 fun H25 s25 e1 => fun a1 dx x1 x2 x3 => mkF x1 x2 x3 e1 (by decide) (by decide) (sho (by decide)) fun H26 s26 f1 => ⟨z1, fun u2 m2 => gen_upd H26 u2 (tp [0]) m2 fun H27 s27 e2 => fun a2 dx x1 x2 x3 => mkF x1 x2 x3 e2 (by decide) (by decide) (sho (by decide)) fun H28 s28 f2 => ⟨z2, fun u3 m3 => gen_upd H28 u3 (.tup [.ref a1, .ref a2]) m3 fun H29 s29 e3 => ?_⟩⟩⟩
      have ppD : Pp T.C_Form H29 u3 [a1, a2] 1 1 hD := pp2 e3 rfl (f1.same ((s27.trans s28).trans s29)) (f2.same s29) rfl rfl
      clear f1 f2 e1 e2 e3
      refine ⟨_, rfl, z1, fun u4 m4 => gen_upd H29 u4 (tp [-4]) m4 fun H30 s30 e4 => fun a3 dx x1 x2 x3 => mkF x1 x2 x3 e4 (by decide) (by decide) (sho (by decide)) fun H31 s31 f3 => ⟨z1, fun u5 m5 => gen_upd H31 u5 (.tup [.ref a3]) m5 fun H32 s32 e5 => ?_⟩⟩
      have ppC : Pp T.C_Form H32 u5 [a3] 0 0 hC := pp1 e5 rfl (f3.same s32) rfl
      refine ⟨u5, [a3], 0, 0, hC, rfl, ppC, fun u hu z hz => Nat.le_trans ((by decide : ∀ u < 1, ∀ z ∈ hC u, z.natAbs ≤ 7) u hu z hz) (by decide), by decide, by decide, by decide, fun p33 r33 H33 s33 k33 t33 => ?_⟩
      rw [exC.2] at k33
      have t33' : Tt H33 r33 1 1 (lt_ tC) := t33.eqt exC.1
      clear t33
      refine ⟨_, rfl, z1, fun v1 o1 => gen_upd H33 v1 (tp [-4]) o1 fun H34 s34 g1 => ⟨z1, fun v2 o2 => gen_upd H34 v2 (.tup [.ref v1]) o2 fun H35 s35 g2 => ⟨z2, fun v3 o3 => gen_upd H35 v3 (.tup [.ref v2, .int 1]) o3 fun H36 s36 g3 => ?_⟩⟩⟩
      have uC : Tt H35 v2 1 1 (lt_ tC) := tt1 g2 (s35 _ _ g1) (by decide)
      have s3336 := (s34.trans s35).trans s36
      refine eq_pair (B := 1) (s3336 _ _ k33) (t33'.same s3336) g3 (uC.same s36) ⟨true, rfl, iteT ?_⟩
      have ppD6 := ppD.same ((s30.trans s31).trans ((s32.trans s33).trans s3336))
      clear uC g1 g2 g3 k33 t33' ppC f3 e4 e5 ppD
      refine ⟨_, rfl, u3, [a1, a2], 1, 1, hD, rfl, ppD6, fun u hu z hz => Nat.le_trans ((by decide : ∀ u < 2, ∀ z ∈ hD u, z.natAbs ≤ 7) u hu z hz) (by decide), by decide, by decide, by decide, fun p37 r37 H37 s37 k37 t37 => ?_⟩
      rw [exD.2] at k37
      have t37' : Tt H37 r37 2 2 (lt_ tD) := t37.eqt exD.1
      clear t37
      refine ⟨z2, fun v1 o1 => gen_upd H37 v1 (tp [0, 0]) o1 fun H38 s38 g1 => ⟨z2, fun v2 o2 => gen_upd H38 v2 (tp [0, 0]) o2 fun H39 s39 g2 => ⟨z2, fun v3 o3 => gen_upd H39 v3 (.tup [.ref v1, .ref v2]) o3 fun H40 s40 g3 => ⟨z2, fun v4 o4 => gen_upd H40 v4 (.tup [.ref v3, .int 1]) o4 fun H41 s41 g4 => ?_⟩⟩⟩⟩
      have uD : Tt H40 v3 2 2 (lt_ tD) := tt2 g3 (s40 _ _ (s39 _ _ g1)) (s40 _ _ g2) (by decide)
      have s3741 := (s38.trans s39).trans (s40.trans s41)
      exact eq_pair (B := 1) (s3741 _ _ k37) (t37'.same s3741) g4 (uD.same s41) (q _)
end
end K13

set_option Elab.async false
set_option linter.all false
set_option maxRecDepth 100000
set_option maxHeartbeats 0
namespace K13
open PySem PySem.Spec PyProof.Rows L2
theorem facts {l : PySem.W.OpenLaw} {w : World} {K : PySem.W.Frag} {h : Heap} {mg : Str → Option Value} {f : Addr} (X : K.In h) (G : h.Ns mainGlobals mg) (hfa : mg ("law" : Str) = some (.ref f)) (c : HookT.SaysGT faL fnL tfL exL h K) :
    LamX.LawAtS l w K CX0 10 63 "_law_script" mg f h := by
  obtain ⟨T⟩ := facts_of X G c.g
  have e := hfa.symm.trans T.g_law
  cases e
  have b := FunD.bindsA (ps := ["_law_script"]) T.F_law fun _ _ _ _ _ _ us hl => match us, hl with | [_], _ => rfl
  have key : ∀ p ∈ ([(T.c_first_of, T.P_first_of)] : List (Addr × Addr)), ∃ q ∈ tfL, p = HookT.cTA K q := fun p hp => by
    simp only [List.mem_cons, List.not_mem_nil, or_false] at hp
    rcases hp with rfl
    · exact ⟨(HookG.At.glo "first_of"), by unfold tfL; simp, T.tab_first_of⟩
  refine ⟨T.fd_law, [(T.c_first_of, T.P_first_of)], spLawT K [T.P_first_of], fun p hp => ?_, fun p hp => ?_, fun p hp => ?_, fun s v => b s [v] rfl, fun H a ns hl _ hH hS => ⟨a, ns, rfl, hS, hl, (fun P hP => (List.mem_singleton.mp hP) ▸ HookT.tabG0 (hH (T.c_first_of, T.P_first_of) (by simp))), fun _ => rfl⟩, fun base _ _ TB => ok_law T (have t := TB (T.c_first_of, T.P_first_of) (by simp); ⟨t.code, t.bm, t.gP⟩)⟩
  · obtain ⟨q, hq, rfl⟩ := key p hp
    exact c.empty q hq
  · obtain ⟨q, hq, rfl⟩ := key p hp
    exact c.out q hq
  · obtain ⟨q, hq, rfl⟩ := key p hp
    exact PySem.W.codeHd_of_K X (c.hd q hq)
end K13
open PySem PySem.W PySem.Calls PyProof.Rows
theorem PySem.Challenge.cw_sourceforms_k13_whole_tables_of_parts_holds : PySem.Challenge.rw_sourceforms_k13_whole_tables_of_parts.Holds := by
  w_on; o_law
  refine HandSHeadRun.head_imp (r := OpenLaw.row PySem.Challenge.rw_sourceforms_k13_whole_tables_of_parts) (q := view (OpenLaw.row PySem.Challenge.rw_sourceforms_k13_whole_tables_of_parts).prog [0, 84]) (H := K13.hk) (ob := K13.ob) (M := 12000) (loose := K13.loose) (d := HandSHeadRun.topDef (OpenLaw.row PySem.Challenge.rw_sourceforms_k13_whole_tables_of_parts).prog 84) (kwd := []) K13.ob_eq K13.run (by kernel_rfl) (by kernel_rfl) (by kernel_rfl) (by rfl) (by first | assumption | decide +kernel) (by decide +kernel) ⟨rfl, rfl, rfl, rfl, rfl, by decide +kernel⟩ ?hw ?hc
  case hw => w_witness2
  case hc =>
    refine LamX.walk_ofTsE (l := PySem.Challenge.rw_sourceforms_k13_whole_tables_of_parts) (n := 63) (k := 10) (x := "_law_script") (CX := fun _ => L2.CX0) rfl (by decide) (by kernel_rfl) ⟨rfl, by decide, by decide⟩ ?F (fun _ _ _ _ _ z => z)
    intro w mg fa h Y G hmg0
    obtain ⟨K, KX, c⟩ := Y
    have hmg : mg ("law" : PySem.Str) = some (.ref fa) := by
      have e : (HandSHeadRun.topDef (OpenLaw.row PySem.Challenge.rw_sourceforms_k13_whole_tables_of_parts).prog 84).name = ("law" : PySem.Str) := by kernel_rfl
      rw [← e]
      exact hmg0
    exact ⟨K, KX, K13.facts KX G hmg c⟩
