import PyProof.Rows.All
import Wide.All
import OpenK.AllK
import Wide.FinOn
import KE.KTupSum
import HandS.ForMost
import HandS.Wide
import HandS.Style
import HandS.Gcd
import KE.KMathG
import Flt.RightSqrt
import HandS.SlotsOwn
import HandS.IsInst
import KE.KOpsOwn
import KE.KCallOwn
import KE.KOwnIter
import OpenK.KMeth
import OpenK.KOps
import PyProof.InstNe
import HandS.OwnIter
import HandS.IterNext
import HandS.Defaults
import HandS.HeadHook2
import HandS.HeadNt
import HandS.Codes
import HandS.Words
import HandS.Slots
import HandS.ClsMeth
import PyProof.ListIndex
import HandS.Iter
import KE.GoesMore
import HandS.List
import HandS.AnyAll
import HandS.ExcOwn
import KE.KDictIter
import PyProof.GenCompT
import HandS.HeadHook4
import HandS.HeadWalk
import PyProof.TupleOfGen
import HandS.TupMul
import HandS.Zip
import HandS.Comp
import KE.GoesZip
import HandS.Deep
import HandS.TupSets
import HandS.Sort
import KE.DataFind
import PyProof.MinMaxWalk
import PyProof.WalkInts
import PyProof.TupleOps
import PyProof.WalksMore
import HandS.Dict
import HandS.DictComp
import HandS.More
import HandS.Conv
import HandS.Star
import HandS.TupAny
import HandS.Evl
import HandS.WordsExc
import HandS.Head0
import HandS.Head1
import HandS.Head2
import HandS.Head3
import HandS.HeadEnd
import HandS.HeadHook1
import HandS.HeadHook3
import HandS.FStr
import KE.KEqSeq
import HandS.Flt
import HandS.TupLe
import HandS.Lambda
import HandS.Base
import HandS.Flow
import PyProof.EqKinds
import PyProof.EqAt
import HandS.RaiseMore
import PyProof.ReprRoads
import HandS.FStrTup
import PySem.Challenge.RW_sourceforms_k45_whole_told_invariants

set_option Elab.async false
set_option linter.all false
set_option maxRecDepth 100000
set_option maxHeartbeats 4000000
/-! rules of mine: a tuple turned round by a slice, the sum of a tuple -/
namespace MyR
open PySem PySem.Spec PyProof.Rows L2 HT
section
variable {prog : Program} {w : World} {A : Around} {E : Value → Shared → Prop} {s : Shared}
end
section
variable {X : Cx}
/-- // by any int other than 0 -/
def CDivZ (_ j : Int) : Prop := j ≠ 0 ∧ j.natAbs.log2 < 9000
theorem op_fdivZ : OpR X (binaryOp .FloorDiv) (rI CDivZ fun i j => .int (i.fdiv j)) := opI fun i j _ _ _ _ _ hc q =>
  floordiv_int hc.1 q (.inl (PyProof.noPylong_of_log2 hc.2))
end
end MyR

set_option Elab.async false
set_option linter.all false
set_option maxRecDepth 100000
set_option maxHeartbeats 2000000
/-! rules for instances with slots: own +, -, *, unary -, ==, !=, len, str -/
namespace OwnR
open PySem PySem.Spec PyProof.Rows L2 SlX
section
variable {X : Cx} {CX : CXT} {C g : Addr} {n : Nat} {sp : Sp} {E : XK}
end
end OwnR

set_option Elab.async false
set_option linter.all false
set_option maxRecDepth 100000
set_option maxHeartbeats 2000000
/-! list(x) of an instance with own __iter__ (an iterator over a tuple) and own __len__; iter of a tuple -/
namespace OwnR
open PySem PySem.Spec PyProof.Rows L2 SlX
/-- at it an iterator over the tuple at t, the next place is i -/
def ItT (t it : Addr) (i : Nat) : HO := .ext fun h => IsTupIter h it t i
section
variable {X : Cx} {CX : CXT} {pins : List (Addr × Obj)} {σ : L2.St} {H : Hp} {s : Shared} {C g gl t it q : Addr} {n i : Nat} {sp spl : Sp} {E : XK}
/-- what stands while the iterator's items are taken -/
structure Tk (K : PySem.W.Frag) (H0 H : Hp) (t it q : Addr) (ys : List V) (i : Nat) : Prop where
  at_ : H it = some (ItT t it i)
  tu : SqT K H t ys
  li : H q = some (.lst (ys.take i))
  st : ∀ b o, b ≠ it → b ≠ q → H0 b = some o → H b = some o
theorem slt_upd {a dx q : Addr} {vs : List (Option V)} {o : HO} (h : Slt H a C dx vs) (n : H q = none) : Slt (upd H q o) a C dx vs := by
  rcases h with ⟨h1, h2⟩ | ⟨h1, h2⟩
  · exact .inl ⟨by rw [upd_ne (ne_of_none h1 n)]; exact h1, h2⟩
  · exact .inr ⟨by rw [upd_ne (ne_of_none h1 n)]; exact h1, by rw [upd_ne (ne_of_none h2 n)]; exact h2⟩
end
end OwnR

set_option Elab.async false
set_option linter.all false
set_option maxRecDepth 100000
set_option maxHeartbeats 2000000
/-! a Hook that tells of defs found anywhere (a global, a class's method, a property's getter), and of classes with slots -/
namespace HookG
open PySem PySem.Spec PyProof.Rows L2 He
/-- the property f of the class at C -/
def prA (K : PySem.W.Frag) (C : Addr) (f : Str) : Addr := match PySem.W.recIn K (ma K C f) "property" with
  | some (.ref g :: _) => g
  | _ => 0
/-- where a def stands: a global; a method; a property's getter; a classmethod -/
inductive At where
  | glo (x : Str)
  | met (C m : Str)
  | prp (C f : Str)
  | cms (C m : Str)
def At.adr (K : PySem.W.Frag) : At → Addr
  | .glo x => ga K x
  | .met C m => ma K (ga K C) m
  | .prp C f => prA K (ga K C) f
  | .cms C m => He5.wf K (ga K C) "classmethod" m
structure GD where
  at_ : At
  name : Str
  qual : Str
  params : Arguments
  body : List Stmt
  scope : Scope
def fnA (K : PySem.W.Frag) (a : Addr) : FnW := match K.lookup a with
  | some ⟨_, _, .func fd, _⟩ => some (fd.name, fd.qualname, fd.params, fd.body, fd.scope, fd.globals, fd.closure, fd.builtins)
  | _ => none
def GD.val (d : GD) : FnW := some (d.name, d.qual, d.params, .stmts d.body, d.scope, mainGlobals, [], builtinsNs)
def GD.ok (K : PySem.W.Frag) (d : GD) : Bool := PySem.W.keepIn K (.ref (d.at_.adr K)) && (match K.lookup (d.at_.adr K) with
  | some ⟨_, _, .func fd, _⟩ => PySem.W.codeIn K fd.code d.qual && (dflB K fd.defaults [] && kwdB K fd.kwdefaults [])
  | _ => false)
theorem GD.funD {K : PySem.W.Frag} {d : GD} (e : fnA K (d.at_.adr K) = d.val) (c : d.ok K = true) : ∃ fd, FunD K d.name d.qual d.params d.body d.scope [] [] (d.at_.adr K) fd := by
  obtain ⟨kp, c2⟩ := ba c
  unfold fnA at e
  cases q : K.lookup (d.at_.adr K) with
  | none => rw [q] at c2; cases c2
  | some o =>
    obtain ⟨oc, od, dt, osl⟩ := o
    rw [q] at c2 e
    cases dt with
    | func fd =>
      obtain ⟨n1, n2, n3, n4, n5, n6, n7, n8, n9, n10, n11, n12, n13, n14, n15⟩ := fd
      have e2 : (some (n1, n2, n3, n4, n5, n6, n7, n15) : FnW) = some (d.name, d.qual, d.params, .stmts d.body, d.scope, mainGlobals, [], builtinsNs) := e
      simp only [Option.some.injEq, Prod.mk.injEq] at e2
      obtain ⟨h1, h2, h3, h4, h5, h6, h7, h8⟩ := e2
      subst h1 h2 h3 h4 h5 h6 h7 h8
      have c3 : (PySem.W.codeIn K n13 d.qual && (dflB K n8 [] && kwdB K n9 [])) = true := c2
      obtain ⟨k1, k2⟩ := ba c3
      obtain ⟨k3, k4⟩ := ba k2
      exact ⟨_, ⟨oc, od, n8, n9, n10, n11, n12, n13, n14, osl, rfl, q, k1, dflB_ok k3, kwdB_ok k4⟩, kp⟩
    | _ => cases c2
/-! ### facts of classes with slots -/
def dO {α : Type} [DecidableEq α] (a b : Option α) : Bool := decide (a = b)
theorem dO_ok {α : Type} [DecidableEq α] {a b : Option α} (h : dO a b = true) : a = b := of_decide_eq_true h
/-- the class at the module's name x: plain, with slots -/
def sclB (K : PySem.W.Frag) (x : Str) : Bool := PySem.W.plainGet K (ga K x) Str.empty && (PySem.W.isClsIn K (ga K x) && (PySem.W.plainOver K (ga K x) && eqO (PySem.W.findIn K (.ref (ga K x)) "__setattr__") (some (some (.builtin "object.__setattr__")))))
theorem sclB_ok {K : PySem.W.Frag} {x : Str} (h : sclB K x = true) : SlX.SCls K (ga K x) := by
  obtain ⟨c1, c⟩ := ba h
  obtain ⟨c2, c⟩ := ba c
  obtain ⟨c3, c4⟩ := ba c
  exact ⟨c1, c2, c3, eqO_ok c4⟩
def slotB (K : PySem.W.Frag) (x f : Str) (i : Nat) : Bool := eqO (PySem.W.findIn K (.ref (ga K x)) f) (some (some (.ref (ma K (ga K x) f)))) && (eqO (PySem.W.specialIn K (.ref (ma K (ga K x) f)) "__get__") (some (some (.builtin "member_descriptor.__get__"))) && (dO (PySem.W.takesIn K (.ref (ma K (ga K x) f))) (some true) && (dO (PySem.W.typeIn K (.ref (ma K (ga K x) f))) (some (.type "member_descriptor")) && dO (PySem.W.slotIn K (ma K (ga K x) f) (ga K x)) (some i))))
theorem slotB_ok {K : PySem.W.Frag} {x f : Str} {i : Nat} (h : slotB K x f i = true) (hi : i < 1000) : SlX.Slot1 K (ga K x) f (ma K (ga K x) f) i := by
  obtain ⟨c1, c⟩ := ba h
  obtain ⟨c2, c⟩ := ba c
  obtain ⟨c3, c⟩ := ba c
  obtain ⟨c4, c5⟩ := ba c
  exact ⟨eqO_ok c1, eqO_ok c2, dO_ok c3, dO_ok c4, dO_ok c5, hi⟩
def sisB (K : PySem.W.Frag) (x : Str) : Bool := eqO (PySem.W.findIn K (.ref (ga K x)) "__class__") (some (some (.builtin "object.__class__"))) && (eqO (PySem.W.specialIn K (.builtin "object.__class__") "__get__") (some (some (.builtin "getset_descriptor.__get__"))) && (dO (PySem.W.takesIn K (.builtin "object.__class__")) (some true) && dO (PySem.W.mroIn K (ga K x) (.type "object")) (some true)))
theorem sisB_ok {K : PySem.W.Frag} {x : Str} (h : sisB K x = true) : SlX.SIsi K (ga K x) := by
  obtain ⟨c1, c⟩ := ba h
  obtain ⟨c2, c⟩ := ba c
  obtain ⟨c3, c4⟩ := ba c
  exact ⟨eqO_ok c1, eqO_ok c2, dO_ok c3, dO_ok c4⟩
/-- a method: found in the class, a function -/
structure Mt (K : PySem.W.Frag) (C : Addr) (m : Str) (g : Addr) : Prop where
  at_ : PySem.W.findIn K (.ref C) m = some (some (.ref g))
  fn : PySem.W.isFn K (.ref g) = true
def mtB (K : PySem.W.Frag) (x m : Str) : Bool := eqO (PySem.W.findIn K (.ref (ga K x)) m) (some (some (.ref (ma K (ga K x) m)))) && PySem.W.isFn K (.ref (ma K (ga K x) m))
theorem mtB_ok {K : PySem.W.Frag} {x m : Str} (h : mtB K x m = true) : Mt K (ga K x) m (ma K (ga K x) m) := by
  obtain ⟨c1, c2⟩ := ba h
  exact ⟨eqO_ok c1, c2⟩
/-- a property, its getter at g -/
structure Pr (K : PySem.W.Frag) (C : Addr) (f : Str) (p g : Addr) : Prop where
  at_ : PySem.W.findIn K (.ref C) f = some (some (.ref p))
  get : PySem.W.specialIn K (.ref p) "__get__" = some (some (.builtin "property.__get__"))
  tk : PySem.W.takesIn K (.ref p) = some true
  rc : ∃ rest, PySem.W.recIn K p "property" = some (.ref g :: rest)
def recB (K : PySem.W.Frag) (p g : Addr) : Bool := match PySem.W.recIn K p "property" with
  | some (.ref a :: _) => decide (a = g)
  | _ => false
def prB (K : PySem.W.Frag) (x f : Str) : Bool := eqO (PySem.W.findIn K (.ref (ga K x)) f) (some (some (.ref (ma K (ga K x) f)))) && (eqO (PySem.W.specialIn K (.ref (ma K (ga K x) f)) "__get__") (some (some (.builtin "property.__get__"))) && (dO (PySem.W.takesIn K (.ref (ma K (ga K x) f))) (some true) && recB K (ma K (ga K x) f) (prA K (ga K x) f)))
theorem prB_ok {K : PySem.W.Frag} {x f : Str} (h : prB K x f = true) : Pr K (ga K x) f (ma K (ga K x) f) (prA K (ga K x) f) := by
  obtain ⟨c1, c⟩ := ba h
  obtain ⟨c2, c⟩ := ba c
  obtain ⟨c3, c4⟩ := ba c
  refine ⟨eqO_ok c1, eqO_ok c2, dO_ok c3, ?_⟩
  unfold recB at c4
  cases q : PySem.W.recIn K (ma K (ga K x) f) "property" with
  | none => rw [q] at c4; cases c4
  | some l =>
    rw [q] at c4
    cases l with
    | nil => cases c4
    | cons a r =>
      cases a with
      | ref b =>
        have e : b = prA K (ga K x) f := of_decide_eq_true c4
        rw [← e]
        exact ⟨r, rfl⟩
      | _ => cases c4
/-! ### the Hook -/
abbrev AlG : Type := Bool × List FnW
def obsG (fa : List Fa) (fn : List GD) (ex : PySem.W.Frag → Bool) (K : PySem.W.Frag) : AlG := ((fa.all fun f => f.ok K) && ((fn.all fun d => d.ok K) && ex K), fn.map fun d => fnA K (d.at_.adr K))
def valG (fn : List GD) : AlG := (true, fn.map GD.val)
def SaysG (fa : List Fa) (fn : List GD) (ex : PySem.W.Frag → Bool) (K : PySem.W.Frag) : Prop := obsG fa fn ex K = valG fn
section
variable {fa : List Fa} {fn : List GD} {ex : PySem.W.Frag → Bool} {K : PySem.W.Frag}
theorem SaysG.all (c : SaysG fa fn ex K) : ((fa.all fun f => f.ok K) && ((fn.all fun d => d.ok K) && ex K)) = true := congrArg (fun z : AlG => z.1) c
theorem SaysG.fact (c : SaysG fa fn ex K) (i : Nat) {f : Fa} (h : fa[i]? = some f := by rfl) : f.ok K = true := List.all_eq_true.mp (ba c.all).1 f (List.mem_of_getElem? h)
theorem SaysG.more (c : SaysG fa fn ex K) : ex K = true := (ba (ba c.all).2).2
theorem SaysG.def_ (c : SaysG fa fn ex K) (i : Nat) {d : GD} (h : fn[i]? = some d := by rfl) : ∃ fd, FunD K d.name d.qual d.params d.body d.scope [] [] (d.at_.adr K) fd := by
  have c2 := (ba (ba c.all).2).1
  have e : fn.map (fun d => fnA K (d.at_.adr K)) = fn.map GD.val := congrArg (fun z : AlG => z.2) c
  have e2 : (fn.map fun d => fnA K (d.at_.adr K))[i]? = (fn.map GD.val)[i]? := by rw [e]
  rw [List.getElem?_map, List.getElem?_map, h] at e2
  exact GD.funD (Option.some.inj e2) (List.all_eq_true.mp c2 d (List.mem_of_getElem? h))
end
end HookG

set_option Elab.async false
set_option linter.all false
set_option maxRecDepth 100000
set_option maxHeartbeats 2000000
/-! the rules of OwnR, OwnL, over the facts of HookG -/
namespace OwnF
open PySem PySem.Spec PyProof.Rows L2 He SlX OwnR HookG
/-- what is asked of a class with slots -/
structure OC (K : PySem.W.Frag) (C : Addr) : Prop where
  scl : SCls K C
  sis : SIsi K C
  first : PySem.W.selfFirst K C = true
  ne : PySem.W.findIn K (.ref C) "__ne__" = some (some (.builtin "object.__ne__"))
  ntup : PySem.W.notFirst K C (.type "tuple") = true
  rmul : PySem.W.findIn K (.ref C) "__rmul__" = some none
  imul : PySem.W.findIn K (.type "int") "__mul__" = some (some (.builtin "int.__mul__"))
  irmul : PySem.W.findIn K (.type "int") "__rmul__" = some (some (.builtin "int.__rmul__"))
  isub : PySem.W.subIn K (.type "int") (.ref C) = some false
  kself : PySem.W.kitOne K (.ref C) (.ref C) = some true
  ktup : PySem.W.kitOne K (.type "tuple") (.ref C) = some false
  kint : PySem.W.kitOne K (.type "int") (.ref C) = some false
def ocB (K : PySem.W.Frag) (x : Str) : Bool := sclB K x && (sisB K x && (PySem.W.selfFirst K (ga K x) && (eqO (PySem.W.findIn K (.ref (ga K x)) "__ne__") (some (some (.builtin "object.__ne__"))) && (PySem.W.notFirst K (ga K x) (.type "tuple") && (eqO (PySem.W.findIn K (.ref (ga K x)) "__rmul__") (some none) && (eqO (PySem.W.findIn K (.type "int") "__mul__") (some (some (.builtin "int.__mul__"))) && (eqO (PySem.W.findIn K (.type "int") "__rmul__") (some (some (.builtin "int.__rmul__"))) && (dO (PySem.W.subIn K (.type "int") (.ref (ga K x))) (some false) && (dO (PySem.W.kitOne K (.ref (ga K x)) (.ref (ga K x))) (some true) && (dO (PySem.W.kitOne K (.type "tuple") (.ref (ga K x))) (some false) && dO (PySem.W.kitOne K (.type "int") (.ref (ga K x))) (some false)))))))))))
theorem ocB_ok {K : PySem.W.Frag} {x : Str} (h : ocB K x = true) : OC K (ga K x) := by
  obtain ⟨c1, c⟩ := ba h
  obtain ⟨c2, c⟩ := ba c
  obtain ⟨c3, c⟩ := ba c
  obtain ⟨c4, c⟩ := ba c
  obtain ⟨c5, c⟩ := ba c
  obtain ⟨c6, c⟩ := ba c
  obtain ⟨c7, c⟩ := ba c
  obtain ⟨c8, c⟩ := ba c
  obtain ⟨c9, c⟩ := ba c
  obtain ⟨c10, c⟩ := ba c
  obtain ⟨c11, c12⟩ := ba c
  exact ⟨sclB_ok c1, sisB_ok c2, c3, eqO_ok c4, c5, eqO_ok c6, eqO_ok c7, eqO_ok c8, dO_ok c9, dO_ok c10, dO_ok c11, dO_ok c12⟩
theorem raw0 {P : Program} {w : World} {K : PySem.W.Frag} {mg : Str → Option Value} {base : Heap} {CX : CXT} {k : Nat} {f : Addr} {sp : Sp} {fd : FuncData} {ps : List Str} (F : FnOk P w K mg base CX k f fd ps sp) (hb : Binds K fd ps []) : FnR P w K mg base CX k f sp :=
  (F.raw hb .nil).imp fun vs H Q E h => by rw [List.append_nil]; exact h
section
variable {X : Cx} {C g gl pp : Addr} {n : Nat} {sp spl : Sp} {fd fdl : FuncData} {ps psl : List Str} {f : Str} {e : Expr} {pos : Pos} {ta : TE}
theorem hx0 : ∀ (H : Hp) (s : Shared) (e : Value) (s' : Shared), CX0 X.stack H s E0 e s' → False := fun _ _ _ _ h => h
theorem pe_prp (he : PE X e ta) (c : OC X.K C) (p : Pr X.K C f pp g) (F : FnOk X.prog X.w X.K X.mg X.base CX0 n g fd ps sp) (hb : Binds X.K fd ps []) (hr : Room (n + 1) X.A) (hb2 : attributeBase e f X.env (eval e X.env) = eval e X.env := by rfl) : PE X (.Attribute e f pos) (tPropSl C sp E0 ta) :=
  pe_propSl he c.scl p.at_ p.get p.tk p.rc (raw0 F hb) hr hx0 hb2
theorem iter_anyT {prog : Program} {w : World} {A : Around} {E : Value → Shared → Prop} {s : Shared} {l : Addr} {items : Array Value} {Q : Value → Shared → Prop} (hl : s.heap.IsTuple l items)
    (h : ∀ s₂ : Shared, s₂ = { s with heap := s.heap.push { cls := .type "tuple_iterator", data := .fields #[.ref l, .int 0 0] } } →
      (s₂.heap.IsTupleIter s.heap.objs.size l 0 ∧ s₂.heap.IsTuple l items) → l ≠ s.heap.objs.size → Q (.ref s.heap.objs.size) s₂) : wpAny (model prog w) A (pyIter (.ref l)) Q E s := by
  have hlt : l < s.heap.objs.size := by obtain ⟨_, e, _⟩ := hl; exact Heap.lt_size e
  exact wpAny_pyIter_tuple hl (h _ rfl ⟨⟨_, Heap.get?_push_size _ rfl, rfl, rfl⟩, hl.push _⟩ (Nat.ne_of_lt hlt))
theorem truth_ints {prog : Program} {w : World} {A : Around} {ns : List Int} {its : List Value} (r : Vals (ns.map V.int) its) :
    TruthOf prog w A (fun i v => its.toArray[i]? = some v) (fun i => ns.getD i 0 != 0) := fun i v s Q E hv hq => by
  have hv' : its[i]? = some v := by simpa using hv
  have hlen := r.length
  rw [List.length_map] at hlen
  have hlt : i < ns.length := by
    have := (List.getElem?_eq_some_iff.mp hv').1
    omega
  obtain ⟨u, hu, t, ru⟩ := r.get (show (ns.map V.int)[i]? = some (.int ns[i]) by rw [List.getElem?_map, List.getElem?_eq_getElem hlt]; rfl)
  rw [hv'] at hu
  cases hu
  subst ru
  have hg : ns.getD i 0 = ns[i] := by rw [List.getD_eq_getElem?_getD, List.getElem?_eq_getElem hlt] <;> rfl
  have hq' : Q (ns.getD i 0 != 0) s := hq
  rw [hg] at hq'
  exact truthy_int hq'
theorem any_rangeI : ∀ ns : List Int, (List.range ns.length).any (fun i => ns.getD i 0 != 0) = ns.any (· != 0)
  | [] => rfl
  | b :: bs => by
    rw [List.length_cons, List.range_succ_eq_map, List.any_cons, List.any_map, List.any_cons, ← any_rangeI bs]
    all_goals rfl
/-- any of a tuple of ints -/
def rAnyTI (K : PySem.W.Frag) : List V → Hp → VK → Prop := fun vs H Q => ∃ (a : Addr) (ns : List Int), vs = [V.ref a] ∧ SqT K H a (ns.map V.int) ∧ Q (.bl (ns.any (· != 0))) H
theorem cr_anyTI (hc : X.calm = true) : CallR X (.builtin "any") (rAnyTI X.K) := by
  intro pins s σ H vs us Q I r h
  obtain ⟨a, ns, rfl, hs, q⟩ := h
  obtain ⟨its, rv, hl, _⟩ := I.tuple hs
  rw [Vals.ref1 r]
  have hlen := rv.length
  rw [List.length_map] at hlen
  refine call_any_walk (iter_anyT (show s.heap.IsTuple a its.toArray from hl) fun s₂ e2 st hne => ?_)
  subst e2
  refine ⟨_, _, _, _, _, _, _, rfl, Walks.tuple (A := X.A.in1) (I.ok.hd hc) _ a hne its.toArray, st, truth_ints rv, fun h' tk hk => ?_⟩
  refine ⟨.bl _, H, I.kept fun b o eo => hk b o (fun hmem => ?_) (Heap.get?_push_of_some _ eo), ?_, q⟩
  · rcases List.mem_cons.mp hmem with e1 | hmem
    · exact absurd (e1 ▸ Heap.lt_size eo) (Nat.lt_irrefl _)
    · cases hmem
  · show Value.bool _ = Value.bool _
    rw [← any_rangeI, List.size_toArray, ← hlen]
/-- isinstance(x, C): x of a plain type, or an instance -/
theorem call_isiF (C : Addr) : CallR X (.builtin "isinstance") (fun xs H Q => rIsi X.K xs H Q ∨ rIsiSl X.K (.ref C) xs H Q) := call_isi.or (call_isiSl (.ref C))
end
end OwnF

set_option Elab.async false
set_option linter.all false
set_option maxRecDepth 100000
set_option maxHeartbeats 2000000
/-! a method of an instance with slots -/
namespace OwnF
open PySem PySem.Spec PyProof.Rows L2 He SlX OwnR HookG
section
variable {X : Cx} {C g : Addr} {n : Nat} {sp : Sp} {fd : FuncData} {ps : List Str} {o e : Expr} {es : List Expr} {x : Str} {pos apos : Pos} {ta : TE} {t : TA}
end
end OwnF

set_option Elab.async false
set_option linter.all false
set_option maxRecDepth 100000
set_option maxHeartbeats 2000000
/-! classmethods, classes in local names, xs[i] op= e -/
namespace OwnC
open PySem PySem.Spec PyProof.Rows L2 He SlX OwnR HookG OwnF
/-- C.m is a classmethod: its record at p, its def at g -/
structure Cm (K : PySem.W.Frag) (C : Addr) (m : Str) (p g : Addr) : Prop where
  rd : ClX.CRead K C (.type "type")
  cm : ClX.CMet K C (.type "type") m p g
section
variable {X : Cx} {C p g f : Addr} {n i : Nat} {sp : Sp} {fd : FuncData} {ps : List Str} {o e : Expr} {es : List Expr} {m x : Str} {pos apos pp : Pos} {ta : TE} {t : TA}
/-- xs[i], read for xs[i] op= e -/
def rGetL (K : PySem.W.Frag) : R2 := fun x y H Q => ∃ a xs j v, x = .ref a ∧ y = .int ((j : Nat) : Int) ∧ SqL K H a xs ∧ xs[j]? = some v ∧ Q v H
theorem get_list : PGet X (rGetL X.K) := by
  intro pins s σ H x y v u Q I rx ry h
  obtain ⟨a, xs, j, z, rfl, rfl, hq, he, q⟩ := h
  cases rx
  obtain ⟨t, rfl⟩ := ry
  obtain ⟨its, r, pl, hz⟩ := I.list hq
  obtain ⟨w, ew, rw'⟩ := r.get he
  have hl := r.length
  have hn := line63
  have hj : j < xs.length := (List.getElem?_eq_some_iff.mp he).1
  exact wpAny_getItem_list pl.isList (by omega) (by omega) (x := w) (by rw [Int.toNat_natCast]; simpa using ew) ⟨z, H, I, rw', q⟩
end
end OwnC

set_option Elab.async false
set_option linter.all false
set_option maxRecDepth 100000
set_option maxHeartbeats 2000000
/-! enumerate(t), t a tuple -/
namespace EnumT
open PySem PySem.Spec PyProof.Rows L2
open AutoSeq1 (wpAny_loadPart')
theorem meets_newT (l : Addr) (items : Array Value) (n : Nat) (dct : Option Addr) (sl : Array (Option Value)) :
    Meets (Builtin.«enumerate.__new__» ⟨[.type "enumerate", .ref l], []⟩) (fun _ R s => s.heap.get? l = some { cls := .type "tuple", dict := dct, data := .seq items n, slots := sl } ∧
      R (.ok (.ret (.ref (s.heap.push { cls := .type "tuple_iterator", data := .fields #[.ref l, .int 0 0] }).objs.size)))
        { s with heap := (s.heap.push { cls := .type "tuple_iterator", data := .fields #[.ref l, .int 0 0] }).push { cls := .type "enumerate", data := .fields #[.none, .bool false, .ref s.heap.objs.size, rawInt 0, .none, .none] } }) :=
  .of_wp fun prog w A R s h => by
    obtain ⟨hp, g, d, tk, os⟩ := s; obtain ⟨hl, h⟩ := h
    have hsub := sub_enumerate
    have hL : Heap.IsTuple (Shared.heap ⟨hp, g, d, tk, os⟩) l items := ⟨_, hl, rfl, n, rfl⟩
    wp_walk using wpAny_loadPart' hl
    refine wpAny_stack_any fun st => wpAny_pure ?_
    split
    · rename_i c _ _ _ _ _
      cases (c == Value.type "enumerate")
      · wp_walk using wpAny_loadPart' hl, wpAny_pyIter_tuple hL
        exact ⟨_, rfl, h⟩
      · wp_walk using wpAny_loadPart' hl, wpAny_pyIter_tuple hL
        exact ⟨_, rfl, h⟩
    · wp_walk using wpAny_loadPart' hl, wpAny_pyIter_tuple hL
      exact ⟨_, rfl, h⟩
section
variable {prog : Program} {w : World} {A : Around} {E : Value → Shared → Prop} {s : Shared}
theorem call_enumT {l : Addr} {items : Array Value} {Q : Value → Shared → Prop} (hL : s.heap.IsTuple l items)
    (h : ∀ h', IsEnum h' (s.heap.objs.size + 1) s.heap.objs.size 0 .none → h'.IsTupleIter s.heap.objs.size l 0 → h'.objs.size = s.heap.objs.size + 2 →
      (∀ b o, s.heap.get? b = some o → h'.get? b = some o) → Q (.ref (s.heap.objs.size + 1)) { s with heap := h' }) :
    wpAny (model prog w) A (call (.type "enumerate") [.ref l]) Q E s := by
  obtain ⟨⟨c, dct, dt, sl⟩, hl, hc, n, hd⟩ := hL
  replace hc : c = .type "tuple" := hc
  replace hd : dt = .seq items n := hd
  subst hc hd
  refine callType_new F.called_enumerate (by decide) (F.typeCall_enumerate_1 _) (F.newCall_enumerate_1 _) (fun obj => F.args_object_init_2 obj _) F.entry_enumerate_new
    (meets_newT l items n dct sl) ⟨hl, ?_⟩
  have hz : (s.heap.push { cls := .type "tuple_iterator", data := .fields #[.ref l, .int 0 0] }).objs.size = s.heap.objs.size + 1 := Heap.size_push ..
  show _ ∧ _
  rw [hz]
  have he : IsEnum ((s.heap.push { cls := .type "tuple_iterator", data := .fields #[.ref l, .int 0 0] }).push
      { cls := .type "enumerate", data := .fields #[.none, .bool false, .ref s.heap.objs.size, rawInt 0, .none, .none] }) (s.heap.objs.size + 1) s.heap.objs.size 0 .none := by
    have := Heap.get?_push_size (s.heap.push { cls := .type "tuple_iterator", data := .fields #[.ref l, .int 0 0] })
      (o := { cls := .type "enumerate", data := .fields #[.none, .bool false, .ref s.heap.objs.size, rawInt 0, .none, .none] }) rfl
    rw [hz] at this; exact this
  refine ⟨⟨_, he, rfl⟩, h _ he ⟨_, Heap.get?_push_of_some _ (Heap.get?_push_size _ rfl), rfl, rfl⟩ (by rw [Heap.size_push, hz]) fun b o x => Heap.get?_push_of_some _ (Heap.get?_push_of_some _ x)⟩
end
/-- the tuple at a, each item in a new pair -/
def IteT (K : PySem.W.Frag) (a : Addr) : It :=
  ⟨fun i H => ∃ (xs : List V) (x : V), SqT K H a xs ∧ xs[i]? = some x, fun i H v H' => ∃ T x, v = .ref T ∧ H T = none ∧ H' = upd H T (.tup [.int (i : Nat), x]) ∧ ∀ xs, SqT K H a xs → xs[i]? = some x, fun i H => ∃ xs : List V, SqT K H a xs ∧ xs.length = i⟩
theorem turn_enumT {P : Program} {w : World} {K : PySem.W.Frag} {elts : List Expr} {kk : Nat} {tpos : Pos} (a e it : Addr) (hait : a ≠ it) (hae : a ≠ e) :
    Turn P w K (.Tuple elts kk tpos) (IteT K a) [e, it] e (fun i h => (∃ old, IsEnum h e it ((i : Nat) : Int) old) ∧ h.IsTupleIter it a i ∧ e ≠ it) where
  mem := by simp
  obj := fun i h st b hb => by
    obtain ⟨⟨old, he⟩, ⟨o, ho, hc, hd⟩, _⟩ := st
    have e' : b = e ∨ b = it := by simpa using hb
    rcases e' with z | z
    · rw [z]; exact ⟨_, he, fun v q => nomatch q⟩
    · rw [z]; exact ⟨o, ho, fun v q => by rw [hd] at q; cases q⟩
  keep := fun i h h' st k => let ⟨⟨old, he⟩, hi, hne⟩ := st; ⟨⟨old, k e (by simp) _ he⟩, hi.at fun o q => k it (by simp) o q, hne⟩
  item := by
    intro X hP hw hK hc i pins s σ H E I hf st hg
    subst hP hw hK
    obtain ⟨⟨old, he⟩, hit, hne⟩ := st
    obtain ⟨xs, x, hq, hx⟩ := hg
    obtain ⟨its, rv, p, hz⟩ := I.tuple hq
    obtain ⟨u, hu, ru⟩ := rv.get hx
    have hel : e < s.heap.objs.size := Heap.lt_size he
    have hil : it < s.heap.objs.size := by obtain ⟨_, q, _⟩ := hit; exact Heap.lt_size q
    have pT : s.heap.IsTuple a its.toArray := p
    have hlt : i < its.toArray.size := by
      have := (List.getElem?_eq_some_iff.mp hu).1
      simpa using this
    refine wpAny_pyNext_enum_itemD (Draws.tuple (A := X.A.in1) (I.ok.hd hc) it a hait its.toArray) he ⟨hit, pT⟩ hlt hne (by simp [Ne.symm hae, hne]) fun x' h' tk hx' ho hit' hT hsz hk => ?_
    have hux : x' = u := by
      have h1 : its[i]? = some x' := by simpa using hx'
      rw [hu] at h1
      exact (Option.some.inj h1).symm
    subst hux
    refine ⟨_, rfl, wpAny_letOwnedTupleGo_enum (s := { s with heap := h', toks := tk + 1 }) ho fun h'' he' sb => ?_⟩
    have hT2 : h''.get? s.heap.objs.size = some { cls := .type "tuple", data := .seq #[.int i tk, x'] } := (sb.2 _ (Nat.ne_of_gt hel)).trans hT
    have new : ObjOk X.prog X.w (upd H s.heap.objs.size (.tup [.int (i : Nat), x])) h'' s.heap.objs.size (.tup [.int (i : Nat), x]) :=
      ⟨by show 2 ≤ sizeLine; decide, [.int i tk, x'], .cons ⟨_, rfl⟩ (.cons ru .nil), ⟨_, hT2, rfl, _, rfl⟩⟩
    have I1 : Inv X pins σ (upd H s.heap.objs.size (.tup [.int (i : Nat), x])) { s with heap := h'', toks := tk + 1 } :=
      I.turnedNew (ch := [e, it]) (fun b ob hb q => (sb.2 b (fun z => hb (by simp [z]))).trans (hk b ob (fun z => hb (by simp [z])) (fun z => hb (by simp [z])) q)) hf (Nat.le_refl _) new
    refine ⟨.ref s.heap.objs.size, _, I1, rfl, ⟨_, x, rfl, I.hok.fresh (Nat.le_refl _), rfl, fun ys hy => ?_⟩, ⟨⟨x', ?_⟩, hit'.1.at fun o q => (sb.2 it (Ne.symm hne)).trans q, hne⟩, fun b hb => ?_⟩
    · rw [show ys = xs from I.tuple_inj hy hq]
      exact hx
    · have e1 : ((i + 1 : Nat) : Int) = (i : Int) + 1 := by omega
      rw [e1]; exact he'
    · have hb' : b < s.heap.objs.size := by
        have e' : b = e ∨ b = it := by simpa using hb
        rcases e' with z | z
        · rw [z]; exact hel
        · rw [z]; exact hil
      rw [upd_ne (Nat.ne_of_lt hb')]
      exact (hf b hb).1
  done := by
    intro X hP hw hK hc i pins s σ H E I hf st hg
    subst hP hw hK
    obtain ⟨⟨old, he⟩, hit, hne⟩ := st
    obtain ⟨xs, hq, hx⟩ := hg
    obtain ⟨its, rv, p, hz⟩ := I.tuple hq
    obtain ⟨f0, f1, f2, f3, f4, f5⟩ := hf it (by simp)
    have hl := rv.length
    have hz2 : i = its.toArray.size := by rw [List.size_toArray]; omega
    subst hz2
    exact wpAny_pyNext_enum_endD (Draws.tuple (A := X.A.in1) (I.ok.hd hc) it a hait its.toArray) he ⟨hit, show s.heap.IsTuple a its.toArray from p⟩ fun h' eb => ⟨rfl, I.turned (t' := s.toks) (fun b o hb q => eb b o hb q) f0 f1 f3 f4 f5⟩
  self := fun A i s Q E st h => let ⟨⟨_, he⟩, _⟩ := st; wpAny_pyIter_enum he h
def iEnumT (K : PySem.W.Frag) (ta : TA) : TI := fun σ H R => ta σ H fun vs H1 => ∃ a xs, vs = [.ref a] ∧ SqT K H1 a xs ∧ R (IteT K a) H1
theorem pi_enumT {X : Cx} {e : Expr} {ta : TA} {p pos tpos : Pos} {elts : List Expr} {kk : Nat} (hg : Gl X "enumerate") (hm : X.mg "enumerate" = none) (ha : PA X [e] ta) (hs : starEach [e] X.env = [(false, eval e X.env)] := by rfl) :
    PI X (.Tuple elts kk tpos) (.Call (.Name "enumerate" p) [e] [] pos) (iEnumT X.K ta) := by
  refine ⟨fun pins s σ H R I h => ?_⟩
  refine Call_ (ld_blt I hg hm boot_enumerate (PyProof.Rows.callWith_type1 (thn (ha.run pos pins s σ H _ I h) fun us s1 ⟨vs, H1, I1, r1, q1⟩ => ?_) hs rfl))
  obtain ⟨a, xs, ex, hq, q⟩ := q1
  subst ex
  cases r1 with
  | cons r rr =>
    cases rr
    cases r
    obtain ⟨its, rv, p', hz⟩ := I1.tuple hq
    have hlt : a < s1.heap.objs.size := by obtain ⟨_, ho, _⟩ := p'; exact Heap.lt_size ho
    refine call_enumT (show s1.heap.IsTuple a its.toArray from p') fun h' he hit hsz hk => wpAny_pyIter_enum he ?_
    have I2 : Inv X pins σ H1 { s1 with heap := h' } := I1.kept (t' := s1.toks) hk
    refine ⟨s1.heap.objs.size + 1, [s1.heap.objs.size + 1, s1.heap.objs.size], _, _, H1, rfl, I2, turn_enumT a (s1.heap.objs.size + 1) s1.heap.objs.size (Nat.ne_of_lt hlt) (Nat.ne_of_lt (Nat.lt_succ_of_lt hlt)), ⟨⟨.none, he⟩, hit, Nat.succ_ne_self _⟩, fun b hb => ?_, q⟩
    have e' : b = s1.heap.objs.size + 1 ∨ b = s1.heap.objs.size := by simpa using hb
    have hle : s1.heap.objs.size ≤ b := by
      rcases e' with z | z
      · rw [z]; exact Nat.le_add_right _ _
      · rw [z]; exact Nat.le_refl _
    exact I1.fpOk hle (I1.hok.fresh hle)
/-- a loop over enumerate of a tuple -/
theorem for_enumT {K : PySem.W.Frag} {a : Addr} {xs : List V} {g : TG} {tb : TS} {D : Ends} {σ : L2.St} {H : Hp} (Pv : Nat → L2.St → Hp → Prop) (h0 : Pv 0 σ H) (hq : ∀ i σ H, Pv i σ H → SqT K H a xs)
    (hs : ∀ (i : Nat) (x : V) (T : Addr) (σ : L2.St) (H : Hp), xs[i]? = some x → Pv i σ H → H T = none → g (.ref T) σ (upd H T (.tup [.int (i : Nat), x])) fun σ2 H2 => tb { D with nx := Pv (i + 1), ct := Pv (i + 1), bk := D.nx } σ2 H2) (hd : ∀ σ H, Pv xs.length σ H → D.nx σ H) :
    ∃ W : Nat → Nat → L2.St → Hp → Prop, (∃ m, W 0 m σ H) ∧ ∀ i m σ H, W i m σ H →
      ((IteT K a).stop i H ∧ D.nx σ H) ∨ ((IteT K a).go i H ∧ ∃ N : L2.St → Hp → Prop, (∀ σ' H', N σ' H' → ∃ m', m' < m ∧ W (i + 1) m' σ' H') ∧ ∀ v H', (IteT K a).yld i H v H' → g v σ H' fun σ2 H2 => tb { D with nx := N, ct := N, bk := D.nx } σ2 H2) := by
  refine ⟨fun i m σ H => m = xs.length - i ∧ i ≤ xs.length ∧ Pv i σ H, ⟨xs.length, rfl, Nat.zero_le _, h0⟩, ?_⟩
  rintro i m σ H ⟨rfl, hi, p⟩
  have qx := hq i σ H p
  by_cases hlt : i < xs.length
  · have hx : xs[i]? = some xs[i] := List.getElem?_eq_getElem hlt
    refine .inr ⟨⟨xs, _, qx, hx⟩, Pv (i + 1), fun σ' H' p' => ⟨xs.length - (i + 1), by omega, rfl, hlt, p'⟩, fun v H' y => ?_⟩
    obtain ⟨T, x', rfl, hT, rfl, f1⟩ := y
    exact hs i x' T σ H (f1 xs qx) p hT
  · have e : i = xs.length := by omega
    subst e
    exact .inl ⟨⟨xs, qx, rfl⟩, hd σ H p⟩
end EnumT

set_option Elab.async false
set_option linter.all false
set_option maxRecDepth 100000
set_option maxHeartbeats 2000000
/-! sequences that may be a list or a tuple: len, index, enumerate -/
namespace SeqE
open PySem PySem.Spec PyProof.Rows L2
/-- at a a list or a tuple with these items -/
def Sq (H : Hp) (a : Addr) (xs : List V) : Prop := H a = some (.tup xs) ∨ H a = some (.lst xs)
theorem Sq.same {H H' : Hp} {a : Addr} {xs : List V} (h : Sq H a xs) (s : Same H H') : Sq H' a xs := h.elim (fun e => .inl (s _ _ e)) fun e => .inr (s _ _ e)
theorem Sq.upd {H : Hp} {a p : Addr} {o : HO} {xs : List V} (h : Sq H a xs) (hp : H p = none) : Sq (upd H p o) a xs := by
  refine h.elim (fun e => .inl ?_) fun e => .inr ?_ <;> rw [upd_ne (ne_of_none e hp)] <;> exact e
theorem ix_sq {K : PySem.W.Frag} {H : Hp} {a : Addr} {xs : List V} {i : Int} {v : V} {Q : VK} (h : Sq H a xs) (e : atI xs i = some v) (q : Q v H) : rIx K (.ref a) (.int i) H Q :=
  h.elim (fun x => .inr (.inl ⟨a, xs, i, v, rfl, rfl, SqT.of x, e, q⟩)) fun x => .inl ⟨a, xs, i, v, rfl, rfl, SqL.of x, e, q⟩
theorem PI_or {X : Cx} {tg it : Expr} {t1 t2 : TI} (h1 : PI X tg it t1) (h2 : PI X tg it t2) : PI X tg it (fun σ H R => t1 σ H R ∨ t2 σ H R) :=
  ⟨fun pins s σ H R I h => h.elim (h1.run pins s σ H R I) (h2.run pins s σ H R I)⟩
def iEnumS (K : PySem.W.Frag) (ta : TA) : TI := fun σ H R => iEnum K ta σ H R ∨ EnumT.iEnumT K ta σ H R
theorem pi_enumS {X : Cx} {e : Expr} {ta : TA} {p pos tpos : Pos} {elts : List Expr} {kk : Nat} (hg : Gl X "enumerate") (hm : X.mg "enumerate" = none) (ha : PA X [e] ta) (hs : starEach [e] X.env = [(false, eval e X.env)] := by rfl) :
    PI X (.Tuple elts kk tpos) (.Call (.Name "enumerate" p) [e] [] pos) (iEnumS X.K ta) :=
  PI_or (pi_enum hg hm ha hs) (EnumT.pi_enumT hg hm ha hs)
end SeqE

set_option Elab.async false
set_option linter.all false
set_option maxRecDepth 100000
set_option maxHeartbeats 2000000
/-! next(.. for .. in .. if .., default) -/
namespace GenNx
open PySem PySem.Spec PyProof.Rows L2 GxR EnumT
section
variable {prog : Program} {w : World} {A : Around} {E : Value → Shared → Prop} {s : Shared} {I : Addr} {fp wr : List Addr} {G : Array GenState → Array GenState → Prop} {n : Nat} {Pv : Nat → Value → Prop} {St : Nat → Shared → Prop}
/-- next(generator, default): the first item, or the default -/
theorem call_next_walkS {d : Value} {Q : Value → Shared → Prop} (W : WalksS prog w A.in1 I fp wr G n Pv St) (hT : s.TypeIs (.ref I) "generator") (st : St 0 s)
    (h1 : ∀ v s', 0 < n → Pv 0 v → Moved wr G s s' → Q v s') (h2 : ∀ s', n = 0 → Moved wr G s s' → Q d s') : wpAny (model prog w) A (call (.builtin "next") [.ref I, d]) Q E s := by
  refine Calls.call_function_entry (by decide +kernel) (by decide +kernel) PySem.W.kdk_entry_next (PySem.W.kdk_args_next2 _ _) ?_
  unfold Builtin.«next»
  refine wpAny_bind (m := someArgs "next" 1 2 _) (wpAny_of_eq (a := [Value.ref I, d]) (by first | rfl | kernel_rfl!) ?_)
  dsimp only
  refine wpAny_bind (wpAny_specialOf (name := Str.ofString "__next__") hT slot_gen_next.lookup ?_)
  refine wpAny_ite_split (fun hab => absurd hab (by decide)) (fun _ => ?_)
  by_cases hn : 0 < n
  · refine wpAny_bind (W.item 0 _ _ _ hn st fun v s' hv _ hm => ?_)
    exact wpAny_pure ⟨_, rfl, h1 v s' hn hv hm⟩
  · have e : n = 0 := by omega
    refine wpAny_bind (W.done _ _ _ (by rw [e]; exact st) fun s' hm => ?_)
    exact wpAny_pure ⟨_, rfl, h2 s' e hm⟩
end
/-- the generator expression's own scope: its names xa, xb -/
structure GenS2 (env : Env) (scope : Scope) (xa xb : Str) : Prop where
  kind : scope.kind = .function
  co : scope.isCoroutine = false
  cell : ∀ y ∈ scope.names, y.2 ≠ .cell
  dot : scope.names.lookup (".0" : Str) = some NameKind.local
  la : scope.names.lookup xa = some .local
  lb : scope.names.lookup xb = some .local
  ab : xa ≠ xb
  free : ∀ y ∈ scope.names, y.2 = .free → ∃ c, env.cells.lookup y.1 = some c
theorem GenS2.of {env : Env} {scope : Scope} {xa xb : Str} (h1 : scope.kind = .function) (h2 : scope.isCoroutine = false) (h3 : ∀ y ∈ scope.names, y.2 ≠ .cell ∧ y.2 ≠ .free) (h4 : scope.names.lookup (".0" : Str) = some NameKind.local) (h5 : scope.names.lookup xa = some .local) (h6 : scope.names.lookup xb = some .local) (h7 : xa ≠ xb) : GenS2 env scope xa xb :=
  ⟨h1, h2, fun y hy => (h3 y hy).1, h4, h5, h6, h7, fun y hy z => absurd z (h3 y hy).2⟩
theorem genS_of {env : Env} {scope : Scope} {x : Str} (h1 : scope.kind = .function) (h2 : scope.isCoroutine = false) (h3 : ∀ y ∈ scope.names, y.2 ≠ .cell ∧ y.2 ≠ .free) (h4 : scope.names.lookup (".0" : Str) = some NameKind.local) (h5 : scope.names.lookup x = some .local) : GxR.GenS env scope x :=
  ⟨h1, h2, fun y hy => (h3 y hy).1, h4, h5, fun y hy z => absurd z (h3 y hy).2⟩
/-- a test of the int in x -/
def TestI (prog : Program) (w : World) (scope : Scope) (x : Str) (c : Expr) (pb : Int → Bool) : Prop :=
  ∀ (cenv : Env) (A' : Around) (E' : Value → Shared → Prop) (i : Int) (t : Tok) (s₂ : Shared) (m₂ : Str → Option Value), cenv.scope = scope → s₂.heap.Ns cenv.locals m₂ → m₂ x = some (.int i t) →
    wpAny (model prog w) A' (isTrue c cenv (eval c cenv)) (fun ok s₃ => ok = pb i ∧ Keeps s₂ s₃) E' s₂
theorem test_ne0 {prog : Program} {w : World} {scope : Scope} {x : Str} {j : Nat} {p1 p2 p3 : Pos} (hk : scope.kind = .function) (hl : scope.names.lookup x = some .local) (hd : (x == ("__debug__" : Str)) = false := by decide) :
    TestI prog w scope x (.Compare (.Name x p1) [.NotEq] [.Constant (.int 0) j p2] p3) (fun i => i != 0) := by
  intro cenv A' E' i t s₂ m₂ hs hn hm
  refine wpAny_isTrue_Compare1 ?_
  refine wpAny_Name (wpAny_loadName_local (by rw [hs]; exact hk) (show cenv.scope.names.lookup x = some .local by rw [hs]; exact hl) hn hm ?_) hd
  refine wpAny_Constant_int ?_
  exact PySem.P.ne_int (wpAny_truthy_bool ⟨rfl, keeps_tok _ _⟩)
/-- the element is the int in x -/
theorem elt_name {prog : Program} {w : World} {cenv : Env} {A' : Around} {E' : Value → Shared → Prop} {x : Str} {p1 : Pos} {v : Value} {s₂ : Shared} {m₂ : Str → Option Value} {scope : Scope} (hs : cenv.scope = scope) (hk : scope.kind = .function) (hl : scope.names.lookup x = some .local) (hn : s₂.heap.Ns cenv.locals m₂) (hm : m₂ x = some v) (hd : (x == ("__debug__" : Str)) = false := by decide) :
    wpAny (model prog w) A' (eval (.Name x p1) cenv) (fun y s₃ => y = v ∧ Keeps s₂ s₃) E' s₂ :=
  wpAny_Name (wpAny_loadName_local (by rw [hs]; exact hk) (show cenv.scope.names.lookup x = some .local by rw [hs]; exact hl) hn hm ⟨rfl, keeps_refl _⟩) hd
theorem one_if {M : Model} {A : Around} {E : Value → Shared → Prop} {s : Shared} {c : Expr} {cenv : Env} {Q : Bool → Shared → Prop} (h : wpAny M A (isTrue c cenv (eval c cenv)) Q E s) :
    wpAny M A (forIn [c] true fun c r => if r = true then do let ok ← isTrue c cenv (eval c cenv); pure (ForInStep.yield ok) else pure (ForInStep.yield r)) Q E s := by
  simp only [List.forIn_cons, List.forIn_nil, if_true]
  exact wpAny_bind (wpAny_bind (wpAny_mono h (fun ok s' hq => wpAny_pure (wpAny_pure hq)) fun _ _ e => e))
section
variable {X : Cx} {pins : List (Addr × Obj)} {σ : L2.St} {H : Hp} {s : Shared}
/-- the generator g, ready to be asked, its j-th item is tied by F to the j-th place of js -/
def ReadyN (X : Cx) (pins : List (Addr × Obj)) (σ : L2.St) (H1 : Hp) (P : Addr) (js : List Nat) (F : Nat → Value → Prop) (g : Addr) (s5 : Shared) : Prop :=
  ∃ (fp wr : List Addr) (G : Array GenState → Array GenState → Prop) (St : Nat → Shared → Prop),
    WalksS X.prog X.w X.A.in1 g fp wr G js.length (fun j y => ∃ i, js[j]? = some i ∧ F i y) St ∧ St 0 s5 ∧ s5.TypeIs (.ref g) "generator" ∧
    ∀ s', Moved wr G s5 s' → ∃ H2, Tabbed P H1 H2 ∧ Inv X pins σ H2 s'
def pzL (pb : Int → Bool) (l : List Int) (i : Nat) : Bool := match l[i]? with
  | some z => pb z
  | none => false
theorem pzL_some {pb : Int → Bool} {l : List Int} {i : Nat} {z : Int} (h : l[i]? = some z) : pzL pb l i = pb z := by
  unfold pzL
  rw [h]
/-- an item of a row of ints, by values -/
theorem int_item {l : List Int} {its : List Value} (rv : Vals (l.map V.int) its) {i : Nat} {x : Value} (h : its[i]? = some x) : ∃ z t, l[i]? = some z ∧ x = .int z t := by
  have hl := rv.length
  have hi : i < its.length := (List.getElem?_eq_some_iff.mp h).1
  rw [List.length_map] at hl
  have hi2 : i < l.length := by omega
  obtain ⟨u, hu, ru⟩ := rv.get (i := i) (x := .int l[i]) (by rw [List.getElem?_map, List.getElem?_eq_getElem hi2]; rfl)
  obtain ⟨t, rfl⟩ := ru
  rw [h] at hu
  exact ⟨l[i], t, List.getElem?_eq_getElem hi2, Option.some.inj hu⟩
theorem passing_nil {pb : Int → Bool} {l : List Int} (h : (passing (pzL pb l) l.length 0).length = 0) : ∀ (j : Nat) (z : Int), l[j]? = some z → pb z = false := fun j z hj => by
  have e : passing (pzL pb l) l.length 0 = [] := List.eq_nil_of_length_eq_zero h
  have hlt : j < l.length := (List.getElem?_eq_some_iff.mp hj).1
  cases hb : pb z with
  | false => rfl
  | true =>
    have hm : j ∈ passing (pzL pb l) l.length 0 := by
      unfold passing
      rw [List.drop_zero]
      exact List.mem_filter.mpr ⟨List.mem_range.mpr hlt, by rw [pzL_some hj]; exact hb⟩
    rw [e] at hm
    cases hm
theorem passing_first {pb : Int → Bool} {l : List Int} {i : Nat} (h : (passing (pzL pb l) l.length 0)[0]? = some i) : ∃ z, l[i]? = some z ∧ pb z = true ∧ ∀ (j : Nat) (y : Int), j < i → l[j]? = some y → pb y = false := by
  unfold passing at h
  rw [List.drop_zero] at h
  have h2 : ((List.range l.length).filter (pzL pb l)).head? = some i := by rw [List.head?_eq_getElem?]; exact h
  rw [List.head?_filter] at h2
  have h3 := List.find?_eq_some_iff_getElem.mp h2
  obtain ⟨hp, k, hk, ek, hn⟩ := h3
  rw [List.getElem_range] at ek
  subst ek
  rw [List.length_range] at hk
  refine ⟨l[k], List.getElem?_eq_getElem hk, ?_, fun j y hj hy => ?_⟩
  · rw [pzL_some (List.getElem?_eq_getElem hk)] at hp
    exact hp
  · have := hn j hj
    rw [List.getElem_range, pzL_some hy] at this
    simpa using this
theorem gen_name {c P : Addr} {e ct : Expr} {x : Str} {px gpos : Pos} {scope : Scope} {pb : Int → Bool} {te : TE} {k : Nat} {p1 : Pos} {Q' : Value → Shared → Prop} {R : Addr → List Int → Hp → Prop}
    (hr : Room k X.A) (TB : TabB X.base X.mg c P) (hcode : X.env.code = .ref c) (S : GenS X.env scope x) (he : PE X e te)
    (htest : TestI X.prog X.w scope x ct pb) (hda : (x == ("__debug__" : Str)) = false)
    (hs : ∀ v, genFold e X.env v = pure v) (I : Inv X pins σ H s) (h : te σ H fun v H1 => ∃ (t : Addr) (l : List Int), v = .ref t ∧ SqT X.K H1 t (l.map V.int) ∧ TabG H1 P ∧ R t l H1)
    (hQ : ∀ t l H1 g s5, R t l H1 → ReadyN X pins σ H1 P (passing (pzL pb l) l.length 0) (fun i y => ∃ z u, l[i]? = some z ∧ y = .int z u) g s5 → Q' (.ref g) s5) :
    wpAny (model X.prog X.w) X.A (eval (.GeneratorExp (.Name x p1) [⟨.Name x px, e, [ct], 0⟩] scope gpos) X.env) Q' X.xe s := by
  refine wpAny_GeneratorExp_walksQ hr.hd S.co (closure_ok S.free) S.cell S.dot S.loc S.kind (by have := hr.dp; omega) ?_ hs
  refine thn (he.run pins s σ H _ I h) fun us s1 hv => ?_
  obtain ⟨vs, H1, I1, r1, t, l, rfl, hq, ⟨ps, hP, ht⟩, q1⟩ := hv
  obtain rfl : us = Value.ref t := r1
  · skip
    obtain ⟨its, rv, p', hz⟩ := I1.tuple hq
    have pT : s1.heap.IsTuple t its.toArray := p'
    have hlt : t < s1.heap.objs.size := by obtain ⟨_, ho, _⟩ := p'; exact Heap.lt_size ho
    refine wpAny_pyIter_tuple pT ?_
    have hk2 : ∀ b o, s1.heap.get? b = some o → (s1.heap.push { cls := .type "tuple_iterator", data := .fields #[.ref t, .int 0 0] }).get? b = some o := fun b o z => Heap.get?_push_of_some _ z
    have hit : (s1.heap.push { cls := .type "tuple_iterator", data := .fields #[.ref t, .int 0 0] }).IsTupleIter s1.heap.objs.size t 0 := ⟨_, Heap.get?_push_size _ rfl, rfl, rfl⟩
    have hsz2 : (s1.heap.push { cls := .type "tuple_iterator", data := .fields #[.ref t, .int 0 0] }).objs.size = s1.heap.objs.size + 1 := Heap.size_push ..
    generalize s1.heap.push { cls := .type "tuple_iterator", data := .fields #[.ref t, .int 0 0] } = h2 at hk2 hit hsz2 ⊢
    have hPs : s1.heap.get? P = some { cls := .none, data := .fields ps } := I1.hok P _ hP
    have hPlt : P < s1.heap.objs.size := Heap.lt_size hPs
    have hP2 : h2.get? P = some { cls := .none, data := .fields ps } := hk2 _ _ hPs
    have cd : PySem.W.CodeHd h2 c P := TB.code.keeps fun b u e => hk2 _ _ (I1.bk b u e)
    have lim2 : h2.NoLimit := I1.nolimit.keeps hk2
    have hll := rv.length
    rw [List.length_map] at hll
    have tP : t ≠ P := fun z => by
      obtain ⟨o, ho, _, n, hd⟩ := pT
      rw [z, hPs] at ho
      cases ho
      cases hd
    have hzn : its.toArray.size = l.length := by rw [List.size_toArray]; omega
    have WT : ∀ A' : Around, A'.handled = none → Walks X.prog X.w A' s1.heap.objs.size _ _ _ _ _ := fun A' hA => Walks.tuple (prog := X.prog) (w := X.w) (A := A') hA s1.heap.objs.size t (Nat.ne_of_lt hlt) its.toArray
    have cont : ∀ (code : Value) (h3 : Heap) (tk : Nat) (ps' : Array Value), Heap.ExtBut P h2 h3 → h2.objs.size ≤ h3.objs.size → h3.get? P = some { cls := .none, data := .fields ps' } → (∃ more, ps' = ps ++ more) → TriplesOk ps'.toList →
        wpAny (model X.prog X.w) X.A (builtinsFor X.env.globals X.env.builtins) (fun bi s₄ =>
          ∃ Ia fp wr n₀ Pf St₀ pz F, Value.ref s1.heap.objs.size = .ref Ia ∧ (∀ A' : Around, A'.handled = none → Walks X.prog X.w A' Ia fp wr n₀ Pf St₀) ∧ St₀ 0 s₄.heap ∧ (∀ b ∈ fp, b < s₄.heap.objs.size) ∧ s₄.heap.NoLimit ∧ cStatics ∉ wr ∧
            (∀ href : Heap, (∀ b o, s₄.heap.get? b = some o → href.get? b = some o) →
              QuietGen X.prog X.w (genEnv scope (cloFrom X.env.cells scope.names []) s₄.heap.objs.size code bi X.env) x [ct] (.Name x p1) (List.range s₄.heap.objs.size) wr Pf pz F href) ∧
            (∀ a h₅ tk gs, gs.bare = true → s₄.heap.objs.size < a → h₅.objs.size = a + 1 → (∀ b o, s₄.heap.get? b = some o → h₅.get? b = some o) →
              WalksS X.prog X.w X.A.in4 a (a :: s₄.heap.objs.size :: List.range s₄.heap.objs.size) (s₄.heap.objs.size :: wr) (GenOnlyQ s₄.gens.size) (passing pz n₀ 0).length
                (fun j y => ∃ i, (passing pz n₀ 0)[j]? = some i ∧ F i y) (GenAt X.prog X.w X.A.in4 a s₄.gens.size s₄.heap.objs.size (List.range s₄.heap.objs.size) wr pz n₀ F) →
              GenAt X.prog X.w X.A.in4 a s₄.gens.size s₄.heap.objs.size (List.range s₄.heap.objs.size) wr pz n₀ F 0 { s₄ with gens := s₄.gens.push gs, toks := tk, heap := h₅ } →
              Q' (.ref a) { s₄ with gens := s₄.gens.push gs, toks := tk, heap := h₅ })) X.xe { s1 with heap := h3, toks := tk } := by
      intro code h3 tk ps' hx hsz hP3 hmore ht3
      obtain ⟨bm, ob, e1, e2, e3, e4, e5, e6, e7, e8⟩ := TB.bm
      have hcP : cStatics ≠ P := fun e => by
        obtain ⟨_, hns, _⟩ := I1.nolimit
        obtain ⟨o', es, ep, ho, hd, _⟩ := hns
        rw [e, hPs] at ho
        cases ho
        cases hd
      have hcl : cStatics < s1.heap.objs.size := let ⟨_, hns, _⟩ := I1.nolimit; hns.lt
      have keep3 : ∀ b u, b ≠ P → s1.heap.get? b = some u → h3.get? b = some u := fun b u hb e => hx b u hb (hk2 _ _ e)
      have iP : s1.heap.objs.size ≠ P := fun z => Nat.lt_irrefl _ (z ▸ hPlt)
      have off : ∀ b, b < s1.heap.objs.size → b ∉ [s1.heap.objs.size] := fun b hb hm => by
        have hm' : b = s1.heap.objs.size := by simpa using hm
        exact Nat.ne_of_lt hb hm'
      refine wpAny_builtinsFor (m := X.mg) (by rw [I1.ok.glob]; exact (((I1.mod.glob.keeps I1.bk).keeps hk2).extBut hx TB.gP)) e1 e2 (keep3 _ _ e4 (I1.bk _ _ e5)) e6 e7 e8 ?_
      refine ⟨s1.heap.objs.size, _, _, _, _, _, pzL pb l, (fun i y => ∃ z u, l[i]? = some z ∧ y = .int z u), rfl, WT, ⟨hit.at fun o q => hx _ o iP q, pT.at fun o q => keep3 _ o tP q⟩, ?_, lim2.extBut hx hcP, off _ hcl, ?_, ?_⟩
      · intro b hb
        have hb' : b = s1.heap.objs.size ∨ b = t := by simpa using hb
        show b < h3.objs.size
        rcases hb' with z | z
        · rw [z]
          show s1.heap.objs.size < h3.objs.size
          omega
        · rw [z]
          exact Nat.lt_of_lt_of_le hlt (show s1.heap.objs.size ≤ h3.objs.size by omega)
      · intro href hhref
        refine ⟨fun A' E' i v s₂ m₂ hA hPv hn hm hk => ?_, fun A' E' i v s₂ m₂ hA hPv hp hn hm hk => ?_⟩
        · have hxi' : its[i]? = some v := by simpa using hPv
          obtain ⟨z, t2, hz1, rfl⟩ := int_item rv hxi'
          refine one_if (wpAny_mono (htest _ A' E' z t2 s₂ m₂ rfl hn hm) (fun ok s3 q => ⟨?_, q.2⟩) fun _ _ e => e)
          rw [pzL_some hz1]
          exact q.1
        · have hxi' : its[i]? = some v := by simpa using hPv
          obtain ⟨z, t2, hz1, rfl⟩ := int_item rv hxi'
          exact wpAny_mono (elt_name (scope := scope) rfl S.kind S.loc hn hm hda) (fun y s3 q => ⟨⟨z, t2, hz1, q.1⟩, q.2⟩) fun _ _ e => e
      · intro g h5 tk5 gs hgb hag hsz5 hk5 W5 hat
        rw [hzn] at W5
        refine hQ t l H1 g _ q1 ⟨_, _, _, _, W5.in4_1, ?_, hat.1.typeIs, fun s' hm => ?_⟩
        · rw [hzn] at hat
          exact hat
        · obtain ⟨more, em⟩ := hmore
          have nwr : ∀ b u, s1.heap.get? b = some u → b ∉ h3.objs.size :: [s1.heap.objs.size] := fun b u e hb => by
            have hl := Heap.lt_size e
            rcases List.mem_cons.mp hb with z | z
            · rw [z] at hl
              have h9 : (h3.objs.size : Nat) < s1.heap.objs.size := hl
              omega
            · exact off b hl z
          have J := inv_tab (more := more) (h' := s'.heap) (g' := s'.gens) (d' := s'.drawn) (t' := s'.toks) I1 hP (fun b u hb e => hm.heap b u (nwr b u e) (hk5 b u (keep3 b u hb e)))
            (by rw [← em]; exact hm.heap P _ (nwr P _ hPs) (hk5 P _ hP3)) (AllBare.movedS (I1.bare.push hgb) hm)
          rw [sh_eta s1 s' hm.os] at J
          refine ⟨upd H1 P (.tbl (ps ++ more)), ⟨⟨ps ++ more, upd_same, by rw [← em]; exact ht3⟩, fun b hb => upd_ne hb⟩, J⟩
    refine ⟨lim2, ?_⟩
    cases hf : codeAmong gpos ps.toList with
    | none =>
      refine wpAny_genexprCodeX hcode (cd.code hP2 ht) (cd.tab hP2) hf fun c' h' tk hx hge hlt hco' _ htab' _ => ?_
      obtain ⟨o1, vs, f1, tf, fl, tg, inF, tx, tt, op, _, _, _, _, _, _, _, _, _, htr, _⟩ := hco'
      exact cont _ h' tk _ hx (Nat.le_trans hge (Nat.le_of_lt hlt)) htab'.2 ⟨_, rfl⟩ htr
    | some cv =>
      refine wpAny_genexprCode_hit hcode (cd.code hP2 ht) hf ?_
      exact cont cv h2 s1.toks ps (Heap.ExtBut.refl _ _) (Nat.le_refl _) hP2 ⟨#[], by simp⟩ ht
/-- the first entry that the test lets pass, or the default -/
def FirstOf (pb : Int → Bool) (l : List Int) (d r : Int) : Prop :=
  ((∀ (j : Nat) (z : Int), l[j]? = some z → pb z = false) ∧ r = d) ∨ ∃ i : Nat, l[i]? = some r ∧ pb r = true ∧ ∀ (j : Nat) (y : Int), j < i → l[j]? = some y → pb y = false
end
end GenNx

set_option Elab.async false
set_option linter.all false
set_option maxRecDepth 100000
set_option maxHeartbeats 2000000
/-! next(x for x in xs if .., default), xs a list of ints -/
namespace GenNl
open PySem PySem.Spec PyProof.Rows L2 GxR EnumT GenNx
section
variable {X : Cx} {pins : List (Addr × Obj)} {σ : L2.St} {H : Hp} {s : Shared}
theorem gen_name {c P : Addr} {e ct : Expr} {x : Str} {px gpos : Pos} {scope : Scope} {pb : Int → Bool} {te : TE} {k : Nat} {p1 : Pos} {Q' : Value → Shared → Prop} {R : Addr → List Int → Hp → Prop}
    (hr : Room k X.A) (TB : TabB X.base X.mg c P) (hcode : X.env.code = .ref c) (S : GenS X.env scope x) (he : PE X e te)
    (htest : TestI X.prog X.w scope x ct pb) (hda : (x == ("__debug__" : Str)) = false)
    (hs : ∀ v, genFold e X.env v = pure v) (I : Inv X pins σ H s) (h : te σ H fun v H1 => ∃ (t : Addr) (l : List Int), v = .ref t ∧ SqL X.K H1 t (l.map V.int) ∧ TabG H1 P ∧ R t l H1)
    (hQ : ∀ t l H1 g s5, R t l H1 → ReadyN X pins σ H1 P (passing (pzL pb l) l.length 0) (fun i y => ∃ z u, l[i]? = some z ∧ y = .int z u) g s5 → Q' (.ref g) s5) :
    wpAny (model X.prog X.w) X.A (eval (.GeneratorExp (.Name x p1) [⟨.Name x px, e, [ct], 0⟩] scope gpos) X.env) Q' X.xe s := by
  refine wpAny_GeneratorExp_walksQ hr.hd S.co (closure_ok S.free) S.cell S.dot S.loc S.kind (by have := hr.dp; omega) ?_ hs
  refine thn (he.run pins s σ H _ I h) fun us s1 hv => ?_
  obtain ⟨vs, H1, I1, r1, t, l, rfl, hq, ⟨ps, hP, ht⟩, q1⟩ := hv
  obtain rfl : us = Value.ref t := r1
  · skip
    obtain ⟨its, rv, p0, hz⟩ := I1.list hq
    have p' := p0.isList
    have pT : s1.heap.IsList t its.toArray := p'
    have hlt : t < s1.heap.objs.size := by obtain ⟨_, ho, _⟩ := p'; exact Heap.lt_size ho
    refine wpAny_pyIter_list pT ?_
    have hk2 : ∀ b o, s1.heap.get? b = some o → (s1.heap.push { cls := .type "list_iterator", data := .fields #[.ref t, .int 0 0] }).get? b = some o := fun b o z => Heap.get?_push_of_some _ z
    have hit : (s1.heap.push { cls := .type "list_iterator", data := .fields #[.ref t, .int 0 0] }).IsListIter s1.heap.objs.size t 0 := ⟨_, Heap.get?_push_size _ rfl, rfl, rfl⟩
    have hsz2 : (s1.heap.push { cls := .type "list_iterator", data := .fields #[.ref t, .int 0 0] }).objs.size = s1.heap.objs.size + 1 := Heap.size_push ..
    generalize s1.heap.push { cls := .type "list_iterator", data := .fields #[.ref t, .int 0 0] } = h2 at hk2 hit hsz2 ⊢
    have hPs : s1.heap.get? P = some { cls := .none, data := .fields ps } := I1.hok P _ hP
    have hPlt : P < s1.heap.objs.size := Heap.lt_size hPs
    have hP2 : h2.get? P = some { cls := .none, data := .fields ps } := hk2 _ _ hPs
    have cd : PySem.W.CodeHd h2 c P := TB.code.keeps fun b u e => hk2 _ _ (I1.bk b u e)
    have lim2 : h2.NoLimit := I1.nolimit.keeps hk2
    have hll := rv.length
    rw [List.length_map] at hll
    have tP : t ≠ P := fun z => by
      obtain ⟨o, ho, _, n, hd⟩ := pT
      rw [z, hPs] at ho
      cases ho
      cases hd
    have hzn : its.toArray.size = l.length := by rw [List.size_toArray]; omega
    have WT : ∀ A' : Around, A'.handled = none → Walks X.prog X.w A' s1.heap.objs.size _ _ _ _ _ := fun A' hA => Walks.list (prog := X.prog) (w := X.w) (A := A') hA s1.heap.objs.size t (Nat.ne_of_lt hlt) its.toArray
    have cont : ∀ (code : Value) (h3 : Heap) (tk : Nat) (ps' : Array Value), Heap.ExtBut P h2 h3 → h2.objs.size ≤ h3.objs.size → h3.get? P = some { cls := .none, data := .fields ps' } → (∃ more, ps' = ps ++ more) → TriplesOk ps'.toList →
        wpAny (model X.prog X.w) X.A (builtinsFor X.env.globals X.env.builtins) (fun bi s₄ =>
          ∃ Ia fp wr n₀ Pf St₀ pz F, Value.ref s1.heap.objs.size = .ref Ia ∧ (∀ A' : Around, A'.handled = none → Walks X.prog X.w A' Ia fp wr n₀ Pf St₀) ∧ St₀ 0 s₄.heap ∧ (∀ b ∈ fp, b < s₄.heap.objs.size) ∧ s₄.heap.NoLimit ∧ cStatics ∉ wr ∧
            (∀ href : Heap, (∀ b o, s₄.heap.get? b = some o → href.get? b = some o) →
              QuietGen X.prog X.w (genEnv scope (cloFrom X.env.cells scope.names []) s₄.heap.objs.size code bi X.env) x [ct] (.Name x p1) (List.range s₄.heap.objs.size) wr Pf pz F href) ∧
            (∀ a h₅ tk gs, gs.bare = true → s₄.heap.objs.size < a → h₅.objs.size = a + 1 → (∀ b o, s₄.heap.get? b = some o → h₅.get? b = some o) →
              WalksS X.prog X.w X.A.in4 a (a :: s₄.heap.objs.size :: List.range s₄.heap.objs.size) (s₄.heap.objs.size :: wr) (GenOnlyQ s₄.gens.size) (passing pz n₀ 0).length
                (fun j y => ∃ i, (passing pz n₀ 0)[j]? = some i ∧ F i y) (GenAt X.prog X.w X.A.in4 a s₄.gens.size s₄.heap.objs.size (List.range s₄.heap.objs.size) wr pz n₀ F) →
              GenAt X.prog X.w X.A.in4 a s₄.gens.size s₄.heap.objs.size (List.range s₄.heap.objs.size) wr pz n₀ F 0 { s₄ with gens := s₄.gens.push gs, toks := tk, heap := h₅ } →
              Q' (.ref a) { s₄ with gens := s₄.gens.push gs, toks := tk, heap := h₅ })) X.xe { s1 with heap := h3, toks := tk } := by
      intro code h3 tk ps' hx hsz hP3 hmore ht3
      obtain ⟨bm, ob, e1, e2, e3, e4, e5, e6, e7, e8⟩ := TB.bm
      have hcP : cStatics ≠ P := fun e => by
        obtain ⟨_, hns, _⟩ := I1.nolimit
        obtain ⟨o', es, ep, ho, hd, _⟩ := hns
        rw [e, hPs] at ho
        cases ho
        cases hd
      have hcl : cStatics < s1.heap.objs.size := let ⟨_, hns, _⟩ := I1.nolimit; hns.lt
      have keep3 : ∀ b u, b ≠ P → s1.heap.get? b = some u → h3.get? b = some u := fun b u hb e => hx b u hb (hk2 _ _ e)
      have iP : s1.heap.objs.size ≠ P := fun z => Nat.lt_irrefl _ (z ▸ hPlt)
      have off : ∀ b, b < s1.heap.objs.size → b ∉ [s1.heap.objs.size] := fun b hb hm => by
        have hm' : b = s1.heap.objs.size := by simpa using hm
        exact Nat.ne_of_lt hb hm'
      refine wpAny_builtinsFor (m := X.mg) (by rw [I1.ok.glob]; exact (((I1.mod.glob.keeps I1.bk).keeps hk2).extBut hx TB.gP)) e1 e2 (keep3 _ _ e4 (I1.bk _ _ e5)) e6 e7 e8 ?_
      refine ⟨s1.heap.objs.size, _, _, _, _, _, pzL pb l, (fun i y => ∃ z u, l[i]? = some z ∧ y = .int z u), rfl, WT, ⟨hit.at fun o q => hx _ o iP q, pT.at fun o q => keep3 _ o tP q⟩, ?_, lim2.extBut hx hcP, off _ hcl, ?_, ?_⟩
      · intro b hb
        have hb' : b = s1.heap.objs.size ∨ b = t := by simpa using hb
        show b < h3.objs.size
        rcases hb' with z | z
        · rw [z]
          show s1.heap.objs.size < h3.objs.size
          omega
        · rw [z]
          exact Nat.lt_of_lt_of_le hlt (show s1.heap.objs.size ≤ h3.objs.size by omega)
      · intro href hhref
        refine ⟨fun A' E' i v s₂ m₂ hA hPv hn hm hk => ?_, fun A' E' i v s₂ m₂ hA hPv hp hn hm hk => ?_⟩
        · have hxi' : its[i]? = some v := by simpa using hPv
          obtain ⟨z, t2, hz1, rfl⟩ := int_item rv hxi'
          refine one_if (wpAny_mono (htest _ A' E' z t2 s₂ m₂ rfl hn hm) (fun ok s3 q => ⟨?_, q.2⟩) fun _ _ e => e)
          rw [pzL_some hz1]
          exact q.1
        · have hxi' : its[i]? = some v := by simpa using hPv
          obtain ⟨z, t2, hz1, rfl⟩ := int_item rv hxi'
          exact wpAny_mono (elt_name (scope := scope) rfl S.kind S.loc hn hm hda) (fun y s3 q => ⟨⟨z, t2, hz1, q.1⟩, q.2⟩) fun _ _ e => e
      · intro g h5 tk5 gs hgb hag hsz5 hk5 W5 hat
        rw [hzn] at W5
        refine hQ t l H1 g _ q1 ⟨_, _, _, _, W5.in4_1, ?_, hat.1.typeIs, fun s' hm => ?_⟩
        · rw [hzn] at hat
          exact hat
        · obtain ⟨more, em⟩ := hmore
          have nwr : ∀ b u, s1.heap.get? b = some u → b ∉ h3.objs.size :: [s1.heap.objs.size] := fun b u e hb => by
            have hl := Heap.lt_size e
            rcases List.mem_cons.mp hb with z | z
            · rw [z] at hl
              have h9 : (h3.objs.size : Nat) < s1.heap.objs.size := hl
              omega
            · exact off b hl z
          have J := inv_tab (more := more) (h' := s'.heap) (g' := s'.gens) (d' := s'.drawn) (t' := s'.toks) I1 hP (fun b u hb e => hm.heap b u (nwr b u e) (hk5 b u (keep3 b u hb e)))
            (by rw [← em]; exact hm.heap P _ (nwr P _ hPs) (hk5 P _ hP3)) (AllBare.movedS (I1.bare.push hgb) hm)
          rw [sh_eta s1 s' hm.os] at J
          refine ⟨upd H1 P (.tbl (ps ++ more)), ⟨⟨ps ++ more, upd_same, by rw [← em]; exact ht3⟩, fun b hb => upd_ne hb⟩, J⟩
    refine ⟨lim2, ?_⟩
    cases hf : codeAmong gpos ps.toList with
    | none =>
      refine wpAny_genexprCodeX hcode (cd.code hP2 ht) (cd.tab hP2) hf fun c' h' tk hx hge hlt hco' _ htab' _ => ?_
      obtain ⟨o1, vs, f1, tf, fl, tg, inF, tx, tt, op, _, _, _, _, _, _, _, _, _, htr, _⟩ := hco'
      exact cont _ h' tk _ hx (Nat.le_trans hge (Nat.le_of_lt hlt)) htab'.2 ⟨_, rfl⟩ htr
    | some cv =>
      refine wpAny_genexprCode_hit hcode (cd.code hP2 ht) hf ?_
      exact cont cv h2 s1.toks ps (Heap.ExtBut.refl _ _) (Nat.le_refl _) hP2 ⟨#[], by simp⟩ ht
/-- next((x for x in e if test of x), d) -/
def tNextL (K : PySem.W.Frag) (P : Addr) (pb : Int → Bool) (d : Int) (te : TE) : TE := fun σ H Q => te σ H fun v H1 => ∃ (t : Addr) (l : List Int), v = .ref t ∧ SqL K H1 t (l.map V.int) ∧ TabG H1 P ∧ ∀ r H2, FirstOf pb l d r → Tabbed P H1 H2 → Q (.int r) H2
theorem pe_nextL {c P : Addr} {e ct : Expr} {x : Str} {px gpos p pos dp : Pos} {jd : Nat} {scope : Scope} {pb : Int → Bool} {d : Int} {te : TE} {k : Nat} {p1 : Pos}
    (hr : Room k X.A) (hgn : Gl X "next") (hmn : X.mg "next" = none) (TB : TabB X.base X.mg c P) (hcode : X.env.code = .ref c) (S : GenS X.env scope x) (he0 : PE X e te)
    (htest : TestI X.prog X.w scope x ct pb) (hda : (x == ("__debug__" : Str)) = false := by decide)
    (hs : ∀ v, genFold e X.env v = pure v := by intro _; rfl)
    (he : starEach [.GeneratorExp (.Name x p1) [⟨.Name x px, e, [ct], 0⟩] scope gpos, .Constant (.int d) jd dp] X.env
      = (false, eval (.GeneratorExp (.Name x p1) [⟨.Name x px, e, [ct], 0⟩] scope gpos) X.env) :: starEach [.Constant (.int d) jd dp] X.env := by rfl)
    (he2 : starEach [.Constant (.int d) jd dp] X.env = [(false, eval (.Constant (.int d) jd dp) X.env)] := by rfl) :
    PE X (.Call (.Name "next" p) [.GeneratorExp (.Name x p1) [⟨.Name x px, e, [ct], 0⟩] scope gpos, .Constant (.int d) jd dp] [] pos) (tNextL X.K P pb d te) := by
  refine ⟨fun pins s σ H Q I h => ?_⟩
  refine wpAny_Call_Name_kw (ld_blt I hgn hmn boot_next ?_)
  refine PyProof.Rows.callWith_builtin1 ?_ he (by rw [he2]; rfl)
  rw [he, he2]
  show wpAny _ _ (spliced ((false, eval (.GeneratorExp (.Name x p1) [⟨.Name x px, e, [ct], 0⟩] scope gpos) X.env) :: (false, eval (.Constant (.int d) jd dp) X.env) :: [])) _ _ s
  refine Calls.spliced_cons (gen_name (R := fun t l H1 => ∀ r H2, FirstOf pb l d r → Tabbed P H1 H2 → Q (.int r) H2) hr TB hcode S he0 htest hda hs I h fun t l H1 g s5 hR hG => ?_)
  refine Calls.spliced_cons (wpAny_Constant_int (Calls.spliced_nil ?_))
  obtain ⟨fp, wr, G, St, W, hst5, hT, hI⟩ := hG
  have back : ∀ {s'}, Moved wr G { s5 with toks := s5.toks + 1 } s' → Moved wr G s5 s' := fun m => ⟨m.heap, m.gens, m.drawn, m.os, Nat.le_trans (Nat.le_succ _) m.toks⟩
  refine call_next_walkS W hT (W.frame 0 s5 s5.heap (s5.toks + 1) hst5 (Nat.le_succ _) fun _ _ _ z => z) (fun v s' hn hv hmv => ?_) (fun s' hn hmv => ?_)
  · obtain ⟨H2, hTb, J⟩ := hI s' (back hmv)
    obtain ⟨i, hi, y, u, hy, rfl⟩ := hv
    obtain ⟨z, hz1, hz2, hz3⟩ := passing_first hi
    rw [hy] at hz1
    cases hz1
    exact ⟨.int y, H2, J, ⟨u, rfl⟩, hR y H2 (.inr ⟨i, hy, hz2, hz3⟩) hTb⟩
  · obtain ⟨H2, hTb, J⟩ := hI s' (back hmv)
    exact ⟨.int d, H2, J, ⟨_, rfl⟩, hR d H2 (.inl ⟨passing_nil hn, rfl⟩) hTb⟩
end
end GenNl

set_option Elab.async false
set_option linter.all false
set_option maxRecDepth 100000
set_option maxHeartbeats 2000000
/-! HookG's Hook over a lesser fragment: what the globals name, what is named by that, and so on; a function names its code and its defaults only -/
namespace HookG
open PySem PySem.Spec PyProof.Rows L2 He
def refsW (o : Obj) : List Addr := match o.data with
  | .func fd => refV fd.code ++ refV fd.defaults ++ refV fd.kwdefaults
  | _ => refsD o
def nxtW (g : Addr → Option Obj) (as : List Addr) : List Addr := as.flatMap fun a => match g a with
  | some o => refsW o
  | none => []
def levW (g : Addr → Option Obj) : Nat → List Addr → List Addr
  | 0, as => as
  | n + 1, as => as ++ levW g n (nxtW g as)
def asW (g : Addr → Option Obj) (n : Nat) : List Addr := levW g n [mainGlobals] ++ [cStatics]
end HookG

set_option Elab.async false
set_option linter.all false
set_option maxRecDepth 100000
set_option maxHeartbeats 2000000
/-! HookW's Hook with defs that hold generator expressions: their code objects, the tables of these, empty at the start and left out of the fragment -/
namespace HookT
open PySem PySem.Spec PyProof.Rows L2 He HookG
/-- the code object of the function at a -/
def codA (K : PySem.W.Frag) (a : Addr) : Addr := match K.lookup a with
  | some ⟨_, _, .func fd, _⟩ => (match fd.code with
    | .ref c => c
    | _ => 0)
  | _ => 0
theorem code_of {K : PySem.W.Frag} {x qual : Str} {params : Arguments} {body : List Stmt} {scope : Scope} {dvs : List V} {kws : List (Str × V)} {f : Addr} {fd : FuncData} (F : FunD K x qual params body scope dvs kws f fd) : fd.code = .ref (codA K f) := by
  obtain ⟨oc, od, dV, kV, doc, pm, an, cdv, ct, osl, rfl, lk, hcd, _, _⟩ := F.ex
  obtain ⟨c, rfl⟩ := codeIn_ref hcd
  unfold codA
  rw [lk] <;> rfl
/-- FunD.ok with the code object known -/
theorem okC {P : Program} {w : World} {K : PySem.W.Frag} {mg : Str → Option Value} {base : Heap} {x qual : Str} {params : Arguments} {body : List Stmt} {scope : Scope} {dvs : List V} {kws : List (Str × V)} {f : Addr} {fd : FuncData} {CX : CXT} {N ps : List Str} {k : Nat} {sp : Sp}
    (F : FunD K x qual params body scope dvs kws f fd) (S : FnScope N ps scope) (len : ∀ vs H Q E, sp vs H Q E → vs.length = ps.length)
    (hbody : ∀ (A : Around) (outer : List Env) (s : Shared) (H : Hp) (vs : List V) (Q : VK) (E : XK), Room k (A.deeper (envOfC qual scope s.heap.objs.size f fd.code)) → sp vs H Q E →
      ∃ t, PSs (cxOf CX P w K mg base N qual scope f fd.code A outer s H E) body t ∧ t { nx := fun _ H' => Q .non H', rt := Q } (start N vs) H) : FnOk P w K mg base CX (k + 1) f fd ps sp := by
  obtain ⟨oc, od, dV, kV, doc, pm, an, cdv, ct, osl, rfl, lk, hcd, _, _⟩ := F.ex
  exact fn_of lk hcd S len fun A outer s H vs Q E hr hsp => hbody A outer s H vs Q E hr hsp
def cTA (K : PySem.W.Frag) (p : At) : Addr × Addr := (codA K (p.adr K), tabOf K (codA K (p.adr K)))
structure SaysGT (fa : List Fa) (fn : List GD) (tf : List At) (ex : PySem.W.Frag → Bool) (h : Heap) (K : PySem.W.Frag) : Prop where
  g : SaysG fa fn ex K
  hd : ∀ p ∈ tf, PySem.W.codeHdIn K (cTA K p).1 (cTA K p).2 = true
  out : ∀ p ∈ tf, K.lookup (cTA K p).2 = none
  empty : ∀ p ∈ tf, h.get? (cTA K p).2 = some { cls := .none, data := .fields #[] }
def tabsB (g : Addr → Option Obj) (tf : List At) (K : PySem.W.Frag) : Bool := tf.all fun p => PySem.W.codeHdIn K (cTA K p).1 (cTA K p).2 && (match g (cTA K p).2 with
  | some o => emptyTab o
  | none => false)
abbrev AlGT : Type := AlG × Bool
def obsGT (n : Nat) (fa : List Fa) (fn : List GD) (tf : List At) (ex : PySem.W.Frag → Bool) (g : Addr → Option Obj) : AlGT := (obsG fa fn ex (frT g (asW g n)), tabsB g tf (frT g (asW g n)))
theorem saysGT_of {n : Nat} {fa : List Fa} {fn : List GD} {tf : List At} {ex : PySem.W.Frag → Bool} {h : Heap} (e : obsGT n fa fn tf ex h.get? = (valG fn, true)) : SaysGT fa fn tf ex h (frT h.get? (asW h.get? n)) := by
  have e1 : obsG fa fn ex (frT h.get? (asW h.get? n)) = valG fn := congrArg (fun z : AlGT => z.1) e
  have e2 : tabsB h.get? tf (frT h.get? (asW h.get? n)) = true := congrArg (fun z : AlGT => z.2) e
  have key : ∀ p ∈ tf, PySem.W.codeHdIn (frT h.get? (asW h.get? n)) (cTA (frT h.get? (asW h.get? n)) p).1 (cTA (frT h.get? (asW h.get? n)) p).2 = true ∧ ∃ o, h.get? (cTA (frT h.get? (asW h.get? n)) p).2 = some o ∧ emptyTab o = true := fun p hp => by
    obtain ⟨h3, h4⟩ := ba (List.all_eq_true.mp e2 p hp)
    refine ⟨h3, ?_⟩
    cases q : h.get? (cTA (frT h.get? (asW h.get? n)) p).2 with
    | none =>
      rw [q] at h4
      cases h4
    | some o =>
      rw [q] at h4
      exact ⟨o, rfl, h4⟩
  exact ⟨e1, fun p hp => (key p hp).1, fun p hp => by
    obtain ⟨_, o, q, z⟩ := key p hp
    exact frT_none q z, fun p hp => by
    obtain ⟨_, o, q, z⟩ := key p hp
    rw [q, emptyTab_eq z]⟩
def hookT (n : Nat) (fa : List Fa) (fn : List GD) (tf : List At) (ex : PySem.W.Frag → Bool) : PySem.W.Hook where
  α := AlGT
  obs := fun s => obsGT n fa fn tf ex s.heap.get?
  val := fun _ => (valG fn, true)
  says := fun _ h => ∃ K : PySem.W.Frag, K.In h ∧ SaysGT fa fn tf ex h K
  of := fun _ _ e => ⟨_, frT_in, saysGT_of e⟩
  keeps := fun _ _ _ ⟨K, hK, c⟩ k => ⟨K, PySem.W.Frag.In.keeps hK k, ⟨c.g, c.hd, c.out, fun p hp => k _ _ (c.empty p hp)⟩⟩
theorem obsGT_eq {n : Nat} {fa : List Fa} {fn : List GD} {tf : List At} {ex : PySem.W.Frag → Bool} {g : Addr → Option Obj} {s : Shared} (h : ∀ a, g a = s.heap.get? a) : obsGT n fa fn tf ex g = (hookT n fa fn tf ex).obs s := by
  have e : g = s.heap.get? := funext h
  rw [e] <;> rfl
/-- a table at the start -/
theorem tabG0 {H : Hp} {P : Addr} (h : H P = some (.tbl #[])) : GxR.TabG H P := ⟨#[], h, True.intro⟩
end HookT

set_option Elab.async false
set_option linter.all false
set_option maxRecDepth 100000
set_option maxHeartbeats 2000000
/-! any of a list of ints -/
namespace OwnF
open PySem PySem.Spec PyProof.Rows L2 SlX OwnR
section
variable {X : Cx}
end
end OwnF

set_option Elab.async false
set_option linter.all false
set_option maxRecDepth 100000
set_option maxHeartbeats 2000000
/-! a comprehension over enumerate(t), t a tuple -/
namespace EnumT
open PySem PySem.Spec PyProof.Rows L2
theorem lc_enumT {K : PySem.W.Frag} {a : Addr} {xs : List V} {g : TG} {tt : TT} {te : TE} {vs : List Nat} {σ : L2.St} {H1 : Hp} {D : Addr} {Qd : Hp → Prop} (Pv : Nat → Hp → Prop) (h0 : Pv 0 (upd H1 D (.lst []))) (hq : ∀ i H, i ≤ xs.length → Pv i H → SqT K H a xs)
    (hs : ∀ (i : Nat) (x : V) (T : Addr) (H : Hp), xs[i]? = some x → Pv i H → H T = none → g (.ref T) (wipe σ vs) (upd H T (.tup [.int (i : Nat), x])) fun σ2 H2 => wipe σ2 vs = wipe σ vs ∧ tt σ2 H2 fun b H3 =>
      if b = true then te σ2 H3 fun y H4 => ∃ acc, H4 D = some (.lst acc) ∧ acc.length < sizeLine ∧ Pv (i + 1) (upd H4 D (.lst (acc ++ [y]))) else Pv (i + 1) H3) (hd : ∀ H, Pv xs.length H → Qd H) :
    ∃ W : Nat → Nat → Hp → Prop, (∃ m, W 0 m (upd H1 D (.lst []))) ∧ ∀ i m H, W i m H →
      ((IteT K a).stop i H ∧ Qd H) ∨ ((IteT K a).go i H ∧ ∃ Nx : Hp → Prop, (∀ H', Nx H' → ∃ m', m' < m ∧ W (i + 1) m' H') ∧ ∀ x H', (IteT K a).yld i H x H' → g x (wipe σ vs) H' fun σ2 H2 => wipe σ2 vs = wipe σ vs ∧ tt σ2 H2 fun b H3 =>
        if b = true then te σ2 H3 fun y H4 => ∃ acc, H4 D = some (.lst acc) ∧ acc.length < sizeLine ∧ Nx (upd H4 D (.lst (acc ++ [y]))) else Nx H3) := by
  refine ⟨fun i m H => m = xs.length - i ∧ i ≤ xs.length ∧ Pv i H, ⟨xs.length, by simp, Nat.zero_le _, h0⟩, ?_⟩
  rintro i m H ⟨rfl, hi, p⟩
  have qx := hq i H hi p
  by_cases hlt : i < xs.length
  · have hx : xs[i]? = some xs[i] := List.getElem?_eq_getElem hlt
    refine .inr ⟨⟨xs, _, qx, hx⟩, Pv (i + 1), fun H' p' => ⟨xs.length - (i + 1), by omega, rfl, hlt, p'⟩, fun v H' y => ?_⟩
    obtain ⟨T, x', rfl, hT, rfl, f1⟩ := y
    exact hs i x' T H (f1 xs qx) p hT
  · have e : i = xs.length := by omega
    subst e
    exact .inl ⟨⟨xs, qx, rfl⟩, hd H p⟩
end EnumT

set_option Elab.async false
set_option linter.all false
set_option maxRecDepth 100000
set_option maxHeartbeats 2000000
/-! tuple(x) of an instance with own __iter__ (an iterator over a tuple) and own __len__ -/
namespace OwnR
open PySem PySem.Spec PyProof.Rows L2 SlX
section
variable {X : Cx} {CX : CXT} {pins : List (Addr × Obj)} {σ : L2.St} {H : Hp} {s : Shared} {C g gl t it q : Addr} {n i : Nat} {sp spl : Sp} {E : XK}
end
section
variable {X : Cx} {C g gl : Addr} {n : Nat} {sp spl : Sp} {fd fdl : FuncData} {ps psl : List Str}
end
end OwnR

set_option Elab.async false
set_option linter.all false
set_option maxRecDepth 100000
set_option maxHeartbeats 4000000
/-! tuple * int, the int 1, too: the same tuple -/
namespace RepT
open PySem PySem.Spec PyProof.Rows L2
end RepT

set_option Elab.async false
set_option linter.all false
set_option maxRecDepth 100000
set_option maxHeartbeats 4000000
/-! tuple * int, the int 0, too: an empty tuple -/
namespace RepZ
open PySem PySem.Spec PyProof.Rows L2 RepT
end RepZ

set_option Elab.async false
set_option linter.all false
set_option maxRecDepth 100000
set_option maxHeartbeats 2000000
/-! zip of a list and a tuple -/
namespace ZipX
open PySem PySem.Spec PyProof.Rows L2 RZ
/-- the list at a, the tuple at b as they stand at each turn, the items in new pairs -/
def ItzX (K : PySem.W.Frag) (a b : Addr) : It :=
  ⟨fun i H => ∃ (xs ys : List V) (x y : V), SqL K H a xs ∧ SqT K H b ys ∧ xs[i]? = some x ∧ ys[i]? = some y,
    fun i H v H' => ∃ T x y, v = .ref T ∧ H T = none ∧ H' = upd H T (.tup [x, y]) ∧ (∀ xs, SqL K H a xs → xs[i]? = some x) ∧ ∀ ys, SqT K H b ys → ys[i]? = some y,
    fun i H => ∃ xs ys : List V, SqL K H a xs ∧ SqT K H b ys ∧ xs.length = ys.length ∧ xs.length = i⟩
def StX (a b z TI TO i1 i2 : Addr) (i : Nat) (h : Heap) : Prop := IsZip h z TI TO .none ∧ IsPair h TI (.ref i1) (.ref i2) ∧ (∃ x y, IsPair h TO x y) ∧ h.IsListIter i1 a i ∧ h.IsTupleIter i2 b i
theorem turn_zipX {P : Program} {w : World} {K : PySem.W.Frag} {elts : List Expr} {kk : Nat} {tpos : Pos} {a b z TI TO i1 i2 : Addr} (D : ZipApart z TI TO i1 i2 a b) :
    Turn P w K (.Tuple elts kk tpos) (ItzX K a b) [z, TI, TO, i1, i2] z (StX a b z TI TO i1 i2) where
  mem := by simp
  obj := fun i h st c hc => by
    obtain ⟨hz, hTI, ⟨x, y, hTO⟩, ⟨o1, e1, _, d1⟩, ⟨o2, e2, _, d2⟩⟩ := st
    have e' : c = z ∨ c = TI ∨ c = TO ∨ c = i1 ∨ c = i2 := by simpa using hc
    rcases e' with q | q | q | q | q
    · rw [q]
      exact ⟨_, hz, fun v q => nomatch q⟩
    · rw [q]
      exact ⟨_, hTI, fun v q => nomatch q⟩
    · rw [q]
      exact ⟨_, hTO, fun v q => nomatch q⟩
    · rw [q]
      exact ⟨o1, e1, fun v q => by rw [d1] at q; cases q⟩
    · rw [q]
      exact ⟨o2, e2, fun v q => by rw [d2] at q; cases q⟩
  keep := fun i h h' st k => by
    obtain ⟨hz, hTI, ⟨x, y, hTO⟩, h1, h2⟩ := st
    exact ⟨k z (by simp) _ hz, k TI (by simp) _ hTI, ⟨x, y, k TO (by simp) _ hTO⟩, h1.at fun o q => k i1 (by simp) o q, h2.at fun o q => k i2 (by simp) o q⟩
  item := by
    intro X hP hw hK hc i pins s σ H E I hf st hg
    subst hP hw hK
    obtain ⟨hz, hTI, ⟨x0, y0, hTO⟩, h1, h2⟩ := st
    obtain ⟨xs, ys, x, y, hqx, hqy, hx, hy⟩ := hg
    obtain ⟨its, rv, p, _⟩ := I.list hqx
    obtain ⟨its2, rv2, p2, _⟩ := I.tuple hqy
    obtain ⟨u, hu, ru⟩ := rv.get hx
    obtain ⟨u2, hu2, ru2⟩ := rv2.get hy
    have hzl : z < s.heap.objs.size := Heap.lt_size hz
    have S : ZipSep2 z TI TO i1 i2 [i1, a] [i2, b] := ⟨D.TIz, D.TOz, D.TITO, D.TIi1, by simp, by simp [Ne.symm D.i1z, Ne.symm D.l1z], by simp [D.TOi1, Ne.symm D.l1TO], D.TIi2, by simp, by simp [Ne.symm D.i2z, Ne.symm D.l2z], by simp [D.TOi2, Ne.symm D.l2TO], by simp [D.i12, Ne.symm D.l2i1], by simp [Ne.symm D.i12, Ne.symm D.l1i2]⟩
    have l1 := (List.getElem?_eq_some_iff.mp hu).1
    have l2 := (List.getElem?_eq_some_iff.mp hu2).1
    refine wpAny_pyNext_zipD2_item S (Draws.list (A := X.A.in1) (I.ok.hd hc) i1 a D.l1i1 its.toArray) (Draws.tuple (A := X.A.in1) (I.ok.hd hc) i2 b D.l2i2 its2.toArray) hz hTI hTO ⟨h1, p.isList⟩ ⟨h2, p2⟩ (by simpa using l1) (by simpa using l2) fun x1 x2 h' tk e1 e2 z' TO' st1 st2 hT hsz hk => ?_
    obtain rfl : u = x1 := by
      have e1 : its[i]? = some x1 := by simpa using e1
      exact Option.some.inj (hu.symm.trans e1)
    obtain rfl : u2 = x2 := by
      have e2 : its2[i]? = some x2 := by simpa using e2
      exact Option.some.inj (hu2.symm.trans e2)
    refine ⟨_, rfl, wpAny_letOwnedTupleGo_zip (s := { s with heap := h', toks := tk }) z' fun h3 z3 sb => ?_⟩
    have hT2 : IsPair h3 s.heap.objs.size u u2 := (sb.2 _ (Nat.ne_of_gt hzl)).trans hT
    have new : ObjOk X.prog X.w (upd H s.heap.objs.size (.tup [x, y])) h3 s.heap.objs.size (.tup [x, y]) := ⟨(show 2 ≤ sizeLine by decide), [u, u2], .cons ru (.cons ru2 .nil), ⟨_, hT2, rfl, _, rfl⟩⟩
    have I1 : Inv X pins σ (upd H s.heap.objs.size (.tup [x, y])) { s with heap := h3, toks := tk } :=
      I.turnedNew (t' := tk) (ch := [z, TI, TO, i1, i2]) (fun c o hb q => by
        simp only [List.mem_cons, List.not_mem_nil, or_false, not_or] at hb
        exact (sb.2 c hb.1).trans (hk c o hb.1 hb.2.2.1 hb.2.2.2.1 hb.2.2.2.2 q)) hf (Nat.le_refl _) new
    refine ⟨.ref s.heap.objs.size, _, I1, rfl, ⟨_, x, y, rfl, I.hok.fresh (Nat.le_refl _), rfl, fun l hl => by rw [I.list_inj hl hqx]; exact hx, fun l hl => by rw [I.tuple_inj hl hqy]; exact hy⟩, ⟨z3, ?_, ⟨u, u2, ?_⟩, ?_, ?_⟩, fun c hcm => ?_⟩
    · exact (sb.2 _ D.TIz).trans (hk _ _ D.TIz D.TITO D.TIi1 D.TIi2 hTI)
    · exact (sb.2 _ D.TOz).trans TO'
    · exact st1.1.at fun o q => (sb.2 _ D.i1z).trans q
    · exact st2.1.at fun o q => (sb.2 _ D.i2z).trans q
    · have hlt : c < s.heap.objs.size := by
        have e' : c = z ∨ c = TI ∨ c = TO ∨ c = i1 ∨ c = i2 := by simpa using hcm
        rcases e' with q | q | q | q | q
        · rw [q]
          exact hzl
        · rw [q]
          exact Heap.lt_size hTI
        · rw [q]
          exact Heap.lt_size hTO
        · rw [q]
          obtain ⟨_, e1, _⟩ := h1
          exact Heap.lt_size e1
        · rw [q]
          obtain ⟨_, e2, _⟩ := h2
          exact Heap.lt_size e2
      rw [upd_ne (Nat.ne_of_lt hlt)]
      exact (hf c hcm).1
  done := by
    intro X hP hw hK hc i pins s σ H E I hf st hg
    subst hP hw hK
    obtain ⟨hz, hTI, ⟨x0, y0, hTO⟩, h1, h2⟩ := st
    obtain ⟨xs, ys, hqx, hqy, hl, hi⟩ := hg
    obtain ⟨its, rv, p, _⟩ := I.list hqx
    obtain ⟨its2, rv2, p2, _⟩ := I.tuple hqy
    have l1 := rv.length
    have l2 := rv2.length
    have S : ZipSep2 z TI TO i1 i2 [i1, a] [i2, b] := ⟨D.TIz, D.TOz, D.TITO, D.TIi1, by simp, by simp [Ne.symm D.i1z, Ne.symm D.l1z], by simp [D.TOi1, Ne.symm D.l1TO], D.TIi2, by simp, by simp [Ne.symm D.i2z, Ne.symm D.l2z], by simp [D.TOi2, Ne.symm D.l2TO], by simp [D.i12, Ne.symm D.l2i1], by simp [Ne.symm D.i12, Ne.symm D.l1i2]⟩
    refine wpAny_pyNext_zipD2_end S (Draws.list (A := X.A.in1) (I.ok.hd hc) i1 a D.l1i1 its.toArray) (Draws.tuple (A := X.A.in1) (I.ok.hd hc) i2 b D.l2i2 its2.toArray) hz hTI hTO ⟨h1, p.isList⟩ ⟨h2, p2⟩ (by simp; omega) (by simp; omega) (.inl (by simp; omega)) fun h' tk hk => ⟨rfl, I.turnedL (t' := tk) (ch := [z, TI, TO, i1, i2]) (fun c o hb q => ?_) hf⟩
    simp only [List.mem_cons, List.not_mem_nil, or_false, not_or] at hb
    exact hk c o hb.1 hb.2.2.1 hb.2.2.2.1 hb.2.2.2.2 q
  self := fun A i s Q E st h => wpAny_pyIter_zip st.1 h
abbrev xH1 (h : Heap) (l1 : Addr) : Heap := h.push { cls := .type "list_iterator", data := .fields #[.ref l1, .int 0 0] }
abbrev xH2 (h : Heap) (l1 l2 : Addr) : Heap := (xH1 h l1).push { cls := .type "tuple_iterator", data := .fields #[.ref l2, .int 0 0] }
abbrev xH3 (h : Heap) (l1 l2 : Addr) : Heap := (xH2 h l1 l2).push { cls := .type "tuple", data := .seq #[.ref h.objs.size, .ref (xH1 h l1).objs.size] }
abbrev xH4 (h : Heap) (l1 l2 : Addr) : Heap := (xH3 h l1 l2).push { cls := .type "tuple", data := .seq #[.none, .none] }
abbrev xH5 (h : Heap) (l1 l2 : Addr) : Heap := (xH4 h l1 l2).push { cls := .type "zip", data := .fields #[.none, .bool false, .bool false, .ref (xH2 h l1 l2).objs.size, .ref (xH3 h l1 l2).objs.size] }
theorem meets_zipX_new (l1 l2 : Addr) (xs ys : Array Value) :
    Meets (Builtin.«zip.__new__» ⟨[.type "zip", .ref l1, .ref l2], []⟩) (fun _ R s => s.heap.IsList l1 xs ∧ s.heap.IsTuple l2 ys ∧ R (.ok (.ret (.ref (xH4 s.heap l1 l2).objs.size))) { s with heap := xH5 s.heap l1 l2 }) :=
  .of_wp fun prog w A R s h => by
    obtain ⟨hp, g, d, tk, os⟩ := s
    obtain ⟨hl1, hl2, h⟩ := h
    have hsub := sub_zip
    have hL1 : Heap.IsList (Shared.heap ⟨hp, g, d, tk, os⟩) l1 xs := hl1
    have hL2 : Heap.IsTuple (Shared.heap ⟨hp.push { cls := .type "list_iterator", data := .fields #[.ref l1, .int 0 0] }, g, d, tk, os⟩) l2 ys := Heap.IsTuple.push hl2 _
    wp_walk using wpAny_pyIter_list hL1, wpAny_pyIter_tuple hL2
    exact ⟨_, rfl, h⟩
section
variable {prog : Program} {w : World} {A : Around} {E : Value → Shared → Prop} {s : Shared}
theorem call_zipX {l1 l2 : Addr} {xs ys : Array Value} {Q : Value → Shared → Prop} (hl1 : s.heap.IsList l1 xs) (hl2 : s.heap.IsTuple l2 ys)
    (h : ∀ h', StX l1 l2 (s.heap.objs.size + 4) (s.heap.objs.size + 2) (s.heap.objs.size + 3) s.heap.objs.size (s.heap.objs.size + 1) 0 h' → (∀ c o, s.heap.get? c = some o → h'.get? c = some o) → Q (.ref (s.heap.objs.size + 4)) { s with heap := h' }) :
    wpAny (model prog w) A (call (.type "zip") [.ref l1, .ref l2]) Q E s := by
  refine callType_new F.called_zip (by decide) (F.typeCall_zip_2 _ _) (F.newCall_zip_2 _ _) (fun obj => F.args_object_init_3 obj _ _) F.entry_zip_new (meets_zipX_new l1 l2 xs ys) ⟨hl1, hl2, ?_⟩
  have z1 : (xH1 s.heap l1).objs.size = s.heap.objs.size + 1 := Heap.size_push ..
  have z2 : (xH2 s.heap l1 l2).objs.size = s.heap.objs.size + 2 := by rw [Heap.size_push, z1]
  have z3 : (xH3 s.heap l1 l2).objs.size = s.heap.objs.size + 3 := by rw [Heap.size_push, z2]
  have z4 : (xH4 s.heap l1 l2).objs.size = s.heap.objs.size + 4 := by rw [Heap.size_push, z3]
  have g5 : (xH5 s.heap l1 l2).get? (xH4 s.heap l1 l2).objs.size = some _ := Heap.get?_push_size _ rfl
  have g4 : (xH5 s.heap l1 l2).get? (xH3 s.heap l1 l2).objs.size = some _ := Heap.get?_push_of_some _ (Heap.get?_push_size _ rfl)
  have g3 : (xH5 s.heap l1 l2).get? (xH2 s.heap l1 l2).objs.size = some _ := Heap.get?_push_of_some _ (Heap.get?_push_of_some _ (Heap.get?_push_size _ rfl))
  have g2 : (xH5 s.heap l1 l2).get? (xH1 s.heap l1).objs.size = some _ := Heap.get?_push_of_some _ (Heap.get?_push_of_some _ (Heap.get?_push_of_some _ (Heap.get?_push_size _ rfl)))
  have g1 : (xH5 s.heap l1 l2).get? s.heap.objs.size = some _ := Heap.get?_push_of_some _ (Heap.get?_push_of_some _ (Heap.get?_push_of_some _ (Heap.get?_push_of_some _ (Heap.get?_push_size _ rfl))))
  show _ ∧ _
  rw [z2, z3, z4] at g5
  rw [z1, z2] at g3
  rw [z3] at g4
  rw [z1] at g2
  rw [z4]
  exact ⟨⟨_, g5, rfl⟩, h _ ⟨g5, g3, ⟨_, _, g4⟩, ⟨_, g1, rfl, rfl⟩, ⟨_, g2, rfl, rfl⟩⟩ fun c o x => Heap.get?_push_of_some _ (Heap.get?_push_of_some _ (Heap.get?_push_of_some _ (Heap.get?_push_of_some _ (Heap.get?_push_of_some _ x))))⟩
end
def iZipX (K : PySem.W.Frag) (ta : TA) : TI := fun σ H R => ta σ H fun vs H1 => ∃ a b xs ys, vs = [.ref a, .ref b] ∧ SqL K H1 a xs ∧ SqT K H1 b ys ∧ R (ItzX K a b) H1
theorem pi_zipX {X : Cx} {e e2 : Expr} {ta : TA} {p pos tpos : Pos} {elts : List Expr} {kk : Nat} (hg : Gl X "zip") (hm : X.mg "zip" = none) (ha : PA X [e, e2] ta)
    (hs : starEach [e, e2] X.env = (false, eval e X.env) :: starEach [e2] X.env := by rfl) (hpl : (backTo pos (starEach [e2] X.env)).any (·.1) = false := by rfl) :
    PI X (.Tuple elts kk tpos) (.Call (.Name "zip" p) [e, e2] [] pos) (iZipX X.K ta) := by
  refine ⟨fun pins s σ H R I h => ?_⟩
  refine Call_ (ld_blt I hg hm PyProof.Rows.boot_zip (PyProof.Rows.callWith_type1 (thn (ha.run pos pins s σ H _ I h) fun us s1 ⟨vs, H1, I1, r1, q1⟩ => ?_) hs hpl))
  obtain ⟨a, b, xs, ys, ex, hqx, hqy, q⟩ := q1
  subst ex
  cases r1 with
  | cons r rr =>
    cases rr with
    | cons r' rr =>
      cases rr
      cases r
      cases r'
      have fresh5 : ∀ c, c ∈ [s1.heap.objs.size + 4, s1.heap.objs.size + 2, s1.heap.objs.size + 3, s1.heap.objs.size, s1.heap.objs.size + 1] → FpOk X pins H1 c := fun c hcm => by
        have e' : c = s1.heap.objs.size + 4 ∨ c = s1.heap.objs.size + 2 ∨ c = s1.heap.objs.size + 3 ∨ c = s1.heap.objs.size ∨ c = s1.heap.objs.size + 1 := by simpa using hcm
        have hle : s1.heap.objs.size ≤ c := by
          rcases e' with z | z | z | z | z <;> rw [z]
          · exact Nat.le_add_right _ _
          · exact Nat.le_add_right _ _
          · exact Nat.le_add_right _ _
          · exact Nat.le_refl _
          · exact Nat.le_add_right _ _
        exact I1.fpOk hle (I1.hok.fresh hle)
      obtain ⟨its, rv, p1, _⟩ := I1.list hqx
      obtain ⟨its2, rv2, p2, _⟩ := I1.tuple hqy
      obtain ⟨o2, ho2, _⟩ := id p2
      refine call_zipX p1.isList (show s1.heap.IsTuple b its2.toArray from p2) fun h' st hk => wpAny_pyIter_zip st.1 ?_
      exact ⟨s1.heap.objs.size + 4, [s1.heap.objs.size + 4, s1.heap.objs.size + 2, s1.heap.objs.size + 3, s1.heap.objs.size, s1.heap.objs.size + 1], _, _, H1, rfl, I1.kept (t' := s1.toks) hk, turn_zipX (PySem.W.ktu_apart s1.heap.objs.size a b p1.lt (Heap.lt_size ho2)), st, fresh5, q⟩
/-- a comprehension over zip of a list and a tuple of one length -/
theorem lc_zipX {K : PySem.W.Frag} {a b : Addr} {xs ys : List V} {g : TG} {tt : TT} {te : TE} {vs : List Nat} {σ : L2.St} {H1 : Hp} {D : Addr} {Qd : Hp → Prop} (hl : xs.length = ys.length) (Pv : Nat → Hp → Prop) (h0 : Pv 0 (upd H1 D (.lst []))) (hq : ∀ i H, i ≤ xs.length → Pv i H → SqL K H a xs ∧ SqT K H b ys)
    (hs : ∀ (i : Nat) (x y : V) (T : Addr) (H : Hp), xs[i]? = some x → ys[i]? = some y → Pv i H → H T = none → g (.ref T) (wipe σ vs) (upd H T (.tup [x, y])) fun σ2 H2 => wipe σ2 vs = wipe σ vs ∧ tt σ2 H2 fun b H3 =>
      if b = true then te σ2 H3 fun y H4 => ∃ acc, H4 D = some (.lst acc) ∧ acc.length < sizeLine ∧ Pv (i + 1) (upd H4 D (.lst (acc ++ [y]))) else Pv (i + 1) H3) (hd : ∀ H, Pv xs.length H → Qd H) :
    ∃ W : Nat → Nat → Hp → Prop, (∃ m, W 0 m (upd H1 D (.lst []))) ∧ ∀ i m H, W i m H →
      ((ItzX K a b).stop i H ∧ Qd H) ∨ ((ItzX K a b).go i H ∧ ∃ Nx : Hp → Prop, (∀ H', Nx H' → ∃ m', m' < m ∧ W (i + 1) m' H') ∧ ∀ x H', (ItzX K a b).yld i H x H' → g x (wipe σ vs) H' fun σ2 H2 => wipe σ2 vs = wipe σ vs ∧ tt σ2 H2 fun b H3 =>
        if b = true then te σ2 H3 fun y H4 => ∃ acc, H4 D = some (.lst acc) ∧ acc.length < sizeLine ∧ Nx (upd H4 D (.lst (acc ++ [y]))) else Nx H3) := by
  refine ⟨fun i m H => m = xs.length - i ∧ i ≤ xs.length ∧ Pv i H, ⟨xs.length, by simp, Nat.zero_le _, h0⟩, ?_⟩
  rintro i m H ⟨rfl, hi, p⟩
  obtain ⟨qx, qy⟩ := hq i H hi p
  by_cases hlt : i < xs.length
  · have hx : xs[i]? = some xs[i] := List.getElem?_eq_getElem hlt
    have hy : ys[i]? = some ys[i] := List.getElem?_eq_getElem (by omega)
    refine .inr ⟨⟨xs, ys, _, _, qx, qy, hx, hy⟩, Pv (i + 1), fun H' p' => ⟨xs.length - (i + 1), by omega, rfl, hlt, p'⟩, fun v H' y => ?_⟩
    obtain ⟨T, x', y', rfl, hT, rfl, f1, f2⟩ := y
    exact hs i x' y' T H (f1 xs qx) (f2 ys qy) p hT
  · have e : i = xs.length := by omega
    subst e
    exact .inl ⟨⟨xs, ys, qx, qy, hl, rfl⟩, hd H p⟩
end ZipX

set_option Elab.async false
set_option linter.all false
set_option maxRecDepth 100000
/-! x *= n for ints -/
namespace AugM
open PySem PySem.Spec PyProof.Rows L2 MyR
variable {X : Cx}
end AugM

set_option Elab.async false
set_option linter.all false
set_option maxRecDepth 100000
set_option maxHeartbeats 2000000
/-! l.count(x) of data, sorted(set) of pairs of ints -/
namespace TupC
open PySem PySem.Spec PyProof.Rows L2
section
variable {X : Cx}
end
section
variable {P : Program} {w : World} {A : Around} {E : Value → Shared → Prop} {s : Shared}
end
section
variable {X : Cx}
end
end TupC

set_option Elab.async false
set_option linter.all false
set_option maxRecDepth 100000
/-! max(t) of a tuple of ints -/
namespace MaxT
open PySem PySem.Spec PyProof.Rows L2
section
variable {prog : Program} {w : World} {A : Around} {E : Value → Shared → Prop} {s : Shared}
end
section
variable {X : Cx}
end
end MaxT

set_option Elab.async false
set_option linter.all false
/-! dicts with numbers as keys: a dict that is made for a walk is locked from then on -/
namespace DkL
open PySem PySem.Spec PyProof.Rows L2
theorem hu1 {k : Nat} {A : Around} (hr : Room k A) : A.units + 1 < cLine := by
  have := hr.units
  omega
end DkL

set_option Elab.async false
set_option linter.all false
set_option maxRecDepth 100000
set_option maxHeartbeats 4000000
namespace K45
open PySem PySem.Spec PyProof.Rows L2 SlX OwnR OwnF
theorem hu64 {k : Nat} {A : Around} (hr : Room k A) : A.units + 64 < cLine := hr.units
theorem same_upd0 {H : Hp} {p : Addr} {o : HO} (h : H p = none) : Same H (upd H p o) := fun b x e => by
  rw [upd_ne (ne_of_none e h)]
  exact e
def topS (i : Nat) : Stmt := PySem.Challenge.pw_sourceforms_k45_whole_told_invariants.main.body.getD i (.Pass ⟨0, 0, 0, 0⟩)
abbrev FnM (K : PySem.W.Frag) (x q : Str) (st : Stmt) (f : Addr) (fd : FuncData) : Prop := FunD K x q (defArgs st) (defBody st) (defScope st) [] [] f fd
abbrev FnP (K : PySem.W.Frag) (x : Str) (st : Stmt) (f : Addr) (fd : FuncData) : Prop := FunD K x x (defArgs st) (defBody st) (defScope st) [] [] f fd
abbrev s_is_whole : Stmt := topS 12
abbrev N_is_whole : List Str := ["value"]
theorem sc_is_whole : FnScope N_is_whole ["value"] (defScope s_is_whole) := ⟨rfl, rfl, rfl, by decide +kernel, rfl, by decide +kernel, by decide +kernel⟩
abbrev s_is_short : Stmt := topS 13
abbrev N_is_short : List Str := ["value"]
theorem sc_is_short : FnScope N_is_short ["value"] (defScope s_is_short) := ⟨rfl, rfl, rfl, by decide +kernel, rfl, by decide +kernel, by decide +kernel⟩
abbrev s_is_from : Stmt := topS 14
abbrev N_is_from : List Str := ["value", "least", "most"]
theorem sc_is_from : FnScope N_is_from ["value", "least", "most"] (defScope s_is_from) := ⟨rfl, rfl, rfl, by decide +kernel, rfl, by decide +kernel, by decide +kernel⟩
abbrev s_are_short : Stmt := topS 15
abbrev N_are_short : List Str := ["value", "entry"]
theorem sc_are_short : FnScope N_are_short ["value"] (defScope s_are_short) := ⟨rfl, rfl, rfl, by decide +kernel, rfl, by decide +kernel, by decide +kernel⟩
abbrev s_shared_of : Stmt := topS 18
abbrev N_shared_of : List Str := ["numbers", "found", "number"]
theorem sc_shared_of : FnScope N_shared_of ["numbers"] (defScope s_shared_of) := ⟨rfl, rfl, rfl, by decide +kernel, rfl, by decide +kernel, by decide +kernel⟩
abbrev s_first_of : Stmt := topS 19
abbrev N_first_of : List Str := ["numbers"]
theorem sc_first_of : FnScope N_first_of ["numbers"] (defScope s_first_of) := ⟨rfl, rfl, rfl, by decide +kernel, rfl, by decide +kernel, by decide +kernel⟩
abbrev s_primitive_of : Stmt := topS 20
abbrev N_primitive_of : List Str := ["numbers", "part", "number"]
theorem sc_primitive_of : FnScope N_primitive_of ["numbers"] (defScope s_primitive_of) := ⟨rfl, rfl, rfl, by decide +kernel, rfl, by decide +kernel, by decide +kernel⟩
abbrev s_lots_of : Stmt := topS 21
abbrev N_lots_of : List Str := ["many", "few", "found", "at"]
theorem sc_lots_of : FnScope N_lots_of ["many", "few"] (defScope s_lots_of) := ⟨rfl, rfl, rfl, by decide +kernel, rfl, by decide +kernel, by decide +kernel⟩
abbrev s_without_zeros : Stmt := topS 25
abbrev N_without_zeros : List Str := ["line", "at"]
theorem sc_without_zeros : FnScope N_without_zeros ["line"] (defScope s_without_zeros) := ⟨rfl, rfl, rfl, by decide +kernel, rfl, by decide +kernel, by decide +kernel⟩
abbrev s_smaller : Stmt := topS 26
abbrev N_smaller : List Str := ["line", "part", "entry"]
theorem sc_smaller : FnScope N_smaller ["line"] (defScope s_smaller) := ⟨rfl, rfl, rfl, by decide +kernel, rfl, by decide +kernel, by decide +kernel⟩
abbrev s_left_by : Stmt := topS 27
abbrev N_left_by : List Str := ["one", "other", "left", "lead", "sign", "factor", "longer", "here", "there"]
theorem sc_left_by : FnScope N_left_by ["one", "other"] (defScope s_left_by) := ⟨rfl, rfl, rfl, by decide +kernel, rfl, by decide +kernel, by decide +kernel⟩
abbrev s_common_of : Stmt := topS 28
abbrev N_common_of : List Str := ["one", "other"]
theorem sc_common_of : FnScope N_common_of ["one", "other"] (defScope s_common_of) := ⟨rfl, rfl, rfl, by decide +kernel, rfl, by decide +kernel, by decide +kernel⟩
abbrev s_ends_in : Stmt := topS 29
abbrev N_ends_in : List Str := ["entries"]
theorem sc_ends_in : FnScope N_ends_in ["entries"] (defScope s_ends_in) := ⟨rfl, rfl, rfl, by decide +kernel, rfl, by decide +kernel, by decide +kernel⟩
abbrev s_common_line : Stmt := topS 30
abbrev N_common_line : List Str := ["one", "other", "first", "second"]
theorem sc_common_line : FnScope N_common_line ["one", "other"] (defScope s_common_line) := ⟨rfl, rfl, rfl, by decide +kernel, rfl, by decide +kernel, by decide +kernel⟩
abbrev s_lessened_line : Stmt := topS 31
abbrev N_lessened_line : List Str := ["entries", "degree", "by_x", "at", "entry", "by_y"]
theorem sc_lessened_line : FnScope N_lessened_line ["entries"] (defScope s_lessened_line) := ⟨rfl, rfl, rfl, by decide +kernel, rfl, by decide +kernel, by decide +kernel⟩
abbrev s_product_in : Stmt := topS 34
abbrev s_joined_entries : Stmt := topS 35
abbrev s_derived_in : Stmt := topS 39
abbrev s_is_zero_in : Stmt := topS 40
abbrev N_is_zero_in : List Str := ["entries"]
theorem sc_is_zero_in : FnScope N_is_zero_in ["entries"] (defScope s_is_zero_in) := ⟨rfl, rfl, rfl, by decide +kernel, rfl, by decide +kernel, by decide +kernel⟩
abbrev s_are_entries : Stmt := topS 42
abbrev N_are_entries : List Str := ["value"]
theorem sc_are_entries : FnScope N_are_entries ["value"] (defScope s_are_entries) := ⟨rfl, rfl, rfl, by decide +kernel, rfl, by decide +kernel, by decide +kernel⟩
abbrev s_form_of : Stmt := topS 44
abbrev N_form_of : List Str := ["entries"]
theorem sc_form_of : FnScope N_form_of ["entries"] (defScope s_form_of) := ⟨rfl, rfl, rfl, by decide +kernel, rfl, by decide +kernel, by decide +kernel⟩
abbrev s_require_form : Stmt := topS 45
abbrev N_require_form : List Str := ["value"]
theorem sc_require_form : FnScope N_require_form ["value"] (defScope s_require_form) := ⟨rfl, rfl, rfl, by decide +kernel, rfl, by decide +kernel, by decide +kernel⟩
abbrev s_laying_slope : Stmt := topS 49
abbrev N_laying_slope : List Str := ["entries", "by_y", "at", "entry"]
theorem sc_laying_slope : FnScope N_laying_slope ["entries", "by_y"] (defScope s_laying_slope) := ⟨rfl, rfl, rfl, by decide +kernel, rfl, by decide +kernel, by decide +kernel⟩
abbrev s_laying_slopes : Stmt := topS 50
abbrev N_laying_slopes : List Str := ["entries", "times", "found", "turn", "one"]
theorem sc_laying_slopes : FnScope N_laying_slopes ["entries", "times"] (defScope s_laying_slopes) := ⟨rfl, rfl, rfl, by decide +kernel, rfl, by decide +kernel, by decide +kernel⟩
abbrev s_add_product : Stmt := topS 51
abbrev N_add_product : List Str := ["found", "one", "other", "factor", "at", "first", "place", "second"]
theorem sc_add_product : FnScope N_add_product ["found", "one", "other", "factor"] (defScope s_add_product) := ⟨rfl, rfl, rfl, by decide +kernel, rfl, by decide +kernel, by decide +kernel⟩
abbrev s_laid_in : Stmt := topS 52
abbrev N_laid_in : List Str := ["one", "other", "times", "found", "first", "second", "at"]
theorem sc_laid_in : FnScope N_laid_in ["one", "other", "times"] (defScope s_laid_in) := ⟨rfl, rfl, rfl, by decide +kernel, rfl, by decide +kernel, by decide +kernel⟩
abbrev s_laid : Stmt := topS 53
abbrev N_laid : List Str := ["one", "other", "times"]
theorem sc_laid : FnScope N_laid ["one", "other", "times"] (defScope s_laid) := ⟨rfl, rfl, rfl, by decide +kernel, rfl, by decide +kernel, by decide +kernel⟩
abbrev s_require_told : Stmt := topS 56
abbrev N_require_told : List Str := ["form"]
theorem sc_require_told : FnScope N_require_told ["form"] (defScope s_require_told) := ⟨rfl, rfl, rfl, by decide +kernel, rfl, by decide +kernel, by decide +kernel⟩
abbrev s_most_times_in : Stmt := topS 57
abbrev N_most_times_in : List Str := ["entries", "found", "here"]
theorem sc_most_times_in : FnScope N_most_times_in ["entries"] (defScope s_most_times_in) := ⟨rfl, rfl, rfl, by decide +kernel, rfl, by decide +kernel, by decide +kernel⟩
abbrev s_fall_kind : Stmt := topS 58
abbrev N_fall_kind : List Str := ["form", "twice"]
theorem sc_fall_kind : FnScope N_fall_kind ["form"] (defScope s_fall_kind) := ⟨rfl, rfl, rfl, by decide +kernel, rfl, by decide +kernel, by decide +kernel⟩
abbrev s_last_entry : Stmt := topS 59
abbrev N_last_entry : List Str := ["one", "other", "times"]
theorem sc_last_entry : FnScope N_last_entry ["one", "other", "times"] (defScope s_last_entry) := ⟨rfl, rfl, rfl, by decide +kernel, rfl, by decide +kernel, by decide +kernel⟩
abbrev s_told_of_five : Stmt := topS 60
abbrev N_told_of_five : List Str := ["form", "first", "third", "second"]
theorem sc_told_of_five : FnScope N_told_of_five ["form"] (defScope s_told_of_five) := ⟨rfl, rfl, rfl, by decide +kernel, rfl, by decide +kernel, by decide +kernel⟩
abbrev s_told_of_six : Stmt := topS 61
abbrev N_told_of_six : List Str := ["form", "four", "two", "more", "less"]
theorem sc_told_of_six : FnScope N_told_of_six ["form"] (defScope s_told_of_six) := ⟨rfl, rfl, rfl, by decide +kernel, rfl, by decide +kernel, by decide +kernel⟩
abbrev s_told_in : Stmt := topS 62
abbrev N_told_in : List Str := ["form", "hesse"]
theorem sc_told_in : FnScope N_told_in ["form"] (defScope s_told_in) := ⟨rfl, rfl, rfl, by decide +kernel, rfl, by decide +kernel, by decide +kernel⟩
abbrev s_told_invariants : Stmt := topS 63
abbrev N_told_invariants : List Str := ["form"]
theorem sc_told_invariants : FnScope N_told_invariants ["form"] (defScope s_told_invariants) := ⟨rfl, rfl, rfl, by decide +kernel, rfl, by decide +kernel, by decide +kernel⟩
abbrev s_law_dice : Stmt := topS 65
abbrev N_law_dice : List Str := ["_law_script", "_law_spot", "_law_cell", "_law_left"]
theorem sc_law_dice : FnScope N_law_dice ["_law_script", "_law_spot"] (defScope s_law_dice) := ⟨rfl, rfl, rfl, by decide +kernel, rfl, by decide +kernel, by decide +kernel⟩
abbrev s_law_roll : Stmt := topS 66
abbrev N_law_roll : List Str := ["_law_dice_here", "_law_total", "_law_found", "_law_one", "_law_two"]
theorem sc_law_roll : FnScope N_law_roll ["_law_dice_here", "_law_total"] (defScope s_law_roll) := ⟨rfl, rfl, rfl, by decide +kernel, rfl, by decide +kernel, by decide +kernel⟩
abbrev s_law_pick : Stmt := topS 67
abbrev N_law_pick : List Str := ["_law_dice_here", "_law_items"]
theorem sc_law_pick : FnScope N_law_pick ["_law_dice_here", "_law_items"] (defScope s_law_pick) := ⟨rfl, rfl, rfl, by decide +kernel, rfl, by decide +kernel, by decide +kernel⟩
abbrev s_law_mixed : Stmt := topS 68
abbrev N_law_mixed : List Str := ["_law_dice_here", "_law_items", "_law_left", "_law_found", "_law_turn"]
theorem sc_law_mixed : FnScope N_law_mixed ["_law_dice_here", "_law_items"] (defScope s_law_mixed) := ⟨rfl, rfl, rfl, by decide +kernel, rfl, by decide +kernel, by decide +kernel⟩
abbrev s_law_near : Stmt := topS 69
abbrev N_law_near : List Str := ["_law_dice_here", "_law_most"]
theorem sc_law_near : FnScope N_law_near ["_law_dice_here", "_law_most"] (defScope s_law_near) := ⟨rfl, rfl, rfl, by decide +kernel, rfl, by decide +kernel, by decide +kernel⟩
abbrev s_law_gcd : Stmt := topS 70
abbrev N_law_gcd : List Str := ["_law_one", "_law_other"]
theorem sc_law_gcd : FnScope N_law_gcd ["_law_one", "_law_other"] (defScope s_law_gcd) := ⟨rfl, rfl, rfl, by decide +kernel, rfl, by decide +kernel, by decide +kernel⟩
abbrev s_law_shared : Stmt := topS 71
abbrev N_law_shared : List Str := ["_law_numbers", "_law_found", "_law_number"]
theorem sc_law_shared : FnScope N_law_shared ["_law_numbers"] (defScope s_law_shared) := ⟨rfl, rfl, rfl, by decide +kernel, rfl, by decide +kernel, by decide +kernel⟩
abbrev s_law_raised : Stmt := topS 72
abbrev N_law_raised : List Str := ["_law_number", "_law_times", "_law_found", "_law_turn"]
theorem sc_law_raised : FnScope N_law_raised ["_law_number", "_law_times"] (defScope s_law_raised) := ⟨rfl, rfl, rfl, by decide +kernel, rfl, by decide +kernel, by decide +kernel⟩
abbrev s_law_choose : Stmt := topS 73
abbrev N_law_choose : List Str := ["_law_many", "_law_few", "_law_found", "_law_at"]
theorem sc_law_choose : FnScope N_law_choose ["_law_many", "_law_few"] (defScope s_law_choose) := ⟨rfl, rfl, rfl, by decide +kernel, rfl, by decide +kernel, by decide +kernel⟩
abbrev s_law_plus : Stmt := topS 74
abbrev N_law_plus : List Str := ["_law_one", "_law_other", "_law_first", "_law_second"]
theorem sc_law_plus : FnScope N_law_plus ["_law_one", "_law_other"] (defScope s_law_plus) := ⟨rfl, rfl, rfl, by decide +kernel, rfl, by decide +kernel, by decide +kernel⟩
abbrev s_law_scaled : Stmt := topS 75
abbrev N_law_scaled : List Str := ["_law_form_here", "_law_factor", "_law_entry"]
theorem sc_law_scaled : FnScope N_law_scaled ["_law_form_here", "_law_factor"] (defScope s_law_scaled) := ⟨rfl, rfl, rfl, by decide +kernel, rfl, by decide +kernel, by decide +kernel⟩
abbrev s_law_product : Stmt := topS 76
abbrev N_law_product : List Str := ["_law_one", "_law_other", "_law_found", "_law_place", "_law_at", "_law_first", "_law_second"]
theorem sc_law_product : FnScope N_law_product ["_law_one", "_law_other"] (defScope s_law_product) := ⟨rfl, rfl, rfl, by decide +kernel, rfl, by decide +kernel, by decide +kernel⟩
abbrev s_law_all_product : Stmt := topS 77
abbrev N_law_all_product : List Str := ["_law_forms", "_law_found", "_law_form_here"]
theorem sc_law_all_product : FnScope N_law_all_product ["_law_forms"] (defScope s_law_all_product) := ⟨rfl, rfl, rfl, by decide +kernel, rfl, by decide +kernel, by decide +kernel⟩
abbrev s_law_power : Stmt := topS 78
abbrev N_law_power : List Str := ["_law_pair", "_law_times", "_law_found", "_law_turn"]
theorem sc_law_power : FnScope N_law_power ["_law_pair", "_law_times"] (defScope s_law_power) := ⟨rfl, rfl, rfl, by decide +kernel, rfl, by decide +kernel, by decide +kernel⟩
abbrev s_law_by_x : Stmt := topS 79
abbrev N_law_by_x : List Str := ["_law_form_here", "_law_at", "_law_entry"]
theorem sc_law_by_x : FnScope N_law_by_x ["_law_form_here"] (defScope s_law_by_x) := ⟨rfl, rfl, rfl, by decide +kernel, rfl, by decide +kernel, by decide +kernel⟩
abbrev s_law_by_y : Stmt := topS 80
abbrev N_law_by_y : List Str := ["_law_form_here", "_law_at", "_law_entry"]
theorem sc_law_by_y : FnScope N_law_by_y ["_law_form_here"] (defScope s_law_by_y) := ⟨rfl, rfl, rfl, by decide +kernel, rfl, by decide +kernel, by decide +kernel⟩
abbrev s_law_derived : Stmt := topS 81
abbrev N_law_derived : List Str := ["_law_form_here", "_law_one", "_law_other", "_law_turn"]
theorem sc_law_derived : FnScope N_law_derived ["_law_form_here", "_law_one", "_law_other"] (defScope s_law_derived) := ⟨rfl, rfl, rfl, by decide +kernel, rfl, by decide +kernel, by decide +kernel⟩
abbrev s_law_laid : Stmt := topS 82
abbrev N_law_laid : List Str := ["_law_one", "_law_other", "_law_times", "_law_found", "_law_place", "_law_at", "_law_piece", "_law_number"]
theorem sc_law_laid : FnScope N_law_laid ["_law_one", "_law_other", "_law_times"] (defScope s_law_laid) := ⟨rfl, rfl, rfl, by decide +kernel, rfl, by decide +kernel, by decide +kernel⟩
abbrev s_law_changed : Stmt := topS 83
abbrev N_law_changed : List Str := ["_law_form_here", "_law_table_here", "_law_found", "_law_entry", "_law_at", "_law_piece"]
theorem sc_law_changed : FnScope N_law_changed ["_law_form_here", "_law_table_here"] (defScope s_law_changed) := ⟨rfl, rfl, rfl, by decide +kernel, rfl, by decide +kernel, by decide +kernel⟩
abbrev s_law_plain : Stmt := topS 84
abbrev N_law_plain : List Str := ["_law_form_here", "_law_part", "_law_first", "_law_entry"]
theorem sc_law_plain : FnScope N_law_plain ["_law_form_here"] (defScope s_law_plain) := ⟨rfl, rfl, rfl, by decide +kernel, rfl, by decide +kernel, by decide +kernel⟩
abbrev s_law_line : Stmt := topS 85
abbrev N_law_line : List Str := ["_law_point_here"]
theorem sc_law_line : FnScope N_law_line ["_law_point_here"] (defScope s_law_line) := ⟨rfl, rfl, rfl, by decide +kernel, rfl, by decide +kernel, by decide +kernel⟩
abbrev s_law_point : Stmt := topS 86
abbrev N_law_point : List Str := ["_law_dice_here", "_law_most", "_law_one", "_law_other"]
theorem sc_law_point : FnScope N_law_point ["_law_dice_here", "_law_most"] (defScope s_law_point) := ⟨rfl, rfl, rfl, by decide +kernel, rfl, by decide +kernel, by decide +kernel⟩
abbrev s_law_small_form : Stmt := topS 87
abbrev N_law_small_form : List Str := ["_law_dice_here", "_law_degree", "_law_most", "_law_place"]
theorem sc_law_small_form : FnScope N_law_small_form ["_law_dice_here", "_law_degree", "_law_most"] (defScope s_law_small_form) := ⟨rfl, rfl, rfl, by decide +kernel, rfl, by decide +kernel, by decide +kernel⟩
abbrev s_law_form : Stmt := topS 88
abbrev N_law_form : List Str := ["_law_dice_here", "_law_degree", "_law_way", "_law_turn", "_law_line_here", "_law_often", "_law_found", "_law_place"]
theorem sc_law_form : FnScope N_law_form ["_law_dice_here", "_law_degree"] (defScope s_law_form) := ⟨rfl, rfl, rfl, by decide +kernel, rfl, by decide +kernel, by decide +kernel⟩
abbrev s_law_table : Stmt := topS 89
abbrev N_law_table : List Str := ["_law_dice_here", "_law_most", "_law_found", "_law_row"]
theorem sc_law_table : FnScope N_law_table ["_law_dice_here", "_law_most"] (defScope s_law_table) := ⟨rfl, rfl, rfl, by decide +kernel, rfl, by decide +kernel, by decide +kernel⟩
abbrev s_law_det : Stmt := topS 90
abbrev N_law_det : List Str := ["_law_table_here"]
theorem sc_law_det : FnScope N_law_det ["_law_table_here"] (defScope s_law_det) := ⟨rfl, rfl, rfl, by decide +kernel, rfl, by decide +kernel, by decide +kernel⟩
abbrev s_law_parted_form : Stmt := topS 91
abbrev N_law_parted_form : List Str := ["_law_dice_here", "_law_degree", "_law_parts", "_law_lines", "_law_point_here", "_law_found", "_law_left", "_law_most", "_law_turn", "_law_wide", "_law_room", "_law_often", "_law_part"]
theorem sc_law_parted_form : FnScope N_law_parted_form ["_law_dice_here", "_law_degree"] (defScope s_law_parted_form) := ⟨rfl, rfl, rfl, by decide +kernel, rfl, by decide +kernel, by decide +kernel⟩
abbrev s_law_invariants : Stmt := topS 92
abbrev N_law_invariants : List Str := ["_law_form_here", "_law_degree", "_law_four", "_law_hesse", "_law_third", "_law_second", "_law_two", "_law_more", "_law_less"]
theorem sc_law_invariants : FnScope N_law_invariants ["_law_form_here"] (defScope s_law_invariants) := ⟨rfl, rfl, rfl, by decide +kernel, rfl, by decide +kernel, by decide +kernel⟩
abbrev s_law_sizes : Stmt := topS 93
abbrev N_law_sizes : List Str := ["_law_degree"]
theorem sc_law_sizes : FnScope N_law_sizes ["_law_degree"] (defScope s_law_sizes) := ⟨rfl, rfl, rfl, by decide +kernel, rfl, by decide +kernel, by decide +kernel⟩
abbrev s_law_right : Stmt := topS 94
abbrev N_law_right : List Str := ["_law_dice_here", "_law_degree", "_law_entries", "_law_table_here", "_law_told", "_law_due", "_law_later", "_law_powers", "_law_size", "_law_power_here", "_law_number", "_law_factor", "_law_scaled_here"]
theorem sc_law_right : FnScope N_law_right ["_law_dice_here", "_law_degree"] (defScope s_law_right) := ⟨rfl, rfl, rfl, by decide +kernel, rfl, by decide +kernel, by decide +kernel⟩
abbrev s_law_falls_right : Stmt := topS 95
abbrev N_law_falls_right : List Str := ["_law_dice_here", "_law_degree", "_law_entries", "_law_most", "_law_told"]
theorem sc_law_falls_right : FnScope N_law_falls_right ["_law_dice_here", "_law_degree"] (defScope s_law_falls_right) := ⟨rfl, rfl, rfl, by decide +kernel, rfl, by decide +kernel, by decide +kernel⟩
abbrev s_law : Stmt := topS 96
abbrev N_law : List Str := ["_law_script", "_law_spot", "_law_dice_here", "_law_turn", "_law_told", "_law_row"]
theorem sc_law : FnScope N_law ["_law_script"] (defScope s_law) := ⟨rfl, rfl, rfl, by decide +kernel, rfl, by decide +kernel, by decide +kernel⟩
abbrev s_Told_init : Stmt := inClass (topS 41) 1
abbrev N_Told_init : List Str := ["self", "row"]
theorem sc_Told_init : FnScope N_Told_init ["self", "row"] (defScope s_Told_init) := ⟨rfl, rfl, rfl, by decide +kernel, rfl, by decide +kernel, by decide +kernel⟩
abbrev s_Form_init : Stmt := inClass (topS 43) 1
abbrev N_Form_init : List Str := ["self", "entries"]
theorem sc_Form_init : FnScope N_Form_init ["self", "entries"] (defScope s_Form_init) := ⟨rfl, rfl, rfl, by decide +kernel, rfl, by decide +kernel, by decide +kernel⟩
abbrev s_Form_entries : Stmt := inClass (topS 43) 4
abbrev N_Form_entries : List Str := ["self"]
theorem sc_Form_entries : FnScope N_Form_entries ["self"] (defScope s_Form_entries) := ⟨rfl, rfl, rfl, by decide +kernel, rfl, by decide +kernel, by decide +kernel⟩
abbrev s_Form_degree : Stmt := inClass (topS 43) 5
abbrev N_Form_degree : List Str := ["self"]
theorem sc_Form_degree : FnScope N_Form_degree ["self"] (defScope s_Form_degree) := ⟨rfl, rfl, rfl, by decide +kernel, rfl, by decide +kernel, by decide +kernel⟩
abbrev s_Form_is_zero : Stmt := inClass (topS 43) 6
abbrev N_Form_is_zero : List Str := ["self"]
theorem sc_Form_is_zero : FnScope N_Form_is_zero ["self"] (defScope s_Form_is_zero) := ⟨rfl, rfl, rfl, by decide +kernel, rfl, by decide +kernel, by decide +kernel⟩
abbrev s_Form_eq : Stmt := inClass (topS 43) 18
abbrev s_Form_len : Stmt := inClass (topS 43) 19
abbrev s_Form_iter : Stmt := inClass (topS 43) 20
/-- where the defs stand, what the names of the module are -/
structure Facts (K : PySem.W.Frag) (mg : Str → Option Value) where
  f_is_whole : Addr
  fd_is_whole : FuncData
  F_is_whole : FnP K "is_whole" s_is_whole f_is_whole fd_is_whole
  g_is_whole : mg "is_whole" = some (.ref f_is_whole)
  b_is_whole : Binds K fd_is_whole ["value"] []
  f_is_short : Addr
  fd_is_short : FuncData
  F_is_short : FnP K "is_short" s_is_short f_is_short fd_is_short
  g_is_short : mg "is_short" = some (.ref f_is_short)
  b_is_short : Binds K fd_is_short ["value"] []
  f_is_from : Addr
  fd_is_from : FuncData
  F_is_from : FnP K "is_from" s_is_from f_is_from fd_is_from
  g_is_from : mg "is_from" = some (.ref f_is_from)
  b_is_from : Binds K fd_is_from ["value", "least", "most"] []
  f_are_short : Addr
  fd_are_short : FuncData
  F_are_short : FnP K "are_short" s_are_short f_are_short fd_are_short
  g_are_short : mg "are_short" = some (.ref f_are_short)
  b_are_short : Binds K fd_are_short ["value"] []
  f_shared_of : Addr
  fd_shared_of : FuncData
  F_shared_of : FnP K "shared_of" s_shared_of f_shared_of fd_shared_of
  g_shared_of : mg "shared_of" = some (.ref f_shared_of)
  b_shared_of : Binds K fd_shared_of ["numbers"] []
  f_first_of : Addr
  fd_first_of : FuncData
  F_first_of : FnP K "first_of" s_first_of f_first_of fd_first_of
  g_first_of : mg "first_of" = some (.ref f_first_of)
  b_first_of : Binds K fd_first_of ["numbers"] []
  f_primitive_of : Addr
  fd_primitive_of : FuncData
  F_primitive_of : FnP K "primitive_of" s_primitive_of f_primitive_of fd_primitive_of
  g_primitive_of : mg "primitive_of" = some (.ref f_primitive_of)
  b_primitive_of : Binds K fd_primitive_of ["numbers"] []
  f_lots_of : Addr
  fd_lots_of : FuncData
  F_lots_of : FnP K "lots_of" s_lots_of f_lots_of fd_lots_of
  g_lots_of : mg "lots_of" = some (.ref f_lots_of)
  b_lots_of : Binds K fd_lots_of ["many", "few"] []
  f_without_zeros : Addr
  fd_without_zeros : FuncData
  F_without_zeros : FnP K "without_zeros" s_without_zeros f_without_zeros fd_without_zeros
  g_without_zeros : mg "without_zeros" = some (.ref f_without_zeros)
  b_without_zeros : Binds K fd_without_zeros ["line"] []
  f_smaller : Addr
  fd_smaller : FuncData
  F_smaller : FnP K "smaller" s_smaller f_smaller fd_smaller
  g_smaller : mg "smaller" = some (.ref f_smaller)
  b_smaller : Binds K fd_smaller ["line"] []
  f_left_by : Addr
  fd_left_by : FuncData
  F_left_by : FnP K "left_by" s_left_by f_left_by fd_left_by
  g_left_by : mg "left_by" = some (.ref f_left_by)
  b_left_by : Binds K fd_left_by ["one", "other"] []
  f_common_of : Addr
  fd_common_of : FuncData
  F_common_of : FnP K "common_of" s_common_of f_common_of fd_common_of
  g_common_of : mg "common_of" = some (.ref f_common_of)
  b_common_of : Binds K fd_common_of ["one", "other"] []
  f_ends_in : Addr
  fd_ends_in : FuncData
  F_ends_in : FnP K "ends_in" s_ends_in f_ends_in fd_ends_in
  g_ends_in : mg "ends_in" = some (.ref f_ends_in)
  b_ends_in : Binds K fd_ends_in ["entries"] []
  f_common_line : Addr
  fd_common_line : FuncData
  F_common_line : FnP K "common_line" s_common_line f_common_line fd_common_line
  g_common_line : mg "common_line" = some (.ref f_common_line)
  b_common_line : Binds K fd_common_line ["one", "other"] []
  f_lessened_line : Addr
  fd_lessened_line : FuncData
  F_lessened_line : FnP K "lessened_line" s_lessened_line f_lessened_line fd_lessened_line
  g_lessened_line : mg "lessened_line" = some (.ref f_lessened_line)
  b_lessened_line : Binds K fd_lessened_line ["entries"] []
  f_product_in : Addr
  fd_product_in : FuncData
  F_product_in : FnP K "product_in" s_product_in f_product_in fd_product_in
  g_product_in : mg "product_in" = some (.ref f_product_in)
  b_product_in : Binds K fd_product_in ["one", "other"] []
  f_joined_entries : Addr
  fd_joined_entries : FuncData
  F_joined_entries : FnP K "joined_entries" s_joined_entries f_joined_entries fd_joined_entries
  g_joined_entries : mg "joined_entries" = some (.ref f_joined_entries)
  b_joined_entries : Binds K fd_joined_entries ["one", "other"] []
  f_derived_in : Addr
  fd_derived_in : FuncData
  F_derived_in : FnP K "derived_in" s_derived_in f_derived_in fd_derived_in
  g_derived_in : mg "derived_in" = some (.ref f_derived_in)
  b_derived_in : Binds K fd_derived_in ["entries", "one", "other"] []
  f_is_zero_in : Addr
  fd_is_zero_in : FuncData
  F_is_zero_in : FnP K "is_zero_in" s_is_zero_in f_is_zero_in fd_is_zero_in
  g_is_zero_in : mg "is_zero_in" = some (.ref f_is_zero_in)
  b_is_zero_in : Binds K fd_is_zero_in ["entries"] []
  f_are_entries : Addr
  fd_are_entries : FuncData
  F_are_entries : FnP K "are_entries" s_are_entries f_are_entries fd_are_entries
  g_are_entries : mg "are_entries" = some (.ref f_are_entries)
  b_are_entries : Binds K fd_are_entries ["value"] []
  f_form_of : Addr
  fd_form_of : FuncData
  F_form_of : FnP K "form_of" s_form_of f_form_of fd_form_of
  g_form_of : mg "form_of" = some (.ref f_form_of)
  b_form_of : Binds K fd_form_of ["entries"] []
  f_require_form : Addr
  fd_require_form : FuncData
  F_require_form : FnP K "require_form" s_require_form f_require_form fd_require_form
  g_require_form : mg "require_form" = some (.ref f_require_form)
  b_require_form : Binds K fd_require_form ["value"] []
  f_laying_slope : Addr
  fd_laying_slope : FuncData
  F_laying_slope : FnP K "laying_slope" s_laying_slope f_laying_slope fd_laying_slope
  g_laying_slope : mg "laying_slope" = some (.ref f_laying_slope)
  b_laying_slope : Binds K fd_laying_slope ["entries", "by_y"] []
  f_laying_slopes : Addr
  fd_laying_slopes : FuncData
  F_laying_slopes : FnP K "laying_slopes" s_laying_slopes f_laying_slopes fd_laying_slopes
  g_laying_slopes : mg "laying_slopes" = some (.ref f_laying_slopes)
  b_laying_slopes : Binds K fd_laying_slopes ["entries", "times"] []
  f_add_product : Addr
  fd_add_product : FuncData
  F_add_product : FnP K "add_product" s_add_product f_add_product fd_add_product
  g_add_product : mg "add_product" = some (.ref f_add_product)
  b_add_product : Binds K fd_add_product ["found", "one", "other", "factor"] []
  f_laid_in : Addr
  fd_laid_in : FuncData
  F_laid_in : FnP K "laid_in" s_laid_in f_laid_in fd_laid_in
  g_laid_in : mg "laid_in" = some (.ref f_laid_in)
  b_laid_in : Binds K fd_laid_in ["one", "other", "times"] []
  f_laid : Addr
  fd_laid : FuncData
  F_laid : FnP K "laid" s_laid f_laid fd_laid
  g_laid : mg "laid" = some (.ref f_laid)
  b_laid : Binds K fd_laid ["one", "other", "times"] []
  f_require_told : Addr
  fd_require_told : FuncData
  F_require_told : FnP K "require_told" s_require_told f_require_told fd_require_told
  g_require_told : mg "require_told" = some (.ref f_require_told)
  b_require_told : Binds K fd_require_told ["form"] []
  f_most_times_in : Addr
  fd_most_times_in : FuncData
  F_most_times_in : FnP K "most_times_in" s_most_times_in f_most_times_in fd_most_times_in
  g_most_times_in : mg "most_times_in" = some (.ref f_most_times_in)
  b_most_times_in : Binds K fd_most_times_in ["entries"] []
  f_fall_kind : Addr
  fd_fall_kind : FuncData
  F_fall_kind : FnP K "fall_kind" s_fall_kind f_fall_kind fd_fall_kind
  g_fall_kind : mg "fall_kind" = some (.ref f_fall_kind)
  b_fall_kind : Binds K fd_fall_kind ["form"] []
  f_last_entry : Addr
  fd_last_entry : FuncData
  F_last_entry : FnP K "last_entry" s_last_entry f_last_entry fd_last_entry
  g_last_entry : mg "last_entry" = some (.ref f_last_entry)
  b_last_entry : Binds K fd_last_entry ["one", "other", "times"] []
  f_told_of_five : Addr
  fd_told_of_five : FuncData
  F_told_of_five : FnP K "told_of_five" s_told_of_five f_told_of_five fd_told_of_five
  g_told_of_five : mg "told_of_five" = some (.ref f_told_of_five)
  b_told_of_five : Binds K fd_told_of_five ["form"] []
  f_told_of_six : Addr
  fd_told_of_six : FuncData
  F_told_of_six : FnP K "told_of_six" s_told_of_six f_told_of_six fd_told_of_six
  g_told_of_six : mg "told_of_six" = some (.ref f_told_of_six)
  b_told_of_six : Binds K fd_told_of_six ["form"] []
  f_told_in : Addr
  fd_told_in : FuncData
  F_told_in : FnP K "told_in" s_told_in f_told_in fd_told_in
  g_told_in : mg "told_in" = some (.ref f_told_in)
  b_told_in : Binds K fd_told_in ["form"] []
  f_told_invariants : Addr
  fd_told_invariants : FuncData
  F_told_invariants : FnP K "told_invariants" s_told_invariants f_told_invariants fd_told_invariants
  g_told_invariants : mg "told_invariants" = some (.ref f_told_invariants)
  b_told_invariants : Binds K fd_told_invariants ["form"] []
  f_law_dice : Addr
  fd_law_dice : FuncData
  F_law_dice : FnP K "_law_dice" s_law_dice f_law_dice fd_law_dice
  g_law_dice : mg "_law_dice" = some (.ref f_law_dice)
  b_law_dice : Binds K fd_law_dice ["_law_script", "_law_spot"] []
  f_law_roll : Addr
  fd_law_roll : FuncData
  F_law_roll : FnP K "_law_roll" s_law_roll f_law_roll fd_law_roll
  g_law_roll : mg "_law_roll" = some (.ref f_law_roll)
  b_law_roll : Binds K fd_law_roll ["_law_dice_here", "_law_total"] []
  f_law_pick : Addr
  fd_law_pick : FuncData
  F_law_pick : FnP K "_law_pick" s_law_pick f_law_pick fd_law_pick
  g_law_pick : mg "_law_pick" = some (.ref f_law_pick)
  b_law_pick : Binds K fd_law_pick ["_law_dice_here", "_law_items"] []
  f_law_mixed : Addr
  fd_law_mixed : FuncData
  F_law_mixed : FnP K "_law_mixed" s_law_mixed f_law_mixed fd_law_mixed
  g_law_mixed : mg "_law_mixed" = some (.ref f_law_mixed)
  b_law_mixed : Binds K fd_law_mixed ["_law_dice_here", "_law_items"] []
  f_law_near : Addr
  fd_law_near : FuncData
  F_law_near : FnP K "_law_near" s_law_near f_law_near fd_law_near
  g_law_near : mg "_law_near" = some (.ref f_law_near)
  b_law_near : Binds K fd_law_near ["_law_dice_here", "_law_most"] []
  f_law_gcd : Addr
  fd_law_gcd : FuncData
  F_law_gcd : FnP K "_law_gcd" s_law_gcd f_law_gcd fd_law_gcd
  g_law_gcd : mg "_law_gcd" = some (.ref f_law_gcd)
  b_law_gcd : Binds K fd_law_gcd ["_law_one", "_law_other"] []
  f_law_shared : Addr
  fd_law_shared : FuncData
  F_law_shared : FnP K "_law_shared" s_law_shared f_law_shared fd_law_shared
  g_law_shared : mg "_law_shared" = some (.ref f_law_shared)
  b_law_shared : Binds K fd_law_shared ["_law_numbers"] []
  f_law_raised : Addr
  fd_law_raised : FuncData
  F_law_raised : FnP K "_law_raised" s_law_raised f_law_raised fd_law_raised
  g_law_raised : mg "_law_raised" = some (.ref f_law_raised)
  b_law_raised : Binds K fd_law_raised ["_law_number", "_law_times"] []
  f_law_choose : Addr
  fd_law_choose : FuncData
  F_law_choose : FnP K "_law_choose" s_law_choose f_law_choose fd_law_choose
  g_law_choose : mg "_law_choose" = some (.ref f_law_choose)
  b_law_choose : Binds K fd_law_choose ["_law_many", "_law_few"] []
  f_law_plus : Addr
  fd_law_plus : FuncData
  F_law_plus : FnP K "_law_plus" s_law_plus f_law_plus fd_law_plus
  g_law_plus : mg "_law_plus" = some (.ref f_law_plus)
  b_law_plus : Binds K fd_law_plus ["_law_one", "_law_other"] []
  f_law_scaled : Addr
  fd_law_scaled : FuncData
  F_law_scaled : FnP K "_law_scaled" s_law_scaled f_law_scaled fd_law_scaled
  g_law_scaled : mg "_law_scaled" = some (.ref f_law_scaled)
  b_law_scaled : Binds K fd_law_scaled ["_law_form_here", "_law_factor"] []
  f_law_product : Addr
  fd_law_product : FuncData
  F_law_product : FnP K "_law_product" s_law_product f_law_product fd_law_product
  g_law_product : mg "_law_product" = some (.ref f_law_product)
  b_law_product : Binds K fd_law_product ["_law_one", "_law_other"] []
  f_law_all_product : Addr
  fd_law_all_product : FuncData
  F_law_all_product : FnP K "_law_all_product" s_law_all_product f_law_all_product fd_law_all_product
  g_law_all_product : mg "_law_all_product" = some (.ref f_law_all_product)
  b_law_all_product : Binds K fd_law_all_product ["_law_forms"] []
  f_law_power : Addr
  fd_law_power : FuncData
  F_law_power : FnP K "_law_power" s_law_power f_law_power fd_law_power
  g_law_power : mg "_law_power" = some (.ref f_law_power)
  b_law_power : Binds K fd_law_power ["_law_pair", "_law_times"] []
  f_law_by_x : Addr
  fd_law_by_x : FuncData
  F_law_by_x : FnP K "_law_by_x" s_law_by_x f_law_by_x fd_law_by_x
  g_law_by_x : mg "_law_by_x" = some (.ref f_law_by_x)
  b_law_by_x : Binds K fd_law_by_x ["_law_form_here"] []
  f_law_by_y : Addr
  fd_law_by_y : FuncData
  F_law_by_y : FnP K "_law_by_y" s_law_by_y f_law_by_y fd_law_by_y
  g_law_by_y : mg "_law_by_y" = some (.ref f_law_by_y)
  b_law_by_y : Binds K fd_law_by_y ["_law_form_here"] []
  f_law_derived : Addr
  fd_law_derived : FuncData
  F_law_derived : FnP K "_law_derived" s_law_derived f_law_derived fd_law_derived
  g_law_derived : mg "_law_derived" = some (.ref f_law_derived)
  b_law_derived : Binds K fd_law_derived ["_law_form_here", "_law_one", "_law_other"] []
  f_law_laid : Addr
  fd_law_laid : FuncData
  F_law_laid : FnP K "_law_laid" s_law_laid f_law_laid fd_law_laid
  g_law_laid : mg "_law_laid" = some (.ref f_law_laid)
  b_law_laid : Binds K fd_law_laid ["_law_one", "_law_other", "_law_times"] []
  f_law_changed : Addr
  fd_law_changed : FuncData
  F_law_changed : FnP K "_law_changed" s_law_changed f_law_changed fd_law_changed
  g_law_changed : mg "_law_changed" = some (.ref f_law_changed)
  b_law_changed : Binds K fd_law_changed ["_law_form_here", "_law_table_here"] []
  f_law_plain : Addr
  fd_law_plain : FuncData
  F_law_plain : FnP K "_law_plain" s_law_plain f_law_plain fd_law_plain
  g_law_plain : mg "_law_plain" = some (.ref f_law_plain)
  b_law_plain : Binds K fd_law_plain ["_law_form_here"] []
  f_law_line : Addr
  fd_law_line : FuncData
  F_law_line : FnP K "_law_line" s_law_line f_law_line fd_law_line
  g_law_line : mg "_law_line" = some (.ref f_law_line)
  b_law_line : Binds K fd_law_line ["_law_point_here"] []
  f_law_point : Addr
  fd_law_point : FuncData
  F_law_point : FnP K "_law_point" s_law_point f_law_point fd_law_point
  g_law_point : mg "_law_point" = some (.ref f_law_point)
  b_law_point : Binds K fd_law_point ["_law_dice_here", "_law_most"] []
  f_law_small_form : Addr
  fd_law_small_form : FuncData
  F_law_small_form : FnP K "_law_small_form" s_law_small_form f_law_small_form fd_law_small_form
  g_law_small_form : mg "_law_small_form" = some (.ref f_law_small_form)
  b_law_small_form : Binds K fd_law_small_form ["_law_dice_here", "_law_degree", "_law_most"] []
  f_law_form : Addr
  fd_law_form : FuncData
  F_law_form : FnP K "_law_form" s_law_form f_law_form fd_law_form
  g_law_form : mg "_law_form" = some (.ref f_law_form)
  b_law_form : Binds K fd_law_form ["_law_dice_here", "_law_degree"] []
  f_law_table : Addr
  fd_law_table : FuncData
  F_law_table : FnP K "_law_table" s_law_table f_law_table fd_law_table
  g_law_table : mg "_law_table" = some (.ref f_law_table)
  b_law_table : Binds K fd_law_table ["_law_dice_here", "_law_most"] []
  f_law_det : Addr
  fd_law_det : FuncData
  F_law_det : FnP K "_law_det" s_law_det f_law_det fd_law_det
  g_law_det : mg "_law_det" = some (.ref f_law_det)
  b_law_det : Binds K fd_law_det ["_law_table_here"] []
  f_law_parted_form : Addr
  fd_law_parted_form : FuncData
  F_law_parted_form : FnP K "_law_parted_form" s_law_parted_form f_law_parted_form fd_law_parted_form
  g_law_parted_form : mg "_law_parted_form" = some (.ref f_law_parted_form)
  b_law_parted_form : Binds K fd_law_parted_form ["_law_dice_here", "_law_degree"] []
  f_law_invariants : Addr
  fd_law_invariants : FuncData
  F_law_invariants : FnP K "_law_invariants" s_law_invariants f_law_invariants fd_law_invariants
  g_law_invariants : mg "_law_invariants" = some (.ref f_law_invariants)
  b_law_invariants : Binds K fd_law_invariants ["_law_form_here"] []
  f_law_sizes : Addr
  fd_law_sizes : FuncData
  F_law_sizes : FnP K "_law_sizes" s_law_sizes f_law_sizes fd_law_sizes
  g_law_sizes : mg "_law_sizes" = some (.ref f_law_sizes)
  b_law_sizes : Binds K fd_law_sizes ["_law_degree"] []
  f_law_right : Addr
  fd_law_right : FuncData
  F_law_right : FnP K "_law_right" s_law_right f_law_right fd_law_right
  g_law_right : mg "_law_right" = some (.ref f_law_right)
  b_law_right : Binds K fd_law_right ["_law_dice_here", "_law_degree"] []
  f_law_falls_right : Addr
  fd_law_falls_right : FuncData
  F_law_falls_right : FnP K "_law_falls_right" s_law_falls_right f_law_falls_right fd_law_falls_right
  g_law_falls_right : mg "_law_falls_right" = some (.ref f_law_falls_right)
  b_law_falls_right : Binds K fd_law_falls_right ["_law_dice_here", "_law_degree"] []
  f_law : Addr
  fd_law : FuncData
  F_law : FnP K "law" s_law f_law fd_law
  g_law : mg "law" = some (.ref f_law)
  b_law : Binds K fd_law ["_law_script"] []
  f_Told_init : Addr
  fd_Told_init : FuncData
  F_Told_init : FnM K "__init__" "Told.__init__" s_Told_init f_Told_init fd_Told_init
  b_Told_init : Binds K fd_Told_init ["self", "row"] []
  f_Form_init : Addr
  fd_Form_init : FuncData
  F_Form_init : FnM K "__init__" "Form.__init__" s_Form_init f_Form_init fd_Form_init
  b_Form_init : Binds K fd_Form_init ["self", "entries"] []
  f_Form_entries : Addr
  fd_Form_entries : FuncData
  F_Form_entries : FnM K "entries" "Form.entries" s_Form_entries f_Form_entries fd_Form_entries
  b_Form_entries : Binds K fd_Form_entries ["self"] []
  f_Form_degree : Addr
  fd_Form_degree : FuncData
  F_Form_degree : FnM K "degree" "Form.degree" s_Form_degree f_Form_degree fd_Form_degree
  b_Form_degree : Binds K fd_Form_degree ["self"] []
  f_Form_is_zero : Addr
  fd_Form_is_zero : FuncData
  F_Form_is_zero : FnM K "is_zero" "Form.is_zero" s_Form_is_zero f_Form_is_zero fd_Form_is_zero
  b_Form_is_zero : Binds K fd_Form_is_zero ["self"] []
  f_Form_eq : Addr
  fd_Form_eq : FuncData
  F_Form_eq : FnM K "__eq__" "Form.__eq__" s_Form_eq f_Form_eq fd_Form_eq
  b_Form_eq : Binds K fd_Form_eq ["self", "other"] []
  f_Form_len : Addr
  fd_Form_len : FuncData
  F_Form_len : FnM K "__len__" "Form.__len__" s_Form_len f_Form_len fd_Form_len
  b_Form_len : Binds K fd_Form_len ["self"] []
  f_Form_iter : Addr
  fd_Form_iter : FuncData
  F_Form_iter : FnM K "__iter__" "Form.__iter__" s_Form_iter f_Form_iter fd_Form_iter
  b_Form_iter : Binds K fd_Form_iter ["self"] []
  C_Told : Addr
  g_Told : mg "Told" = some (.ref C_Told)
  oc_Told : OwnF.OC K C_Told
  mk_Told : Mk K C_Told f_Told_init
  a_own_row : Addr
  sl_own_row : SlX.Slot1 K C_Told "own_row" a_own_row 0
  C_Form : Addr
  g_Form : mg "Form" = some (.ref C_Form)
  oc_Form : OwnF.OC K C_Form
  mk_Form : Mk K C_Form f_Form_init
  a_own_entries : Addr
  sl_own_entries : SlX.Slot1 K C_Form "own_entries" a_own_entries 0
  mt_Told_init : HookG.Mt K C_Told "__init__" f_Told_init
  mt_Form_init : HookG.Mt K C_Form "__init__" f_Form_init
  p_Form_entries : Addr
  pr_Form_entries : HookG.Pr K C_Form "entries" p_Form_entries f_Form_entries
  p_Form_degree : Addr
  pr_Form_degree : HookG.Pr K C_Form "degree" p_Form_degree f_Form_degree
  p_Form_is_zero : Addr
  pr_Form_is_zero : HookG.Pr K C_Form "is_zero" p_Form_is_zero f_Form_is_zero
  mt_Form_eq : HookG.Mt K C_Form "__eq__" f_Form_eq
  mt_Form_len : HookG.Mt K C_Form "__len__" f_Form_len
  mt_Form_iter : HookG.Mt K C_Form "__iter__" f_Form_iter
  kit_Told_Form : PySem.W.kitOne K (.ref C_Told) (.ref C_Form) = some false
  kit_Form_Told : PySem.W.kitOne K (.ref C_Form) (.ref C_Told) = some false
  z_abs : mg "abs" = none
  z_all : mg "all" = none
  z_any : mg "any" = none
  z_bool : mg "bool" = none
  z_enumerate : mg "enumerate" = none
  z_int : mg "int" = none
  z_isinstance : mg "isinstance" = none
  z_iter : mg "iter" = none
  z_len : mg "len" = none
  z_list : mg "list" = none
  z_max : mg "max" = none
  z_min : mg "min" = none
  z_next : mg "next" = none
  z_range : mg "range" = none
  z_repr : mg "repr" = none
  z_tuple : mg "tuple" = none
  z_zip : mg "zip" = none
  m_gcd : mg "gcd" = some (.builtin "math.gcd")
  c_GREATEST : ∃ t, mg "GREATEST" = some (.int 1000000000000000000000000000000000000000000000000000000000000 t)
  c_MAX_DEGREE : ∃ t, mg "MAX_DEGREE" = some (.int 40 t)
  c_MOST_LAID : ∃ t, mg "MOST_LAID" = some (.int 40 t)
  c_MAX_TOLD : ∃ t, mg "MAX_TOLD" = some (.int 6 t)
  c_first_of : Addr
  P_first_of : Addr
  code_first_of : fd_first_of.code = .ref c_first_of
  tab_first_of : (c_first_of, P_first_of) = HookT.cTA K (HookG.At.glo "first_of")
/-! ### for the head -/
def d_is_whole : HookG.GD := ⟨.glo "is_whole", "is_whole", "is_whole", defArgs s_is_whole, defBody s_is_whole, defScope s_is_whole⟩
def d_is_short : HookG.GD := ⟨.glo "is_short", "is_short", "is_short", defArgs s_is_short, defBody s_is_short, defScope s_is_short⟩
def d_is_from : HookG.GD := ⟨.glo "is_from", "is_from", "is_from", defArgs s_is_from, defBody s_is_from, defScope s_is_from⟩
def d_are_short : HookG.GD := ⟨.glo "are_short", "are_short", "are_short", defArgs s_are_short, defBody s_are_short, defScope s_are_short⟩
def d_shared_of : HookG.GD := ⟨.glo "shared_of", "shared_of", "shared_of", defArgs s_shared_of, defBody s_shared_of, defScope s_shared_of⟩
def d_first_of : HookG.GD := ⟨.glo "first_of", "first_of", "first_of", defArgs s_first_of, defBody s_first_of, defScope s_first_of⟩
def d_primitive_of : HookG.GD := ⟨.glo "primitive_of", "primitive_of", "primitive_of", defArgs s_primitive_of, defBody s_primitive_of, defScope s_primitive_of⟩
def d_lots_of : HookG.GD := ⟨.glo "lots_of", "lots_of", "lots_of", defArgs s_lots_of, defBody s_lots_of, defScope s_lots_of⟩
def d_without_zeros : HookG.GD := ⟨.glo "without_zeros", "without_zeros", "without_zeros", defArgs s_without_zeros, defBody s_without_zeros, defScope s_without_zeros⟩
def d_smaller : HookG.GD := ⟨.glo "smaller", "smaller", "smaller", defArgs s_smaller, defBody s_smaller, defScope s_smaller⟩
def d_left_by : HookG.GD := ⟨.glo "left_by", "left_by", "left_by", defArgs s_left_by, defBody s_left_by, defScope s_left_by⟩
def d_common_of : HookG.GD := ⟨.glo "common_of", "common_of", "common_of", defArgs s_common_of, defBody s_common_of, defScope s_common_of⟩
def d_ends_in : HookG.GD := ⟨.glo "ends_in", "ends_in", "ends_in", defArgs s_ends_in, defBody s_ends_in, defScope s_ends_in⟩
def d_common_line : HookG.GD := ⟨.glo "common_line", "common_line", "common_line", defArgs s_common_line, defBody s_common_line, defScope s_common_line⟩
def d_lessened_line : HookG.GD := ⟨.glo "lessened_line", "lessened_line", "lessened_line", defArgs s_lessened_line, defBody s_lessened_line, defScope s_lessened_line⟩
def d_product_in : HookG.GD := ⟨.glo "product_in", "product_in", "product_in", defArgs s_product_in, defBody s_product_in, defScope s_product_in⟩
def d_joined_entries : HookG.GD := ⟨.glo "joined_entries", "joined_entries", "joined_entries", defArgs s_joined_entries, defBody s_joined_entries, defScope s_joined_entries⟩
def d_derived_in : HookG.GD := ⟨.glo "derived_in", "derived_in", "derived_in", defArgs s_derived_in, defBody s_derived_in, defScope s_derived_in⟩
def d_is_zero_in : HookG.GD := ⟨.glo "is_zero_in", "is_zero_in", "is_zero_in", defArgs s_is_zero_in, defBody s_is_zero_in, defScope s_is_zero_in⟩
def d_are_entries : HookG.GD := ⟨.glo "are_entries", "are_entries", "are_entries", defArgs s_are_entries, defBody s_are_entries, defScope s_are_entries⟩
def d_form_of : HookG.GD := ⟨.glo "form_of", "form_of", "form_of", defArgs s_form_of, defBody s_form_of, defScope s_form_of⟩
def d_require_form : HookG.GD := ⟨.glo "require_form", "require_form", "require_form", defArgs s_require_form, defBody s_require_form, defScope s_require_form⟩
def d_laying_slope : HookG.GD := ⟨.glo "laying_slope", "laying_slope", "laying_slope", defArgs s_laying_slope, defBody s_laying_slope, defScope s_laying_slope⟩
def d_laying_slopes : HookG.GD := ⟨.glo "laying_slopes", "laying_slopes", "laying_slopes", defArgs s_laying_slopes, defBody s_laying_slopes, defScope s_laying_slopes⟩
def d_add_product : HookG.GD := ⟨.glo "add_product", "add_product", "add_product", defArgs s_add_product, defBody s_add_product, defScope s_add_product⟩
def d_laid_in : HookG.GD := ⟨.glo "laid_in", "laid_in", "laid_in", defArgs s_laid_in, defBody s_laid_in, defScope s_laid_in⟩
def d_laid : HookG.GD := ⟨.glo "laid", "laid", "laid", defArgs s_laid, defBody s_laid, defScope s_laid⟩
def d_require_told : HookG.GD := ⟨.glo "require_told", "require_told", "require_told", defArgs s_require_told, defBody s_require_told, defScope s_require_told⟩
def d_most_times_in : HookG.GD := ⟨.glo "most_times_in", "most_times_in", "most_times_in", defArgs s_most_times_in, defBody s_most_times_in, defScope s_most_times_in⟩
def d_fall_kind : HookG.GD := ⟨.glo "fall_kind", "fall_kind", "fall_kind", defArgs s_fall_kind, defBody s_fall_kind, defScope s_fall_kind⟩
def d_last_entry : HookG.GD := ⟨.glo "last_entry", "last_entry", "last_entry", defArgs s_last_entry, defBody s_last_entry, defScope s_last_entry⟩
def d_told_of_five : HookG.GD := ⟨.glo "told_of_five", "told_of_five", "told_of_five", defArgs s_told_of_five, defBody s_told_of_five, defScope s_told_of_five⟩
def d_told_of_six : HookG.GD := ⟨.glo "told_of_six", "told_of_six", "told_of_six", defArgs s_told_of_six, defBody s_told_of_six, defScope s_told_of_six⟩
def d_told_in : HookG.GD := ⟨.glo "told_in", "told_in", "told_in", defArgs s_told_in, defBody s_told_in, defScope s_told_in⟩
def d_told_invariants : HookG.GD := ⟨.glo "told_invariants", "told_invariants", "told_invariants", defArgs s_told_invariants, defBody s_told_invariants, defScope s_told_invariants⟩
def d_law_dice : HookG.GD := ⟨.glo "_law_dice", "_law_dice", "_law_dice", defArgs s_law_dice, defBody s_law_dice, defScope s_law_dice⟩
def d_law_roll : HookG.GD := ⟨.glo "_law_roll", "_law_roll", "_law_roll", defArgs s_law_roll, defBody s_law_roll, defScope s_law_roll⟩
def d_law_pick : HookG.GD := ⟨.glo "_law_pick", "_law_pick", "_law_pick", defArgs s_law_pick, defBody s_law_pick, defScope s_law_pick⟩
def d_law_mixed : HookG.GD := ⟨.glo "_law_mixed", "_law_mixed", "_law_mixed", defArgs s_law_mixed, defBody s_law_mixed, defScope s_law_mixed⟩
def d_law_near : HookG.GD := ⟨.glo "_law_near", "_law_near", "_law_near", defArgs s_law_near, defBody s_law_near, defScope s_law_near⟩
def d_law_gcd : HookG.GD := ⟨.glo "_law_gcd", "_law_gcd", "_law_gcd", defArgs s_law_gcd, defBody s_law_gcd, defScope s_law_gcd⟩
def d_law_shared : HookG.GD := ⟨.glo "_law_shared", "_law_shared", "_law_shared", defArgs s_law_shared, defBody s_law_shared, defScope s_law_shared⟩
def d_law_raised : HookG.GD := ⟨.glo "_law_raised", "_law_raised", "_law_raised", defArgs s_law_raised, defBody s_law_raised, defScope s_law_raised⟩
def d_law_choose : HookG.GD := ⟨.glo "_law_choose", "_law_choose", "_law_choose", defArgs s_law_choose, defBody s_law_choose, defScope s_law_choose⟩
def d_law_plus : HookG.GD := ⟨.glo "_law_plus", "_law_plus", "_law_plus", defArgs s_law_plus, defBody s_law_plus, defScope s_law_plus⟩
def d_law_scaled : HookG.GD := ⟨.glo "_law_scaled", "_law_scaled", "_law_scaled", defArgs s_law_scaled, defBody s_law_scaled, defScope s_law_scaled⟩
def d_law_product : HookG.GD := ⟨.glo "_law_product", "_law_product", "_law_product", defArgs s_law_product, defBody s_law_product, defScope s_law_product⟩
def d_law_all_product : HookG.GD := ⟨.glo "_law_all_product", "_law_all_product", "_law_all_product", defArgs s_law_all_product, defBody s_law_all_product, defScope s_law_all_product⟩
def d_law_power : HookG.GD := ⟨.glo "_law_power", "_law_power", "_law_power", defArgs s_law_power, defBody s_law_power, defScope s_law_power⟩
def d_law_by_x : HookG.GD := ⟨.glo "_law_by_x", "_law_by_x", "_law_by_x", defArgs s_law_by_x, defBody s_law_by_x, defScope s_law_by_x⟩
def d_law_by_y : HookG.GD := ⟨.glo "_law_by_y", "_law_by_y", "_law_by_y", defArgs s_law_by_y, defBody s_law_by_y, defScope s_law_by_y⟩
def d_law_derived : HookG.GD := ⟨.glo "_law_derived", "_law_derived", "_law_derived", defArgs s_law_derived, defBody s_law_derived, defScope s_law_derived⟩
def d_law_laid : HookG.GD := ⟨.glo "_law_laid", "_law_laid", "_law_laid", defArgs s_law_laid, defBody s_law_laid, defScope s_law_laid⟩
def d_law_changed : HookG.GD := ⟨.glo "_law_changed", "_law_changed", "_law_changed", defArgs s_law_changed, defBody s_law_changed, defScope s_law_changed⟩
def d_law_plain : HookG.GD := ⟨.glo "_law_plain", "_law_plain", "_law_plain", defArgs s_law_plain, defBody s_law_plain, defScope s_law_plain⟩
def d_law_line : HookG.GD := ⟨.glo "_law_line", "_law_line", "_law_line", defArgs s_law_line, defBody s_law_line, defScope s_law_line⟩
def d_law_point : HookG.GD := ⟨.glo "_law_point", "_law_point", "_law_point", defArgs s_law_point, defBody s_law_point, defScope s_law_point⟩
def d_law_small_form : HookG.GD := ⟨.glo "_law_small_form", "_law_small_form", "_law_small_form", defArgs s_law_small_form, defBody s_law_small_form, defScope s_law_small_form⟩
def d_law_form : HookG.GD := ⟨.glo "_law_form", "_law_form", "_law_form", defArgs s_law_form, defBody s_law_form, defScope s_law_form⟩
def d_law_table : HookG.GD := ⟨.glo "_law_table", "_law_table", "_law_table", defArgs s_law_table, defBody s_law_table, defScope s_law_table⟩
def d_law_det : HookG.GD := ⟨.glo "_law_det", "_law_det", "_law_det", defArgs s_law_det, defBody s_law_det, defScope s_law_det⟩
def d_law_parted_form : HookG.GD := ⟨.glo "_law_parted_form", "_law_parted_form", "_law_parted_form", defArgs s_law_parted_form, defBody s_law_parted_form, defScope s_law_parted_form⟩
def d_law_invariants : HookG.GD := ⟨.glo "_law_invariants", "_law_invariants", "_law_invariants", defArgs s_law_invariants, defBody s_law_invariants, defScope s_law_invariants⟩
def d_law_sizes : HookG.GD := ⟨.glo "_law_sizes", "_law_sizes", "_law_sizes", defArgs s_law_sizes, defBody s_law_sizes, defScope s_law_sizes⟩
def d_law_right : HookG.GD := ⟨.glo "_law_right", "_law_right", "_law_right", defArgs s_law_right, defBody s_law_right, defScope s_law_right⟩
def d_law_falls_right : HookG.GD := ⟨.glo "_law_falls_right", "_law_falls_right", "_law_falls_right", defArgs s_law_falls_right, defBody s_law_falls_right, defScope s_law_falls_right⟩
def d_law : HookG.GD := ⟨.glo "law", "law", "law", defArgs s_law, defBody s_law, defScope s_law⟩
def d_Told_init : HookG.GD := ⟨.met "Told" "__init__", "__init__", "Told.__init__", defArgs s_Told_init, defBody s_Told_init, defScope s_Told_init⟩
def d_Form_init : HookG.GD := ⟨.met "Form" "__init__", "__init__", "Form.__init__", defArgs s_Form_init, defBody s_Form_init, defScope s_Form_init⟩
def d_Form_entries : HookG.GD := ⟨.prp "Form" "entries", "entries", "Form.entries", defArgs s_Form_entries, defBody s_Form_entries, defScope s_Form_entries⟩
def d_Form_degree : HookG.GD := ⟨.prp "Form" "degree", "degree", "Form.degree", defArgs s_Form_degree, defBody s_Form_degree, defScope s_Form_degree⟩
def d_Form_is_zero : HookG.GD := ⟨.prp "Form" "is_zero", "is_zero", "Form.is_zero", defArgs s_Form_is_zero, defBody s_Form_is_zero, defScope s_Form_is_zero⟩
def d_Form_eq : HookG.GD := ⟨.met "Form" "__eq__", "__eq__", "Form.__eq__", defArgs s_Form_eq, defBody s_Form_eq, defScope s_Form_eq⟩
def d_Form_len : HookG.GD := ⟨.met "Form" "__len__", "__len__", "Form.__len__", defArgs s_Form_len, defBody s_Form_len, defScope s_Form_len⟩
def d_Form_iter : HookG.GD := ⟨.met "Form" "__iter__", "__iter__", "Form.__iter__", defArgs s_Form_iter, defBody s_Form_iter, defScope s_Form_iter⟩
def fnL : List HookG.GD := [d_is_whole, d_is_short, d_is_from, d_are_short, d_shared_of, d_first_of, d_primitive_of, d_lots_of, d_without_zeros, d_smaller, d_left_by, d_common_of, d_ends_in, d_common_line, d_lessened_line, d_product_in, d_joined_entries, d_derived_in, d_is_zero_in, d_are_entries, d_form_of, d_require_form, d_laying_slope, d_laying_slopes, d_add_product, d_laid_in, d_laid, d_require_told, d_most_times_in, d_fall_kind, d_last_entry, d_told_of_five, d_told_of_six, d_told_in, d_told_invariants, d_law_dice, d_law_roll, d_law_pick, d_law_mixed, d_law_near, d_law_gcd, d_law_shared, d_law_raised, d_law_choose, d_law_plus, d_law_scaled, d_law_product, d_law_all_product, d_law_power, d_law_by_x, d_law_by_y, d_law_derived, d_law_laid, d_law_changed, d_law_plain, d_law_line, d_law_point, d_law_small_form, d_law_form, d_law_table, d_law_det, d_law_parted_form, d_law_invariants, d_law_sizes, d_law_right, d_law_falls_right, d_law, d_Told_init, d_Form_init, d_Form_entries, d_Form_degree, d_Form_is_zero, d_Form_eq, d_Form_len, d_Form_iter]
def faL : List He.Fa := [.glo "is_whole", .glo "is_short", .glo "is_from", .glo "are_short", .glo "shared_of", .glo "first_of", .glo "primitive_of", .glo "lots_of", .glo "without_zeros", .glo "smaller", .glo "left_by", .glo "common_of", .glo "ends_in", .glo "common_line", .glo "lessened_line", .glo "product_in", .glo "joined_entries", .glo "derived_in", .glo "is_zero_in", .glo "are_entries", .glo "form_of", .glo "require_form", .glo "laying_slope", .glo "laying_slopes", .glo "add_product", .glo "laid_in", .glo "laid", .glo "require_told", .glo "most_times_in", .glo "fall_kind", .glo "last_entry", .glo "told_of_five", .glo "told_of_six", .glo "told_in", .glo "told_invariants", .glo "_law_dice", .glo "_law_roll", .glo "_law_pick", .glo "_law_mixed", .glo "_law_near", .glo "_law_gcd", .glo "_law_shared", .glo "_law_raised", .glo "_law_choose", .glo "_law_plus", .glo "_law_scaled", .glo "_law_product", .glo "_law_all_product", .glo "_law_power", .glo "_law_by_x", .glo "_law_by_y", .glo "_law_derived", .glo "_law_laid", .glo "_law_changed", .glo "_law_plain", .glo "_law_line", .glo "_law_point", .glo "_law_small_form", .glo "_law_form", .glo "_law_table", .glo "_law_det", .glo "_law_parted_form", .glo "_law_invariants", .glo "_law_sizes", .glo "_law_right", .glo "_law_falls_right", .glo "law", .glo "Told", .glo "Form", .free "abs", .free "all", .free "any", .free "bool", .free "enumerate", .free "int", .free "isinstance", .free "iter", .free "len", .free "list", .free "max", .free "min", .free "next", .free "range", .free "repr", .free "tuple", .free "zip", .int "GREATEST" 1000000000000000000000000000000000000000000000000000000000000, .int "MAX_DEGREE" 40, .int "MOST_LAID" 40, .int "MAX_TOLD" 6, .mkr "Told", .mkr "Form"]
def tfL : List HookG.At := [(HookG.At.glo "first_of")]
def exL (K : PySem.W.Frag) : Bool := He.eqO (PySem.W.nsIn K mainGlobals "gcd") (some (some (.builtin "math.gcd"))) && (OwnF.ocB K "Told" && (HookG.slotB K "Told" "own_row" 0 && (OwnF.ocB K "Form" && (HookG.slotB K "Form" "own_entries" 0 && (HookG.mtB K "Told" "__init__" && (HookG.mtB K "Form" "__init__" && (HookG.prB K "Form" "entries" && (HookG.prB K "Form" "degree" && (HookG.prB K "Form" "is_zero" && (HookG.mtB K "Form" "__eq__" && (HookG.mtB K "Form" "__len__" && (HookG.mtB K "Form" "__iter__" && (HookG.dO (PySem.W.kitOne K (.ref (He.ga K "Told")) (.ref (He.ga K "Form"))) (some false) && (HookG.dO (PySem.W.kitOne K (.ref (He.ga K "Form")) (.ref (He.ga K "Told"))) (some false)))))))))))))))
theorem facts_of {K : PySem.W.Frag} {h : Heap} {mg : Str → Option Value} (X : K.In h) (G : h.Ns mainGlobals mg) (c : HookG.SaysG faL fnL exL K) : Nonempty (Facts K mg) := by
  have ex := c.more
  unfold exL at ex
  obtain ⟨ex_0, ex⟩ := He.ba ex
  obtain ⟨ex_1, ex⟩ := He.ba ex
  obtain ⟨ex_2, ex⟩ := He.ba ex
  obtain ⟨ex_3, ex⟩ := He.ba ex
  obtain ⟨ex_4, ex⟩ := He.ba ex
  obtain ⟨ex_5, ex⟩ := He.ba ex
  obtain ⟨ex_6, ex⟩ := He.ba ex
  obtain ⟨ex_7, ex⟩ := He.ba ex
  obtain ⟨ex_8, ex⟩ := He.ba ex
  obtain ⟨ex_9, ex⟩ := He.ba ex
  obtain ⟨ex_10, ex⟩ := He.ba ex
  obtain ⟨ex_11, ex⟩ := He.ba ex
  obtain ⟨ex_12, ex⟩ := He.ba ex
  obtain ⟨ex_13, ex⟩ := He.ba ex
  obtain ⟨fd_is_whole, F_is_whole⟩ := c.def_ 0 (d := d_is_whole) rfl
  obtain ⟨fd_is_short, F_is_short⟩ := c.def_ 1 (d := d_is_short) rfl
  obtain ⟨fd_is_from, F_is_from⟩ := c.def_ 2 (d := d_is_from) rfl
  obtain ⟨fd_are_short, F_are_short⟩ := c.def_ 3 (d := d_are_short) rfl
  obtain ⟨fd_shared_of, F_shared_of⟩ := c.def_ 4 (d := d_shared_of) rfl
  obtain ⟨fd_first_of, F_first_of⟩ := c.def_ 5 (d := d_first_of) rfl
  obtain ⟨fd_primitive_of, F_primitive_of⟩ := c.def_ 6 (d := d_primitive_of) rfl
  obtain ⟨fd_lots_of, F_lots_of⟩ := c.def_ 7 (d := d_lots_of) rfl
  obtain ⟨fd_without_zeros, F_without_zeros⟩ := c.def_ 8 (d := d_without_zeros) rfl
  obtain ⟨fd_smaller, F_smaller⟩ := c.def_ 9 (d := d_smaller) rfl
  obtain ⟨fd_left_by, F_left_by⟩ := c.def_ 10 (d := d_left_by) rfl
  obtain ⟨fd_common_of, F_common_of⟩ := c.def_ 11 (d := d_common_of) rfl
  obtain ⟨fd_ends_in, F_ends_in⟩ := c.def_ 12 (d := d_ends_in) rfl
  obtain ⟨fd_common_line, F_common_line⟩ := c.def_ 13 (d := d_common_line) rfl
  obtain ⟨fd_lessened_line, F_lessened_line⟩ := c.def_ 14 (d := d_lessened_line) rfl
  obtain ⟨fd_product_in, F_product_in⟩ := c.def_ 15 (d := d_product_in) rfl
  obtain ⟨fd_joined_entries, F_joined_entries⟩ := c.def_ 16 (d := d_joined_entries) rfl
  obtain ⟨fd_derived_in, F_derived_in⟩ := c.def_ 17 (d := d_derived_in) rfl
  obtain ⟨fd_is_zero_in, F_is_zero_in⟩ := c.def_ 18 (d := d_is_zero_in) rfl
  obtain ⟨fd_are_entries, F_are_entries⟩ := c.def_ 19 (d := d_are_entries) rfl
  obtain ⟨fd_form_of, F_form_of⟩ := c.def_ 20 (d := d_form_of) rfl
  obtain ⟨fd_require_form, F_require_form⟩ := c.def_ 21 (d := d_require_form) rfl
  obtain ⟨fd_laying_slope, F_laying_slope⟩ := c.def_ 22 (d := d_laying_slope) rfl
  obtain ⟨fd_laying_slopes, F_laying_slopes⟩ := c.def_ 23 (d := d_laying_slopes) rfl
  obtain ⟨fd_add_product, F_add_product⟩ := c.def_ 24 (d := d_add_product) rfl
  obtain ⟨fd_laid_in, F_laid_in⟩ := c.def_ 25 (d := d_laid_in) rfl
  obtain ⟨fd_laid, F_laid⟩ := c.def_ 26 (d := d_laid) rfl
  obtain ⟨fd_require_told, F_require_told⟩ := c.def_ 27 (d := d_require_told) rfl
  obtain ⟨fd_most_times_in, F_most_times_in⟩ := c.def_ 28 (d := d_most_times_in) rfl
  obtain ⟨fd_fall_kind, F_fall_kind⟩ := c.def_ 29 (d := d_fall_kind) rfl
  obtain ⟨fd_last_entry, F_last_entry⟩ := c.def_ 30 (d := d_last_entry) rfl
  obtain ⟨fd_told_of_five, F_told_of_five⟩ := c.def_ 31 (d := d_told_of_five) rfl
  obtain ⟨fd_told_of_six, F_told_of_six⟩ := c.def_ 32 (d := d_told_of_six) rfl
  obtain ⟨fd_told_in, F_told_in⟩ := c.def_ 33 (d := d_told_in) rfl
  obtain ⟨fd_told_invariants, F_told_invariants⟩ := c.def_ 34 (d := d_told_invariants) rfl
  obtain ⟨fd_law_dice, F_law_dice⟩ := c.def_ 35 (d := d_law_dice) rfl
  obtain ⟨fd_law_roll, F_law_roll⟩ := c.def_ 36 (d := d_law_roll) rfl
  obtain ⟨fd_law_pick, F_law_pick⟩ := c.def_ 37 (d := d_law_pick) rfl
  obtain ⟨fd_law_mixed, F_law_mixed⟩ := c.def_ 38 (d := d_law_mixed) rfl
  obtain ⟨fd_law_near, F_law_near⟩ := c.def_ 39 (d := d_law_near) rfl
  obtain ⟨fd_law_gcd, F_law_gcd⟩ := c.def_ 40 (d := d_law_gcd) rfl
  obtain ⟨fd_law_shared, F_law_shared⟩ := c.def_ 41 (d := d_law_shared) rfl
  obtain ⟨fd_law_raised, F_law_raised⟩ := c.def_ 42 (d := d_law_raised) rfl
  obtain ⟨fd_law_choose, F_law_choose⟩ := c.def_ 43 (d := d_law_choose) rfl
  obtain ⟨fd_law_plus, F_law_plus⟩ := c.def_ 44 (d := d_law_plus) rfl
  obtain ⟨fd_law_scaled, F_law_scaled⟩ := c.def_ 45 (d := d_law_scaled) rfl
  obtain ⟨fd_law_product, F_law_product⟩ := c.def_ 46 (d := d_law_product) rfl
  obtain ⟨fd_law_all_product, F_law_all_product⟩ := c.def_ 47 (d := d_law_all_product) rfl
  obtain ⟨fd_law_power, F_law_power⟩ := c.def_ 48 (d := d_law_power) rfl
  obtain ⟨fd_law_by_x, F_law_by_x⟩ := c.def_ 49 (d := d_law_by_x) rfl
  obtain ⟨fd_law_by_y, F_law_by_y⟩ := c.def_ 50 (d := d_law_by_y) rfl
  obtain ⟨fd_law_derived, F_law_derived⟩ := c.def_ 51 (d := d_law_derived) rfl
  obtain ⟨fd_law_laid, F_law_laid⟩ := c.def_ 52 (d := d_law_laid) rfl
  obtain ⟨fd_law_changed, F_law_changed⟩ := c.def_ 53 (d := d_law_changed) rfl
  obtain ⟨fd_law_plain, F_law_plain⟩ := c.def_ 54 (d := d_law_plain) rfl
  obtain ⟨fd_law_line, F_law_line⟩ := c.def_ 55 (d := d_law_line) rfl
  obtain ⟨fd_law_point, F_law_point⟩ := c.def_ 56 (d := d_law_point) rfl
  obtain ⟨fd_law_small_form, F_law_small_form⟩ := c.def_ 57 (d := d_law_small_form) rfl
  obtain ⟨fd_law_form, F_law_form⟩ := c.def_ 58 (d := d_law_form) rfl
  obtain ⟨fd_law_table, F_law_table⟩ := c.def_ 59 (d := d_law_table) rfl
  obtain ⟨fd_law_det, F_law_det⟩ := c.def_ 60 (d := d_law_det) rfl
  obtain ⟨fd_law_parted_form, F_law_parted_form⟩ := c.def_ 61 (d := d_law_parted_form) rfl
  obtain ⟨fd_law_invariants, F_law_invariants⟩ := c.def_ 62 (d := d_law_invariants) rfl
  obtain ⟨fd_law_sizes, F_law_sizes⟩ := c.def_ 63 (d := d_law_sizes) rfl
  obtain ⟨fd_law_right, F_law_right⟩ := c.def_ 64 (d := d_law_right) rfl
  obtain ⟨fd_law_falls_right, F_law_falls_right⟩ := c.def_ 65 (d := d_law_falls_right) rfl
  obtain ⟨fd_law, F_law⟩ := c.def_ 66 (d := d_law) rfl
  obtain ⟨fd_Told_init, F_Told_init⟩ := c.def_ 67 (d := d_Told_init) rfl
  obtain ⟨fd_Form_init, F_Form_init⟩ := c.def_ 68 (d := d_Form_init) rfl
  obtain ⟨fd_Form_entries, F_Form_entries⟩ := c.def_ 69 (d := d_Form_entries) rfl
  obtain ⟨fd_Form_degree, F_Form_degree⟩ := c.def_ 70 (d := d_Form_degree) rfl
  obtain ⟨fd_Form_is_zero, F_Form_is_zero⟩ := c.def_ 71 (d := d_Form_is_zero) rfl
  obtain ⟨fd_Form_eq, F_Form_eq⟩ := c.def_ 72 (d := d_Form_eq) rfl
  obtain ⟨fd_Form_len, F_Form_len⟩ := c.def_ 73 (d := d_Form_len) rfl
  obtain ⟨fd_Form_iter, F_Form_iter⟩ := c.def_ 74 (d := d_Form_iter) rfl
  exact ⟨{ f_is_whole := _, fd_is_whole := _, F_is_whole := F_is_whole, b_is_whole := (F_is_whole.bindsN fun _ _ _ _ _ _ us hl => match us, hl with | [_], _ => rfl), g_is_whole := He.glo_ok X G (c.fact 0 (f := .glo "is_whole") rfl), f_is_short := _, fd_is_short := _, F_is_short := F_is_short, b_is_short := (F_is_short.bindsN fun _ _ _ _ _ _ us hl => match us, hl with | [_], _ => rfl), g_is_short := He.glo_ok X G (c.fact 1 (f := .glo "is_short") rfl), f_is_from := _, fd_is_from := _, F_is_from := F_is_from, b_is_from := (F_is_from.bindsN fun _ _ _ _ _ _ us hl => match us, hl with | [_, _, _], _ => rfl), g_is_from := He.glo_ok X G (c.fact 2 (f := .glo "is_from") rfl), f_are_short := _, fd_are_short := _, F_are_short := F_are_short, b_are_short := (F_are_short.bindsN fun _ _ _ _ _ _ us hl => match us, hl with | [_], _ => rfl), g_are_short := He.glo_ok X G (c.fact 3 (f := .glo "are_short") rfl), f_shared_of := _, fd_shared_of := _, F_shared_of := F_shared_of, b_shared_of := (F_shared_of.bindsN fun _ _ _ _ _ _ us hl => match us, hl with | [_], _ => rfl), g_shared_of := He.glo_ok X G (c.fact 4 (f := .glo "shared_of") rfl), f_first_of := _, fd_first_of := _, F_first_of := F_first_of, b_first_of := (F_first_of.bindsN fun _ _ _ _ _ _ us hl => match us, hl with | [_], _ => rfl), g_first_of := He.glo_ok X G (c.fact 5 (f := .glo "first_of") rfl), f_primitive_of := _, fd_primitive_of := _, F_primitive_of := F_primitive_of, b_primitive_of := (F_primitive_of.bindsN fun _ _ _ _ _ _ us hl => match us, hl with | [_], _ => rfl), g_primitive_of := He.glo_ok X G (c.fact 6 (f := .glo "primitive_of") rfl), f_lots_of := _, fd_lots_of := _, F_lots_of := F_lots_of, b_lots_of := (F_lots_of.bindsN fun _ _ _ _ _ _ us hl => match us, hl with | [_, _], _ => rfl), g_lots_of := He.glo_ok X G (c.fact 7 (f := .glo "lots_of") rfl), f_without_zeros := _, fd_without_zeros := _, F_without_zeros := F_without_zeros, b_without_zeros := (F_without_zeros.bindsN fun _ _ _ _ _ _ us hl => match us, hl with | [_], _ => rfl), g_without_zeros := He.glo_ok X G (c.fact 8 (f := .glo "without_zeros") rfl), f_smaller := _, fd_smaller := _, F_smaller := F_smaller, b_smaller := (F_smaller.bindsN fun _ _ _ _ _ _ us hl => match us, hl with | [_], _ => rfl), g_smaller := He.glo_ok X G (c.fact 9 (f := .glo "smaller") rfl), f_left_by := _, fd_left_by := _, F_left_by := F_left_by, b_left_by := (F_left_by.bindsN fun _ _ _ _ _ _ us hl => match us, hl with | [_, _], _ => rfl), g_left_by := He.glo_ok X G (c.fact 10 (f := .glo "left_by") rfl), f_common_of := _, fd_common_of := _, F_common_of := F_common_of, b_common_of := (F_common_of.bindsN fun _ _ _ _ _ _ us hl => match us, hl with | [_, _], _ => rfl), g_common_of := He.glo_ok X G (c.fact 11 (f := .glo "common_of") rfl), f_ends_in := _, fd_ends_in := _, F_ends_in := F_ends_in, b_ends_in := (F_ends_in.bindsN fun _ _ _ _ _ _ us hl => match us, hl with | [_], _ => rfl), g_ends_in := He.glo_ok X G (c.fact 12 (f := .glo "ends_in") rfl), f_common_line := _, fd_common_line := _, F_common_line := F_common_line, b_common_line := (F_common_line.bindsN fun _ _ _ _ _ _ us hl => match us, hl with | [_, _], _ => rfl), g_common_line := He.glo_ok X G (c.fact 13 (f := .glo "common_line") rfl), f_lessened_line := _, fd_lessened_line := _, F_lessened_line := F_lessened_line, b_lessened_line := (F_lessened_line.bindsN fun _ _ _ _ _ _ us hl => match us, hl with | [_], _ => rfl), g_lessened_line := He.glo_ok X G (c.fact 14 (f := .glo "lessened_line") rfl), f_product_in := _, fd_product_in := _, F_product_in := F_product_in, b_product_in := (F_product_in.bindsN fun _ _ _ _ _ _ us hl => match us, hl with | [_, _], _ => rfl), g_product_in := He.glo_ok X G (c.fact 15 (f := .glo "product_in") rfl), f_joined_entries := _, fd_joined_entries := _, F_joined_entries := F_joined_entries, b_joined_entries := (F_joined_entries.bindsN fun _ _ _ _ _ _ us hl => match us, hl with | [_, _], _ => rfl), g_joined_entries := He.glo_ok X G (c.fact 16 (f := .glo "joined_entries") rfl), f_derived_in := _, fd_derived_in := _, F_derived_in := F_derived_in, b_derived_in := (F_derived_in.bindsN fun _ _ _ _ _ _ us hl => match us, hl with | [_, _, _], _ => rfl), g_derived_in := He.glo_ok X G (c.fact 17 (f := .glo "derived_in") rfl), f_is_zero_in := _, fd_is_zero_in := _, F_is_zero_in := F_is_zero_in, b_is_zero_in := (F_is_zero_in.bindsN fun _ _ _ _ _ _ us hl => match us, hl with | [_], _ => rfl), g_is_zero_in := He.glo_ok X G (c.fact 18 (f := .glo "is_zero_in") rfl), f_are_entries := _, fd_are_entries := _, F_are_entries := F_are_entries, b_are_entries := (F_are_entries.bindsN fun _ _ _ _ _ _ us hl => match us, hl with | [_], _ => rfl), g_are_entries := He.glo_ok X G (c.fact 19 (f := .glo "are_entries") rfl), f_form_of := _, fd_form_of := _, F_form_of := F_form_of, b_form_of := (F_form_of.bindsN fun _ _ _ _ _ _ us hl => match us, hl with | [_], _ => rfl), g_form_of := He.glo_ok X G (c.fact 20 (f := .glo "form_of") rfl), f_require_form := _, fd_require_form := _, F_require_form := F_require_form, b_require_form := (F_require_form.bindsN fun _ _ _ _ _ _ us hl => match us, hl with | [_], _ => rfl), g_require_form := He.glo_ok X G (c.fact 21 (f := .glo "require_form") rfl), f_laying_slope := _, fd_laying_slope := _, F_laying_slope := F_laying_slope, b_laying_slope := (F_laying_slope.bindsN fun _ _ _ _ _ _ us hl => match us, hl with | [_, _], _ => rfl), g_laying_slope := He.glo_ok X G (c.fact 22 (f := .glo "laying_slope") rfl), f_laying_slopes := _, fd_laying_slopes := _, F_laying_slopes := F_laying_slopes, b_laying_slopes := (F_laying_slopes.bindsN fun _ _ _ _ _ _ us hl => match us, hl with | [_, _], _ => rfl), g_laying_slopes := He.glo_ok X G (c.fact 23 (f := .glo "laying_slopes") rfl), f_add_product := _, fd_add_product := _, F_add_product := F_add_product, b_add_product := (F_add_product.bindsN fun _ _ _ _ _ _ us hl => match us, hl with | [_, _, _, _], _ => rfl), g_add_product := He.glo_ok X G (c.fact 24 (f := .glo "add_product") rfl), f_laid_in := _, fd_laid_in := _, F_laid_in := F_laid_in, b_laid_in := (F_laid_in.bindsN fun _ _ _ _ _ _ us hl => match us, hl with | [_, _, _], _ => rfl), g_laid_in := He.glo_ok X G (c.fact 25 (f := .glo "laid_in") rfl), f_laid := _, fd_laid := _, F_laid := F_laid, b_laid := (F_laid.bindsN fun _ _ _ _ _ _ us hl => match us, hl with | [_, _, _], _ => rfl), g_laid := He.glo_ok X G (c.fact 26 (f := .glo "laid") rfl), f_require_told := _, fd_require_told := _, F_require_told := F_require_told, b_require_told := (F_require_told.bindsN fun _ _ _ _ _ _ us hl => match us, hl with | [_], _ => rfl), g_require_told := He.glo_ok X G (c.fact 27 (f := .glo "require_told") rfl), f_most_times_in := _, fd_most_times_in := _, F_most_times_in := F_most_times_in, b_most_times_in := (F_most_times_in.bindsN fun _ _ _ _ _ _ us hl => match us, hl with | [_], _ => rfl), g_most_times_in := He.glo_ok X G (c.fact 28 (f := .glo "most_times_in") rfl), f_fall_kind := _, fd_fall_kind := _, F_fall_kind := F_fall_kind, b_fall_kind := (F_fall_kind.bindsN fun _ _ _ _ _ _ us hl => match us, hl with | [_], _ => rfl), g_fall_kind := He.glo_ok X G (c.fact 29 (f := .glo "fall_kind") rfl), f_last_entry := _, fd_last_entry := _, F_last_entry := F_last_entry, b_last_entry := (F_last_entry.bindsN fun _ _ _ _ _ _ us hl => match us, hl with | [_, _, _], _ => rfl), g_last_entry := He.glo_ok X G (c.fact 30 (f := .glo "last_entry") rfl), f_told_of_five := _, fd_told_of_five := _, F_told_of_five := F_told_of_five, b_told_of_five := (F_told_of_five.bindsN fun _ _ _ _ _ _ us hl => match us, hl with | [_], _ => rfl), g_told_of_five := He.glo_ok X G (c.fact 31 (f := .glo "told_of_five") rfl), f_told_of_six := _, fd_told_of_six := _, F_told_of_six := F_told_of_six, b_told_of_six := (F_told_of_six.bindsN fun _ _ _ _ _ _ us hl => match us, hl with | [_], _ => rfl), g_told_of_six := He.glo_ok X G (c.fact 32 (f := .glo "told_of_six") rfl), f_told_in := _, fd_told_in := _, F_told_in := F_told_in, b_told_in := (F_told_in.bindsN fun _ _ _ _ _ _ us hl => match us, hl with | [_], _ => rfl), g_told_in := He.glo_ok X G (c.fact 33 (f := .glo "told_in") rfl), f_told_invariants := _, fd_told_invariants := _, F_told_invariants := F_told_invariants, b_told_invariants := (F_told_invariants.bindsN fun _ _ _ _ _ _ us hl => match us, hl with | [_], _ => rfl), g_told_invariants := He.glo_ok X G (c.fact 34 (f := .glo "told_invariants") rfl), f_law_dice := _, fd_law_dice := _, F_law_dice := F_law_dice, b_law_dice := (F_law_dice.bindsN fun _ _ _ _ _ _ us hl => match us, hl with | [_, _], _ => rfl), g_law_dice := He.glo_ok X G (c.fact 35 (f := .glo "_law_dice") rfl), f_law_roll := _, fd_law_roll := _, F_law_roll := F_law_roll, b_law_roll := (F_law_roll.bindsN fun _ _ _ _ _ _ us hl => match us, hl with | [_, _], _ => rfl), g_law_roll := He.glo_ok X G (c.fact 36 (f := .glo "_law_roll") rfl), f_law_pick := _, fd_law_pick := _, F_law_pick := F_law_pick, b_law_pick := (F_law_pick.bindsN fun _ _ _ _ _ _ us hl => match us, hl with | [_, _], _ => rfl), g_law_pick := He.glo_ok X G (c.fact 37 (f := .glo "_law_pick") rfl), f_law_mixed := _, fd_law_mixed := _, F_law_mixed := F_law_mixed, b_law_mixed := (F_law_mixed.bindsN fun _ _ _ _ _ _ us hl => match us, hl with | [_, _], _ => rfl), g_law_mixed := He.glo_ok X G (c.fact 38 (f := .glo "_law_mixed") rfl), f_law_near := _, fd_law_near := _, F_law_near := F_law_near, b_law_near := (F_law_near.bindsN fun _ _ _ _ _ _ us hl => match us, hl with | [_, _], _ => rfl), g_law_near := He.glo_ok X G (c.fact 39 (f := .glo "_law_near") rfl), f_law_gcd := _, fd_law_gcd := _, F_law_gcd := F_law_gcd, b_law_gcd := (F_law_gcd.bindsN fun _ _ _ _ _ _ us hl => match us, hl with | [_, _], _ => rfl), g_law_gcd := He.glo_ok X G (c.fact 40 (f := .glo "_law_gcd") rfl), f_law_shared := _, fd_law_shared := _, F_law_shared := F_law_shared, b_law_shared := (F_law_shared.bindsN fun _ _ _ _ _ _ us hl => match us, hl with | [_], _ => rfl), g_law_shared := He.glo_ok X G (c.fact 41 (f := .glo "_law_shared") rfl), f_law_raised := _, fd_law_raised := _, F_law_raised := F_law_raised, b_law_raised := (F_law_raised.bindsN fun _ _ _ _ _ _ us hl => match us, hl with | [_, _], _ => rfl), g_law_raised := He.glo_ok X G (c.fact 42 (f := .glo "_law_raised") rfl), f_law_choose := _, fd_law_choose := _, F_law_choose := F_law_choose, b_law_choose := (F_law_choose.bindsN fun _ _ _ _ _ _ us hl => match us, hl with | [_, _], _ => rfl), g_law_choose := He.glo_ok X G (c.fact 43 (f := .glo "_law_choose") rfl), f_law_plus := _, fd_law_plus := _, F_law_plus := F_law_plus, b_law_plus := (F_law_plus.bindsN fun _ _ _ _ _ _ us hl => match us, hl with | [_, _], _ => rfl), g_law_plus := He.glo_ok X G (c.fact 44 (f := .glo "_law_plus") rfl), f_law_scaled := _, fd_law_scaled := _, F_law_scaled := F_law_scaled, b_law_scaled := (F_law_scaled.bindsN fun _ _ _ _ _ _ us hl => match us, hl with | [_, _], _ => rfl), g_law_scaled := He.glo_ok X G (c.fact 45 (f := .glo "_law_scaled") rfl), f_law_product := _, fd_law_product := _, F_law_product := F_law_product, b_law_product := (F_law_product.bindsN fun _ _ _ _ _ _ us hl => match us, hl with | [_, _], _ => rfl), g_law_product := He.glo_ok X G (c.fact 46 (f := .glo "_law_product") rfl), f_law_all_product := _, fd_law_all_product := _, F_law_all_product := F_law_all_product, b_law_all_product := (F_law_all_product.bindsN fun _ _ _ _ _ _ us hl => match us, hl with | [_], _ => rfl), g_law_all_product := He.glo_ok X G (c.fact 47 (f := .glo "_law_all_product") rfl), f_law_power := _, fd_law_power := _, F_law_power := F_law_power, b_law_power := (F_law_power.bindsN fun _ _ _ _ _ _ us hl => match us, hl with | [_, _], _ => rfl), g_law_power := He.glo_ok X G (c.fact 48 (f := .glo "_law_power") rfl), f_law_by_x := _, fd_law_by_x := _, F_law_by_x := F_law_by_x, b_law_by_x := (F_law_by_x.bindsN fun _ _ _ _ _ _ us hl => match us, hl with | [_], _ => rfl), g_law_by_x := He.glo_ok X G (c.fact 49 (f := .glo "_law_by_x") rfl), f_law_by_y := _, fd_law_by_y := _, F_law_by_y := F_law_by_y, b_law_by_y := (F_law_by_y.bindsN fun _ _ _ _ _ _ us hl => match us, hl with | [_], _ => rfl), g_law_by_y := He.glo_ok X G (c.fact 50 (f := .glo "_law_by_y") rfl), f_law_derived := _, fd_law_derived := _, F_law_derived := F_law_derived, b_law_derived := (F_law_derived.bindsN fun _ _ _ _ _ _ us hl => match us, hl with | [_, _, _], _ => rfl), g_law_derived := He.glo_ok X G (c.fact 51 (f := .glo "_law_derived") rfl), f_law_laid := _, fd_law_laid := _, F_law_laid := F_law_laid, b_law_laid := (F_law_laid.bindsN fun _ _ _ _ _ _ us hl => match us, hl with | [_, _, _], _ => rfl), g_law_laid := He.glo_ok X G (c.fact 52 (f := .glo "_law_laid") rfl), f_law_changed := _, fd_law_changed := _, F_law_changed := F_law_changed, b_law_changed := (F_law_changed.bindsN fun _ _ _ _ _ _ us hl => match us, hl with | [_, _], _ => rfl), g_law_changed := He.glo_ok X G (c.fact 53 (f := .glo "_law_changed") rfl), f_law_plain := _, fd_law_plain := _, F_law_plain := F_law_plain, b_law_plain := (F_law_plain.bindsN fun _ _ _ _ _ _ us hl => match us, hl with | [_], _ => rfl), g_law_plain := He.glo_ok X G (c.fact 54 (f := .glo "_law_plain") rfl), f_law_line := _, fd_law_line := _, F_law_line := F_law_line, b_law_line := (F_law_line.bindsN fun _ _ _ _ _ _ us hl => match us, hl with | [_], _ => rfl), g_law_line := He.glo_ok X G (c.fact 55 (f := .glo "_law_line") rfl), f_law_point := _, fd_law_point := _, F_law_point := F_law_point, b_law_point := (F_law_point.bindsN fun _ _ _ _ _ _ us hl => match us, hl with | [_, _], _ => rfl), g_law_point := He.glo_ok X G (c.fact 56 (f := .glo "_law_point") rfl), f_law_small_form := _, fd_law_small_form := _, F_law_small_form := F_law_small_form, b_law_small_form := (F_law_small_form.bindsN fun _ _ _ _ _ _ us hl => match us, hl with | [_, _, _], _ => rfl), g_law_small_form := He.glo_ok X G (c.fact 57 (f := .glo "_law_small_form") rfl), f_law_form := _, fd_law_form := _, F_law_form := F_law_form, b_law_form := (F_law_form.bindsN fun _ _ _ _ _ _ us hl => match us, hl with | [_, _], _ => rfl), g_law_form := He.glo_ok X G (c.fact 58 (f := .glo "_law_form") rfl), f_law_table := _, fd_law_table := _, F_law_table := F_law_table, b_law_table := (F_law_table.bindsN fun _ _ _ _ _ _ us hl => match us, hl with | [_, _], _ => rfl), g_law_table := He.glo_ok X G (c.fact 59 (f := .glo "_law_table") rfl), f_law_det := _, fd_law_det := _, F_law_det := F_law_det, b_law_det := (F_law_det.bindsN fun _ _ _ _ _ _ us hl => match us, hl with | [_], _ => rfl), g_law_det := He.glo_ok X G (c.fact 60 (f := .glo "_law_det") rfl), f_law_parted_form := _, fd_law_parted_form := _, F_law_parted_form := F_law_parted_form, b_law_parted_form := (F_law_parted_form.bindsN fun _ _ _ _ _ _ us hl => match us, hl with | [_, _], _ => rfl), g_law_parted_form := He.glo_ok X G (c.fact 61 (f := .glo "_law_parted_form") rfl), f_law_invariants := _, fd_law_invariants := _, F_law_invariants := F_law_invariants, b_law_invariants := (F_law_invariants.bindsN fun _ _ _ _ _ _ us hl => match us, hl with | [_], _ => rfl), g_law_invariants := He.glo_ok X G (c.fact 62 (f := .glo "_law_invariants") rfl), f_law_sizes := _, fd_law_sizes := _, F_law_sizes := F_law_sizes, b_law_sizes := (F_law_sizes.bindsN fun _ _ _ _ _ _ us hl => match us, hl with | [_], _ => rfl), g_law_sizes := He.glo_ok X G (c.fact 63 (f := .glo "_law_sizes") rfl), f_law_right := _, fd_law_right := _, F_law_right := F_law_right, b_law_right := (F_law_right.bindsN fun _ _ _ _ _ _ us hl => match us, hl with | [_, _], _ => rfl), g_law_right := He.glo_ok X G (c.fact 64 (f := .glo "_law_right") rfl), f_law_falls_right := _, fd_law_falls_right := _, F_law_falls_right := F_law_falls_right, b_law_falls_right := (F_law_falls_right.bindsN fun _ _ _ _ _ _ us hl => match us, hl with | [_, _], _ => rfl), g_law_falls_right := He.glo_ok X G (c.fact 65 (f := .glo "_law_falls_right") rfl), f_law := _, fd_law := _, F_law := F_law, b_law := (F_law.bindsN fun _ _ _ _ _ _ us hl => match us, hl with | [_], _ => rfl), g_law := He.glo_ok X G (c.fact 66 (f := .glo "law") rfl), f_Told_init := _, fd_Told_init := _, F_Told_init := F_Told_init, b_Told_init := (F_Told_init.bindsN fun _ _ _ _ _ _ us hl => match us, hl with | [_, _], _ => rfl), f_Form_init := _, fd_Form_init := _, F_Form_init := F_Form_init, b_Form_init := (F_Form_init.bindsN fun _ _ _ _ _ _ us hl => match us, hl with | [_, _], _ => rfl), f_Form_entries := _, fd_Form_entries := _, F_Form_entries := F_Form_entries, b_Form_entries := (F_Form_entries.bindsN fun _ _ _ _ _ _ us hl => match us, hl with | [_], _ => rfl), f_Form_degree := _, fd_Form_degree := _, F_Form_degree := F_Form_degree, b_Form_degree := (F_Form_degree.bindsN fun _ _ _ _ _ _ us hl => match us, hl with | [_], _ => rfl), f_Form_is_zero := _, fd_Form_is_zero := _, F_Form_is_zero := F_Form_is_zero, b_Form_is_zero := (F_Form_is_zero.bindsN fun _ _ _ _ _ _ us hl => match us, hl with | [_], _ => rfl), f_Form_eq := _, fd_Form_eq := _, F_Form_eq := F_Form_eq, b_Form_eq := (F_Form_eq.bindsN fun _ _ _ _ _ _ us hl => match us, hl with | [_, _], _ => rfl), f_Form_len := _, fd_Form_len := _, F_Form_len := F_Form_len, b_Form_len := (F_Form_len.bindsN fun _ _ _ _ _ _ us hl => match us, hl with | [_], _ => rfl), f_Form_iter := _, fd_Form_iter := _, F_Form_iter := F_Form_iter, b_Form_iter := (F_Form_iter.bindsN fun _ _ _ _ _ _ us hl => match us, hl with | [_], _ => rfl), C_Told := He.ga K "Told", g_Told := He.glo_ok X G (c.fact 67 (f := .glo "Told") rfl), mk_Told := He.mkr_ok (c.fact 90 (f := .mkr "Told") rfl), C_Form := He.ga K "Form", g_Form := He.glo_ok X G (c.fact 68 (f := .glo "Form") rfl), mk_Form := He.mkr_ok (c.fact 91 (f := .mkr "Form") rfl), z_abs := He.free_ok X G (c.fact 69 (f := .free "abs") rfl), z_all := He.free_ok X G (c.fact 70 (f := .free "all") rfl), z_any := He.free_ok X G (c.fact 71 (f := .free "any") rfl), z_bool := He.free_ok X G (c.fact 72 (f := .free "bool") rfl), z_enumerate := He.free_ok X G (c.fact 73 (f := .free "enumerate") rfl), z_int := He.free_ok X G (c.fact 74 (f := .free "int") rfl), z_isinstance := He.free_ok X G (c.fact 75 (f := .free "isinstance") rfl), z_iter := He.free_ok X G (c.fact 76 (f := .free "iter") rfl), z_len := He.free_ok X G (c.fact 77 (f := .free "len") rfl), z_list := He.free_ok X G (c.fact 78 (f := .free "list") rfl), z_max := He.free_ok X G (c.fact 79 (f := .free "max") rfl), z_min := He.free_ok X G (c.fact 80 (f := .free "min") rfl), z_next := He.free_ok X G (c.fact 81 (f := .free "next") rfl), z_range := He.free_ok X G (c.fact 82 (f := .free "range") rfl), z_repr := He.free_ok X G (c.fact 83 (f := .free "repr") rfl), z_tuple := He.free_ok X G (c.fact 84 (f := .free "tuple") rfl), z_zip := He.free_ok X G (c.fact 85 (f := .free "zip") rfl), c_GREATEST := He.int_ok X G (c.fact 86 (f := .int "GREATEST" 1000000000000000000000000000000000000000000000000000000000000) rfl), c_MAX_DEGREE := He.int_ok X G (c.fact 87 (f := .int "MAX_DEGREE" 40) rfl), c_MOST_LAID := He.int_ok X G (c.fact 88 (f := .int "MOST_LAID" 40) rfl), c_MAX_TOLD := He.int_ok X G (c.fact 89 (f := .int "MAX_TOLD" 6) rfl), c_first_of := HookT.codA K ((HookG.At.glo "first_of").adr K), P_first_of := He.tabOf K (HookT.codA K ((HookG.At.glo "first_of").adr K)), code_first_of := HookT.code_of F_first_of, tab_first_of := rfl, m_gcd := PySem.W.mg_of X G (He.eqO_ok ex_0), oc_Told := OwnF.ocB_ok ex_1, a_own_row := _, sl_own_row := HookG.slotB_ok ex_2 (by decide), oc_Form := OwnF.ocB_ok ex_3, a_own_entries := _, sl_own_entries := HookG.slotB_ok ex_4 (by decide), mt_Told_init := HookG.mtB_ok ex_5, mt_Form_init := HookG.mtB_ok ex_6, p_Form_entries := _, pr_Form_entries := HookG.prB_ok ex_7, p_Form_degree := _, pr_Form_degree := HookG.prB_ok ex_8, p_Form_is_zero := _, pr_Form_is_zero := HookG.prB_ok ex_9, mt_Form_eq := HookG.mtB_ok ex_10, mt_Form_len := HookG.mtB_ok ex_11, mt_Form_iter := HookG.mtB_ok ex_12, kit_Told_Form := HookG.dO_ok ex_13, kit_Form_Told := HookG.dO_ok ex }⟩

end K45

set_option Elab.async false
set_option linter.all false
set_option maxRecDepth 100000
set_option maxHeartbeats 0
namespace K45
open PySem PySem.Spec PyProof.Rows L2
abbrev R : PySem.W.OpenRow := PySem.W.OpenLaw.row PySem.Challenge.rw_sourceforms_k45_whole_told_invariants
abbrev hk : PySem.W.Hook := HookT.hookT 5 faL fnL tfL exL
def ob (s : PySem.W.SharedT) : HookT.AlGT := HookT.obsGT 5 faL fnL tfL exL (HandSHeadRun.getT s)
theorem ob_eq (s : PySem.W.SharedT) : ob s = hk.obs s.abs := HookT.obsGT_eq (HandSHeadRun.getT_eq s)
def loose0 : List Str := ["_wall", "LetterError", "InvalidForm", "InvalidTable", "InvalidPoint", "InvalidOperation", "InvalidNumber", "TooMany", "GREATEST", "is_whole", "is_short", "is_from", "are_short", "require_short", "require_from", "shared_of", "first_of", "primitive_of", "lots_of", "is_change", "require_change", "without_zeros", "smaller", "left_by", "common_of", "ends_in", "common_line", "lessened_line", "MAX_DEGREE", "product_in"]
def loose1 : List Str := ["joined_entries", "power_in", "value_in", "changed_in", "derived_in", "is_zero_in", "Told", "are_entries", "Form", "form_of", "require_form", "sum_in", "MOST_LAID", "laying_slope", "laying_slopes", "add_product", "laid_in", "laid", "MAX_TOLD", "require_told", "most_times_in", "fall_kind", "last_entry", "told_of_five", "told_of_six", "told_in", "told_invariants", "_law_dice", "_law_roll", "_law_pick"]
def loose2 : List Str := ["_law_mixed", "_law_near", "_law_gcd", "_law_shared", "_law_raised", "_law_choose", "_law_plus", "_law_scaled", "_law_product", "_law_all_product", "_law_power", "_law_by_x", "_law_by_y", "_law_derived", "_law_laid", "_law_changed", "_law_plain", "_law_line", "_law_point", "_law_small_form", "_law_form", "_law_table", "_law_det", "_law_parted_form", "_law_invariants", "_law_sizes", "_law_right", "_law_falls_right"]
def loose : List Str := loose0 ++ loose1 ++ loose2
theorem run (w : World) : HandSHeadRun.RunEqI R (PySem.W.view R.prog [0, 96]) hk ob 12000 loose w := by
  show (_ : Option _) = _
  kernel_rfl
end K45

set_option Elab.async false
set_option linter.all false
set_option maxRecDepth 100000
set_option maxHeartbeats 1000000
/-! promises for a place where no repr is under way, from the law's caller on -/
namespace GuardE
open PySem PySem.Spec PyProof.Rows L2 He HookG
/-- what a def promises where no repr is under way -/
structure FnG (P : Program) (w : World) (K : PySem.W.Frag) (mg : Str → Option Value) (base : Heap) (CX : CXT) (k : Nat) (f : Addr) (fd : FuncData) (ps : List Str) (sp : Sp) : Prop where
  len : ∀ vs H Q E, sp vs H Q E → vs.length = ps.length
  run : ∀ (A : Around) (outer : List Env) (s : Shared) (H : Hp) (args : Args) (us : List Value) (vs : List V) (Q : VK) (E : XK), A.guards = some [] → Room k A → Env0 P w K mg base A outer s H → BindsTo s fd args (ps.zip us) → Vals vs us → sp vs H Q E →
    codeAny (model P w) A (.call (.ref f) args) (CR CX outer P w H s Q E) s
/-- a def of the text, by its body -/
theorem okG {P : Program} {w : World} {K : PySem.W.Frag} {mg : Str → Option Value} {base : Heap} {x qual : Str} {params : Arguments} {body : List Stmt} {scope : Scope} {dvs : List V} {kws : List (Str × V)} {f : Addr} {fd : FuncData} {CX : CXT} {N ps : List Str} {k : Nat} {sp : Sp}
    (F : FunD K x qual params body scope dvs kws f fd) (S : FnScope N ps scope) (len : ∀ vs H Q E, sp vs H Q E → vs.length = ps.length)
    (hbody : ∀ (A : Around) (outer : List Env) (s : Shared) (H : Hp) (vs : List V) (Q : VK) (E : XK), (A.deeper (envOfC qual scope s.heap.objs.size f fd.code)).guards = some [] → Room k (A.deeper (envOfC qual scope s.heap.objs.size f fd.code)) → sp vs H Q E →
      ∃ t, PSs (cxOf CX P w K mg base N qual scope f fd.code A outer s H E) body t ∧ t { nx := fun _ H' => Q .non H', rt := Q } (start N vs) H) : FnG P w K mg base CX (k + 1) f fd ps sp := by
  obtain ⟨oc, od, dV, kV, doc, pm, an, cdv, ct, osl, rfl, lk, hcd, _, _⟩ := F.ex
  exact ⟨len, fun A outer s H args us vs Q E hg hr e0 hb r hsp => LamX.run_ofS lk hcd S hr e0 hb r (len _ _ _ _ hsp) fun hr' => hbody A outer s H vs Q E hg hr' hsp⟩
section
variable {X : Cx} {CX : CXT} {k : Nat} {f : Addr} {fd : FuncData} {ps : List Str} {sp : Sp} {dvs : List V} {ds : List Value} {E : XK} {x : Str} {p pos : Pos} {e : Expr} {es : List Expr} {t : TA}
theorem pe_callG (F : FnG X.prog X.w X.K X.mg X.base CX k f fd ps sp) (hG : X.A.guards = some []) (hr : Room k X.A) (hg : Gl X x) (hm : X.mg x = some (.ref f)) (hk : PySem.W.keepIn X.K (.ref f) = true) (hb : Binds X.K fd ps ds) (hd : Vals dvs ds) (hx : Passes CX X E)
    (ha : PA X (e :: es) t) (hdb : (x == ("__debug__" : Str)) = false := by decide) (he : starEach (e :: es) X.env = (false, eval e X.env) :: starEach es X.env := by rfl) (hpl : (backTo pos (starEach es X.env)).any (·.1) = false := by rfl) :
    PE X (.Call (.Name x p) (e :: es) [] pos) (tCall sp dvs E t) := by
  refine ⟨fun pins s σ H Q I h => wpAny_Call_Name_kw (ld_glob I hg hm (PySem.W.callWith_K (h₀ := X.base) I.ok.mod.kin hk (thn (ha.run pos pins s σ H _ I h) fun us s1 ⟨vs, H1, I1, r, q⟩ => ⟨I1.kIn, wpAny_call ?_⟩) he hpl) hdb)⟩
  have rr : Vals (vs ++ dvs) (us ++ ds) := r.append hd
  have hl : (us ++ ds).length = ps.length := rr.length.symm.trans (F.len _ _ _ _ q)
  refine codeAny_mono (F.run X.A X.stack s1 H1 ⟨us, []⟩ (us ++ ds) (vs ++ dvs) Q E hG hr I1.env0 (hb s1 us I1.kIn hl) rr q) fun z s' hz => ?_
  match z, hz with
  | .error e, hz => exact hx pins σ H1 s1 e s' I1 hz
  | .ok (.ret u), hz => exact I1.after hz
end
/-! ### the law's caller -/
section
variable {K : PySem.W.Frag} {a b : Addr} {lo u : HO} {ts : List Addr} {h : Heap} {o : Obj}
/-- what is tracked where the law begins: the tables, and the script if it is not written -/
def startH (K : PySem.W.Frag) (a : Addr) (lo : HO) (ts : List Addr) : Hp := fun b => if b ∈ ts then some (.tbl #[]) else if b = a ∧ K.lookup a = none then some lo else none
theorem start_tab (m : b ∈ ts) : startH K a lo ts b = some (.tbl #[]) := if_pos m
theorem start_cases (e : startH K a lo ts b = some u) : (b ∈ ts ∧ u = .tbl #[]) ∨ (b = a ∧ K.lookup a = none ∧ u = lo) := by
  unfold startH at e
  by_cases m : b ∈ ts
  · rw [if_pos m] at e
    exact .inl ⟨m, (Option.some.inj e).symm⟩
  · rw [if_neg m] at e
    by_cases q : b = a ∧ K.lookup a = none
    · rw [if_pos q] at e
      exact .inr ⟨q.1, q.2, (Option.some.inj e).symm⟩
    · rw [if_neg q] at e
      cases e
end
theorem topG {P : Program} {w : World} {K : PySem.W.Frag} {mg mb : Str → Option Value} {CX : CXT} {k : Nat} {fa a : Addr} {cs : List (Addr × Addr)} {fd : FuncData} {x : Str} {sp : Sp} {s : Shared} {vs : List Value} {ns : List Int}
    (KX : K.In s.heap) (hns : s.heap.Ns mainGlobals mg) (hb : s.heap.Ns builtinsNs mb) (hbb : ∀ x : Str, x ≠ "__name__" → mb x = bootBuiltins x) (hlim : s.heap.NoLimit) (hg : s.gens = #[])
    (hT : ∀ p ∈ cs, s.heap.get? p.2 = some { cls := .none, data := .fields #[] }) (nT : ∀ p ∈ cs, K.lookup p.2 = none) (C : ∀ p ∈ cs, PySem.W.CodeHd s.heap p.1 p.2)
    (hbm : ∃ (bm : Addr) (ob : Obj), mg "__builtins__" = some (.ref bm) ∧ bm ≠ builtinsNs ∧ s.heap.get? bm = some ob ∧ ob.cls = .type "module" ∧ ob.dict = some builtinsNs ∧ ob.data = .plain)
    (ha : s.heap.get? a = some { cls := .type "list", data := .seq vs.toArray }) (hi : IntsAre vs ns) (hl : ns.length ≤ sizeLine) (hr : Room k callerA)
    (F : ∀ base : Heap, K.In base → base.Ns mainGlobals mg → (∀ p ∈ cs, LamX.TabB base mg p.1 p.2) → FnG P w K mg base CX k fa fd [x] sp) (hbind : ∀ (s : Shared) (u : Value), BindsTo s fd ⟨[u], []⟩ [(x, u)])
    (hsp : ∀ H : Hp, (∀ p ∈ cs, H p.2 = some (.tbl #[])) → SqL K H a (ns.map V.int) → sp [.ref a] H (fun v _ => v = .bl true) fun _ _ _ => False)
    (hCX : ∀ H e s', CX [] H s (fun _ _ _ => False) e s' → False) :
    codeAny (model P w) callerA (.call (.ref fa) ⟨[.ref a], []⟩) (fun r s' => r = .ok (.ret (.bool true)) ∧ OldK s.heap s'.heap ∧ s'.os = s.os ∧ AllBare s'.gens) s := by
  have hv := vals_ints hi
  have hz := hi.length
  obtain ⟨ts, ets⟩ : ∃ ts : List Addr, ts = cs.map (·.2) := ⟨_, rfl⟩
  obtain ⟨ol, eol⟩ : ∃ ol : Obj, ol = { cls := .type "list", data := .seq vs.toArray } := ⟨_, rfl⟩
  rw [← eol] at ha
  have inT : ∀ p ∈ cs, p.2 ∈ ts := fun p hp => by rw [ets]; exact List.mem_map.mpr ⟨p, hp, rfl⟩
  have ofT : ∀ b, b ∈ ts → ∃ p ∈ cs, b = p.2 := fun b m => by
    rw [ets] at m
    obtain ⟨p, hp, e⟩ := List.mem_map.mp m
    exact ⟨p, hp, e.symm⟩
  obtain ⟨H, eH⟩ : ∃ H, H = startH K a (.frz ol (.lst (ns.map V.int))) ts := ⟨_, rfl⟩
  have cases_ : ∀ {b u}, H b = some u → (b ∈ ts ∧ u = .tbl #[]) ∨ (b = a ∧ K.lookup a = none ∧ u = .frz ol (.lst (ns.map V.int))) := fun e => start_cases (by rw [← eH]; exact e)
  have hTab : ∀ p ∈ cs, H p.2 = some (.tbl #[]) := fun p hp => by rw [eH]; exact start_tab (inT p hp)
  -- an object that is neither a list nor an empty table is seen
  have seen : ∀ {b o}, s.heap.get? b = some o → (∀ ys n, o.data ≠ .seq ys n) → o.data ≠ .fields #[] → H b = none := fun {b o} e n1 n2 => by
    cases q : H b with
    | none => rfl
    | some u =>
      rcases cases_ q with ⟨m, _⟩ | ⟨r, _, _⟩
      · obtain ⟨p, hp, r⟩ := ofT b m
        rw [r, hT p hp] at e
        exact absurd (congrArg Obj.data (Option.some.inj e)).symm n2
      · rw [r, ha] at e
        have := congrArg Obj.data (Option.some.inj e)
        rw [eol] at this
        exact absurd this.symm (n1 _ _)
  have aT : a ∉ ts := fun m => by
    obtain ⟨p, hp, r⟩ := ofT a m
    have := hT p hp
    rw [← r, ha, eol] at this
    have := congrArg Obj.data (Option.some.inj this)
    cases this
  have hS : SqL K H a (ns.map V.int) := by
    cases q : K.lookup a with
    | some o =>
      have := KX a o q
      rw [ha, eol] at this
      cases this
      exact .inr ⟨_, vs.toArray, _, q, rfl, rfl, rfl, by rw [List.size_toArray, hz]; exact hl, by simpa using hv⟩
    | none =>
      refine .inl (.inr ⟨ol, ?_⟩)
      rw [eH]
      unfold startH
      rw [if_neg aT, if_pos ⟨rfl, q⟩]
  have hok : HOk P w H s.heap := fun b u e => by
    rcases cases_ e with ⟨m, r⟩ | ⟨r1, _, r⟩
    · obtain ⟨p, hp, q⟩ := ofT b m
      rw [r, q]
      exact hT p hp
    · rw [r, r1]
      refine ⟨ha, by rw [List.length_map]; exact hl, vs, 0, hv, ?_⟩
      rw [ha, eol]
  obtain ⟨B, eB⟩ : ∃ B, B = hidT s.heap H := ⟨_, rfl⟩
  have inB : ∀ {b o}, s.heap.get? b = some o → H b = none → B.get? b = some o := fun e n => by rw [eB]; exact hidT_get e n
  have nsB : ∀ {b m}, s.heap.Ns b m → B.Ns b m := fun {b m} ⟨o, es, ep, e, d, r⟩ => ⟨o, es, ep, inB e (seen e (fun ys n z => by rw [d] at z; cases z) fun z => by rw [d] at z; cases z), d, r⟩
  have KB : K.In B := fun b o e => inB (KX b o e) (by
    cases q : H b with
    | none => rfl
    | some u =>
      rcases cases_ q with ⟨m, _⟩ | ⟨r, n, _⟩
      · obtain ⟨p, hp, r⟩ := ofT b m
        rw [r, nT p hp] at e
        cases e
      · rw [r, n] at e
        cases e)
  obtain ⟨mc, l1, l2⟩ := hlim
  have hM : L2.Mod K mg B := ⟨KB, nsB hns, ⟨mb, nsB hb, hbb⟩, ⟨mc, nsB l1, l2⟩⟩
  have TB : ∀ p ∈ cs, LamX.TabB B mg p.1 p.2 := fun p hp => by
    obtain ⟨o, us, file, tf, flags, tg, inF, text, tt, e1, r1, r2, r3, rest⟩ := C p hp
    obtain ⟨bm, ob, b1, b2, b3, b4, b5, b6⟩ := hbm
    obtain ⟨og, es, ep, g1, g2, _⟩ := id hns
    refine ⟨⟨o, us, file, tf, flags, tg, inF, text, tt, inB e1 (seen e1 (fun ys n z => by rw [r2] at z; cases z) fun z => ?_), r1, r2, r3, rest⟩, ⟨bm, ob, b1, b2, fun z => ?_, fun z => ?_, inB b3 (seen b3 (fun ys n z => by rw [b6] at z; cases z) fun z => by rw [b6] at z; cases z), b4, b5, b6⟩, fun z => ?_⟩
    · rw [r2] at z
      cases z
      simp at r3
    · rw [z, g1] at b3
      cases b3
      rw [b6] at g2
      cases g2
    · rw [z, hT p hp] at b3
      cases b3
      cases b6
    · rw [z, hT p hp] at g1
      cases g1
      cases g2
  have e0 : Env0 P w K mg B callerA [] s H := ⟨rfl, hM, fun b o e => of_hidT (by rw [← eB]; exact e), by rw [eB]; exact Nat.le_of_eq (hidT_size _ _), trivial, fun b m => (nomatch m), hok, .of_eq hg⟩
  refine codeAny_mono ((F B KB (nsB hns) TB).run callerA [] s H ⟨[.ref a], []⟩ [.ref a] [.ref a] _ _ rfl hr e0 (hbind s (.ref a)) (.cons rfl .nil) (hsp H hTab hS)) fun z s' q => ?_
  match z, q with
  | .error e, q => exact (hCX H e s' q).elim
  | .ok (.ret u), q =>
    obtain ⟨v, H', os, bare, un, hok', r, qv⟩ := q
    have qv : v = .bl true := qv
    subst qv
    obtain rfl : u = Value.bool true := r
    have same : ∀ b o, b ∉ ts → s.heap.get? b = some o → s'.heap.get? b = some o := fun b o nb e => by
      cases q : H b with
      | none => exact un.keep b o e q (fun m => (nomatch m)) (fun m => (nomatch m))
      | some u =>
        rcases cases_ q with ⟨m, _⟩ | ⟨_, _, r⟩
        · exact absurd m nb
        · rw [r] at q
          have := un.frzs b ol _ q
          have h1 := (hok b _ q).1
          have h2 := (hok' b _ this).1
          rw [e] at h1
          rw [h2, ← h1]
    have more : ∀ p ∈ cs, ∃ ps : Array Value, s'.heap.get? p.2 = some { cls := .none, data := .fields ps } := fun p hp => by
      obtain ⟨m, z⟩ := un.tbls p.2 #[] (hTab p hp)
      exact ⟨_, hok' p.2 _ z⟩
    refine ⟨rfl, ⟨fun b o e => ?_, fun b o e => ?_⟩, os, bare⟩
    · by_cases m : b ∈ ts
      · obtain ⟨p, hp, rp⟩ := ofT b m
        obtain ⟨ps, hps⟩ := more p hp
        rw [rp] at e ⊢
        rw [hT p hp] at e
        cases e
        exact .inr (.inl ⟨((C p hp).tab (hT p hp)).isCodeTable, rfl, #[], ps, rfl, by rw [Array.empty_append]; exact hps⟩)
      · exact .inl (same b o m e)
    · by_cases m : b ∈ ts
      · obtain ⟨p, hp, rp⟩ := ofT b m
        obtain ⟨ps, hps⟩ := more p hp
        rw [rp]
        exact ⟨_, hps⟩
      · exact ⟨o, same b o m e⟩
/-- what is known of the law's promise at the head's heap -/
def LawG (l : PySem.W.OpenLaw) (w : World) (K : PySem.W.Frag) (CX : CXT) (k n : Nat) (x : Str) (mg : Str → Option Value) (fa : Addr) (h : Heap) : Prop :=
  ∃ (fd : FuncData) (cs : List (Addr × Addr)) (sp : Sp), (∀ p ∈ cs, h.get? p.2 = some { cls := .none, data := .fields #[] }) ∧ (∀ p ∈ cs, K.lookup p.2 = none) ∧ (∀ p ∈ cs, PySem.W.CodeHd h p.1 p.2) ∧ (∀ (s : Shared) (u : Value), BindsTo s fd ⟨[u], []⟩ [(x, u)]) ∧
    (∀ (H : Hp) (a : Addr) (ns : List Int), ns.length ≤ n → (∀ p ∈ cs, H p.2 = some (.tbl #[])) → SqL K H a (ns.map V.int) → sp [.ref a] H (fun v _ => v = .bl true) fun _ _ _ => False) ∧
    ∀ base : Heap, K.In base → base.Ns mainGlobals mg → (∀ p ∈ cs, LamX.TabB base mg p.1 p.2) → FnG l.prog w K mg base CX k fa fd [x] sp
theorem walk_G {l : PySem.W.OpenLaw} {n k : Nat} {q : Program} {loose : List Str} {XP : (Str → Option Value) → Heap → Prop} {YP : World → Heap → Prop} {d : DefRec} {CX : World → CXT} {x : Str}
    (hn : l.most = some n) (hn2 : n ≤ sizeLine) (hdf : d.params.defaults = []) (hr : Room k callerA)
    (F : ∀ (w : World) (mg : Str → Option Value) (fa : Addr) (h : Heap), YP w h → h.Ns mainGlobals mg → mg d.name = some (.ref fa) → ∃ K : PySem.W.Frag, K.In h ∧ LawG l w K (CX w) k n x mg fa h)
    (hCX : ∀ (w : World) (H : Hp) (s : Shared) (e : Value) (s' : Shared), CX w [] H s (fun _ _ _ => False) e s' → False) :
    PySem.W.WalkO q loose XP YP l.row.toRowW d [] (fun f vs => PySem.call f vs) := by
  refine Att.attach_callB hn hdf fun w s₀ s mg mb fa o pm cd doc a vs ns G Y _ _ _ hmg hobj hints hlen _ hg => ?_
  obtain ⟨K, KX, fd, cs, sp, hT, nT, C, hb, hsp, hF⟩ := F w mg fa _ Y G.T.g hmg
  exact topG KX G.T.g G.T.b G.T.builtins G.T.nolimit hg hT nT C G.T.bmain hobj hints (Nat.le_trans hlen hn2) hr hF hb (fun H hH hS => hsp H a ns hlen hH hS) fun H e s' => hCX w H s e s'
end GuardE

set_option Elab.async false
set_option linter.all false
set_option maxRecDepth 100000
/-! products of forms: the plain law -/
namespace K45
/-- the entry at a place, 0 behind the end -/
def co (l : List Int) (k : Nat) : Int := l.getD k 0
/-- the entries of a product -/
def cv : List Int → (Nat → Int) → Nat → Int
  | [], _, _ => 0
  | x :: xs, g, k => x * g k + (match k with
    | 0 => 0
    | k + 1 => cv xs g k)
theorem cv_nil (g : Nat → Int) (k : Nat) : cv [] g k = 0 := rfl
theorem cv_zero (x : Int) (xs : List Int) (g : Nat → Int) : cv (x :: xs) g 0 = x * g 0 := by show x * g 0 + 0 = _; omega
theorem cv_succ (x : Int) (xs : List Int) (g : Nat → Int) (k : Nat) : cv (x :: xs) g (k + 1) = x * g (k + 1) + cv xs g k := rfl
theorem cv_congr {g h : Nat → Int} : ∀ (l : List Int) (k : Nat), (∀ i, i ≤ k → g i = h i) → cv l g k = cv l h k
  | [], _, _ => rfl
  | x :: xs, 0, e => by rw [cv_zero, cv_zero, e 0 (Nat.le_refl _)]
  | x :: xs, k + 1, e => by rw [cv_succ, cv_succ, e (k + 1) (Nat.le_refl _), cv_congr xs k fun i hi => e i (by omega)]
theorem cv_ext {g h : Nat → Int} (l : List Int) (e : ∀ i, g i = h i) (k : Nat) : cv l g k = cv l h k := cv_congr l k fun i _ => e i
theorem cv_add (l : List Int) (g h : Nat → Int) : ∀ k, cv l (fun i => g i + h i) k = cv l g k + cv l h k := by
  induction l with
  | nil => intro k; rfl
  | cons x xs ih =>
    intro k
    cases k with
    | zero => rw [cv_zero, cv_zero, cv_zero, Int.mul_add]
    | succ k => rw [cv_succ, cv_succ, cv_succ, ih, Int.mul_add]; omega
theorem cv_mul (l : List Int) (c : Int) (g : Nat → Int) : ∀ k, cv l (fun i => c * g i) k = c * cv l g k := by
  induction l with
  | nil => intro k; show (0 : Int) = c * 0; rw [Int.mul_zero]
  | cons x xs ih =>
    intro k
    cases k with
    | zero => rw [cv_zero, cv_zero]; rw [← Int.mul_assoc, Int.mul_comm x c, Int.mul_assoc]
    | succ k => rw [cv_succ, cv_succ, ih, Int.mul_add, ← Int.mul_assoc, Int.mul_comm x c, Int.mul_assoc]
theorem cv_zeroF (l : List Int) : ∀ k, cv l (fun _ => 0) k = 0 := by
  induction l with
  | nil => intro k; rfl
  | cons x xs ih =>
    intro k
    cases k with
    | zero => rw [cv_zero, Int.mul_zero]
    | succ k => rw [cv_succ, ih, Int.mul_zero]; rfl
/-- what is moved by one place -/
def sh (g : Nat → Int) : Nat → Int
  | 0 => 0
  | k + 1 => g k
theorem cv_sh (l : List Int) (g : Nat → Int) : ∀ k, cv l (sh g) k = sh (cv l g) k := by
  induction l with
  | nil => intro k; cases k <;> rfl
  | cons x xs ih =>
    intro k
    cases k with
    | zero => rw [cv_zero]; show x * 0 = 0; rw [Int.mul_zero]
    | succ k =>
      rw [cv_succ, ih]
      show x * g k + sh (cv xs g) k = cv (x :: xs) g k
      cases k with
      | zero => rw [cv_zero]; show x * g 0 + 0 = x * g 0; omega
      | succ k => rw [cv_succ] <;> rfl
theorem cv_cons (x : Int) (xs : List Int) (g : Nat → Int) (k : Nat) : cv (x :: xs) g k = x * g k + sh (cv xs g) k := by
  cases k with
  | zero => rw [cv_zero]; show x * g 0 = x * g 0 + 0; omega
  | succ k => rw [cv_succ] <;> rfl
theorem co_cons (x : Int) (xs : List Int) (k : Nat) : co (x :: xs) k = (if k = 0 then x else 0) + sh (co xs) k := by
  cases k with
  | zero => show x = x + 0; omega
  | succ k =>
    show co xs k = (if k + 1 = 0 then x else 0) + co xs k
    rw [if_neg (by omega)]
    omega
/-- a constant times -/
theorem cv_one (l : List Int) : ∀ k, cv l (fun i => if i = 0 then 1 else 0) k = co l k := by
  induction l with
  | nil => intro k; rfl
  | cons x xs ih =>
    intro k
    cases k with
    | zero => rw [cv_zero, if_pos rfl, Int.mul_one]; rfl
    | succ k => rw [cv_succ, if_neg (by omega), Int.mul_zero, ih]; show 0 + co xs k = co xs k; omega
theorem cv_delta (l : List Int) (x : Int) (k : Nat) : cv l (fun i => if i = 0 then x else 0) k = x * co l k := by
  rw [← cv_one l k, ← cv_mul]
  refine cv_ext l (fun i => ?_) k
  by_cases h : i = 0
  · rw [if_pos h, if_pos h, Int.mul_one]
  · rw [if_neg h, if_neg h, Int.mul_zero]
theorem cv_comm (l m : List Int) : ∀ k, cv l (co m) k = cv m (co l) k := by
  induction l with
  | nil =>
    intro k
    rw [show cv m (co []) k = cv m (fun _ => 0) k from cv_ext m (fun i => rfl) k, cv_zeroF]
    rfl
  | cons x xs ih =>
    intro k
    rw [cv_cons, cv_ext m (h := fun i => (if i = 0 then x else 0) + sh (co xs) i) (fun i => co_cons x xs i), cv_add, cv_delta, cv_sh]
    congr 1
    cases k with
    | zero => rfl
    | succ k => exact ih k
theorem cv_far {g : Nat → Int} {b : Nat} (hb : 1 ≤ b) (hg : ∀ i, b ≤ i → g i = 0) : ∀ (l : List Int) (k : Nat), l.length + b ≤ k + 1 → cv l g k = 0
  | [], _, _ => rfl
  | x :: xs, 0, h => by rw [List.length_cons] at h; omega
  | x :: xs, k + 1, h => by
    rw [List.length_cons] at h
    rw [cv_succ, hg _ (by omega), Int.mul_zero, cv_far hb hg xs k (by omega)]
    rfl
/-- the first n values -/
def tb (n : Nat) (f : Nat → Int) : List Int := (List.range n).map f
theorem tb_len (n : Nat) (f : Nat → Int) : (tb n f).length = n := by
  unfold tb
  rw [List.length_map, List.length_range]
theorem co_tb {n : Nat} {f : Nat → Int} (k : Nat) : co (tb n f) k = if k < n then f k else 0 := by
  unfold co tb
  rw [List.getD_eq_getElem?_getD, List.getElem?_map]
  by_cases h : k < n
  · rw [List.getElem?_range h, if_pos h]
    rfl
  · rw [List.getElem?_eq_none (by rw [List.length_range]; omega), if_neg h]
    rfl
theorem co_far {l : List Int} {i : Nat} (h : l.length ≤ i) : co l i = 0 := by
  unfold co
  rw [List.getD_eq_getElem?_getD, List.getElem?_eq_none h]
  rfl
theorem co_get {l : List Int} {i : Nat} (h : i < l.length) : co l i = l[i] := by
  unfold co
  rw [List.getD_eq_getElem?_getD, List.getElem?_eq_getElem h]
  rfl
theorem co_inj {l m : List Int} (hl : l.length = m.length) (h : ∀ i, co l i = co m i) : l = m := by
  refine List.ext_getElem hl fun i h1 h2 => ?_
  rw [← co_get h1, ← co_get h2, h]
theorem tb_co (l : List Int) : tb l.length (co l) = l := co_inj (tb_len _ _) fun i => by
  rw [co_tb]
  split
  · rfl
  · exact (co_far (by omega)).symm
/-- the product of two forms -/
def ml (l m : List Int) : List Int := tb (l.length + m.length - 1) (cv l (co m))
theorem ml_len (l m : List Int) : (ml l m).length = l.length + m.length - 1 := tb_len _ _
theorem co_ml {l m : List Int} (hm : m ≠ []) (k : Nat) : co (ml l m) k = cv l (co m) k := by
  unfold ml
  rw [co_tb]
  by_cases h : k < l.length + m.length - 1
  · rw [if_pos h]
  · rw [if_neg h]
    have h1 : 0 < m.length := List.length_pos_iff.mpr hm
    exact (cv_far (b := m.length) (by omega) (fun i hi => co_far hi) l k (by omega)).symm
theorem ml_comm (l m : List Int) : ml l m = ml m l := by
  unfold ml
  rw [Nat.add_comm]
  unfold tb
  exact List.map_congr_left fun k _ => cv_comm l m k
theorem ml_ne {l m : List Int} (hl : l ≠ []) (hm : m ≠ []) : ml l m ≠ [] := by
  intro e
  have h := ml_len l m
  rw [e] at h
  have h1 : 0 < m.length := List.length_pos_iff.mpr hm
  have h2 : 0 < l.length := List.length_pos_iff.mpr hl
  have : 0 = l.length + m.length - 1 := h
  omega
/-- entry by entry -/
def pl (l m : List Int) : List Int := List.zipWith (· + ·) l m
theorem pl_len {l m : List Int} (h : l.length = m.length) : (pl l m).length = l.length := by
  unfold pl
  rw [List.length_zipWith, h, Nat.min_self]
end K45

set_option Elab.async false
set_option linter.all false
set_option maxRecDepth 100000
/-! the contents of forms -/
namespace K45
theorem least (P : Nat → Prop) (n : Nat) (h : P n) : ∃ m, P m ∧ ∀ k, P k → m ≤ k := by
  induction n using Nat.strongRecOn with
  | _ n ih =>
    by_cases c : ∃ k, k < n ∧ P k
    · obtain ⟨k, hk, pk⟩ := c
      exact ih k hk pk
    · exact ⟨n, h, fun k pk => Nat.le_of_not_lt fun z => c ⟨k, z, pk⟩⟩
structure Prm (p : Nat) : Prop where
  gt : 1 < p
  pr : ∀ a b : Nat, p ∣ a * b → p ∣ a ∨ p ∣ b
theorem prm_of {n : Nat} (h : n ≠ 1) : ∃ p, Prm p ∧ p ∣ n := by
  obtain ⟨d, ⟨d1, dn⟩, hmin⟩ := least (fun d => 1 < d ∧ d ∣ n) (if n = 0 then 2 else n) (by
    by_cases c : n = 0
    · rw [if_pos c, c]
      exact ⟨by omega, Nat.dvd_zero _⟩
    · rw [if_neg c]
      exact ⟨by omega, Nat.dvd_refl _⟩)
  refine ⟨d, ⟨d1, fun a b hab => ?_⟩, dn⟩
  by_cases c : d ∣ a
  · exact .inl c
  · refine .inr ?_
    have g0 : 0 < Nat.gcd d a := Nat.gcd_pos_of_pos_left a (by omega)
    have g1 : Nat.gcd d a ∣ n := Nat.dvd_trans (Nat.gcd_dvd_left d a) dn
    have g2 : Nat.gcd d a = 1 := by
      by_cases z : Nat.gcd d a = 1
      · exact z
      · have h1 := hmin _ ⟨show 1 < Nat.gcd d a by omega, g1⟩
        have h2 : Nat.gcd d a ≤ d := Nat.le_of_dvd (by omega) (Nat.gcd_dvd_left d a)
        have h3 : Nat.gcd d a = d := by omega
        exact absurd (h3 ▸ Nat.gcd_dvd_right d a) c
    have g3 : Nat.Coprime d a := g2
    exact g3.dvd_of_dvd_mul_left hab
theorem Prm.int {p : Nat} (h : Prm p) {x y : Int} (d : (p : Int) ∣ x * y) : (p : Int) ∣ x ∨ (p : Int) ∣ y := by
  have e := Int.natAbs_dvd_natAbs.mpr d
  rw [Int.natAbs_mul] at e
  rcases h.pr _ _ e with e | e
  · exact .inl (Int.natAbs_dvd_natAbs.mp e)
  · exact .inr (Int.natAbs_dvd_natAbs.mp e)
theorem cv_dvd {p : Int} {g : Nat → Int} : ∀ (l : List Int) (k : Nat), (∀ t, t ≤ k → p ∣ g t) → p ∣ cv l g k
  | [], _, _ => Int.dvd_zero p
  | x :: xs, 0, h => by
    rw [cv_zero]
    exact Int.dvd_mul_of_dvd_right (h 0 (Nat.le_refl _))
  | x :: xs, k + 1, h => by
    rw [cv_succ]
    exact Int.dvd_add (Int.dvd_mul_of_dvd_right (h _ (Nat.le_refl _))) (cv_dvd xs k fun t ht => h t (by omega))
theorem gauss {p : Nat} (hp : Prm p) {g : Nat → Int} {j : Nat} (h1 : ∀ t, t < j → (p : Int) ∣ g t) (h2 : ¬ (p : Int) ∣ g j) : ∀ l : List Int, (∃ x ∈ l, ¬ (p : Int) ∣ x) → ∃ k, ¬ (p : Int) ∣ cv l g k
  | [], h => by
    obtain ⟨x, hx, _⟩ := h
    cases hx
  | x :: xs, h => by
    by_cases c : (p : Int) ∣ x
    · obtain ⟨y, hy, hd⟩ := h
      have hy2 : y ∈ xs := by
        rcases List.mem_cons.mp hy with e | e
        · rw [e] at hd
          exact absurd c hd
        · exact e
      obtain ⟨k, hk⟩ := gauss hp h1 h2 xs ⟨y, hy2, hd⟩
      refine ⟨k + 1, fun z => hk ?_⟩
      rw [cv_succ] at z
      exact (Int.dvd_add_right (Int.dvd_mul_of_dvd_left c)).mp z
    · refine ⟨j, fun z => ?_⟩
      cases j with
      | zero =>
        rw [cv_zero] at z
        rcases hp.int z with e | e
        · exact c e
        · exact h2 e
      | succ j =>
        rw [cv_succ] at z
        have := (Int.dvd_add_left (cv_dvd xs j fun t ht => h1 t (by omega))).mp z
        rcases hp.int this with e | e
        · exact c e
        · exact h2 e
/-- the greatest common divisor of all -/
def cont : List Int → Nat
  | [] => 0
  | x :: xs => Nat.gcd x.natAbs (cont xs)
theorem cont_dvd : ∀ (l : List Int) (x : Int), x ∈ l → (cont l : Int) ∣ x
  | y :: ys, x, h => by
    rcases List.mem_cons.mp h with e | e
    · rw [e]
      exact Int.natAbs_dvd_natAbs.mp (by show Nat.gcd _ _ ∣ _; exact Nat.gcd_dvd_left _ _)
    · have := cont_dvd ys x e
      exact Int.dvd_trans (Int.natAbs_dvd_natAbs.mp (by show Nat.gcd _ _ ∣ cont ys; exact Nat.gcd_dvd_right _ _)) this
theorem dvd_cont {d : Nat} : ∀ l : List Int, (∀ x ∈ l, (d : Int) ∣ x) → d ∣ cont l
  | [], _ => Nat.dvd_zero d
  | y :: ys, h => Nat.dvd_gcd (Int.natAbs_dvd_natAbs.mpr (h y List.mem_cons_self)) (dvd_cont ys fun x hx => h x (List.mem_cons_of_mem _ hx))
theorem cont_scale (c : Int) : ∀ l : List Int, cont (l.map (c * ·)) = c.natAbs * cont l
  | [] => rfl
  | x :: xs => by
    show Nat.gcd (c * x).natAbs (cont (xs.map (c * ·))) = c.natAbs * Nat.gcd x.natAbs (cont xs)
    rw [cont_scale c xs, Int.natAbs_mul, Nat.gcd_mul_left]
theorem cont_zero {l : List Int} (h : cont l = 0) : ∀ x ∈ l, x = 0 := fun x hx => by
  have := cont_dvd l x hx
  rw [h] at this
  exact Int.zero_dvd.mp this
theorem co_mem {l : List Int} {k : Nat} : co l k = 0 ∨ co l k ∈ l := by
  by_cases h : k < l.length
  · rw [co_get h]
    exact .inr (List.getElem_mem h)
  · exact .inl (co_far (by omega))
theorem cont_one {l m : List Int} (hm : m ≠ []) (h1 : cont l = 1) (h2 : cont m = 1) : cont (ml l m) = 1 := by
  by_cases c : cont (ml l m) = 1
  · exact c
  · obtain ⟨p, hp, hd⟩ := prm_of c
    have key : ∀ n : List Int, cont n = 1 → ∃ x ∈ n, ¬ (p : Int) ∣ x := fun n hn => by
      by_cases z : ∃ x ∈ n, ¬ (p : Int) ∣ x
      · exact z
      · have h3 : p ∣ cont n := dvd_cont n fun x hx => Classical.byContradiction fun q => z ⟨x, hx, q⟩
        rw [hn] at h3
        have := Nat.le_of_dvd (by omega) h3
        have := hp.gt
        omega
    obtain ⟨y, hy, hyd⟩ := key m h2
    obtain ⟨j0, hj0, ej⟩ := List.mem_iff_getElem.mp hy
    obtain ⟨j, hj, hmin⟩ := least (fun j => ¬ (p : Int) ∣ co m j) j0 (by
      show ¬ (p : Int) ∣ co m j0
      rw [co_get hj0, ej]
      exact hyd)
    obtain ⟨k, hk⟩ := gauss hp (g := co m) (j := j) (fun t ht => Classical.byContradiction fun z => by
      have := hmin t z
      omega) hj l (key l h1)
    refine absurd ?_ hk
    rw [← co_ml hm]
    rcases co_mem (l := ml l m) (k := k) with e | e
    · rw [e]
      exact Int.dvd_zero _
    · exact Int.dvd_trans (Int.natCast_dvd_natCast.mpr hd) (cont_dvd _ _ e)
/-- each form is its content times a form of the content 1, or all 0 -/
theorem cont_split {l : List Int} {d : Int} (h : d.natAbs = cont l) (h0 : cont l ≠ 0) : ∃ m, l = m.map (d * ·) ∧ cont m = 1 := by
  have hd : ∀ x ∈ l, d ∣ x := fun x hx => Int.natAbs_dvd_natAbs.mp (by rw [h]; exact Int.natAbs_dvd_natAbs.mpr (cont_dvd l x hx))
  have d0 : d ≠ 0 := fun e => by rw [e] at h; exact h0 h.symm
  refine ⟨l.map (· / d), ?_, ?_⟩
  · rw [List.map_map]
    conv => lhs; rw [← List.map_id l]
    exact List.map_congr_left fun x hx => (Int.mul_ediv_cancel' (hd x hx)).symm
  · have e : l = (l.map (· / d)).map (d * ·) := by
      rw [List.map_map]
      conv => lhs; rw [← List.map_id l]
      exact List.map_congr_left fun x hx => (Int.mul_ediv_cancel' (hd x hx)).symm
    have e2 := cont_scale d (l.map (· / d))
    rw [← e, h] at e2
    have hp : 0 < cont l := by omega
    exact Nat.eq_of_mul_eq_mul_left hp (by rw [← e2, Nat.mul_one])
theorem co_map (c : Int) (l : List Int) (k : Nat) : co (l.map (c * ·)) k = c * co l k := by
  by_cases h : k < l.length
  · rw [co_get (by rw [List.length_map]; exact h), co_get h, List.getElem_map]
  · rw [co_far (by rw [List.length_map]; omega), co_far (by omega), Int.mul_zero]
theorem ml_scale (c : Int) {l m : List Int} (hm : m ≠ []) : ml (l.map (c * ·)) m = (ml l m).map (c * ·) :=
  co_inj (by rw [List.length_map, ml_len, ml_len, List.length_map]) fun k => by
    rw [co_map, co_ml hm, co_ml hm, cv_comm, cv_comm l, ← cv_mul]
    exact cv_ext m (fun i => co_map c l i) k
theorem cont_ml {l m : List Int} (hl : l ≠ []) (hm : m ≠ []) : cont (ml l m) = cont l * cont m := by
  have zer : ∀ a b : List Int, b ≠ [] → cont a = 0 → cont (ml a b) = 0 := fun a b hb ha => by
    have hz : a = a.map ((0 : Int) * ·) := by
      conv => lhs; rw [← List.map_id a]
      exact List.map_congr_left fun x hx => by rw [cont_zero ha x hx]; rfl
    rw [hz, ml_scale 0 hb, cont_scale]
    exact Nat.zero_mul _
  by_cases c1 : cont l = 0
  · rw [zer l m hm c1, c1, Nat.zero_mul]
  · by_cases c2 : cont m = 0
    · rw [ml_comm, zer m l hl c2, c2, Nat.mul_zero]
    · obtain ⟨a, ea, ca⟩ := cont_split (d := (cont l : Int)) rfl c1
      obtain ⟨b, eb, cb⟩ := cont_split (d := (cont m : Int)) rfl c2
      have hb : b ≠ [] := fun e => by rw [e] at eb; exact hm eb
      have ha : a ≠ [] := fun e => by rw [e] at ea; exact hl ea
      have e : ml l m = ((ml a b).map ((cont l : Int) * ·)).map ((cont m : Int) * ·) := by
        rw [← ml_scale _ hb, ← ea, ml_comm l b, ← ml_scale _ hl, ← eb, ml_comm]
      rw [e, cont_scale, cont_scale, cont_one hb ca cb, Nat.mul_one, Nat.mul_comm]
      rfl
end K45

set_option Elab.async false
set_option linter.all false
set_option maxRecDepth 100000
set_option maxHeartbeats 4000000
namespace K45
open PySem PySem.Spec PyProof.Rows L2 MyR SlX OwnR OwnF
/-- an int of at most sixty digits -/
def Sho (i : Int) : Prop := i.natAbs < 10 ^ 60
theorem Same.rf (H : Hp) : Same H H := fun _ _ h => h
@[elab_as_elim] theorem gen_upd {G : Hp → Prop} (H : Hp) (p : Addr) (o : HO) (n : H p = none) (h : ∀ H', Same H H' → H' p = some o → G H') : G (upd H p o) := h _ (same_upd0 n) upd_same
section
variable {P : Program} {w : World} {K : PySem.W.Frag} {mg : Str → Option Value} {base : Heap}
def spWhole : Sp := fun vs H Q _ => ∃ i : Int, vs = [.int i] ∧ Q (.bl true) H
theorem ok_is_whole (T : Facts K mg) : FnOk P w K mg base CX0 1 T.f_is_whole T.fd_is_whole ["value"] spWhole := by
  refine T.F_is_whole.ok sc_is_whole (fun vs H Q E h => ?_) (fun cdv A outer s H vs Q E hr h => ?_)
  · obtain ⟨i, rfl, _⟩ := h
    rfl
  · obtain ⟨i, rfl, q⟩ := h
    refine ⟨_, (PSs.nox (pss_one (ps_ret (pe_and (pe_callB call_isi (by rfl) T.z_isinstance (by decide +kernel) (pa_cons (pv 0) (pa_cons (pe_bltn (v := .ty "int") (by rfl) T.z_int (by decide +kernel) rfl) pa_nil))) (pe_one (pe_not (pe_callB call_isi (by rfl) T.z_isinstance (by decide +kernel) (pa_cons (pv 0) (pa_cons (pe_bltn (v := .ty "bool") (by rfl) T.z_bool (by decide +kernel) rfl) pa_nil))))))))), ?_⟩
    refine ⟨_, rfl, .int i, .ty "int", .type "int", .type "int", true, rfl, .ty "int", .base (.int i), kit_ty (show kitB "int" "int" = some true by decide +kernel), true, rfl, iteT ?_⟩
    exact ⟨_, rfl, .int i, .ty "bool", .type "int", .type "bool", false, rfl, .ty "bool", .base (.int i), kit_ty (show kitB "int" "bool" = some false by decide +kernel), false, rfl, q⟩
def spShort : Sp := fun vs H Q _ => ∃ i : Int, vs = [.int i] ∧ Sho i ∧ Q (.bl true) H
theorem ok_is_short (T : Facts K mg) : FnOk P w K mg base CX0 2 T.f_is_short T.fd_is_short ["value"] spShort := by
  have G_is_whole : FnOk P w K mg base CX0 1 T.f_is_whole T.fd_is_whole ["value"] spWhole := ok_is_whole T
  refine T.F_is_short.ok sc_is_short (fun vs H Q E h => ?_) (fun cdv A outer s H vs Q E hr h => ?_)
  · obtain ⟨i, rfl, _⟩ := h
    rfl
  · obtain ⟨i, rfl, hi, q⟩ := h
    have e60 : (10 : Nat) ^ 60 = 1000000000000000000000000000000000000000000000000000000000000 := by decide
    unfold Sho at hi
    rw [e60] at hi
    refine ⟨_, (PSs.nox (pss_one (ps_ret (pe_and (pe_call G_is_whole hr (by rfl) T.g_is_whole T.F_is_whole.kp T.b_is_whole .nil pass0 (pa_cons (pv 0) pa_nil)) (pe_one (pe_chain op_lt op_lt (pe_un un_neg (pe_glob (v := .int 1000000000000000000000000000000000000000000000000000000000000) (by rfl) T.c_GREATEST.choose_spec ⟨_, rfl⟩)) (pv 0) (pe_glob (v := .int 1000000000000000000000000000000000000000000000000000000000000) (by rfl) T.c_GREATEST.choose_spec ⟨_, rfl⟩))))))), ?_⟩
    refine ⟨_, rfl, i, rfl, true, rfl, iteT ⟨_, rfl, _, rfl, _, i, rfl, rfl, true, ?_, iteT ⟨i, _, rfl, rfl, ?_⟩⟩⟩
    · show V.bl (decide (-1000000000000000000000000000000000000000000000000000000000000 < i)) = V.bl true
      rw [decide_eq_true (by omega)]
    · show Q (V.bl (decide (i < 1000000000000000000000000000000000000000000000000000000000000))) H
      rw [decide_eq_true (by omega)]
      exact q
/-- a tuple of ints -/
abbrev tp (ns : List Int) : HO := .tup (ns.map V.int)
def spAreShort : Sp := fun vs H Q _ => ∃ (t : Addr) (ns : List Int), vs = [.ref t] ∧ H t = some (tp ns) ∧ ns.length ≤ 1000 ∧ (∀ x ∈ ns, Sho x) ∧ ∀ H', Same H H' → Q (.bl true) H'
theorem ok_are_short (T : Facts K mg) : FnOk P w K mg base CX0 3 T.f_are_short T.fd_are_short ["value"] spAreShort := by
  have G_is_short : FnOk P w K mg base CX0 2 T.f_is_short T.fd_is_short ["value"] spShort := ok_is_short T
  refine T.F_are_short.ok sc_are_short (fun vs H Q E h => ?_) (fun cdv A outer s H vs Q E hr h => ?_)
  · obtain ⟨t, ns, rfl, _⟩ := h
    rfl
  · obtain ⟨t, ns, rfl, ht, hl, hs, q⟩ := h
    refine ⟨_, (PSs.nox (pss_one (ps_ret (pe_and (pe_callB call_isi (by rfl) T.z_isinstance (by decide +kernel) (pa_cons (pv 0) (pa_cons (pe_bltn (v := .ty "tuple") (by rfl) T.z_tuple (by decide +kernel) rfl) pa_nil))) (pe_one (pe_callB (cr_all (by rfl)) (by rfl) T.z_all (by decide +kernel) (pa_cons (pe_lc (own := [("entry", 1)]) (g := (gName 1)) (tt := tYes) (by rfl) sc_are_short.nd (pi_tup (pv 0)) (blkOk_by (N := N_are_short) (sc := defScope s_are_short) (by decide +kernel)) (fun _ _ _ _ _ => (pg_name (i := 1) sc_are_short.nd rfl (.inl rfl))) (fun _ _ _ _ _ => pts_nil) (fun _ _ _ _ _ => (pe_call G_is_short hr (by rfl) T.g_is_short T.F_is_short.kp T.b_is_short .nil pass0 (pa_cons (pv 1) pa_nil)))) pa_nil))))))), ?_⟩
    refine ⟨_, rfl, .ref t, .ty "tuple", .type "tuple", .type "tuple", true, rfl, .ty "tuple", .base (.tup ht), kit_ty (show kitB "tuple" "tuple" = some true by decide +kernel), true, rfl, iteT ?_⟩
    refine ⟨_, rfl, t, rfl, ⟨_, SqT.of ht⟩, fun D hD => lc_tup (xs := ns.map V.int) (fun i H' => H' = upd H D (.lst (List.replicate i (V.bl true)))) rfl (fun i H' hi hP => ?_) (fun i x H' hi hP => ?_) (fun H' hP => ?_)⟩
    · rw [hP]
      exact SqT.of (same_upd0 hD _ _ ht)
    · subst hP
      rw [List.getElem?_map] at hi
      obtain ⟨y, hy, rfl⟩ := Option.map_eq_some_iff.mp hi
      have hlt : i < ns.length := (List.getElem?_eq_some_iff.mp hy).1
      refine ⟨rfl, ⟨_, rfl, y, rfl, hs y (List.mem_of_getElem? hy), _, upd_same, ?_, ?_⟩⟩
      · rw [List.length_replicate]
        exact small1000 (by omega)
      · rw [upd_upd, List.replicate_succ']
    · subst hP
      rw [List.length_map]
      refine ⟨D, List.replicate ns.length true, rfl, SqL.of (by rw [upd_same, List.map_replicate]), ?_⟩
      have e : (List.replicate ns.length true).all id = true := by
        rw [List.all_eq_true]
        intro x hx
        rw [(List.mem_replicate.mp hx).2]
        rfl
      rw [e]
      exact q _ (same_upd0 hD)
def spAreEntries : Sp := fun vs H Q _ => ∃ (t : Addr) (ns : List Int), vs = [.ref t] ∧ H t = some (tp ns) ∧ 1 ≤ ns.length ∧ ns.length ≤ 41 ∧ (∀ x ∈ ns, Sho x) ∧ ∀ H', Same H H' → Q (.bl true) H'
theorem ok_are_entries (T : Facts K mg) : FnOk P w K mg base CX0 4 T.f_are_entries T.fd_are_entries ["value"] spAreEntries := by
  have G_are_short : FnOk P w K mg base CX0 3 T.f_are_short T.fd_are_short ["value"] spAreShort := ok_are_short T
  refine T.F_are_entries.ok sc_are_entries (fun vs H Q E h => ?_) (fun cdv A outer s H vs Q E hr h => ?_)
  · obtain ⟨t, ns, rfl, _⟩ := h
    rfl
  · obtain ⟨t, ns, rfl, ht, h1, h41, hs, q⟩ := h
    refine ⟨_, (PSs.nox (pss_one (ps_ret (pe_and (pe_call G_are_short hr (by rfl) T.g_are_short T.F_are_short.kp T.b_are_short .nil pass0 (pa_cons (pv 0) pa_nil)) (pe_one (pe_chain op_le op_le pe_int (pe_callB call_len_seq (by rfl) T.z_len (by decide +kernel) (pa_cons (pv 0) pa_nil)) (pe_op op_add (pe_glob (v := .int 40) (by rfl) T.c_MAX_DEGREE.choose_spec ⟨_, rfl⟩) pe_int))))))), ?_⟩
    refine ⟨_, rfl, t, ns, rfl, ht, by omega, hs, fun H1 s1 => ⟨true, rfl, iteT ?_⟩⟩
    have ht1 := s1 _ _ ht
    refine ⟨_, rfl, t, _, rfl, .inr (SqT.of ht1), 1, _, rfl, rfl, true, ?_, iteT ⟨_, _, rfl, rfl, _, _, rfl, rfl, ?_⟩⟩
    · rw [List.length_map]
      show V.bl (decide ((1 : Int) ≤ (ns.length : Int))) = V.bl true
      rw [decide_eq_true (by omega)]
    · rw [List.length_map]
      show Q (V.bl (decide ((ns.length : Int) ≤ 40 + 1))) H1
      rw [decide_eq_true (by omega)]
      exact q H1 s1
/-! ### making a form -/
/-- a form with these entries -/
def Fo (C : Addr) (H : Hp) (a : Addr) (ns : List Int) : Prop := ∃ dx t, H a = some (SlO a C dx [some (.ref t)]) ∧ H dx = some (.xd []) ∧ H t = some (tp ns)
theorem Fo.same {C a : Addr} {H H' : Hp} {ns : List Int} (h : Fo C H a ns) (s : Same H H') : Fo C H' a ns := by
  obtain ⟨dx, t, h1, h2, h3⟩ := h
  exact ⟨dx, t, s _ _ h1, s _ _ h2, s _ _ h3⟩
theorem Fo.slt {C a : Addr} {H : Hp} {ns : List Int} (h : Fo C H a ns) : ∃ dx t, Slt H a C dx [some (.ref t)] ∧ H t = some (tp ns) := by
  obtain ⟨dx, t, h1, h2, h3⟩ := h
  exact ⟨dx, t, .inr ⟨h1, h2⟩, h3⟩
/-- Told(row) -/
def spTold (C : Addr) : Sp := fun vs H Q _ => ∃ (x dx : Addr) (v : V), vs = [.ref x, v] ∧ Slt H x C dx [] ∧ Q .non (slH H x C dx [some v])
theorem ok_Told_init (T : Facts K mg) : FnOk P w K mg base CX0 1 T.f_Told_init T.fd_Told_init ["self", "row"] (spTold T.C_Told) := by
  refine T.F_Told_init.ok sc_Told_init (fun vs H Q E h => ?_) (fun cdv A outer s H vs Q E hr h => ?_)
  · obtain ⟨x, dx, v, rfl, _⟩ := h
    rfl
  · obtain ⟨x, dx, v, rfl, hx, q⟩ := h
    refine ⟨_, (PSs.nox (pss_one (ps_sl (pv 0) (pv 1)))), ?_⟩
    exact ⟨_, rfl, _, rfl, x, T.C_Told, dx, T.a_own_row, [], 0, rfl, hx, T.oc_Told.scl, T.sl_own_row, q⟩
/-- Form(entries) -/
def spForm (CT CF : Addr) : Sp := fun vs H Q _ => ∃ (x dx y t : Addr), vs = [.ref x, .ref y] ∧ Slt H x CF dx [] ∧ ((∃ dy, Slt H y CT dy [some (.ref t)]) ∨ ∃ ns, y = t ∧ H t = some (tp ns) ∧ 1 ≤ ns.length ∧ ns.length ≤ 41 ∧ ∀ z ∈ ns, Sho z) ∧ ∀ H', Same H H' → Q .non (slH H' x CF dx [some (.ref t)])
theorem Slt.same {C a dx : Addr} {vs : List (Option V)} {H H' : Hp} (h : Slt H a C dx vs) (s : Same H H') : Slt H' a C dx vs := by
  rcases h with ⟨h1, h2⟩ | ⟨h1, h2⟩
  · exact .inl ⟨s _ _ h1, h2⟩
  · exact .inr ⟨s _ _ h1, s _ _ h2⟩
theorem ok_Form_init (T : Facts K mg) : FnOk P w K mg base CX0 5 T.f_Form_init T.fd_Form_init ["self", "entries"] (spForm T.C_Told T.C_Form) := by
  have G_are_entries : FnOk P w K mg base CX0 4 T.f_are_entries T.fd_are_entries ["value"] spAreEntries := ok_are_entries T
  refine T.F_Form_init.ok sc_Form_init (fun vs H Q E h => ?_) (fun cdv A outer s H vs Q E hr h => ?_)
  · obtain ⟨x, dx, y, t, rfl, _⟩ := h
    rfl
  · obtain ⟨x, dx, y, t, rfl, hx, hy, q⟩ := h
    refine ⟨_, (PSs.nox (pss_cons (ps_if (pw_and (pt_not (pt_val (pe_callB (call_isiF T.C_Told) (by rfl) T.z_isinstance (by decide +kernel) (pa_cons (pv 1) (pa_cons (pe_glob (v := .ref T.C_Told) (by rfl) T.g_Told rfl) pa_nil))))) (pw_and1 (pt_not (pt_val (pe_call G_are_entries hr (by rfl) T.g_are_entries T.F_are_entries.kp T.b_are_entries .nil pass0 (pa_cons (pv 1) pa_nil)))))).pt
      (pss_one ps_never)
      pss_nil)
    (pss_one (ps_sl (pv 0) (pe_ifExp (pt_val (pe_callB (call_isiF T.C_Told) (by rfl) T.z_isinstance (by decide +kernel) (pa_cons (pv 1) (pa_cons (pe_glob (v := .ref T.C_Told) (by rfl) T.g_Told rfl) pa_nil)))) (pe_sl (pv 1)) (pv 1)))))), ?_⟩
    rcases hy with ⟨dy, hy⟩ | ⟨ns, rfl, ht, h1, h41, hs⟩
    · refine ⟨_, rfl, .inr ⟨y, T.C_Told, dy, _, .ref T.C_Told, true, rfl, rfl, fun w r => r, hy, T.oc_Told.scl, T.oc_Told.sis, T.oc_Told.kself, true, rfl, iteF ?_⟩⟩
      refine ⟨_, rfl, .inr ⟨y, T.C_Told, dy, _, .ref T.C_Told, true, rfl, rfl, fun w r => r, hy, T.oc_Told.scl, T.oc_Told.sis, T.oc_Told.kself, true, rfl, iteT ?_⟩⟩
      refine ⟨_, rfl, y, T.C_Told, dy, T.a_own_row, _, 0, .ref t, rfl, hy, T.oc_Told.scl, T.sl_own_row, rfl, ?_⟩
      exact ⟨_, rfl, x, T.C_Form, dx, T.a_own_entries, [], 0, rfl, hx, T.oc_Form.scl, T.sl_own_entries, q H (Same.rf H)⟩
    · refine ⟨_, rfl, .inl ⟨.ref y, .ref T.C_Told, .type "tuple", .ref T.C_Told, false, rfl, .own _, .base (.tup ht), T.oc_Told.ktup, false, rfl, iteT ?_⟩⟩
      refine ⟨_, rfl, y, ns, rfl, ht, h1, h41, hs, fun H1 s1 => ⟨true, rfl, iteF ?_⟩⟩
      refine ⟨_, rfl, .inl ⟨.ref y, .ref T.C_Told, .type "tuple", .ref T.C_Told, false, rfl, .own _, .base (.tup (s1 _ _ ht)), T.oc_Told.ktup, false, rfl, iteF ?_⟩⟩
      exact ⟨_, rfl, _, rfl, x, T.C_Form, dx, T.a_own_entries, [], 0, rfl, Slt.same hx s1, T.oc_Form.scl, T.sl_own_entries, q H1 s1⟩
/-- what making leaves -/
theorem made {C x dx : Addr} {v : V} {H' H0 : Hp} (hx : H0 x = none) (hdx : H0 dx = none) (hne : dx ≠ x) (s : Same (upd (upd H0 dx (.own x)) x (.ins C dx [])) H') : Same H0 (slH H' x C dx [some v]) := fun b o e => by
  have h1 : b ≠ x := ne_of_none e hx
  have h2 : b ≠ dx := ne_of_none e hdx
  rw [slH_ne h1 h2]
  exact s _ _ (by rw [upd_ne h1, upd_ne h2]; exact e)
/-- what is made of a row -/
def spMake (C : Addr) : Sp := fun vs H Q _ => ∃ (t : Addr) (ns : List Int), vs = [.ref t] ∧ H t = some (tp ns) ∧ ∀ p H', Same H H' → H p = none → Fo C H' p ns → Q (.ref p) H'
theorem ok_form_of (T : Facts K mg) : FnOk P w K mg base CX0 7 T.f_form_of T.fd_form_of ["entries"] (spMake T.C_Form) := by
  have G_Told_init : FnOk P w K mg base CX0 1 T.f_Told_init T.fd_Told_init ["self", "row"] (spTold T.C_Told) := ok_Told_init T
  have G_Form_init : FnOk P w K mg base CX0 5 T.f_Form_init T.fd_Form_init ["self", "entries"] (spForm T.C_Told T.C_Form) := ok_Form_init T
  refine T.F_form_of.ok sc_form_of (fun vs H Q E h => ?_) (fun cdv A outer s H vs Q E hr h => ?_)
  · obtain ⟨t, ns, rfl, _⟩ := h
    rfl
  · obtain ⟨t, ns, rfl, ht, q⟩ := h
    refine ⟨_, (PSs.nox (pss_one (ps_ret (pe_make T.mk_Form G_Form_init (hr.mono (by decide)) (by rfl) T.g_Form T.b_Form_init .nil pass0 (pa_cons (pe_make T.mk_Told G_Told_init (hr.mono (by decide)) (by rfl) T.g_Told T.b_Told_init .nil pass0 (pa_cons (pv 0) pa_nil)) pa_nil))))), ?_⟩
    refine ⟨_, rfl, fun x dx hx hdx hne => ⟨x, dx, .ref t, rfl, .inl ⟨upd_same, rfl⟩, rfl, ?_⟩⟩
    have s1 : Same H (slH (upd (upd H dx (.own x)) x (.ins T.C_Told dx [])) x T.C_Told dx [some (.ref t)]) := made hx hdx hne (Same.rf _)
    have y1 : Slt (slH (upd (upd H dx (.own x)) x (.ins T.C_Told dx [])) x T.C_Told dx [some (.ref t)]) x T.C_Told dx [some (.ref t)] := slH_slt hne
    generalize slH (upd (upd H dx (.own x)) x (.ins T.C_Told dx [])) x T.C_Told dx [some (.ref t)] = H1 at s1 y1 ⊢
    refine fun x2 dx2 hx2 hdx2 hne2 => ⟨x2, dx2, x, t, rfl, .inl ⟨upd_same, rfl⟩, .inl ⟨dx, ?_⟩, fun H2 s2 => ⟨rfl, ?_⟩⟩
    · exact slt_upd (slt_upd y1 hdx2) (by rw [upd_ne (Ne.symm hne2)]; exact hx2)
    · have s3 : Same H1 (slH H2 x2 T.C_Form dx2 [some (.ref t)]) := made hx2 hdx2 hne2 s2
      have hx0 : H x2 = none := by
        cases e : H x2 with
        | none => rfl
        | some o =>
          have := s1 _ _ e
          rw [hx2] at this
          cases this
      refine q x2 _ (fun b o e => s3 _ _ (s1 _ _ e)) hx0 ⟨dx2, t, upd_same, ?_, s3 _ _ (s1 _ _ ht)⟩
      unfold slH
      rw [upd_ne hne2, upd_same]
end
end K45

set_option Elab.async false
set_option linter.all false
set_option maxRecDepth 100000
set_option maxHeartbeats 4000000
namespace K45
open PySem PySem.Spec PyProof.Rows L2 MyR SlX OwnR OwnF
theorem cv_snoc (x : Int) (g : Nat → Int) : ∀ (l : List Int) (k : Nat), cv (l ++ [x]) g k = cv l g k + (if l.length ≤ k then x * g (k - l.length) else 0)
  | [], k => by
    show cv (x :: []) g k = 0 + (if 0 ≤ k then x * g (k - 0) else 0)
    rw [if_pos (Nat.zero_le k), Nat.sub_zero]
    cases k with
    | zero => rw [cv_zero]; omega
    | succ k => rw [cv_succ]; show x * g (k + 1) + 0 = 0 + x * g (k + 1); omega
  | y :: ys, 0 => by
    show cv (y :: (ys ++ [x])) g 0 = cv (y :: ys) g 0 + (if ys.length + 1 ≤ 0 then _ else 0)
    rw [cv_zero, cv_zero, if_neg (by omega)]
    omega
  | y :: ys, k + 1 => by
    show cv (y :: (ys ++ [x])) g (k + 1) = cv (y :: ys) g (k + 1) + (if ys.length + 1 ≤ k + 1 then x * g (k + 1 - (ys.length + 1)) else 0)
    rw [cv_succ, cv_succ, cv_snoc x g ys k, Nat.add_sub_add_right]
    by_cases h : ys.length ≤ k
    · rw [if_pos h, if_pos (by omega)]; omega
    · rw [if_neg h, if_neg (by omega)]; omega
/-- the entries so far: i rows, and j places of the next one -/
def J (xs : List Int) (g : Nat → Int) (i j k : Nat) : Int := cv (xs.take i) g k + (if i ≤ k ∧ k < i + j then co xs i * g (k - i) else 0)
theorem J_0 {xs : List Int} {g : Nat → Int} {i k : Nat} : J xs g i 0 k = cv (xs.take i) g k := by
  unfold J
  rw [if_neg (by omega)]
  omega
theorem J_step {xs : List Int} {g : Nat → Int} {i j k : Nat} : (if k = i + j then J xs g i j (i + j) + co xs i * g j else J xs g i j k) = J xs g i (j + 1) k := by
  unfold J
  by_cases h : k = i + j
  · subst h
    rw [if_pos rfl, if_neg (by omega), if_pos (by omega), Nat.add_sub_cancel_left]
    omega
  · rw [if_neg h]
    by_cases c : i ≤ k ∧ k < i + j
    · rw [if_pos c, if_pos (by omega)]
    · rw [if_neg c, if_neg (by omega)]
theorem J_end {xs ys : List Int} {i k : Nat} (hi : i < xs.length) : J xs (co ys) i ys.length k = cv (xs.take (i + 1)) (co ys) k := by
  unfold J
  have e : xs.take (i + 1) = xs.take i ++ [xs[i]] := by rw [List.take_add_one, List.getElem?_eq_getElem hi]; rfl
  have hl : (xs.take i).length = i := by rw [List.length_take]; omega
  rw [e, cv_snoc, hl, co_get hi]
  congr 1
  by_cases c : i ≤ k
  · by_cases d : k < i + ys.length
    · rw [if_pos ⟨c, d⟩, if_pos c]
    · rw [if_neg (by omega), if_pos c, co_far (by omega), Int.mul_zero]
  · rw [if_neg (by omega), if_neg c]
def tab (L : Nat) (f : Nat → Int) : List V := (List.range L).map fun k => V.int (f k)
theorem tab_tb (L : Nat) (f : Nat → Int) : tab L f = (tb L f).map V.int := by
  unfold tab tb
  rw [List.map_map]
  rfl
theorem tab_len (L : Nat) (f : Nat → Int) : (tab L f).length = L := by
  unfold tab
  rw [List.length_map, List.length_range]
theorem tab_get {L : Nat} {f : Nat → Int} {k : Nat} (h : k < L) : (tab L f)[k]? = some (.int (f k)) := by
  unfold tab
  rw [List.getElem?_map, List.getElem?_range h]
  rfl
theorem tab_ext {L : Nat} {f g : Nat → Int} (h : ∀ k, k < L → f k = g k) : tab L f = tab L g := by
  unfold tab
  exact List.map_congr_left fun k hk => by rw [h k (List.mem_range.mp hk)]
theorem tab_none {L : Nat} {f : Nat → Int} {k : Nat} (h : L ≤ k) : (tab L f)[k]? = none := List.getElem?_eq_none (by rw [tab_len]; exact h)
theorem tab_set {L : Nat} {f : Nat → Int} {j : Nat} {v : Int} : (tab L f).set j (.int v) = tab L (fun k => if k = j then v else f k) := by
  apply List.ext_getElem?
  intro k
  by_cases hk : k < L
  · rw [tab_get hk]
    by_cases e : k = j
    · subst e
      rw [List.getElem?_set_self (by rw [tab_len]; exact hk), if_pos rfl]
    · rw [List.getElem?_set_ne (Ne.symm e), tab_get hk, if_neg e]
  · rw [tab_none (Nat.le_of_not_lt hk), List.getElem?_eq_none (by rw [List.length_set, tab_len]; exact Nat.le_of_not_lt hk)]
theorem tab_rep (n : Nat) : List.replicate n (V.int 0) = tab n fun _ => 0 := by
  unfold tab
  rw [List.map_const', List.length_range]
theorem ix_at {n : Nat} {z : Int} {j : Nat} (e : z = (j : Int)) (h : j < n) : ixN n z = some j := by
  rw [e]
  exact Evl.ixN_nat h
theorem at_of {xs : List V} {z : Int} {j : Nat} {v : V} (e : z = (j : Int)) (h : xs[j]? = some v) : atI xs z = some v := by
  rw [e]
  exact atI_nat h
/-- ints of less than 400 bits -/
def sm (x : Int) : Prop := x.natAbs < 2 ^ 4000
theorem sm_mul {x y : Int} (hx : sm x) (hy : sm y) : CMulW x y := wide_mul hx hy (by decide) (by decide) (by decide)
theorem get_int {xs : List Int} {i : Nat} (h : i < xs.length) : (xs.map V.int)[i]? = some (.int (co xs i)) := by
  rw [List.getElem?_map, List.getElem?_eq_getElem h, co_get h]
  rfl
theorem sm_co {xs : List Int} {i : Nat} (h : ∀ x ∈ xs, sm x) (hi : i < xs.length) : sm (co xs i) := by
  rw [co_get hi]
  exact h _ (List.getElem_mem hi)
section
variable {P : Program} {w : World} {K : PySem.W.Frag} {mg : Str → Option Value} {base : Heap}
end
end K45

set_option Elab.async false
set_option linter.all false
set_option maxRecDepth 100000
set_option maxHeartbeats 4000000
namespace K45
open PySem PySem.Spec PyProof.Rows L2 StX RZ MyR SlX OwnR OwnF
/-- a comprehension over zip of two tuples of one length -/
theorem lc_zipT {K : PySem.W.Frag} {a b : Addr} {xs ys : List V} {g : TG} {tt : TT} {te : TE} {vs : List Nat} {σ : L2.St} {H1 : Hp} {D : Addr} {Qd : Hp → Prop} (hl : xs.length = ys.length) (Pv : Nat → Hp → Prop) (h0 : Pv 0 (upd H1 D (.lst []))) (hq : ∀ i H, i ≤ xs.length → Pv i H → SqT K H a xs ∧ SqT K H b ys)
    (hs : ∀ (i : Nat) (x y : V) (T : Addr) (H : Hp), xs[i]? = some x → ys[i]? = some y → Pv i H → H T = none → g (.ref T) (wipe σ vs) (upd H T (.tup [x, y])) fun σ2 H2 => wipe σ2 vs = wipe σ vs ∧ tt σ2 H2 fun b H3 =>
      if b = true then te σ2 H3 fun y H4 => ∃ acc, H4 D = some (.lst acc) ∧ acc.length < sizeLine ∧ Pv (i + 1) (upd H4 D (.lst (acc ++ [y]))) else Pv (i + 1) H3) (hd : ∀ H, Pv xs.length H → Qd H) :
    ∃ W : Nat → Nat → Hp → Prop, (∃ m, W 0 m (upd H1 D (.lst []))) ∧ ∀ i m H, W i m H →
      ((ItzT K a b).stop i H ∧ Qd H) ∨ ((ItzT K a b).go i H ∧ ∃ Nx : Hp → Prop, (∀ H', Nx H' → ∃ m', m' < m ∧ W (i + 1) m' H') ∧ ∀ x H', (ItzT K a b).yld i H x H' → g x (wipe σ vs) H' fun σ2 H2 => wipe σ2 vs = wipe σ vs ∧ tt σ2 H2 fun b H3 =>
        if b = true then te σ2 H3 fun y H4 => ∃ acc, H4 D = some (.lst acc) ∧ acc.length < sizeLine ∧ Nx (upd H4 D (.lst (acc ++ [y]))) else Nx H3) := by
  refine ⟨fun i m H => m = xs.length - i ∧ i ≤ xs.length ∧ Pv i H, ⟨xs.length, by simp, Nat.zero_le _, h0⟩, ?_⟩
  rintro i m H ⟨rfl, hi, p⟩
  obtain ⟨qx, qy⟩ := hq i H hi p
  by_cases hlt : i < xs.length
  · have hlt2 : i < ys.length := by omega
    have hx : xs[i]? = some xs[i] := List.getElem?_eq_getElem hlt
    have hy : ys[i]? = some ys[i] := List.getElem?_eq_getElem hlt2
    refine .inr ⟨⟨xs, ys, _, _, qx, qy, hx, hy⟩, Pv (i + 1), fun H' p' => ⟨xs.length - (i + 1), by omega, rfl, hlt, p'⟩, fun v H' y => ?_⟩
    obtain ⟨T, x', y', rfl, hT, rfl, f1, f2⟩ := y
    exact hs i x' y' T H (f1 xs qx) (f2 ys qy) p hT
  · have e : i = xs.length := by omega
    subst e
    exact .inl ⟨⟨xs, ys, qx, qy, Or.inl (Nat.le_refl _)⟩, hd H p⟩
/-- the sign of the first entry that is not 0 -/
def sg : List Int → Int
  | [] => 1
  | x :: xs => if x = 0 then sg xs else if 0 < x then 1 else -1
theorem sg_cases : ∀ l : List Int, sg l = 1 ∨ sg l = -1
  | [] => .inl rfl
  | x :: xs => by
    unfold sg
    split
    · exact sg_cases xs
    · split
      · exact .inl rfl
      · exact .inr rfl
def part (l : List Int) : Int := (cont l : Int) * sg l
theorem part_abs (l : List Int) : (part l).natAbs = cont l := by
  unfold part
  rw [Int.natAbs_mul]
  rcases sg_cases l with e | e <;> rw [e] <;> simp
theorem sm_cont {l : List Int} (h : ∀ x ∈ l, sm x) : cont l < 2 ^ 4000 := by
  by_cases c : ∃ x ∈ l, x ≠ 0
  · obtain ⟨x, hx, h0⟩ := c
    have h1 := Int.natAbs_dvd_natAbs.mpr (cont_dvd l x hx)
    have h2 := Nat.le_of_dvd (Int.natAbs_pos.mpr h0) h1
    exact Nat.lt_of_le_of_lt h2 (h x hx)
  · have hz : ∀ l : List Int, (∀ x ∈ l, x = 0) → cont l = 0 := by
      intro l
      induction l with
      | nil => intro _; rfl
      | cons y ys ih =>
        intro hl
        show Nat.gcd y.natAbs (cont ys) = 0
        rw [ih fun x hx => hl x (List.mem_cons_of_mem _ hx), hl y List.mem_cons_self]
        rfl
    rw [hz l fun x hx => Classical.byContradiction fun q => c ⟨x, hx, q⟩]
    decide
theorem sm_part {l : List Int} (h : ∀ x ∈ l, sm x) : sm (part l) := by
  show (part l).natAbs < _
  rw [part_abs]
  exact sm_cont h
/-- divided by its content, the first entry that is not 0 above 0 -/
def prim (l : List Int) : List Int := if part l = 0 then l else l.map fun x => x.fdiv (part l)
theorem tb_map (f : Int → Int) (l : List Int) : (tb l.length fun k => f (co l k)) = l.map f := by
  conv => rhs; rw [← tb_co l]
  unfold tb
  rw [List.map_map]
  rfl
section
variable {P : Program} {w : World} {K : PySem.W.Frag} {mg : Str → Option Value} {base : Heap}
def spZero : Sp := fun vs H Q _ => ∃ (t : Addr) (ns : List Int), vs = [.ref t] ∧ H t = some (tp ns) ∧ Q (.bl (!ns.any (· != 0))) H
theorem ok_is_zero_in (T : Facts K mg) : FnOk P w K mg base CX0 1 T.f_is_zero_in T.fd_is_zero_in ["entries"] spZero := by
  refine T.F_is_zero_in.ok sc_is_zero_in (fun vs H Q E h => ?_) (fun cdv A outer s H vs Q E hr h => ?_)
  · obtain ⟨t, ns, rfl, _⟩ := h
    rfl
  · obtain ⟨t, ns, rfl, ht, q⟩ := h
    refine ⟨_, (PSs.nox (pss_one (ps_ret (pe_not (pe_callB (cr_anyTI (by rfl)) (by rfl) T.z_any (by decide +kernel) (pa_cons (pv 0) pa_nil)))))), ?_⟩
    exact ⟨_, rfl, t, ns, rfl, SqT.of ht, _, rfl, q⟩
def spPrim : Sp := fun vs H Q _ => ∃ (t : Addr) (ns : List Int), vs = [.ref t] ∧ H t = some (tp ns) ∧ ns.length ≤ 1000 ∧ (∀ x ∈ ns, sm x) ∧ ∀ p H', Same H H' → H' p = some (tp (prim ns)) → Q (.ref p) H'
/-- the sum of one row and a multiple of the other -/
def zs (c : Int) (xs ys : List Int) : List Int := List.zipWith (fun x y => x + c * y) xs ys
end
end K45

set_option Elab.async false
set_option linter.all false
set_option maxRecDepth 100000
set_option maxHeartbeats 4000000
namespace K45
open PySem PySem.Spec PyProof.Rows L2 StX RZ MyR SlX OwnR OwnF
/-! ### == of tuples of ints -/
theorem dpAll_ints {K : PySem.W.Frag} {H : Hp} : ∀ ns : List Int, DpAll K H (ns.map V.int) (ns.map PyData.int)
  | [] => .nil
  | n :: r => .cons (.int n) (dpAll_ints r)
theorem lay_ints : ∀ ns : List Int, PyData.canLayAll0 (ns.map PyData.int) = true
  | [] => rfl
  | n :: r => by
    show (PyData.canLay0 (.int n) && PyData.canLayAll0 (r.map PyData.int)) = true
    rw [lay_ints r]
    rfl
theorem depth_ints : ∀ ns : List Int, PyData.depthAll (ns.map PyData.int) = 0
  | [] => rfl
  | n :: r => by
    show max (PyData.depth (.int n)) (PyData.depthAll (r.map PyData.int)) = 0
    rw [depth_ints r]
    rfl
theorem shaped_tints (ns : List Int) : SeqAt.shaped (.tuple (ns.map PyData.int)) = true := by
  unfold SeqAt.shaped
  rw [show PyData.canLay0 (.tuple (ns.map PyData.int)) = PyData.canLayAll0 (ns.map PyData.int) from rfl, lay_ints]
  rw [show PyData.depth (.tuple (ns.map PyData.int)) = PyData.depthAll (ns.map PyData.int) + 1 from rfl, depth_ints]
  rfl
/-! ### the properties, the operators -/
section
variable {P : Program} {w : World} {K : PySem.W.Frag} {mg : Str → Option Value} {base : Heap}
def spEnt (C : Addr) : Sp := fun vs H Q _ => ∃ (a : Addr) (ns : List Int), vs = [.ref a] ∧ Fo C H a ns ∧ ∀ t, H t = some (tp ns) → Q (.ref t) H
theorem ok_Form_entries (T : Facts K mg) : FnOk P w K mg base CX0 1 T.f_Form_entries T.fd_Form_entries ["self"] (spEnt T.C_Form) := by
  refine T.F_Form_entries.ok sc_Form_entries (fun vs H Q E h => ?_) (fun cdv A outer s H vs Q E hr h => ?_)
  · obtain ⟨a, ns, rfl, _⟩ := h
    rfl
  · obtain ⟨a, ns, rfl, fa, q⟩ := h
    obtain ⟨dx, t, ha, ht⟩ := fa.slt
    refine ⟨_, (PSs.nox (pss_one (ps_ret (pe_sl (pv 0))))), ?_⟩
    exact ⟨_, rfl, a, T.C_Form, dx, T.a_own_entries, _, 0, .ref t, rfl, ha, T.oc_Form.scl, T.sl_own_entries, rfl, q t ht⟩
def spDeg (C : Addr) : Sp := fun vs H Q _ => ∃ (a : Addr) (ns : List Int), vs = [.ref a] ∧ Fo C H a ns ∧ Q (.int ((ns.length : Int) - 1)) H
theorem ok_Form_degree (T : Facts K mg) : FnOk P w K mg base CX0 1 T.f_Form_degree T.fd_Form_degree ["self"] (spDeg T.C_Form) := by
  refine T.F_Form_degree.ok sc_Form_degree (fun vs H Q E h => ?_) (fun cdv A outer s H vs Q E hr h => ?_)
  · obtain ⟨a, ns, rfl, _⟩ := h
    rfl
  · obtain ⟨a, ns, rfl, fa, q⟩ := h
    obtain ⟨dx, t, ha, ht⟩ := fa.slt
    refine ⟨_, (PSs.nox (pss_one (ps_ret (pe_op op_sub (pe_callB call_len_seq (by rfl) T.z_len (by decide +kernel) (pa_cons (pe_sl (pv 0)) pa_nil)) pe_int)))), ?_⟩
    refine ⟨_, rfl, a, T.C_Form, dx, T.a_own_entries, _, 0, .ref t, rfl, ha, T.oc_Form.scl, T.sl_own_entries, rfl, t, _, rfl, .inr (SqT.of ht), _, _, rfl, rfl, ?_⟩
    rw [List.length_map]
    exact q
def spIsZ (C : Addr) : Sp := fun vs H Q _ => ∃ (a : Addr) (ns : List Int), vs = [.ref a] ∧ Fo C H a ns ∧ Q (.bl (!ns.any (· != 0))) H
theorem ok_Form_is_zero (T : Facts K mg) : FnOk P w K mg base CX0 2 T.f_Form_is_zero T.fd_Form_is_zero ["self"] (spIsZ T.C_Form) := by
  have G_is_zero_in : FnOk P w K mg base CX0 1 T.f_is_zero_in T.fd_is_zero_in ["entries"] spZero := ok_is_zero_in T
  refine T.F_Form_is_zero.ok sc_Form_is_zero (fun vs H Q E h => ?_) (fun cdv A outer s H vs Q E hr h => ?_)
  · obtain ⟨a, ns, rfl, _⟩ := h
    rfl
  · obtain ⟨a, ns, rfl, fa, q⟩ := h
    obtain ⟨dx, t, ha, ht⟩ := fa.slt
    refine ⟨_, (PSs.nox (pss_one (ps_ret (pe_call G_is_zero_in hr (by rfl) T.g_is_zero_in T.F_is_zero_in.kp T.b_is_zero_in .nil pass0 (pa_cons (pe_sl (pv 0)) pa_nil))))), ?_⟩
    exact ⟨_, rfl, a, T.C_Form, dx, T.a_own_entries, _, 0, .ref t, rfl, ha, T.oc_Form.scl, T.sl_own_entries, rfl, t, ns, rfl, ht, q⟩
/-- what is asked of a form's row -/
structure Rw (ns : List Int) : Prop where
  ne : ns ≠ []
  len : ns.length ≤ 100
  sm : ∀ x ∈ ns, sm x
/-- isinstance(x, Form), x a form -/
theorem isi_form {X : Cx} {C b dy : Addr} {vs : List (Option V)} {H : Hp} {Q : VK} (c : OC X.K C) (hb : Slt H b C dy vs) (q : Q (.bl true) H) : rIsi X.K [.ref b, .ref C] H Q ∨ rIsiSl X.K (.ref C) [.ref b, .ref C] H Q :=
  .inr ⟨b, C, dy, vs, .ref C, true, rfl, rfl, fun w r => r, hb, c.scl, c.sis, c.kself, q⟩
end
end K45

set_option Elab.async false
set_option linter.all false
set_option maxRecDepth 100000
set_option maxHeartbeats 4000000
namespace K45
open PySem PySem.Spec PyProof.Rows L2 StX RZ MyR SlX OwnR OwnF
theorem eqvAll_ints : ∀ xs ys : List Int, PyData.eqvAll (xs.map PyData.int) (ys.map PyData.int) = decide (xs = ys)
  | [], [] => rfl
  | [], _ :: _ => rfl
  | _ :: _, [] => rfl
  | x :: xs, y :: ys => by
    show (PyData.eqv (.int x) (.int y) && PyData.eqvAll (xs.map PyData.int) (ys.map PyData.int)) = _
    rw [eqvAll_ints xs ys]
    show ((x == y) && decide (xs = ys)) = decide (x :: xs = y :: ys)
    by_cases h : x = y
    · by_cases k : xs = ys
      · subst h k
        simp
      · rw [decide_eq_false k, decide_eq_false fun z => k (List.cons.inj z).2, Bool.and_false]
    · rw [decide_eq_false fun z => h (List.cons.inj z).1, beq_eq_false_iff_ne.mpr h, Bool.false_and]
theorem eqv_ints (xs ys : List Int) : PyData.eqv (.tuple (xs.map PyData.int)) (.tuple (ys.map PyData.int)) = decide (xs = ys) := eqvAll_ints xs ys
theorem eq_ints {K : PySem.W.Frag} {H : Hp} {a b : Addr} {xs ys : List Int} {Q : VK} (ha : SqT K H a (xs.map V.int)) (hb : SqT K H b (ys.map V.int)) (q : Q (.bl (decide (xs = ys))) H) : rEqD K (.ref a) (.ref b) H Q := by
  refine ⟨_, _, .tup ha (dpAll_ints xs), .tup hb (dpAll_ints ys), shaped_tints xs, shaped_tints ys, ?_⟩
  rw [eqv_ints]
  exact q
theorem ne_ints {K : PySem.W.Frag} {H : Hp} {a b : Addr} {xs ys : List Int} {Q : VK} (ha : SqT K H a (xs.map V.int)) (hb : SqT K H b (ys.map V.int)) (q : Q (.bl (!decide (xs = ys))) H) : rNeD K (.ref a) (.ref b) H Q := by
  refine ⟨_, _, .tup ha (dpAll_ints xs), .tup hb (dpAll_ints ys), shaped_tints xs, shaped_tints ys, ?_⟩
  rw [eqv_ints]
  exact q
section
variable {P : Program} {w : World} {K : PySem.W.Frag} {mg : Str → Option Value} {base : Heap}
end
end K45

set_option Elab.async false
set_option linter.all false
set_option maxRecDepth 100000
set_option maxHeartbeats 4000000
namespace K45
open PySem PySem.Spec PyProof.Rows L2 StX RZ MyR SlX OwnR OwnF
abbrev dice (x y z : Int) : HO := .lst [.int x, .int y, .int z]
/-- all but the dice is as it was -/
def Sx (a : Addr) (H H' : Hp) : Prop := ∀ b o, b ≠ a → H b = some o → H' b = some o
def Dc (H : Hp) (a : Addr) : Prop := ∃ x y z, H a = some (dice x y z)
theorem Sx.refl (a : Addr) (H : Hp) : Sx a H H := fun _ _ _ h => h
theorem Sx.trans {a : Addr} {H H1 H2 : Hp} (s : Sx a H H1) (t : Sx a H1 H2) : Sx a H H2 := fun b o n h => t b o n (s b o n h)
theorem Sx.of {a : Addr} {H H' : Hp} (s : Same H H') : Sx a H H' := fun b o _ h => s b o h
theorem Sx.upd {a : Addr} {H : Hp} {o : HO} : Sx a H (upd H a o) := fun b u n h => by
  rw [upd_ne n]
  exact h
theorem Dc.same {a : Addr} {H H' : Hp} (d : Dc H a) (s : Same H H') : Dc H' a := by
  obtain ⟨x, y, z, e⟩ := d
  exact ⟨x, y, z, s _ _ e⟩
theorem Dc.ne {a p : Addr} {H : Hp} (d : Dc H a) (n : H p = none) : p ≠ a := fun e => by
  obtain ⟨x, y, z, h⟩ := d
  rw [e, h] at n
  cases n
theorem Sx.free {a p : Addr} {H H' : Hp} (s : Sx a H H') (n : H' p = none) (ne : p ≠ a) : H p = none := by
  cases q : H p with
  | none => rfl
  | some o =>
    rw [s p o ne q] at n
    cases n
section
variable {P : Program} {w : World} {K : PySem.W.Frag} {mg : Str → Option Value} {base : Heap}
theorem cp16 : CPow 10 16 := ⟨by decide, by decide, by decide⟩
theorem cp60 : CPow 10 60 := ⟨by decide, by decide, by decide⟩
theorem cw60 : CMulW (10 ^ Int.toNat 60) (10 ^ Int.toNat 60) := by
  unfold CMulW
  decide +kernel
theorem pos60 : (0 : Int) < 10 ^ Int.toNat 60 * 10 ^ Int.toNat 60 := by decide +kernel
theorem pos_m : (0 : Int) < 1152921504606846697 := by decide
theorem sz3 : 3 ≤ sizeLine := by decide
def spDice (K : PySem.W.Frag) : Sp := fun vs H Q _ => ∃ (a : Addr) (ns : List Int) (k : Nat), vs = [.ref a, .int k] ∧ SqL K H a (ns.map V.int) ∧ ∀ p x y z, H p = none → Q (.ref p) (upd H p (dice x y z))
theorem ok_law_dice (T : Facts K mg) : FnOk P w K mg base CX0 1 T.f_law_dice T.fd_law_dice ["_law_script", "_law_spot"] (spDice K) := by
  refine T.F_law_dice.ok sc_law_dice (fun vs H Q E h => ?_) (fun cdv A outer s H vs Q E hr h => ?_)
  · obtain ⟨a, ns, k, rfl, _⟩ := h
    rfl
  · obtain ⟨a, ns, k, rfl, hS, q⟩ := h
    refine ⟨_, (PSs.nox (pss_cons (ps_set (i := 2) sc_law_dice.nd rfl (.inl rfl) (pe_ifExp (pt_cmpR op_lt (pv 1) (pe_callB call_len_seq (by rfl) T.z_len (by decide +kernel) (pa_cons (pv 0) pa_nil)) (nomark _)) (pe_callTy call_int1 (by rfl) T.z_int (by decide +kernel) (pa_cons (pe_ix ix_list (pv 0) (pv 1) (fun _ _ => rfl)) pa_nil)) (pe_op op_add (pe_op op_mul pe_int (pv 1)) pe_int)))
    (pss_cons (ps_set (i := 3) sc_law_dice.nd rfl (.inl rfl) (pe_op op_mod (pe_callB (call_max2 (by rfl)) (by rfl) T.z_max (by decide +kernel) (pa_cons pe_int (pa_cons (pe_op op_sub (pe_callB call_abs (by rfl) T.z_abs (by decide +kernel) (pa_cons (pv 2) pa_nil)) (pe_op op_pow pe_int pe_int)) pa_nil))) (pe_op op_mulW (pe_op op_pow pe_int pe_int) (pe_op op_pow pe_int pe_int))))
    (pss_one (ps_ret (pe_lst (pa_cons (pv 3) (pa_cons (pe_op op_add (pe_op op_add (pe_op op_add (pe_op op_mul (pe_op op_mod (pe_callB call_abs (by rfl) T.z_abs (by decide +kernel) (pa_cons (pv 2) pa_nil)) pe_int) pe_int) (pe_op op_mul pe_int (pv 1))) (pe_op op_mul pe_int (pe_callTy call_int1 (by rfl) T.z_int (by decide +kernel) (pa_cons (pe_cmpR op_lt (pv 2) pe_int (nomark _)) pa_nil)))) pe_int) (pa_cons pe_int pa_nil))))))))), ?_⟩
    refine ⟨.int k, rfl, .ref a, rfl, a, ns.map V.int, rfl, .inl hS, k, _, rfl, rfl, _, rfl, ?_⟩
    rw [List.length_map]
    by_cases h1 : (k : Int) < (ns.length : Int)
    · rw [decide_eq_true h1]
      have hj : k < ns.length := by omega
      refine iteT ⟨.ref a, rfl, .int k, rfl, a, ns.map V.int, k, .int ns[k], rfl, rfl, hS, atI_nat (by rw [List.getElem?_map, List.getElem?_eq_getElem hj]; rfl), .inl ⟨_, rfl, ?_⟩⟩
      refine ⟨.int ns[k], rfl, _, rfl, 10, 16, rfl, rfl, cp16, _, _, rfl, rfl, 0, _, rfl, 10, 60, rfl, rfl, cp60, 10, 60, rfl, rfl, cp60, _, _, rfl, rfl, cw60, _, _, rfl, rfl, pos60, ?_⟩
      refine ⟨_, rfl, .int ns[k], rfl, _, rfl, _, _, rfl, rfl, pos_m, _, _, rfl, rfl, .inr ⟨by decide, by decide⟩, .int k, rfl, _, _, rfl, rfl, .inl ⟨by decide, by decide⟩, _, _, rfl, rfl, .int ns[k], rfl, _, _, rfl, rfl, .inr ⟨_, rfl, _, _, rfl, rfl, .inl ⟨by decide, by decide⟩, _, _, rfl, rfl, _, _, rfl, rfl, ?_⟩⟩
      exact ⟨sz3, fun p hp => q p _ _ _ hp⟩
    · rw [decide_eq_false h1]
      refine iteF ⟨.int k, rfl, _, _, rfl, rfl, .inl ⟨by decide, by decide⟩, _, _, rfl, rfl, ?_⟩
      refine ⟨_, rfl, _, rfl, 10, 16, rfl, rfl, cp16, _, _, rfl, rfl, 0, _, rfl, 10, 60, rfl, rfl, cp60, 10, 60, rfl, rfl, cp60, _, _, rfl, rfl, cw60, _, _, rfl, rfl, pos60, ?_⟩
      refine ⟨_, rfl, _, rfl, _, rfl, _, _, rfl, rfl, pos_m, _, _, rfl, rfl, .inr ⟨by decide, by decide⟩, .int k, rfl, _, _, rfl, rfl, .inl ⟨by decide, by decide⟩, _, _, rfl, rfl, _, rfl, _, _, rfl, rfl, .inr ⟨_, rfl, _, _, rfl, rfl, .inl ⟨by decide, by decide⟩, _, _, rfl, rfl, _, _, rfl, rfl, ?_⟩⟩
      exact ⟨sz3, fun p hp => q p _ _ _ hp⟩
def spRoll : Sp := fun vs H Q _ => ∃ (a : Addr) (x y z n : Int), vs = [.ref a, .int n] ∧ H a = some (dice x y z) ∧ 0 < n ∧ n.natAbs.log2 < 9000 ∧ ∀ r x' z', 0 ≤ r → r < n → Q (.int r) (upd H a (dice x' y z'))
theorem ok_law_roll (T : Facts K mg) : FnOk P w K mg base CX0 1 T.f_law_roll T.fd_law_roll ["_law_dice_here", "_law_total"] spRoll := by
  refine T.F_law_roll.ok sc_law_roll (fun vs H Q E h => ?_) (fun cdv A outer s H vs Q E hr h => ?_)
  · obtain ⟨a, x, y, z, n, rfl, _⟩ := h
    rfl
  · obtain ⟨a, x, y, z, n, rfl, hd, h0, h1, q⟩ := h
    have hS : SqL K H a [.int x, .int y, .int z] := SqL.of hd
    refine ⟨_, (PSs.nox (pss_cons (ps_if (pt_cmpR op_gt (pe_ix ix_list (pv 0) pe_int (fun _ _ => rfl)) pe_int (nomark _))
      (pss_cons (ps_set (i := 2) sc_law_roll.nd rfl (.inl rfl) (pe_op op_mod (pe_callTy call_int1 (by rfl) T.z_int (by decide +kernel) (pa_cons (pe_ix ix_list (pv 0) pe_int (fun _ _ => rfl)) pa_nil)) (pv 1)))
      (pss_cons (ps_asg (pe_op op_fdivW (pe_ix ix_list (pv 0) pe_int (fun _ _ => rfl)) (pv 1)) (pg_sub (pv 0) pe_int set_list))
      (pss_one (ps_ret (pv 2)))))
      pss_nil)
    (pss_cons (ps_asg (pe_op op_add (pe_ix ix_list (pv 0) pe_int (fun _ _ => rfl)) pe_int) (pg_sub (pv 0) pe_int set_list))
    (pss_cons (ps_set (i := 3) sc_law_roll.nd rfl (.inl rfl) (pe_op op_mod (pe_callTy call_int1 (by rfl) T.z_int (by decide +kernel) (pa_cons (pe_op op_add (pe_ix ix_list (pv 0) pe_int (fun _ _ => rfl)) (pe_op op_mul pe_int (pe_ix ix_list (pv 0) pe_int (fun _ _ => rfl)))) pa_nil)) pe_int))
    (pss_cons (ps_set (i := 4) sc_law_roll.nd rfl (.inl rfl) (pe_op op_add (pe_op op_mul (pe_op op_mod (pe_callTy call_int1 (by rfl) T.z_int (by decide +kernel) (pa_cons (pe_op op_add (pe_op op_mul (pv 3) (pv 3)) (pe_op op_mul pe_int (pe_ix ix_list (pv 0) pe_int (fun _ _ => rfl)))) pa_nil)) pe_int) pe_int) (pv 3)))
    (pss_one (ps_ret (pe_op op_mod (pe_callTy call_int1 (by rfl) T.z_int (by decide +kernel) (pa_cons (pe_op op_fdivW (pv 4) pe_int) pa_nil)) (pv 1))))))))), ?_⟩
    refine ⟨.ref a, rfl, a, _, 0, .int x, rfl, rfl, hS, atI_nat (j := 0) rfl, x, 0, rfl, rfl, decide (0 < x), rfl, ite2 (fun _ => ?_) (fun _ => ?_)⟩
    · refine ⟨.ref a, rfl, a, _, 0, .int x, rfl, rfl, hS, atI_nat (j := 0) rfl, .inl ⟨x, rfl, .int n, rfl, x, n, rfl, rfl, h0, ?_⟩⟩
      refine ⟨.ref a, rfl, a, _, 0, .int x, rfl, rfl, hS, atI_nat (j := 0) rfl, .int n, rfl, x, n, rfl, rfl, ⟨h0, h1⟩, ?_⟩
      refine ⟨.ref a, rfl, a, _, 0, 0, rfl, rfl, hd, rfl, ?_⟩
      exact ⟨_, rfl, q (x % n) (x / n) z (Int.emod_nonneg _ (by omega)) (Int.emod_lt_of_pos _ h0)⟩
    · refine ⟨.ref a, rfl, a, _, 2, .int z, rfl, rfl, hS, atI_nat (j := 2) rfl, z, 1, rfl, rfl, ?_⟩
      refine ⟨.ref a, rfl, a, _, 2, 2, rfl, rfl, hd, rfl, ?_⟩
      have hd' : (upd H a (dice x y (z + 1))) a = some (dice x y (z + 1)) := upd_same
      have hS' : SqL K (upd H a (dice x y (z + 1))) a [.int x, .int y, .int (z + 1)] := SqL.of hd'
      refine ⟨.ref a, rfl, a, _, 1, .int y, rfl, rfl, hS', atI_nat (j := 1) rfl, .ref a, rfl, a, _, 2, .int (z + 1), rfl, rfl, hS', atI_nat (j := 2) rfl, _, _, rfl, rfl, .inl ⟨by decide, by decide⟩, _, _, rfl, rfl, .inl ⟨_, rfl, _, _, rfl, rfl, (by decide : (0 : Int) < 2305843009213691579), ?_⟩⟩
      have b0 := Int.emod_nonneg (y + 92821991 * (z + 1)) (show (2305843009213691579 : Int) ≠ 0 by decide)
      have b1 := Int.emod_lt_of_pos (y + 92821991 * (z + 1)) (show (0 : Int) < 2305843009213691579 by decide)
      refine ⟨_, rfl, _, rfl, _, _, rfl, rfl, .inl ⟨Int.lt_of_lt_of_le (by decide) b0, Int.lt_trans b1 (by decide)⟩, .ref a, rfl, a, _, 2, .int (z + 1), rfl, rfl, hS', atI_nat (j := 2) rfl, _, _, rfl, rfl, .inl ⟨by decide, by decide⟩, _, _, rfl, rfl, .inl ⟨_, rfl, _, _, rfl, rfl, (by decide : (0 : Int) < 2305843009213692227), _, _, rfl, rfl, .inr ⟨by decide, by decide⟩, _, rfl, _, _, rfl, rfl, ?_⟩⟩
      refine ⟨_, rfl, _, _, rfl, rfl, ⟨by decide, by decide +kernel⟩, .inl ⟨_, rfl, .int n, rfl, _, _, rfl, rfl, h0, ?_⟩⟩
      exact q _ x (z + 1) (Int.emod_nonneg _ (by omega)) (Int.emod_lt_of_pos _ h0)
def spPick (K : PySem.W.Frag) : Sp := fun vs H Q _ => ∃ (a b : Addr) (x y z : Int) (xs : List V), vs = [.ref a, .ref b] ∧ H a = some (dice x y z) ∧ H b = some (.lst xs) ∧ a ≠ b ∧ 0 < xs.length ∧ xs.length < 1000 ∧
  ∀ (i : Nat) v x' z', xs[i]? = some v → Q v (upd H a (dice x' y z'))
theorem ok_law_pick (T : Facts K mg) : FnOk P w K mg base CX0 2 T.f_law_pick T.fd_law_pick ["_law_dice_here", "_law_items"] (spPick K) := by
  have G_law_roll : FnOk P w K mg base CX0 1 T.f_law_roll T.fd_law_roll ["_law_dice_here", "_law_total"] spRoll := ok_law_roll T
  refine T.F_law_pick.ok sc_law_pick (fun vs H Q E h => ?_) (fun cdv A outer s H vs Q E hr h => ?_)
  · obtain ⟨a, b, x, y, z, xs, rfl, _⟩ := h
    rfl
  · obtain ⟨a, b, x, y, z, xs, rfl, hd, hb, hab, l0, l1, q⟩ := h
    refine ⟨_, (PSs.nox (pss_one (ps_ret (pe_ix ix_list (pv 1) (pe_call G_law_roll hr (by rfl) T.g_law_roll T.F_law_roll.kp T.b_law_roll .nil pass0 (pa_cons (pv 0) (pa_cons (pe_callB call_len_seq (by rfl) T.z_len (by decide +kernel) (pa_cons (pv 1) pa_nil)) pa_nil))) (fun _ _ => rfl))))), ?_⟩
    refine ⟨.ref b, rfl, .ref a, rfl, .ref b, rfl, b, xs, rfl, .inl (SqL.of hb), ?_⟩
    refine ⟨a, x, y, z, _, rfl, hd, (by omega : (0 : Int) < (xs.length : Int)), Nat.lt_trans (PySem.Flt.log2_lt_of (k := 10) (by decide) (by show xs.length < 2 ^ 10; omega)) (by decide), fun r x' z' h1 h2 => ?_⟩
    obtain ⟨j, rfl⟩ := Int.eq_ofNat_of_zero_le h1
    have hj : j < xs.length := by omega
    exact ⟨b, xs, j, xs[j], rfl, rfl, SqL.of (by rw [upd_ne (Ne.symm hab)]; exact hb), atI_nat (List.getElem?_eq_getElem hj), q j _ x' z' (List.getElem?_eq_getElem hj)⟩
def spRoll2 : Sp := fun vs H Q _ => ∃ (a : Addr) (n : Int), vs = [.ref a, .int n] ∧ Dc H a ∧ 0 < n ∧ n.natAbs.log2 < 9000 ∧ ∀ (r : Nat) H', (r : Int) < n → Sx a H H' → Dc H' a → Q (.int r) H'
theorem roll2 : ∀ vs H Q E, spRoll2 vs H Q E → spRoll vs H Q E := fun vs H Q E h => by
  obtain ⟨a, n, rfl, ⟨x, y, z, e⟩, h0, h1, q⟩ := h
  refine ⟨a, x, y, z, n, rfl, e, h0, h1, fun r x' z' r0 r1 => ?_⟩
  obtain ⟨j, rfl⟩ := Int.eq_ofNat_of_zero_le r0
  exact q j _ r1 Sx.upd ⟨x', y, z', upd_same⟩
def spPick2 : Sp := fun vs H Q _ => ∃ (a b : Addr) (xs : List V), vs = [.ref a, .ref b] ∧ Dc H a ∧ H b = some (.lst xs) ∧ b ≠ a ∧ 0 < xs.length ∧ xs.length < 1000 ∧ ∀ v H', v ∈ xs → Sx a H H' → Dc H' a → Q v H'
theorem pick2 {K : PySem.W.Frag} : ∀ vs H Q E, spPick2 vs H Q E → spPick K vs H Q E := fun vs H Q E h => by
  obtain ⟨a, b, xs, rfl, ⟨x, y, z, e⟩, hb, ne, l0, l1, q⟩ := h
  exact ⟨a, b, x, y, z, xs, rfl, e, hb, Ne.symm ne, l0, l1, fun i v x' z' hv => q v _ (List.mem_of_getElem? hv) Sx.upd ⟨x', y, z', upd_same⟩⟩
def spNear : Sp := fun vs H Q _ => ∃ (a : Addr) (m : Int), vs = [.ref a, .int m] ∧ Dc H a ∧ 0 ≤ m ∧ m ≤ 10 ^ 15 ∧ ∀ r H', -m ≤ r → r ≤ m → Sx a H H' → Dc H' a → Q (.int r) H'
theorem ok_law_near (T : Facts K mg) : FnOk P w K mg base CX0 2 T.f_law_near T.fd_law_near ["_law_dice_here", "_law_most"] spNear := by
  have G_law_roll : FnOk P w K mg base CX0 1 T.f_law_roll T.fd_law_roll ["_law_dice_here", "_law_total"] spRoll2 := (ok_law_roll T).imp roll2
  refine T.F_law_near.ok sc_law_near (fun vs H Q E h => ?_) (fun cdv A outer s H vs Q E hr h => ?_)
  · obtain ⟨a, m, rfl, _⟩ := h
    rfl
  · obtain ⟨a, m, rfl, hd, h0, h1, q⟩ := h
    refine ⟨_, (PSs.nox (pss_one (ps_ret (pe_op op_sub (pe_call G_law_roll hr (by rfl) T.g_law_roll T.F_law_roll.kp T.b_law_roll .nil pass0 (pa_cons (pv 0) (pa_cons (pe_op op_add (pe_op op_mul pe_int (pv 1)) pe_int) pa_nil))) (pv 1))))), ?_⟩
    have e15 : (10 : Int) ^ 15 = 1000000000000000 := by decide
    rw [e15] at h1
    refine ⟨_, rfl, _, rfl, _, _, rfl, rfl, .inl ⟨by decide, by decide⟩, _, _, rfl, rfl, a, _, rfl, hd, (by show 0 < 2 * m + 1; omega), ?_, fun r H' hr s d => ⟨_, rfl, _, _, rfl, rfl, ?_⟩⟩
    · refine Nat.lt_trans (PySem.Flt.log2_lt_of (k := 60) (by decide) ?_) (by decide)
      show (2 * m + 1).natAbs < 2 ^ 60
      omega
    · have hr' : (r : Int) < 2 * m + 1 := hr
      exact q _ H' (by omega) (by omega) s d
/-! ### the law's own gcd -/
def spLGcd : Sp := fun vs H Q _ => ∃ t b : Int, vs = [.int t, .int b] ∧ Q (.int ((Nat.gcd t.natAbs b.natAbs : Nat) : Int)) H
def yOf : L2.St → Nat
  | [_, some (.int y)] => y.toNat
  | _ => 0
theorem abs_nat (i : Int) : (if i < 0 then -i else i) = (i.natAbs : Int) := by split <;> omega
theorem ok_law_gcd (T : Facts K mg) : FnOk P w K mg base CX0 1 T.f_law_gcd T.fd_law_gcd ["_law_one", "_law_other"] spLGcd := by
  refine T.F_law_gcd.ok sc_law_gcd (fun vs H Q E h => ?_) (fun cdv A outer s H vs Q E hr h => ?_)
  · obtain ⟨t, b, rfl, _⟩ := h
    rfl
  · obtain ⟨t, b, rfl, q⟩ := h
    refine ⟨_, (PSs.nox (pss_cons (ps_par (i := 0) (j := 1) (by rfl) sc_law_gcd.nd rfl rfl (by decide) rfl rfl (pa_cons (pe_callB call_abs (by rfl) T.z_abs (by decide +kernel) (pa_cons (pv 0) pa_nil)) (pa_cons (pe_callB call_abs (by rfl) T.z_abs (by decide +kernel) (pa_cons (pv 1) pa_nil)) pa_nil)) (by rfl))
    (pss_cons (ps_while PassesOwn.never (pt_cmpR op_gt (pv 1) pe_int (nomark _))
      (pss_one (ps_par (i := 0) (j := 1) (by rfl) sc_law_gcd.nd rfl rfl (by decide) rfl rfl (pa_cons (pv 1) (pa_cons (pe_op op_mod (pe_callTy call_int1 (by rfl) T.z_int (by decide +kernel) (pa_cons (pv 0) pa_nil)) (pv 1)) pa_nil)) (by rfl))))
    (pss_one (ps_ret (pv 0)))))), ?_⟩
    refine ⟨_, rfl, t, rfl, _, rfl, b, rfl, _, _, rfl, ?_⟩
    rw [abs_nat, abs_nat]
    refine while_by (fun σ H' => ∃ x y : Nat, σ = [some (.int x), some (.int y)] ∧ Nat.gcd x y = Nat.gcd t.natAbs b.natAbs ∧ H' = H) (fun σ _ => yOf σ) ⟨_, _, rfl, rfl, rfl⟩ (fun σ H' hP => ?_) (fun σ H' Q1 Q2 hQ h => ?_)
    · obtain ⟨x, y, rfl, hg, rfl⟩ := hP
      refine ⟨_, rfl, _, _, rfl, rfl, _, rfl, ?_⟩
      by_cases c : 0 < (y : Int)
      · rw [decide_eq_true c]
        refine iteT ⟨_, rfl, _, rfl, .inl ⟨_, rfl, _, rfl, _, _, rfl, rfl, c, _, _, rfl, ?_⟩⟩
        have e : (x : Int) % (y : Int) = ((x % y : Nat) : Int) := (Int.natCast_emod x y).symm
        refine ⟨⟨y, x % y, ?_, ?_, rfl⟩, ?_⟩
        · show [some (V.int y), some (V.int ((x : Int) % (y : Int)))] = _
          rw [e]
        · rw [← hg, Nat.gcd_comm x y, Nat.gcd_rec y x, Nat.gcd_comm]
        · show ((x : Int) % (y : Int)).toNat < (y : Int).toNat
          rw [e]
          have := Nat.mod_lt x (show y > 0 by omega)
          omega
      · rw [decide_eq_false c]
        have ey : y = 0 := by omega
        subst ey
        refine iteF ⟨_, rfl, ?_⟩
        rw [← hg, Nat.gcd_zero_right] at q
        exact q
    · obtain ⟨v, e, x1, x2, e1, e2, k, e3, h⟩ := h
      exact ⟨v, e, x1, x2, e1, e2, k, e3, hQ _ _ h⟩
end
end K45

set_option Elab.async false
set_option linter.all false
set_option maxRecDepth 100000
set_option maxHeartbeats 4000000
namespace K45
open PySem PySem.Spec PyProof.Rows L2 StX RZ MyR SlX OwnR OwnF
theorem cont_snoc (x : Int) : ∀ l : List Int, cont (l ++ [x]) = Nat.gcd (cont l) x.natAbs
  | [] => by
    show Nat.gcd x.natAbs 0 = Nat.gcd 0 x.natAbs
    rw [Nat.gcd_zero_right, Nat.gcd_zero_left]
  | y :: ys => by
    show Nat.gcd y.natAbs (cont (ys ++ [x])) = Nat.gcd (Nat.gcd y.natAbs (cont ys)) x.natAbs
    rw [cont_snoc x ys, Nat.gcd_assoc]
theorem take_snoc {xs : List Int} {i : Nat} (h : i < xs.length) : xs.take (i + 1) = xs.take i ++ [co xs i] := by
  rw [List.take_add_one, List.getElem?_eq_getElem h, co_get h]
  rfl
theorem int_get {xs : List Int} {i : Nat} {x : V} (h : (xs.map V.int)[i]? = some x) : i < xs.length ∧ x = .int (co xs i) := by
  have hi : i < xs.length := by
    have := (List.getElem?_eq_some_iff.mp h).1
    rw [List.length_map] at this
    exact this
  rw [get_int hi] at h
  cases h
  exact ⟨hi, rfl⟩
theorem tab_snoc (n : Nat) (f : Nat → Int) : tab n f ++ [V.int (f n)] = tab (n + 1) f := by
  unfold tab
  rw [List.range_succ, List.map_append]
  rfl
theorem zs_tb {c : Int} {xs ys : List Int} (hl : xs.length = ys.length) : (tb xs.length fun k => co xs k + c * co ys k) = zs c xs ys := by
  refine co_inj (by rw [tb_len]; unfold zs; rw [List.length_zipWith, hl, Nat.min_self]) fun k => ?_
  rw [co_tb]
  unfold zs
  by_cases hk : k < xs.length
  · rw [if_pos hk, co_get (l := List.zipWith _ _ _) (by rw [List.length_zipWith]; omega), List.getElem_zipWith, co_get hk, co_get (by omega)]
  · rw [if_neg hk, co_far (by rw [List.length_zipWith]; omega)]
section
variable {P : Program} {w : World} {K : PySem.W.Frag} {mg : Str → Option Value} {base : Heap}
def spShared : Sp := fun vs H Q _ => ∃ (t : Addr) (ns : List Int), vs = [.ref t] ∧ H t = some (tp ns) ∧ Q (.int (cont ns : Nat)) H
def spSharedC (K : PySem.W.Frag) : Sp := fun vs H Q _ => ∃ (t : Addr) (ns : List Int), vs = [.ref t] ∧ (SqT K H t (ns.map V.int) ∨ SqL K H t (ns.map V.int)) ∧ Q (.int (cont ns : Nat)) H
theorem ok_law_sharedC (T : Facts K mg) : FnOk P w K mg base CX0 2 T.f_law_shared T.fd_law_shared ["_law_numbers"] (spSharedC K) := by
  have G_law_gcd : FnOk P w K mg base CX0 1 T.f_law_gcd T.fd_law_gcd ["_law_one", "_law_other"] spLGcd := ok_law_gcd T
  refine T.F_law_shared.ok sc_law_shared (fun vs H Q E h => ?_) (fun cdv A outer s H vs Q E hr h => ?_)
  · obtain ⟨t, ns, rfl, _⟩ := h
    rfl
  · obtain ⟨t, ns, rfl, ht, q⟩ := h
    refine ⟨_, (PSs.nox (pss_cons (ps_set (i := 1) sc_law_shared.nd rfl (.inl rfl) pe_int)
    (pss_cons (ps_for PassesOwn.never (by rfl) (SeqE.PI_or (pi_tup (pv 0)) (pi_list (pv 0))) (pg_name (i := 2) sc_law_shared.nd rfl (.inl rfl))
      (pss_one (ps_set (i := 1) sc_law_shared.nd rfl (.inl rfl) (pe_call G_law_gcd hr (by rfl) T.g_law_gcd T.F_law_gcd.kp T.b_law_gcd .nil pass0 (pa_cons (pv 1) (pa_cons (pv 2) pa_nil))))))
    (pss_one (ps_ret (pv 1)))))), ?_⟩
    rcases ht with ht | ht
    · refine .inl ⟨_, rfl, t, rfl, ⟨_, ht⟩, for_tup (xs := ns.map V.int) (fun i σ H' => ∃ y, σ = [some (.ref t), some (.int ((cont (ns.take i) : Nat) : Int)), y] ∧ H' = H) ⟨none, rfl, rfl⟩ (fun i σ H' _ hP => by rw [hP.choose_spec.2]; exact ht) (fun i x σ H' hx hP => ?_) (fun σ H' hP => ?_)⟩
      · obtain ⟨y, rfl, rfl⟩ := hP
        obtain ⟨hi, rfl⟩ := int_get hx
        refine ⟨_, rfl, _, rfl, _, _, rfl, some (.int (co ns i)), ?_, rfl⟩
        rw [take_snoc hi, cont_snoc]
        rfl
      · obtain ⟨y, rfl, rfl⟩ := hP
        rw [List.length_map, List.take_length]
        exact ⟨_, rfl, q⟩
    · refine .inr ⟨_, rfl, t, rfl, ⟨_, ht⟩, for_list (xs := ns.map V.int) (fun i σ H' => ∃ y, σ = [some (.ref t), some (.int ((cont (ns.take i) : Nat) : Int)), y] ∧ H' = H) ⟨none, rfl, rfl⟩ (fun i σ H' _ hP => by rw [hP.choose_spec.2]; exact ht) (fun i x σ H' hx hP => ?_) (fun σ H' hP => ?_)⟩
      · obtain ⟨y, rfl, rfl⟩ := hP
        obtain ⟨hi, rfl⟩ := int_get hx
        refine ⟨_, rfl, _, rfl, _, _, rfl, some (.int (co ns i)), ?_, rfl⟩
        rw [take_snoc hi, cont_snoc]
        rfl
      · obtain ⟨y, rfl, rfl⟩ := hP
        rw [List.length_map, List.take_length]
        exact ⟨_, rfl, q⟩
theorem ok_law_shared (T : Facts K mg) : FnOk P w K mg base CX0 2 T.f_law_shared T.fd_law_shared ["_law_numbers"] spShared := (ok_law_sharedC T).imp fun vs H Q E h => by
  obtain ⟨t, ns, rfl, ht, q⟩ := h
  exact ⟨t, ns, rfl, .inl (SqT.of ht), q⟩
def spPlus : Sp := fun vs H Q _ => ∃ (t u : Addr) (xs ys : List Int), vs = [.ref t, .ref u] ∧ H t = some (tp xs) ∧ H u = some (tp ys) ∧ xs.length = ys.length ∧ xs.length ≤ 100 ∧ ∀ p H', Same H H' → H p = none → H' p = some (tp (zs 1 xs ys)) → Q (.ref p) H'
theorem ok_law_plus (T : Facts K mg) : FnOk P w K mg base CX0 1 T.f_law_plus T.fd_law_plus ["_law_one", "_law_other"] spPlus := by
  refine T.F_law_plus.ok sc_law_plus (fun vs H Q E h => ?_) (fun cdv A outer s H vs Q E hr h => ?_)
  · obtain ⟨t, u, xs, ys, rfl, _⟩ := h
    rfl
  · obtain ⟨t, u, xs, ys, rfl, ht, hu, hl, hlt, q⟩ := h
    refine ⟨_, (PSs.nox (pss_one (ps_ret (pe_tupleOf (by rfl) T.z_tuple (pe_lc (own := [("_law_first", 2), ("_law_second", 3)]) (g := (gTup K 2 (gCons (gName 2) (gCons (gName 3) gNil)))) (tt := tYes) (by rfl) sc_law_plus.nd (pi_zipA (by rfl) T.z_zip (pa_cons (pv 0) (pa_cons (pv 1) pa_nil))) (blkOk_by (N := N_law_plus) (sc := defScope s_law_plus) (by decide +kernel)) (fun _ _ _ _ _ => (pg_tup (by rfl) (pgs_cons (pg_name (i := 2) sc_law_plus.nd rfl (.inl rfl)) (pgs_cons (pg_name (i := 3) sc_law_plus.nd rfl (.inl rfl)) pgs_nil)))) (fun _ _ _ _ _ => pts_nil) (fun _ _ _ _ _ => (pe_op op_add (pv 2) (pv 3)))))))), ?_⟩
    refine ⟨_, rfl, _, rfl, t, u, _, _, rfl, .inr ⟨SqT.of ht, SqT.of hu, fun D hD => ?_⟩⟩
    refine lc_zipT (xs := xs.map V.int) (ys := ys.map V.int) (by rw [List.length_map, List.length_map, hl]) (fun j H' => Same H H' ∧ H' D = some (.lst (tab j fun k => co xs k + 1 * co ys k))) ⟨same_upd0 hD, upd_same⟩ (fun j H' _ hP => ⟨SqT.of (hP.1 _ _ ht), SqT.of (hP.1 _ _ hu)⟩) (fun j x y A H' hx hy hP hA => ?_) (fun H' hP => ?_)
    · obtain ⟨sH, hD'⟩ := hP
      obtain ⟨hj, rfl⟩ := int_get hx
      obtain ⟨_, rfl⟩ := int_get hy
      have sA := same_upd0 (o := .tup [.int (co xs j), .int (co ys j)]) hA
      refine ⟨A, _, rfl, SqT.of upd_same, rfl, _, _, rfl, _, _, rfl, rfl, rfl, _, rfl, _, rfl, _, _, rfl, rfl, _, sA _ _ hD', ?_, fun b o e => ?_, ?_⟩
      · rw [tab_len]
        exact small1000 (by omega)
      · rw [upd_ne (ne_of_none e hD)]
        exact sA _ _ (sH _ _ e)
      · rw [upd_same, ← tab_snoc]
        show some (HO.lst (tab j _ ++ [V.int (co xs j + co ys j)])) = some (HO.lst (tab j _ ++ [V.int (co xs j + 1 * co ys j)]))
        rw [Int.one_mul]
    · obtain ⟨sH, hD'⟩ := hP
      rw [List.length_map] at hD'
      refine .inl ⟨D, _, rfl, SqL.of hD', fun p hp2 => ?_⟩
      refine q p _ (sH.trans (same_upd0 hp2)) (Same.free sH hp2) ?_
      rw [upd_same, tab_tb, zs_tb hl]
def spScaled : Sp := fun vs H Q _ => ∃ (t : Addr) (xs : List Int) (c : Int), vs = [.ref t, .int c] ∧ H t = some (tp xs) ∧ xs.length ≤ 100 ∧ (∀ x ∈ xs, sm x) ∧ sm c ∧ ∀ p H', Same H H' → H p = none → H' p = some (tp (xs.map fun x => c * x)) → Q (.ref p) H'
theorem ok_law_scaled (T : Facts K mg) : FnOk P w K mg base CX0 1 T.f_law_scaled T.fd_law_scaled ["_law_form_here", "_law_factor"] spScaled := by
  refine T.F_law_scaled.ok sc_law_scaled (fun vs H Q E h => ?_) (fun cdv A outer s H vs Q E hr h => ?_)
  · obtain ⟨t, xs, c, rfl, _⟩ := h
    rfl
  · obtain ⟨t, xs, c, rfl, ht, hl, hs, hc, q⟩ := h
    refine ⟨_, (PSs.nox (pss_one (ps_ret (pe_tupleOf (by rfl) T.z_tuple (pe_lc (own := [("_law_entry", 2)]) (g := (gName 2)) (tt := tYes) (by rfl) sc_law_scaled.nd (pi_tup (pv 0)) (blkOk_by (N := N_law_scaled) (sc := defScope s_law_scaled) (by decide +kernel)) (fun _ _ _ _ _ => (pg_name (i := 2) sc_law_scaled.nd rfl (.inl rfl))) (fun _ _ _ _ _ => pts_nil) (fun _ _ _ _ _ => (pe_op op_mulW (pv 1) (pv 2)))))))), ?_⟩
    refine ⟨_, rfl, t, rfl, ⟨_, SqT.of ht⟩, fun D hD => lc_tup (xs := xs.map V.int) (fun j H' => H' = upd H D (.lst (tab j fun k => c * co xs k))) rfl (fun j H' _ hP => ?_) (fun j x H' hx hP => ?_) (fun H' hP => ?_)⟩
    · rw [hP]
      exact SqT.of (same_upd0 hD _ _ ht)
    · subst hP
      obtain ⟨hj, rfl⟩ := int_get hx
      refine ⟨rfl, ⟨_, rfl, _, rfl, _, _, rfl, rfl, sm_mul hc (sm_co hs hj), _, upd_same, ?_, ?_⟩⟩
      · rw [tab_len]
        exact small1000 (by omega)
      · rw [upd_upd, ← tab_snoc]
    · subst hP
      rw [List.length_map, tab_tb, tb_map (fun x => c * x) xs]
      refine .inl ⟨D, _, rfl, SqL.of upd_same, fun p hp2 => ?_⟩
      exact q p _ ((same_upd0 hD).trans (same_upd0 hp2)) (Same.free (same_upd0 hD) hp2) upd_same
end
end K45

set_option Elab.async false
set_option linter.all false
set_option maxRecDepth 100000
set_option maxHeartbeats 4000000
namespace K45
open PySem PySem.Spec PyProof.Rows L2 StX RZ MyR SlX OwnR OwnF EnumT
section
variable {P : Program} {w : World} {K : PySem.W.Frag} {mg : Str → Option Value} {base : Heap}
def spProd : Sp := fun vs H Q _ => ∃ (a b : Addr) (xs ys : List Int), vs = [.ref a, .ref b] ∧ H a = some (tp xs) ∧ H b = some (tp ys) ∧ xs ≠ [] ∧ ys ≠ [] ∧ xs.length ≤ 100 ∧ ys.length ≤ 100 ∧ (∀ x ∈ xs, sm x) ∧ (∀ x ∈ ys, sm x) ∧ ∀ p H', Same H H' → H p = none → H' p = some (tp (ml xs ys)) → Q (.ref p) H'
theorem ok_law_product (T : Facts K mg) : FnOk P w K mg base CX0 1 T.f_law_product T.fd_law_product ["_law_one", "_law_other"] spProd := by
  refine T.F_law_product.ok sc_law_product (fun vs H Q E h => ?_) (fun cdv A outer s H vs Q E hr h => ?_)
  · obtain ⟨a, b, xs, ys, rfl, _⟩ := h
    rfl
  · obtain ⟨a, b, xs, ys, rfl, ha, hb, nx, ny, lx, ly, hx, hy, q⟩ := h
    have px : 0 < xs.length := List.length_pos_iff.mpr nx
    have py : 0 < ys.length := List.length_pos_iff.mpr ny
    refine ⟨_, (PSs.nox (pss_cons (ps_setLc (i := 2) (own := [("_law_place", 3)]) (g := (gName 3)) (tt := tYes) rfl sc_law_product.nd rfl rfl (sw_true rfl rfl rfl (by decide +kernel)) (pi_range1 (by rfl) T.z_range (pa_cons (pe_op op_sub (pe_op op_add (pe_callB call_len_seq (by rfl) T.z_len (by decide +kernel) (pa_cons (pv 0) pa_nil)) (pe_callB call_len_seq (by rfl) T.z_len (by decide +kernel) (pa_cons (pv 1) pa_nil))) pe_int) pa_nil)) (blkOk_by (N := N_law_product) (sc := defScope s_law_product) (by decide +kernel)) (fun _ _ _ _ _ => (pg_name (i := 3) sc_law_product.nd rfl (.inl rfl))) (fun _ _ _ _ _ => pts_nil) (fun _ _ _ _ _ => pe_int))
    (pss_cons (ps_for PassesOwn.never (by rfl) (pi_enumT (by rfl) T.z_enumerate (pa_cons (pv 0) pa_nil)) (pg_tup (by rfl) (pgs_cons (pg_name (i := 4) sc_law_product.nd rfl (.inl rfl)) (pgs_cons (pg_name (i := 5) sc_law_product.nd rfl (.inl rfl)) pgs_nil)))
      (pss_one (ps_for PassesOwn.never (by rfl) (pi_enumT (by rfl) T.z_enumerate (pa_cons (pv 1) pa_nil)) (pg_tup (by rfl) (pgs_cons (pg_name (i := 3) sc_law_product.nd rfl (.inl rfl)) (pgs_cons (pg_name (i := 6) sc_law_product.nd rfl (.inl rfl)) pgs_nil)))
        (pss_one (ps_asg (pe_op op_add (pe_ix ix_list (pv 2) (pe_op op_add (pv 4) (pv 3)) (fun _ _ => rfl)) (pe_op op_mulW (pv 5) (pv 6))) (pg_sub (pv 2) (pe_op op_add (pv 4) (pv 3)) set_list))))))
    (pss_one (ps_ret (pe_tupleOf (by rfl) T.z_tuple (pv 2))))))), ?_⟩
    refine ⟨_, rfl, a, _, rfl, .inr (SqT.of ha), _, rfl, b, _, rfl, .inr (SqT.of hb), ?_⟩
    rw [List.length_map, List.length_map]
    obtain ⟨N, hN⟩ : ∃ N, N = xs.length + ys.length - 1 := ⟨_, rfl⟩
    have eN : (((xs.length : Int) + (ys.length : Int) - 1)).toNat = N := by omega
    refine ⟨_, _, rfl, rfl, _, _, rfl, rfl, _, rfl, (by show -(2 ^ 62) ≤ (xs.length : Int) + (ys.length : Int) - 1; omega), (by show (xs.length : Int) + (ys.length : Int) - 1 < 2 ^ 62; omega), fun D hD => lc_range (n := _) (fun j H' => H' = upd H D (.lst (List.replicate j (V.int 0)))) rfl (fun j H' hj hP => ?_) (fun H' hP => ?_)⟩
    · subst hP
      have hj2 : j < N := by rw [← eN]; exact hj
      refine ⟨rfl, ⟨_, upd_same, ?_, ?_⟩⟩
      · rw [List.length_replicate]
        exact small1000 (by omega)
      · rw [upd_upd, List.replicate_succ']
    · subst hP
      show _
      rw [show List.replicate (((xs.length : Int) + (ys.length : Int) - 1)).toNat (V.int 0) = tab N (fun k => cv (xs.take 0) (co ys) k) by rw [eN, tab_rep]; rfl]
      have sD : ∀ o, Same H (upd H D o) := fun o => same_upd0 hD
      -- what stands in each turn: the list at D, and what stood before
      refine ⟨_, rfl, a, _, rfl, SqT.of (sD _ _ _ ha), for_enumT (xs := xs.map V.int) (fun i σ H' => ∃ y3 y4 y5 y6, σ = [some (.ref a), some (.ref b), some (.ref D), y3, y4, y5, y6] ∧ Same H H' ∧ H' D = some (.lst (tab N fun k => cv (xs.take i) (co ys) k))) ⟨none, none, none, none, rfl, sD _, upd_same⟩ (fun i σ H' hP => ?_) (fun i x B σ H' hxi hP hB => ?_) (fun σ H' hP => ?_)⟩
      · obtain ⟨y3, y4, y5, y6, _, sH, _⟩ := hP
        exact SqT.of (sH _ _ ha)
      · obtain ⟨y3, y4, y5, y6, rfl, sH, hL⟩ := hP
        obtain ⟨hi2, rfl⟩ := int_get hxi
        refine ⟨B, _, rfl, SqT.of upd_same, rfl, _, _, rfl, _, _, rfl, rfl, ?_⟩
        refine gen_upd H' B _ hB (fun H2 s2 _ => ?_)
        have sH2 := sH.trans s2
        have hL2 := s2 _ _ hL
        rw [tab_ext (g := J xs (co ys) i 0) fun k hk => J_0.symm] at hL2
        refine ⟨_, rfl, b, _, rfl, SqT.of (sH2 _ _ hb), for_enumT (xs := ys.map V.int) (fun j σ H3 => ∃ y3 y6, σ = [some (.ref a), some (.ref b), some (.ref D), y3, some (.int ((i : Nat) : Int)), some (.int (co xs i)), y6] ∧ Same H H3 ∧ H3 D = some (.lst (tab N (J xs (co ys) i j)))) ⟨y3, y6, rfl, sH2, hL2⟩ (fun j σ H3 hP => ?_) (fun j y B2 σ H3 hyj hP hB2 => ?_) (fun σ H3 hP => ?_)⟩
        · obtain ⟨y3, y6, _, sH3, _⟩ := hP
          exact SqT.of (sH3 _ _ hb)
        · obtain ⟨y3, y6, rfl, sH3, hL3⟩ := hP
          obtain ⟨hj2, rfl⟩ := int_get hyj
          refine ⟨B2, _, rfl, SqT.of upd_same, rfl, _, _, rfl, _, _, rfl, rfl, ?_⟩
          refine gen_upd H3 B2 _ hB2 (fun H4 s4 _ => ?_)
          have sH4 := sH3.trans s4
          have hL4 := s4 _ _ hL3
          have e1 : ((i : Nat) : Int) + ((j : Nat) : Int) = ((i + j : Nat) : Int) := by omega
          refine ⟨_, rfl, _, rfl, _, rfl, _, _, rfl, rfl, D, _, _, _, rfl, rfl, SqL.of hL4, at_of e1 (tab_get (by omega)), _, rfl, _, rfl, _, _, rfl, rfl, sm_mul (sm_co hx hi2) (sm_co hy hj2), _, _, rfl, rfl, ?_⟩
          refine ⟨_, rfl, _, rfl, _, rfl, _, _, rfl, rfl, D, _, _, (i + j), rfl, rfl, hL4, ?_, ?_⟩
          · rw [tab_len]
            exact ix_at e1 (by omega)
          · refine ⟨_, _, rfl, fun c o e => ?_, ?_⟩
            · rw [upd_ne (ne_of_none e hD)]
              exact sH4 _ _ e
            · rw [upd_same]
              show some (HO.lst ((tab N (J xs (co ys) i j)).set (i + j) (.int (J xs (co ys) i j (i + j) + co xs i * co ys j)))) = _
              rw [tab_set, tab_ext fun k hk => J_step]
        · obtain ⟨y3, y6, rfl, sH3, hL3⟩ := hP
          rw [List.length_map, tab_ext fun k hk => J_end hi2] at hL3
          exact ⟨_, _, _, _, rfl, sH3, hL3⟩
      · obtain ⟨y3, y4, y5, y6, rfl, sH, hL⟩ := hP
        rw [List.length_map, List.take_length, tab_tb] at hL
        refine ⟨_, rfl, .inl ⟨D, _, rfl, SqL.of hL, fun p hp => ?_⟩⟩
        refine q p _ (sH.trans (same_upd0 hp)) (Same.free sH hp) ?_
        rw [upd_same, hN]
        rfl
/-- the product of the first n -/
def pow (l : List Int) : Nat → List Int
  | 0 => [1]
  | n + 1 => ml (pow l n) l
def spPow : Sp := fun vs H Q _ => ∃ (a : Addr) (xs : List Int) (n : Nat), vs = [.ref a, .int n] ∧ H a = some (tp xs) ∧ xs ≠ [] ∧ xs.length ≤ 100 ∧ (∀ x ∈ xs, sm x) ∧ (∀ i, i < n → pow xs i ≠ [] ∧ (pow xs i).length ≤ 100 ∧ ∀ x ∈ pow xs i, sm x) ∧ n ≤ 100 ∧ ∀ p H', Same H H' → H' p = some (tp (pow xs n)) → Q (.ref p) H'
theorem ok_law_power (T : Facts K mg) : FnOk P w K mg base CX0 2 T.f_law_power T.fd_law_power ["_law_pair", "_law_times"] spPow := by
  have G_law_product : FnOk P w K mg base CX0 1 T.f_law_product T.fd_law_product ["_law_one", "_law_other"] spProd := ok_law_product T
  refine T.F_law_power.ok sc_law_power (fun vs H Q E h => ?_) (fun cdv A outer s H vs Q E hr h => ?_)
  · obtain ⟨a, xs, n, rfl, _⟩ := h
    rfl
  · obtain ⟨a, xs, n, rfl, ha, nx, lx, hx, hp, hn, q⟩ := h
    refine ⟨_, (PSs.nox (pss_cons (ps_set (i := 2) sc_law_power.nd rfl (.inl rfl) (pe_tup (pa_cons pe_int pa_nil)))
    (pss_cons (ps_for PassesOwn.never (by rfl) (pi_range1 (by rfl) T.z_range (pa_cons (pv 1) pa_nil)) (pg_name (i := 3) sc_law_power.nd rfl (.inl rfl))
      (pss_one (ps_set (i := 2) sc_law_power.nd rfl (.inl rfl) (pe_call G_law_product hr (by rfl) T.g_law_product T.F_law_product.kp T.b_law_product .nil pass0 (pa_cons (pv 2) (pa_cons (pv 0) pa_nil))))))
    (pss_one (ps_ret (pv 2)))))), ?_⟩
    refine ⟨(by show 1 ≤ sizeLine; decide), fun p0 n0 => ⟨_, rfl, n, rfl, by omega, by omega, for_range (n := (n : Int).toNat) (fun i σ H' => ∃ r y3, σ = [some (.ref a), some (.int n), some (.ref r), y3] ∧ Same H H' ∧ H' r = some (tp (pow xs i))) ⟨p0, none, rfl, same_upd0 n0, upd_same⟩ (fun i σ H' hi hP => ?_) (fun σ H' hP => ?_)⟩⟩
    · obtain ⟨r, y3, rfl, sH, hr2⟩ := hP
      obtain ⟨h1, h2, h3⟩ := hp i (by omega)
      exact ⟨_, rfl, _, rfl, r, a, _, xs, rfl, hr2, sH _ _ ha, h1, nx, h2, lx, h3, hx, fun p H2 s2 _ hp2 => ⟨p, _, rfl, sH.trans s2, hp2⟩⟩
    · obtain ⟨r, y3, rfl, sH, hr2⟩ := hP
      rw [Int.toNat_natCast] at hr2
      exact ⟨_, rfl, q r H' sH hr2⟩
end
end K45

set_option Elab.async false
set_option linter.all false
set_option maxRecDepth 100000
set_option maxHeartbeats 4000000
namespace K45
open PySem PySem.Spec PyProof.Rows L2 StX RZ MyR SlX OwnR OwnF EnumT
theorem first_of : ∀ ns : List Int, cont ns ≠ 0 → ∃ x r, ns.filter (fun x => x != 0) = x :: r ∧ sg ns = (if 0 < x then 1 else -1)
  | [], h => absurd rfl h
  | y :: ys, h => by
    by_cases c : y = 0
    · have hc : cont ys ≠ 0 := fun e => h (by
        show Nat.gcd y.natAbs (cont ys) = 0
        rw [c, e]
        rfl)
      obtain ⟨x, r, e1, e2⟩ := first_of ys hc
      refine ⟨x, r, ?_, ?_⟩
      · rw [List.filter_cons_of_neg (by rw [c]; decide)]
        exact e1
      · show (if y = 0 then sg ys else _) = _
        rw [if_pos c]
        exact e2
    · refine ⟨y, ys.filter (fun x => x != 0), ?_, ?_⟩
      · rw [List.filter_cons_of_pos (by simpa using c)]
      · show (if y = 0 then sg ys else if 0 < y then 1 else -1) = _
        rw [if_neg c]
section
variable {P : Program} {w : World} {K : PySem.W.Frag} {mg : Str → Option Value} {base : Heap}
theorem ok_law_plain (T : Facts K mg) : FnOk P w K mg base CX0 3 T.f_law_plain T.fd_law_plain ["_law_form_here"] spPrim := by
  have G_law_shared : FnOk P w K mg base CX0 2 T.f_law_shared T.fd_law_shared ["_law_numbers"] spShared := ok_law_shared T
  refine T.F_law_plain.ok sc_law_plain (fun vs H Q E h => ?_) (fun cdv A outer s H vs Q E hr h => ?_)
  · obtain ⟨t, ns, rfl, _⟩ := h
    rfl
  · obtain ⟨t, ns, rfl, ht, hl, hs, q⟩ := h
    refine ⟨_, (PSs.nox (pss_cons (ps_set (i := 1) sc_law_plain.nd rfl (.inr rfl) (pe_call G_law_shared hr (by rfl) T.g_law_shared T.F_law_shared.kp T.b_law_shared .nil pass0 (pa_cons (pv 0) pa_nil)))
    (pss_cons (ps_if (pt_cmpR op_eq (pv 1) pe_int (nomark _))
      (pss_one (ps_ret (pv 0)))
      pss_nil)
    (pss_cons (ps_set (i := 2) sc_law_plain.nd rfl (.inr rfl) (pe_ix ix_list (pe_lc (own := [("_law_entry", 3)]) (g := (gName 3)) (by rfl) sc_law_plain.nd (pi_tup (pv 0)) (blkOk_by (N := N_law_plain) (sc := defScope s_law_plain) (by decide +kernel)) (fun _ _ _ _ _ => (pg_name (i := 3) sc_law_plain.nd rfl (.inl rfl))) (fun _ _ _ _ _ => (pts_one (pt_cmpR op_ne (pv 3) pe_int (nomark _)))) (fun _ _ _ _ _ => (pv 3))) pe_int (fun _ _ => rfl)))
    (pss_one (ps_ret (pe_tupleOf (by rfl) T.z_tuple (pe_lc (own := [("_law_entry", 3)]) (g := (gName 3)) (tt := tYes) (by rfl) sc_law_plain.nd (pi_tup (pv 0)) (blkOk_by (N := N_law_plain) (sc := defScope s_law_plain) (by decide +kernel)) (fun _ _ _ _ _ => (pg_name (i := 3) sc_law_plain.nd rfl (.inl rfl))) (fun _ _ _ _ _ => pts_nil) (fun _ _ _ _ _ => (pe_op op_fdivZ (pv 3) (pe_ifExp (pt_cmpR op_gt (pv 2) pe_int (nomark _)) (pv 1) (pe_op op_sub pe_int (pv 1))))))))))))), ?_⟩
    refine ⟨_, rfl, t, ns, rfl, ht, _, rfl, rfl, _, rfl, ?_⟩
    by_cases c : cont ns = 0
    · rw [decide_eq_true (show V.int ((cont ns : Nat) : Int) = V.int 0 by rw [c]; rfl)]
      refine iteT ⟨_, rfl, q t H (Same.rf H) ?_⟩
      unfold prim
      rw [if_pos (by unfold part; rw [c]; exact Int.zero_mul _)]
      exact ht
    · rw [decide_eq_false fun z => c (Int.natCast_eq_zero.mp (V.int.inj z))]
      obtain ⟨x0, r0, e1, e2⟩ := first_of ns c
      have hpart : part ns = if 0 < x0 then ((cont ns : Nat) : Int) else 0 - ((cont ns : Nat) : Int) := by
        unfold part
        rw [e2]
        split
        · exact Int.mul_one _
        · rw [Int.mul_neg, Int.mul_one, Int.zero_sub]
      have hp0 : part ns ≠ 0 := fun e => c (by rw [← part_abs, e]; rfl)
      have hcd : CDivZ 0 (part ns) := ⟨hp0, Nat.lt_trans (PySem.Flt.log2_lt_of (k := 4000) (by decide) (sm_part hs)) (by decide)⟩
      refine iteF ⟨_, rfl, t, rfl, ⟨_, SqT.of ht⟩, fun D hD => lc_tup (xs := ns.map V.int) (fun j H' => Same H H' ∧ H' D = some (.lst (((ns.take j).filter (fun x => x != 0)).map V.int))) ⟨same_upd0 hD, upd_same⟩ (fun j H' _ hP => SqT.of (hP.1 _ _ ht)) (fun j x H' hx hP => ?_) (fun H1 hP => ?_)⟩
      · obtain ⟨sH, hL⟩ := hP
        obtain ⟨hj, rfl⟩ := int_get hx
        refine ⟨rfl, _, rfl, rfl, _, rfl, ?_⟩
        rw [take_snoc hj, List.filter_append]
        by_cases d : co ns j = 0
        · rw [decide_eq_true (show V.int (co ns j) = V.int 0 by rw [d])]
          refine iteF ⟨sH, ?_⟩
          rw [hL, List.filter_cons_of_neg (by rw [d]; decide), List.filter_nil, List.append_nil]
        · rw [decide_eq_false fun z => d (V.int.inj z)]
          refine iteT ⟨_, rfl, _, hL, ?_, fun b o e => ?_, ?_⟩
          · have h1 := List.length_filter_le (fun x => x != 0) (ns.take j)
            rw [List.length_take] at h1
            rw [List.length_map]
            exact small1000 (by omega)
          · rw [upd_ne (ne_of_none e hD)]
            exact sH _ _ e
          · rw [upd_same, List.filter_cons_of_pos (by simpa using d), List.filter_nil, List.map_append]
            rfl
      · obtain ⟨s1, hL⟩ := hP
        rw [List.length_map, List.take_length, e1] at hL
        refine ⟨D, _, _, .int x0, rfl, rfl, SqL.of hL, atI_nat (j := 0) rfl, ?_⟩
        have ht1 := s1 _ _ ht
        refine ⟨_, rfl, t, rfl, ⟨_, SqT.of ht1⟩, fun D2 hD2 => lc_tup (xs := ns.map V.int) (fun j H' => H' = upd H1 D2 (.lst (tab j fun k => (co ns k).fdiv (part ns)))) rfl (fun j H' _ hP => ?_) (fun j x H' hx hP => ?_) (fun H' hP => ?_)⟩
        · rw [hP]
          exact SqT.of (same_upd0 hD2 _ _ ht1)
        · subst hP
          obtain ⟨hj, rfl⟩ := int_get hx
          refine ⟨rfl, _, rfl, _, rfl, x0, 0, rfl, rfl, _, rfl, ?_⟩
          have fin : ∀ v : Int, v = part ns → True := fun _ _ => True.intro
          by_cases d : 0 < x0
          · rw [decide_eq_true d]
            rw [if_pos d] at hpart
            rw [hpart] at hcd
            refine iteT ⟨_, rfl, _, _, rfl, rfl, hcd, _, upd_same, ?_, ?_⟩
            · rw [tab_len]
              exact small1000 (by omega)
            · rw [upd_upd, ← tab_snoc, hpart]
          · rw [decide_eq_false d]
            rw [if_neg d] at hpart
            rw [hpart] at hcd
            refine iteF ⟨_, rfl, _, _, rfl, rfl, _, _, rfl, rfl, hcd, _, upd_same, ?_, ?_⟩
            · rw [tab_len]
              exact small1000 (by omega)
            · rw [upd_upd, ← tab_snoc, hpart]
        · subst hP
          rw [List.length_map, tab_tb, tb_map (fun x => x.fdiv (part ns)) ns]
          refine .inl ⟨D2, _, rfl, SqL.of upd_same, fun p hp2 => ?_⟩
          refine q p _ (s1.trans ((same_upd0 hD2).trans (same_upd0 hp2))) ?_
          rw [upd_same]
          unfold prim
          rw [if_neg hp0]
end
end K45

set_option Elab.async false
set_option linter.all false
set_option maxRecDepth 100000
set_option maxHeartbeats 4000000
namespace K45
open PySem PySem.Spec PyProof.Rows L2 StX RZ MyR SlX OwnR OwnF EnumT
theorem prim_len (l : List Int) : (prim l).length = l.length := by
  unfold prim
  split
  · rfl
  · rw [List.length_map]
theorem prim_mem {l : List Int} {b : Nat} (h : ∀ x ∈ l, x.natAbs ≤ b) : ∀ x ∈ prim l, x.natAbs ≤ b := by
  intro x hx
  unfold prim at hx
  by_cases c : part l = 0
  · rw [if_pos c] at hx
    exact h x hx
  · rw [if_neg c] at hx
    obtain ⟨y, hy, rfl⟩ := List.mem_map.mp hx
    have hd : part l ∣ y := Int.natAbs_dvd_natAbs.mp (by rw [part_abs]; exact Int.natAbs_dvd_natAbs.mpr (cont_dvd l y hy))
    obtain ⟨k, rfl⟩ := hd
    show ((part l * k).fdiv (part l)).natAbs ≤ b
    rw [Int.mul_fdiv_cancel_left _ c]
    refine Nat.le_trans ?_ (h _ hy)
    rw [Int.natAbs_mul]
    exact Nat.le_mul_of_pos_left _ (Int.natAbs_pos.mpr c)
section
variable {P : Program} {w : World} {K : PySem.W.Frag} {mg : Str → Option Value} {base : Heap}
theorem dc_ne {H : Hp} {d p : Addr} {xs : List V} (hd : Dc H d) (hp : H p = some (.tup xs)) : p ≠ d := fun e => by
  obtain ⟨x, y, z, h⟩ := hd
  rw [e, h] at hp
  cases hp
def spLine : Sp := fun vs H Q _ => ∃ (t : Addr) (u v : Int), vs = [.ref t] ∧ H t = some (tp [u, v]) ∧ ∀ p, H p = none → Q (.ref p) (upd H p (tp [v, 0 - u]))
theorem ok_law_line (T : Facts K mg) : FnOk P w K mg base CX0 1 T.f_law_line T.fd_law_line ["_law_point_here"] spLine := by
  refine T.F_law_line.ok sc_law_line (fun vs H Q E h => ?_) (fun cdv A outer s H vs Q E hr h => ?_)
  · obtain ⟨t, u, v, rfl, _⟩ := h
    rfl
  · obtain ⟨t, u, v, rfl, ht, q⟩ := h
    refine ⟨_, (PSs.nox (pss_one (ps_ret (pe_tup (pa_cons (pe_ix ix_tup (pv 0) pe_int (fun _ _ => rfl)) (pa_cons (pe_op op_sub pe_int (pe_ix ix_tup (pv 0) pe_int (fun _ _ => rfl))) pa_nil)))))), ?_⟩
    exact ⟨_, rfl, t, _, 1, _, rfl, rfl, SqT.of ht, atI_nat (j := 1) rfl, _, rfl, t, _, 0, _, rfl, rfl, SqT.of ht, atI_nat (j := 0) rfl, _, _, rfl, rfl, (by show 2 ≤ sizeLine; decide), fun p hp => q p hp⟩
/-- a drawn point -/
def spPoint : Sp := fun vs H Q _ => ∃ (d : Addr) (m : Nat), vs = [.ref d, .int m] ∧ Dc H d ∧ 1 ≤ m ∧ m ≤ 1000 ∧ ∀ p H' u v, Sx d H H' → Dc H' d → H' p = some (tp [u, v]) → u.natAbs ≤ m → v.natAbs ≤ m → Q (.ref p) H'
theorem ok_law_point (T : Facts K mg) : FnOk P w K mg base CX0 4 T.f_law_point T.fd_law_point ["_law_dice_here", "_law_most"] spPoint := by
  have G_law_near : FnOk P w K mg base CX0 2 T.f_law_near T.fd_law_near ["_law_dice_here", "_law_most"] spNear := ok_law_near T
  have G_law_plain : FnOk P w K mg base CX0 3 T.f_law_plain T.fd_law_plain ["_law_form_here"] spPrim := ok_law_plain T
  refine T.F_law_point.ok sc_law_point (fun vs H Q E h => ?_) (fun cdv A outer s H vs Q E hr h => ?_)
  · obtain ⟨d, m, rfl, _⟩ := h
    rfl
  · obtain ⟨d, m, rfl, hd, h1, h2, q⟩ := h
    refine ⟨_, (PSs.nox (pss_cons (ps_par (i := 2) (j := 3) (by rfl) sc_law_point.nd rfl rfl (by decide) rfl rfl (pa_cons (pe_call G_law_near (hr.mono (by decide)) (by rfl) T.g_law_near T.F_law_near.kp T.b_law_near .nil pass0 (pa_cons (pv 0) (pa_cons (pv 1) pa_nil))) (pa_cons (pe_call G_law_near (hr.mono (by decide)) (by rfl) T.g_law_near T.F_law_near.kp T.b_law_near .nil pass0 (pa_cons (pv 0) (pa_cons (pv 1) pa_nil))) pa_nil)) (by rfl))
    (pss_one (ps_ret (pe_ifExp (pt_cmpR (op_neD (hu64 hr)) (pe_tup (pa_cons (pv 2) (pa_cons (pv 3) pa_nil))) (pe_tup (pa_cons pe_int (pa_cons pe_int pa_nil))) (nomark _)) (pe_call G_law_plain hr (by rfl) T.g_law_plain T.F_law_plain.kp T.b_law_plain .nil pass0 (pa_cons (pe_tup (pa_cons (pv 2) (pa_cons (pv 3) pa_nil))) pa_nil)) (pe_tup (pa_cons pe_int (pa_cons pe_int pa_nil)))))))), ?_⟩
    have e15 : (10 : Int) ^ 15 = 1000000000000000 := by decide
    have z2 : 2 ≤ sizeLine := by decide
    refine ⟨_, rfl, _, rfl, d, m, rfl, hd, by omega, by rw [e15]; omega, fun u H1 u1 u2 s1 d1 => ⟨_, rfl, _, rfl, d, m, rfl, d1, by omega, by rw [e15]; omega, fun v H2 v1 v2 s2 d2 => ⟨_, _, rfl, ?_⟩⟩⟩
    have s12 := s1.trans s2
    refine ⟨_, rfl, _, rfl, z2, fun p1 n1 => gen_upd H2 p1 (tp [u, v]) n1 fun H3 s3 f3 => ⟨z2, fun p2 n2 => gen_upd H3 p2 (tp [0, 0]) n2 fun H4 s4 f4 => ?_⟩⟩
    refine ne_ints (xs := [u, v]) (ys := [0, 0]) (SqT.of (s4 _ _ f3)) (SqT.of f4) ?_
    have d4 := d2.same (s3.trans s4)
    have s14 : Sx d H H4 := s12.trans (Sx.of (s3.trans s4))
    by_cases c : [u, v] = [0, 0]
    · rw [decide_eq_true c]
      refine ⟨_, rfl, iteF ⟨z2, fun p3 n3 => gen_upd H4 p3 (tp [1, 0]) n3 fun H5 s5 f5 => ?_⟩⟩
      exact q p3 H5 1 0 (s14.trans (Sx.of s5)) (d4.same s5) f5 (by show 1 ≤ m; omega) (by show 0 ≤ m; omega)
    · rw [decide_eq_false c]
      refine ⟨_, rfl, iteT ⟨_, rfl, _, rfl, z2, fun p3 n3 => gen_upd H4 p3 (tp [u, v]) n3 fun H5 s5 f5 => ?_⟩⟩
      have hb : ∀ x ∈ [u, v], x.natAbs ≤ m := fun x hx => by
        simp only [List.mem_cons, List.not_mem_nil, or_false] at hx
        rcases hx with e | e <;> rw [e] <;> omega
      refine ⟨p3, [u, v], rfl, f5, by show 2 ≤ 1000; omega, fun x hx => Nat.lt_of_le_of_lt (hb x hx) (Nat.lt_of_le_of_lt h2 (by decide)), fun p H6 s6 hp => ?_⟩
      have hl := prim_len [u, v]
      have hm := prim_mem hb
      generalize prim [u, v] = r at hp hl hm
      match r, hl with
      | [x, y], _ => exact q p H6 x y (s14.trans (Sx.of (s5.trans s6))) (d4.same (s5.trans s6)) hp (hm x (by simp)) (hm y (by simp))
/-- a drawn form -/
def spSmall : Sp := fun vs H Q _ => ∃ (d : Addr) (n m : Nat), vs = [.ref d, .int n, .int m] ∧ Dc H d ∧ n ≤ 40 ∧ m ≤ 1000000000000 ∧ ∀ p H' l, Sx d H H' → Dc H' d → H' p = some (tp l) → l.length = n + 1 → (∀ x ∈ l, x.natAbs ≤ m) → Q (.ref p) H'
theorem ok_law_small_form (T : Facts K mg) : FnOk P w K mg base CX0 3 T.f_law_small_form T.fd_law_small_form ["_law_dice_here", "_law_degree", "_law_most"] spSmall := by
  have G_law_near : FnOk P w K mg base CX0 2 T.f_law_near T.fd_law_near ["_law_dice_here", "_law_most"] spNear := ok_law_near T
  refine T.F_law_small_form.ok sc_law_small_form (fun vs H Q E h => ?_) (fun cdv A outer s H vs Q E hr h => ?_)
  · obtain ⟨d, n, m, rfl, _⟩ := h
    rfl
  · obtain ⟨d, n, m, rfl, hd, hn, hm, q⟩ := h
    refine ⟨_, (PSs.nox (pss_one (ps_ret (pe_tupleOf (by rfl) T.z_tuple (pe_lc (own := [("_law_place", 3)]) (g := (gName 3)) (tt := tYes) (by rfl) sc_law_small_form.nd (pi_range1 (by rfl) T.z_range (pa_cons (pe_op op_add (pv 1) pe_int) pa_nil)) (blkOk_by (N := N_law_small_form) (sc := defScope s_law_small_form) (by decide +kernel)) (fun _ _ _ _ _ => (pg_name (i := 3) sc_law_small_form.nd rfl (.inl rfl))) (fun _ _ _ _ _ => pts_nil) (fun _ _ _ _ _ => (pe_call G_law_near hr (by rfl) T.g_law_near T.F_law_near.kp T.b_law_near .nil pass0 (pa_cons (pv 0) (pa_cons (pv 2) pa_nil))))))))), ?_⟩
    have e15 : (10 : Int) ^ 15 = 1000000000000000 := by decide
    refine ⟨_, rfl, _, _, rfl, rfl, _, rfl, (by show -(2 ^ 62) ≤ (n : Int) + 1; omega), (by show (n : Int) + 1 < 2 ^ 62; omega), fun D hD => lc_range (n := ((n : Int) + 1).toNat) (fun j H' => Sx d H H' ∧ Dc H' d ∧ ∃ l : List Int, H' D = some (.lst (l.map V.int)) ∧ l.length = j ∧ ∀ x ∈ l, x.natAbs ≤ m) ⟨Sx.of (same_upd0 hD), hd.same (same_upd0 hD), [], upd_same, rfl, fun x hx => by cases hx⟩ (fun j H' hj hP => ?_) (fun H' hP => ?_)⟩
    · obtain ⟨sH, dH, l, hL, hl, hb⟩ := hP
      have nD : D ≠ d := hd.ne hD
      refine ⟨rfl, _, rfl, _, rfl, d, m, rfl, dH, by omega, by rw [e15]; omega, fun r H2 r1 r2 s2 d2 => ⟨_, s2 D _ nD hL, ?_, fun b o hb2 e => ?_, ?_, l ++ [r], ?_, ?_, fun x hx => ?_⟩⟩
      · rw [List.length_map]
        exact small1000 (by omega)
      · rw [upd_ne (ne_of_none e hD)]
        exact (sH.trans s2) b o hb2 e
      · obtain ⟨x, y, z, e⟩ := d2
        exact ⟨x, y, z, by rw [upd_ne (Ne.symm nD)]; exact e⟩
      · rw [upd_same, List.map_append]
        rfl
      · rw [List.length_append, hl]
        rfl
      · rcases List.mem_append.mp hx with e | e
        · exact hb x e
        · rw [List.mem_singleton.mp e]
          omega
    · obtain ⟨sH, dH, l, hL, hl, hb⟩ := hP
      refine .inl ⟨D, _, rfl, SqL.of hL, fun p hp2 => ?_⟩
      exact q p _ l (sH.trans (Sx.of (same_upd0 hp2))) (dH.same (same_upd0 hp2)) upd_same (by omega) hb
end
end K45

set_option Elab.async false
set_option linter.all false
set_option maxRecDepth 100000
/-! how large the entries of products are -/
namespace K45
/-- the sum of the first n absolute values -/
def sN : Nat → (Nat → Int) → Nat
  | 0, _ => 0
  | n + 1, f => sN n f + (f n).natAbs
/-- the sum of the absolute values of the entries -/
def nm (l : List Int) : Nat := (l.map Int.natAbs).sum
theorem sN_add (f g : Nat → Int) : ∀ n, sN n (fun k => f k + g k) ≤ sN n f + sN n g
  | 0 => Nat.le_refl _
  | n + 1 => by
    have h1 := sN_add f g n
    have h2 := Int.natAbs_add_le (f n) (g n)
    show sN n (fun k => f k + g k) + (f n + g n).natAbs ≤ sN n f + (f n).natAbs + (sN n g + (g n).natAbs)
    omega
theorem sN_mul (c : Int) (f : Nat → Int) : ∀ n, sN n (fun k => c * f k) = c.natAbs * sN n f
  | 0 => rfl
  | n + 1 => by
    show sN n (fun k => c * f k) + (c * f n).natAbs = c.natAbs * (sN n f + (f n).natAbs)
    rw [sN_mul c f n, Int.natAbs_mul, Nat.mul_add]
theorem sN_sh (f : Nat → Int) : ∀ n, sN n (sh f) ≤ sN n f
  | 0 => Nat.le_refl _
  | 1 => Nat.zero_le _
  | n + 2 => by
    have key : ∀ n, sN (n + 1) (sh f) = sN n f := by
      intro n
      induction n with
      | zero => rfl
      | succ n ih =>
        show sN (n + 1) (sh f) + (f n).natAbs = sN n f + (f n).natAbs
        rw [ih]
    rw [key]
    exact Nat.le_add_right _ _
theorem sN_cv (g : Nat → Int) (n : Nat) : ∀ l : List Int, sN n (cv l g) ≤ nm l * sN n g
  | [] => by
    have : sN n (cv [] g) = 0 := by
      induction n with
      | zero => rfl
      | succ n ih => show sN n (cv [] g) + (0 : Int).natAbs = 0; rw [ih]; rfl
    omega
  | x :: xs => by
    have h1 := sN_cv g n xs
    have e : sN n (cv (x :: xs) g) = sN n (fun k => x * g k + sh (cv xs g) k) := by
      rw [show cv (x :: xs) g = fun k => x * g k + sh (cv xs g) k from funext (cv_cons x xs g)]
    have h2 := sN_add (fun k => x * g k) (sh (cv xs g)) n
    have h3 := sN_sh (cv xs g) n
    rw [e]
    rw [sN_mul] at h2
    show _ ≤ (x.natAbs + nm xs) * sN n g
    rw [Nat.add_mul]
    omega
theorem nm_snoc (l : List Int) (x : Int) : nm (l ++ [x]) = nm l + x.natAbs := by
  unfold nm
  rw [List.map_append, List.sum_append]
  simp
theorem nm_tb (f : Nat → Int) : ∀ n, nm (tb n f) = sN n f
  | 0 => rfl
  | n + 1 => by
    have e : tb (n + 1) f = tb n f ++ [f n] := by
      unfold tb
      rw [List.range_succ, List.map_append]
      rfl
    rw [e, nm_snoc, nm_tb f n]
    rfl
theorem nm_mem : ∀ {l : List Int} {x : Int}, x ∈ l → x.natAbs ≤ nm l
  | y :: ys, x, h => by
    show x.natAbs ≤ y.natAbs + nm ys
    rcases List.mem_cons.mp h with e | e
    · rw [e]; omega
    · have := nm_mem e; omega
theorem sN_co (l : List Int) (n : Nat) : sN n (co l) ≤ nm l := by
  by_cases h : n ≤ l.length
  · have mono : ∀ k, sN n (co l) ≤ sN (n + k) (co l) := by
      intro k
      induction k with
      | zero => exact Nat.le_refl _
      | succ k ih => exact Nat.le_trans ih (Nat.le_add_right _ _)
    have h1 := mono (l.length - n)
    rw [show n + (l.length - n) = l.length by omega] at h1
    rw [← nm_tb (co l) l.length, tb_co] at h1
    exact h1
  · have far : ∀ k, sN (l.length + k) (co l) = sN l.length (co l) := by
      intro k
      induction k with
      | zero => rfl
      | succ k ih =>
        show sN (l.length + k) (co l) + (co l (l.length + k)).natAbs = _
        rw [ih, co_far (by omega)]
        rfl
    have h1 := far (n - l.length)
    rw [show l.length + (n - l.length) = n by omega] at h1
    rw [h1, ← nm_tb (co l) l.length, tb_co]
    exact Nat.le_refl _
theorem nm_ml (l m : List Int) : nm (ml l m) ≤ nm l * nm m := by
  unfold ml
  rw [nm_tb]
  exact Nat.le_trans (sN_cv _ _ l) (Nat.mul_le_mul (Nat.le_refl _) (sN_co m _))
theorem nm_pl : ∀ (l m : List Int), nm (pl l m) ≤ nm l + nm m
  | [], _ => Nat.zero_le _
  | _ :: _, [] => Nat.zero_le _
  | x :: xs, y :: ys => by
    have h1 := nm_pl xs ys
    have h2 := Int.natAbs_add_le x y
    show (x + y).natAbs + nm (pl xs ys) ≤ x.natAbs + nm xs + (y.natAbs + nm ys)
    omega
theorem nm_scale (c : Int) : ∀ l : List Int, nm (l.map (c * ·)) = c.natAbs * nm l
  | [] => rfl
  | x :: xs => by
    show (c * x).natAbs + nm (xs.map (c * ·)) = c.natAbs * (x.natAbs + nm xs)
    rw [nm_scale c xs, Int.natAbs_mul, Nat.mul_add]
theorem nm_le {b : Nat} : ∀ {l : List Int}, (∀ x ∈ l, x.natAbs ≤ b) → nm l ≤ l.length * b
  | [], _ => Nat.zero_le _
  | x :: xs, h => by
    have h1 := nm_le (l := xs) fun y hy => h y (List.mem_cons_of_mem _ hy)
    have h2 := h x List.mem_cons_self
    show x.natAbs + nm xs ≤ (xs.length + 1) * b
    rw [Nat.succ_mul]
    omega
end K45

set_option Elab.async false
set_option linter.all false
set_option maxRecDepth 100000
set_option maxHeartbeats 4000000
namespace K45
open PySem PySem.Spec PyProof.Rows L2 StX RZ MyR SlX OwnR OwnF EnumT
section
variable {P : Program} {w : World} {K : PySem.W.Frag} {mg : Str → Option Value} {base : Heap}
end
end K45

set_option Elab.async false
set_option linter.all false
set_option maxRecDepth 100000
set_option maxHeartbeats 4000000
namespace K45
open PySem PySem.Spec PyProof.Rows L2 StX RZ MyR SlX OwnR OwnF EnumT
/-- the product of the first i rows -/
def allP (ls : List (List Int)) (i : Nat) : List Int := (ls.take i).foldl ml [1]
theorem allP_succ {ls : List (List Int)} {i : Nat} (h : i < ls.length) : allP ls (i + 1) = ml (allP ls i) ls[i] := by
  unfold allP
  rw [List.take_add_one, List.getElem?_eq_getElem h, List.foldl_append]
  rfl
section
variable {P : Program} {w : World} {K : PySem.W.Frag} {mg : Str → Option Value} {base : Heap}
def spAll : Sp := fun vs H Q _ => ∃ (l : Addr) (rs : List Addr) (ls : List (List Int)), vs = [.ref l] ∧ H l = some (.lst (rs.map V.ref)) ∧ rs.length = ls.length ∧ (∀ i (h : i < ls.length) (h' : i < rs.length), H rs[i] = some (tp ls[i]) ∧ Rw ls[i]) ∧ (∀ i, i < ls.length → Rw (allP ls i)) ∧ ∀ p H', Same H H' → H' p = some (tp (allP ls ls.length)) → Q (.ref p) H'
theorem ok_law_all_product (T : Facts K mg) : FnOk P w K mg base CX0 2 T.f_law_all_product T.fd_law_all_product ["_law_forms"] spAll := by
  have G_law_product : FnOk P w K mg base CX0 1 T.f_law_product T.fd_law_product ["_law_one", "_law_other"] spProd := ok_law_product T
  refine T.F_law_all_product.ok sc_law_all_product (fun vs H Q E h => ?_) (fun cdv A outer s H vs Q E hr h => ?_)
  · obtain ⟨l, rs, ls, rfl, _⟩ := h
    rfl
  · obtain ⟨l, rs, ls, rfl, hl, hlen, hrow, hall, q⟩ := h
    refine ⟨_, (PSs.nox (pss_cons (ps_set (i := 1) sc_law_all_product.nd rfl (.inl rfl) (pe_tup (pa_cons pe_int pa_nil)))
    (pss_cons (ps_for PassesOwn.never (by rfl) (pi_list (pv 0)) (pg_name (i := 2) sc_law_all_product.nd rfl (.inl rfl))
      (pss_one (ps_set (i := 1) sc_law_all_product.nd rfl (.inl rfl) (pe_call G_law_product hr (by rfl) T.g_law_product T.F_law_product.kp T.b_law_product .nil pass0 (pa_cons (pv 1) (pa_cons (pv 2) pa_nil))))))
    (pss_one (ps_ret (pv 1)))))), ?_⟩
    refine ⟨(by show 1 ≤ sizeLine; decide), fun p0 n0 => ⟨_, rfl, l, rfl, ⟨_, SqL.of (same_upd0 n0 _ _ hl)⟩, for_list (xs := rs.map V.ref) (fun i σ H' => ∃ r y, σ = [some (.ref l), some (.ref r), y] ∧ Same H H' ∧ H' r = some (tp (allP ls i))) ⟨p0, none, rfl, same_upd0 n0, upd_same⟩ (fun i σ H' _ hP => ?_) (fun i x σ H' hx hP => ?_) (fun σ H' hP => ?_)⟩⟩
    · obtain ⟨r, y, _, sH, _⟩ := hP
      exact SqL.of (sH _ _ hl)
    · obtain ⟨r, y, rfl, sH, hr2⟩ := hP
      rw [List.getElem?_map] at hx
      obtain ⟨b, hb, rfl⟩ := Option.map_eq_some_iff.mp hx
      obtain ⟨h1, e1⟩ := List.getElem?_eq_some_iff.mp hb
      have h2 : i < ls.length := by omega
      obtain ⟨hb2, rb⟩ := hrow i h2 h1
      rw [e1] at hb2
      have ra := hall i h2
      exact ⟨_, rfl, _, rfl, r, b, _, ls[i], rfl, hr2, sH _ _ hb2, ra.ne, rb.ne, ra.len, rb.len, ra.sm, rb.sm, fun p H2 s2 _ hp2 => ⟨p, _, rfl, sH.trans s2, by rw [allP_succ h2]; exact hp2⟩⟩
    · obtain ⟨r, y, rfl, sH, hr2⟩ := hP
      rw [List.length_map, hlen] at hr2
      exact ⟨_, rfl, q r H' sH hr2⟩
end
end K45

set_option Elab.async false
set_option linter.all false
set_option maxRecDepth 100000
/-! the primitive row of a primitive row -/
namespace K45
end K45

set_option Elab.async false
set_option linter.all false
set_option maxRecDepth 100000
/-! sums of rows, rows of 0 -/
namespace K45
theorem zs_one : ∀ xs ys : List Int, zs 1 xs ys = pl xs ys
  | [], _ => rfl
  | _ :: _, [] => rfl
  | x :: xs, y :: ys => by
    show (x + 1 * y) :: zs 1 xs ys = (x + y) :: pl xs ys
    rw [zs_one xs ys, Int.one_mul]
theorem map_mul_comm (c : Int) (l : List Int) : (l.map fun x => x * c) = l.map fun x => c * x := List.map_congr_left fun x _ => Int.mul_comm x c
end K45

set_option Elab.async false
set_option linter.all false
set_option maxRecDepth 100000
/-! values of forms; a form is told by its values -/
namespace K45
/-- the value at x, y of the first n entries -/
def evF : Nat → (Nat → Int) → Int → Int → Int
  | 0, _, _, _ => 0
  | n + 1, g, x, y => x * evF n g x y + g n * y ^ n
def ev (l : List Int) (x y : Int) : Int := evF l.length (co l) x y
theorem evF_congr {g h : Nat → Int} {x y : Int} : ∀ n, (∀ i, i < n → g i = h i) → evF n g x y = evF n h x y
  | 0, _ => rfl
  | n + 1, e => by
    show x * evF n g x y + g n * y ^ n = x * evF n h x y + h n * y ^ n
    rw [evF_congr n fun i hi => e i (by omega), e n (by omega)]
theorem evF_add (g h : Nat → Int) (x y : Int) : ∀ n, evF n (fun i => g i + h i) x y = evF n g x y + evF n h x y
  | 0 => rfl
  | n + 1 => by
    show x * evF n (fun i => g i + h i) x y + (g n + h n) * y ^ n = (x * evF n g x y + g n * y ^ n) + (x * evF n h x y + h n * y ^ n)
    rw [evF_add g h x y n, Int.mul_add, Int.add_mul]
    omega
theorem evF_mul (c : Int) (g : Nat → Int) (x y : Int) : ∀ n, evF n (fun i => c * g i) x y = c * evF n g x y
  | 0 => by show (0 : Int) = c * 0; rw [Int.mul_zero]
  | n + 1 => by
    show x * evF n (fun i => c * g i) x y + (c * g n) * y ^ n = c * (x * evF n g x y + g n * y ^ n)
    rw [evF_mul c g x y n, Int.mul_add, Int.mul_assoc, ← Int.mul_assoc x c, Int.mul_comm x c, Int.mul_assoc]
theorem evF_sh (g : Nat → Int) (x y : Int) : ∀ n, evF (n + 1) (sh g) x y = y * evF n g x y
  | 0 => by
    show x * 0 + (0 : Int) * y ^ 0 = y * 0
    rw [Int.mul_zero, Int.zero_mul, Int.mul_zero]
    rfl
  | n + 1 => by
    show x * evF (n + 1) (sh g) x y + g n * y ^ (n + 1) = y * (x * evF n g x y + g n * y ^ n)
    rw [evF_sh g x y n, Int.mul_add, Int.pow_succ, ← Int.mul_assoc, Int.mul_comm x y, Int.mul_assoc, Int.mul_comm (y ^ n) y, ← Int.mul_assoc (g n), Int.mul_comm (g n) y, Int.mul_assoc y (g n)]
theorem evF_far {g : Nat → Int} (x y : Int) {n : Nat} (h : ∀ i, n ≤ i → g i = 0) : ∀ k, evF (n + k) g x y = x ^ k * evF n g x y
  | 0 => by rw [Nat.add_zero, Int.pow_zero, Int.one_mul]
  | k + 1 => by
    show x * evF (n + k) g x y + g (n + k) * y ^ (n + k) = _
    rw [evF_far x y h k, h _ (by omega), Int.zero_mul, Int.add_zero, Int.pow_succ, ← Int.mul_assoc, Int.mul_comm x]
theorem evF_zero (x y : Int) : ∀ n, evF n (fun _ => 0) x y = 0
  | 0 => rfl
  | n + 1 => by
    show x * evF n (fun _ => 0) x y + 0 * y ^ n = 0
    rw [evF_zero x y n, Int.mul_zero, Int.zero_mul]
    rfl
theorem ev_ml : ∀ {l m : List Int}, l ≠ [] → m ≠ [] → ∀ x y, ev (ml l m) x y = ev l x y * ev m x y := by
  intro l
  induction l with
  | nil => intro m h; exact absurd rfl h
  | cons a l ih =>
    intro m hl hm x y
    have hM : 0 < m.length := List.length_pos_iff.mpr hm
    have e0 : ev (ml (a :: l) m) x y = evF (l.length + m.length) (cv (a :: l) (co m)) x y := by
      unfold ev
      rw [ml_len, show (a :: l).length + m.length - 1 = l.length + m.length by rw [List.length_cons]; omega]
      exact evF_congr _ fun i _ => co_ml hm i
    rw [e0]
    have e1 : evF (l.length + m.length) (cv (a :: l) (co m)) x y = a * evF (l.length + m.length) (co m) x y + evF (l.length + m.length) (sh (cv l (co m))) x y := by
      rw [← evF_mul, ← evF_add]
      exact evF_congr _ fun i _ => cv_cons a l (co m) i
    rw [e1, show l.length + m.length = m.length + l.length by omega, evF_far x y (fun i hi => co_far hi) l.length]
    have e2 : ev (a :: l) x y = a * x ^ l.length + y * evF l.length (co l) x y := by
      unfold ev
      rw [List.length_cons]
      rw [show evF (l.length + 1) (co (a :: l)) x y = evF (l.length + 1) (fun i => a * (if i = 0 then 1 else 0) + sh (co l) i) x y from evF_congr _ fun i _ => by
        rw [co_cons]
        by_cases h : i = 0
        · rw [if_pos h, if_pos h, Int.mul_one]
        · rw [if_neg h, if_neg h, Int.mul_zero], evF_add, evF_mul, evF_sh]
      congr 1
      congr 1
      have h1 : evF (1 + l.length) (fun i => if i = 0 then (1 : Int) else 0) x y = x ^ l.length * evF 1 (fun i => if i = 0 then (1 : Int) else 0) x y := evF_far x y (n := 1) (fun i hi => if_neg (by omega)) l.length
      rw [show l.length + 1 = 1 + l.length by omega, h1]
      show x ^ l.length * (x * 0 + (if 0 = 0 then 1 else 0) * y ^ 0) = _
      rw [if_pos rfl, Int.mul_zero, Int.pow_zero, Int.mul_one, Int.zero_add, Int.mul_one]
    rw [e2]
    by_cases c : l = []
    · subst c
      show a * (x ^ 0 * evF m.length (co m) x y) + evF (m.length + 0) (sh (cv [] (co m))) x y = (a * x ^ 0 + y * 0) * ev m x y
      rw [show evF (m.length + 0) (sh (cv [] (co m))) x y = evF m.length (fun _ => 0) x y from evF_congr _ fun i _ => by cases i <;> rfl, evF_zero, Int.pow_zero, Int.one_mul, Int.mul_one, Int.mul_zero, Int.add_zero, Int.add_zero]
      rfl
    · have hL : 0 < l.length := List.length_pos_iff.mpr c
      have e3 : evF (m.length + l.length) (sh (cv l (co m))) x y = y * (ev l x y * ev m x y) := by
        rw [show m.length + l.length = (l.length + m.length - 1) + 1 by omega, evF_sh, ← ih c hm x y]
        congr 1
        unfold ev
        rw [ml_len]
        exact evF_congr _ fun i _ => (co_ml hm i).symm
      rw [e3]
      show a * (x ^ l.length * ev m x y) + y * (ev l x y * ev m x y) = (a * x ^ l.length + y * ev l x y) * ev m x y
      rw [Int.add_mul, Int.mul_assoc, Int.mul_assoc]
theorem ev_cons (a : Int) (l : List Int) (x y : Int) : ev (a :: l) x y = a * x ^ l.length + y * ev l x y := by
  unfold ev
  rw [List.length_cons]
  rw [show evF (l.length + 1) (co (a :: l)) x y = evF (l.length + 1) (fun i => a * (if i = 0 then 1 else 0) + sh (co l) i) x y from evF_congr _ fun i _ => by
    rw [co_cons]
    by_cases h : i = 0
    · rw [if_pos h, if_pos h, Int.mul_one]
    · rw [if_neg h, if_neg h, Int.mul_zero], evF_add, evF_mul, evF_sh]
  congr 1
  congr 1
  have h1 : evF (1 + l.length) (fun i => if i = 0 then (1 : Int) else 0) x y = x ^ l.length * evF 1 (fun i => if i = 0 then (1 : Int) else 0) x y := evF_far x y (n := 1) (fun i hi => if_neg (by omega)) l.length
  rw [show l.length + 1 = 1 + l.length by omega, h1]
  show x ^ l.length * (x * 0 + (if 0 = 0 then 1 else 0) * y ^ 0) = _
  rw [if_pos rfl, Int.mul_zero, Int.pow_zero, Int.mul_one, Int.zero_add, Int.mul_one]
/-- only the form with zeros has the value 0 everywhere -/
theorem evF_inj {g : Nat → Int} {M : Int} : ∀ n, (∀ i, i < n → (g i).natAbs < M.natAbs) → evF n g M 1 = 0 → ∀ i, i < n → g i = 0
  | 0, _, _, i, hi => absurd hi (Nat.not_lt_zero i)
  | n + 1, hb, e, i, hi => by
    have e' : M * evF n g M 1 + g n * 1 ^ n = 0 := e
    rw [Int.one_pow, Int.mul_one] at e'
    have hd : M ∣ g n := ⟨-evF n g M 1, by rw [Int.mul_neg]; omega⟩
    have hn : g n = 0 := Int.natAbs_eq_zero.mp (Nat.eq_zero_of_dvd_of_lt (Int.natAbs_dvd_natAbs.mpr hd) (hb n (by omega)))
    have hM : M ≠ 0 := fun z => by
      have := hb n (by omega)
      rw [z] at this
      exact absurd this (by simp)
    rw [hn, Int.add_zero] at e'
    have e2 : evF n g M 1 = 0 := (Int.mul_eq_zero.mp e').resolve_left hM
    by_cases c : i = n
    · rw [c]; exact hn
    · exact evF_inj n (fun j hj => hb j (by omega)) e2 i (by omega)
theorem ev_inj {l m : List Int} (hl : l.length = m.length) (h : ∀ x y, ev l x y = ev m x y) : l = m := by
  refine co_inj hl fun i => ?_
  by_cases c : i < l.length
  · have key := evF_inj (g := fun i => co l i + -1 * co m i) (M := ((nm l + nm m + 1 : Nat) : Int)) l.length (fun i _ => by
      rw [Int.natAbs_natCast]
      have h1 : (co l i).natAbs ≤ nm l := by
        rcases co_mem (l := l) (k := i) with e | e
        · rw [e]; exact Nat.zero_le _
        · exact nm_mem e
      have h2 : (co m i).natAbs ≤ nm m := by
        rcases co_mem (l := m) (k := i) with e | e
        · rw [e]; exact Nat.zero_le _
        · exact nm_mem e
      show (co l i + -1 * co m i).natAbs < _
      omega) (by
      rw [evF_add, evF_mul]
      have := h ((nm l + nm m + 1 : Nat) : Int) 1
      unfold ev at this
      rw [← hl] at this
      rw [this]
      omega) i c
    have key' : co l i + -1 * co m i = 0 := key
    omega
  · rw [co_far (by omega), co_far (by omega)]
end K45

set_option Elab.async false
set_option linter.all false
set_option maxRecDepth 100000
set_option maxHeartbeats 4000000
namespace K45
open PySem PySem.Spec PyProof.Rows L2 StX RZ MyR SlX OwnR OwnF EnumT
/-! ### drawn forms -/
/-- a row of a degree, with its size -/
structure Bd (l : List Int) (n b : Nat) : Prop where
  len : l.length = n + 1
  nm : nm l ≤ b
theorem Bd.ne {l : List Int} {n b : Nat} (h : Bd l n b) : l ≠ [] := fun e => by
  have := h.len
  rw [e] at this
  cases this
theorem Bd.mono {l : List Int} {n b c : Nat} (h : Bd l n b) (k : b ≤ c) : Bd l n c := ⟨h.len, Nat.le_trans h.nm k⟩
theorem Bd.mem {l : List Int} {n b : Nat} (h : Bd l n b) : ∀ x ∈ l, x.natAbs ≤ b := fun x hx => Nat.le_trans (nm_mem hx) h.nm
theorem Bd.rw {l : List Int} {n b : Nat} (h : Bd l n b) (hn : n ≤ 99) (hb : b < 2 ^ 4000) : Rw l := ⟨h.ne, by rw [h.len]; omega, fun x hx => Nat.lt_of_le_of_lt (h.mem x hx) hb⟩
theorem bd_ml {l m : List Int} {n k b c : Nat} (h : Bd l n b) (g : Bd m k c) : Bd (ml l m) (n + k) (b * c) :=
  ⟨by rw [ml_len, h.len, g.len]; omega, Nat.le_trans (nm_ml l m) (Nat.mul_le_mul h.nm g.nm)⟩
theorem bd_one : Bd [1] 0 1 := ⟨rfl, Nat.le_refl _⟩
theorem bd_line {u v : Int} {m : Nat} (hu : u.natAbs ≤ m) (hv : v.natAbs ≤ m) : Bd [v, 0 - u] 1 (2 * m) := ⟨rfl, by
  show v.natAbs + ((0 - u).natAbs + 0) ≤ _
  omega⟩
theorem bd_pair {u v : Int} {m : Nat} (hu : u.natAbs ≤ m) (hv : v.natAbs ≤ m) : Bd [u, v] 1 (2 * m) := ⟨rfl, by
  show u.natAbs + (v.natAbs + 0) ≤ _
  omega⟩
theorem bd_small {l : List Int} {n m : Nat} (hl : l.length = n + 1) (h : ∀ x ∈ l, x.natAbs ≤ m) : Bd l n ((n + 1) * m) := ⟨hl, by
  have := nm_le h
  rw [hl] at this
  exact this⟩
theorem bd_pow {l : List Int} {b : Nat} (h : Bd l 1 b) : ∀ i, Bd (pow l i) i (b ^ i)
  | 0 => bd_one
  | i + 1 => by
    rw [Nat.pow_succ]
    exact bd_ml (bd_pow h i) h
theorem bd_all {ls : List (List Int)} {b : Nat} (h : ∀ l ∈ ls, Bd l 1 b) : ∀ i, i ≤ ls.length → Bd (allP ls i) i (b ^ i)
  | 0, _ => bd_one
  | i + 1, hi => by
    rw [Nat.pow_succ, allP_succ hi]
    exact bd_ml (bd_all h i (by omega)) (h _ (List.getElem_mem hi))
theorem bd_zs {l m : List Int} {n b c : Nat} (h : Bd l n b) (g : Bd m n c) : Bd (zs 1 l m) n (b + c) := by
  rw [zs_one]
  exact ⟨by rw [pl_len (by rw [h.len, g.len]), h.len], Nat.le_trans (nm_pl l m) (Nat.add_le_add h.nm g.nm)⟩
theorem bd_scale {l : List Int} {n b d : Nat} {c : Int} (h : Bd l n b) (hc : c.natAbs ≤ d) : Bd (l.map (c * ·)) n (d * b) := ⟨by rw [List.length_map, h.len], by
  rw [nm_scale]
  exact Nat.mul_le_mul hc h.nm⟩
theorem p6 {i : Nat} (h : i ≤ 8) : 6 ^ i ≤ 1679616 := Nat.le_trans (Nat.pow_le_pow_right (by decide) h) (by decide)
theorem iteI {i j : Int} {A B : Prop} (h1 : i = j → A) (h2 : i ≠ j → B) : if decide (V.int i = V.int j) = true then A else B := by
  by_cases h : i = j
  · rw [decide_eq_true (by rw [h])]
    exact iteT (h1 h)
  · rw [decide_eq_false fun z => h (V.int.inj z)]
    exact iteF (h2 h)
section
variable {P : Program} {w : World} {K : PySem.W.Frag} {mg : Str → Option Value} {base : Heap}
def spDrawn : Sp := fun vs H Q _ => ∃ (d : Addr) (n : Nat), vs = [.ref d, .int n] ∧ Dc H d ∧ n ≤ 8 ∧ ∀ p H' l, Sx d H H' → Dc H' d → H' p = some (tp l) → Bd l n (10 ^ 14) → Q (.ref p) H'
theorem ok_law_form (T : Facts K mg) : FnOk P w K mg base CX0 5 T.f_law_form T.fd_law_form ["_law_dice_here", "_law_degree"] spDrawn := by
  have G_law_roll : FnOk P w K mg base CX0 1 T.f_law_roll T.fd_law_roll ["_law_dice_here", "_law_total"] spRoll2 := (ok_law_roll T).imp roll2
  have G_law_near : FnOk P w K mg base CX0 2 T.f_law_near T.fd_law_near ["_law_dice_here", "_law_most"] spNear := ok_law_near T
  have G_law_plus := ok_law_plus (P := P) (w := w) (base := base) T
  have G_law_scaled := ok_law_scaled (P := P) (w := w) (base := base) T
  have G_law_product := ok_law_product (P := P) (w := w) (base := base) T
  have G_law_all_product := ok_law_all_product (P := P) (w := w) (base := base) T
  have G_law_power := ok_law_power (P := P) (w := w) (base := base) T
  have G_law_line := ok_law_line (P := P) (w := w) (base := base) T
  have G_law_point := ok_law_point (P := P) (w := w) (base := base) T
  have G_law_small_form := ok_law_small_form (P := P) (w := w) (base := base) T
  refine T.F_law_form.ok sc_law_form (fun vs H Q E h => ?_) (fun cdv A outer s H vs Q E hr h => ?_)
  · obtain ⟨d, n, rfl, _⟩ := h
    rfl
  · obtain ⟨d, n, rfl, hd, hn, q⟩ := h
    have e15 : (10 : Int) ^ 15 = 1000000000000000 := by decide
    have e14 : (10 : Nat) ^ 14 = 100000000000000 := by decide
    rw [e14] at q
    have lg : ∀ i : Nat, i < 100 → (i : Int).natAbs.log2 < 9000 := fun i hi => Nat.lt_trans (PySem.Flt.log2_lt_of (k := 10) (by decide) (by show i < 2 ^ 10; omega)) (by decide)
    refine ⟨_, (PSs.nox (pss_cons (ps_set (i := 2) sc_law_form.nd rfl (.inl rfl) (pe_call G_law_roll (hr.mono (by decide)) (by rfl) T.g_law_roll T.F_law_roll.kp T.b_law_roll .nil pass0 (pa_cons (pv 0) (pa_cons pe_int pa_nil))))
    (pss_cons (ps_if (pt_cmpR op_eq (pv 2) pe_int (nomark _))
      (pss_one (ps_ret (pe_call G_law_all_product (hr.mono (by decide)) (by rfl) T.g_law_all_product T.F_law_all_product.kp T.b_law_all_product .nil pass0 (pa_cons (pe_lc (own := [("_law_turn", 3)]) (g := (gName 3)) (tt := tYes) (by rfl) sc_law_form.nd (pi_range1 (by rfl) T.z_range (pa_cons (pv 1) pa_nil)) (blkOk_by (N := N_law_form) (sc := defScope s_law_form) (by decide +kernel)) (fun _ _ _ _ _ => (pg_name (i := 3) sc_law_form.nd rfl (.inl rfl))) (fun _ _ _ _ _ => pts_nil) (fun _ _ _ _ _ => (pe_call G_law_line (hr.mono (by decide)) (by rfl) T.g_law_line T.F_law_line.kp T.b_law_line .nil pass0 (pa_cons (pe_call G_law_point hr (by rfl) T.g_law_point T.F_law_point.kp T.b_law_point .nil pass0 (pa_cons (pv 0) (pa_cons pe_int pa_nil))) pa_nil)))) pa_nil))))
      pss_nil)
    (pss_cons (ps_if (pt_cmpR op_eq (pv 2) pe_int (nomark _))
      (pss_cons (ps_par (i := 4) (j := 5) (by rfl) sc_law_form.nd rfl rfl (by decide) rfl rfl (pa_cons (pe_call G_law_line (hr.mono (by decide)) (by rfl) T.g_law_line T.F_law_line.kp T.b_law_line .nil pass0 (pa_cons (pe_call G_law_point hr (by rfl) T.g_law_point T.F_law_point.kp T.b_law_point .nil pass0 (pa_cons (pv 0) (pa_cons pe_int pa_nil))) pa_nil)) (pa_cons (pe_call G_law_roll (hr.mono (by decide)) (by rfl) T.g_law_roll T.F_law_roll.kp T.b_law_roll .nil pass0 (pa_cons (pv 0) (pa_cons (pe_op op_add (pv 1) pe_int) pa_nil))) pa_nil)) (by rfl))
      (pss_one (ps_ret (pe_call G_law_product (hr.mono (by decide)) (by rfl) T.g_law_product T.F_law_product.kp T.b_law_product .nil pass0 (pa_cons (pe_call G_law_power (hr.mono (by decide)) (by rfl) T.g_law_power T.F_law_power.kp T.b_law_power .nil pass0 (pa_cons (pv 4) (pa_cons (pv 5) pa_nil))) (pa_cons (pe_call G_law_small_form (hr.mono (by decide)) (by rfl) T.g_law_small_form T.F_law_small_form.kp T.b_law_small_form .nil pass0 (pa_cons (pv 0) (pa_cons (pe_op op_sub (pv 1) (pv 5)) (pa_cons pe_int pa_nil)))) pa_nil))))))
      pss_nil)
    (pss_cons (ps_if (pt_cmpR op_eq (pv 2) pe_int (nomark _))
      (pss_cons (ps_set (i := 6) sc_law_form.nd rfl (.inl rfl) (pe_tupleOf (by rfl) T.z_tuple (pe_lc (own := [("_law_place", 7)]) (g := (gName 7)) (tt := tYes) (by rfl) sc_law_form.nd (pi_range1 (by rfl) T.z_range (pa_cons (pe_op op_add (pv 1) pe_int) pa_nil)) (blkOk_by (N := N_law_form) (sc := defScope s_law_form) (by decide +kernel)) (fun _ _ _ _ _ => (pg_name (i := 7) sc_law_form.nd rfl (.inl rfl))) (fun _ _ _ _ _ => pts_nil) (fun _ _ _ _ _ => pe_int))))
      (pss_cons (ps_for PassesOwn.never (by rfl) (pi_range1 (by rfl) T.z_range (pa_cons (pe_op op_add pe_int (pe_call G_law_roll (hr.mono (by decide)) (by rfl) T.g_law_roll T.F_law_roll.kp T.b_law_roll .nil pass0 (pa_cons (pv 0) (pa_cons pe_int pa_nil)))) pa_nil)) (pg_name (i := 3) sc_law_form.nd rfl (.inl rfl))
        (pss_one (ps_set (i := 6) sc_law_form.nd rfl (.inl rfl) (pe_call G_law_plus (hr.mono (by decide)) (by rfl) T.g_law_plus T.F_law_plus.kp T.b_law_plus .nil pass0 (pa_cons (pv 6) (pa_cons (pe_call G_law_scaled (hr.mono (by decide)) (by rfl) T.g_law_scaled T.F_law_scaled.kp T.b_law_scaled .nil pass0 (pa_cons (pe_call G_law_power (hr.mono (by decide)) (by rfl) T.g_law_power T.F_law_power.kp T.b_law_power .nil pass0 (pa_cons (pe_call G_law_point hr (by rfl) T.g_law_point T.F_law_point.kp T.b_law_point .nil pass0 (pa_cons (pv 0) (pa_cons pe_int pa_nil))) (pa_cons (pv 1) pa_nil))) (pa_cons (pe_call G_law_near (hr.mono (by decide)) (by rfl) T.g_law_near T.F_law_near.kp T.b_law_near .nil pass0 (pa_cons (pv 0) (pa_cons pe_int pa_nil))) pa_nil))) pa_nil))))))
      (pss_one (ps_ret (pv 6)))))
      pss_nil)
    (pss_cons (ps_if (pt_cmpR op_eq (pv 2) pe_int (nomark _))
      (pss_one (ps_ret (pe_tupleOf (by rfl) T.z_tuple (pe_lc (own := [("_law_place", 7)]) (g := (gName 7)) (tt := tYes) (by rfl) sc_law_form.nd (pi_range1 (by rfl) T.z_range (pa_cons (pe_op op_add (pv 1) pe_int) pa_nil)) (blkOk_by (N := N_law_form) (sc := defScope s_law_form) (by decide +kernel)) (fun _ _ _ _ _ => (pg_name (i := 7) sc_law_form.nd rfl (.inl rfl))) (fun _ _ _ _ _ => pts_nil) (fun _ _ _ _ _ => (pe_op op_mulW (pe_call G_law_near (hr.mono (by decide)) (by rfl) T.g_law_near T.F_law_near.kp T.b_law_near .nil pass0 (pa_cons (pv 0) (pa_cons pe_int pa_nil))) (pe_call G_law_roll (hr.mono (by decide)) (by rfl) T.g_law_roll T.F_law_roll.kp T.b_law_roll .nil pass0 (pa_cons (pv 0) (pa_cons pe_int pa_nil)))))))))
      pss_nil)
    (pss_cons (ps_if (pw_and (pt_cmpR op_eq (pv 2) pe_int (nomark _)) (pw_and1 (pt_cmpR op_eq (pe_call G_law_roll (hr.mono (by decide)) (by rfl) T.g_law_roll T.F_law_roll.kp T.b_law_roll .nil pass0 (pa_cons (pv 0) (pa_cons pe_int pa_nil))) pe_int (nomark _)))).pt
      (pss_one (ps_ret (pe_tupleOf (by rfl) T.z_tuple (pe_lc (own := [("_law_place", 7)]) (g := (gName 7)) (tt := tYes) (by rfl) sc_law_form.nd (pi_range1 (by rfl) T.z_range (pa_cons (pe_op op_add (pv 1) pe_int) pa_nil)) (blkOk_by (N := N_law_form) (sc := defScope s_law_form) (by decide +kernel)) (fun _ _ _ _ _ => (pg_name (i := 7) sc_law_form.nd rfl (.inl rfl))) (fun _ _ _ _ _ => pts_nil) (fun _ _ _ _ _ => (pe_call G_law_near (hr.mono (by decide)) (by rfl) T.g_law_near T.F_law_near.kp T.b_law_near .nil pass0 (pa_cons (pv 0) (pa_cons (pe_op op_pow pe_int pe_int) pa_nil))))))))
      pss_nil)
    (pss_one (ps_ret (pe_call G_law_small_form (hr.mono (by decide)) (by rfl) T.g_law_small_form T.F_law_small_form.kp T.b_law_small_form .nil pass0 (pa_cons (pv 0) (pa_cons (pv 1) (pa_cons pe_int pa_nil))))))))))))), ?_⟩
    refine ⟨_, rfl, d, 6, rfl, hd, by decide, lg 6 (by decide), fun r H1 hr1 s1 d1 => ⟨_, rfl, rfl, _, rfl, iteI (fun _ => ?_) (fun r0 => ⟨_, rfl, rfl, _, rfl, iteI (fun _ => ?_) (fun r1 => ⟨_, rfl, rfl, _, rfl, iteI (fun _ => ?_) (fun r2 => ⟨_, rfl, rfl, _, rfl, iteI (fun _ => ?_) (fun r3 => ?_)⟩)⟩)⟩)⟩⟩
    · -- lines
      refine ⟨_, rfl, n, rfl, by omega, by omega, fun D hD => lc_range (n := (n : Int).toNat) (fun j H' => Sx d H H' ∧ Dc H' d ∧ ∃ (rs : List Addr) (ls : List (List Int)), H' D = some (.lst (rs.map V.ref)) ∧ rs.length = j ∧ ls.length = j ∧ (∀ i (h : i < ls.length) (h' : i < rs.length), H' rs[i] = some (tp ls[i])) ∧ ∀ l ∈ ls, Bd l 1 6) ⟨s1.trans (Sx.of (same_upd0 hD)), d1.same (same_upd0 hD), [], [], upd_same, rfl, rfl, fun i h _ => absurd h (Nat.not_lt_zero i), fun l h => (nomatch h)⟩ (fun j H' hj hP => ?_) (fun H' hP => ?_)⟩
      · obtain ⟨sH, dH, rs, ls, hL, hl1, hl2, hr, hb⟩ := hP
        refine ⟨rfl, _, rfl, d, 3, rfl, dH, by decide, by decide, fun p H2 u v s2 d2 hp hu hv => ⟨p, u, v, rfl, hp, fun p2 n2 => gen_upd H2 p2 _ n2 fun H3 s3 f3 => ?_⟩⟩
        have nD : D ≠ d := d1.ne hD
        have hL3 := s3 _ _ (s2 D _ nD hL)
        have dD : ∀ a l, H3 a = some (tp l) → a ≠ D := fun a l e z => by
          rw [z, hL3] at e
          cases e
        have d3 := d2.same s3
        refine ⟨_, hL3, by rw [List.length_map, hl1]; exact small1000 (by omega), fun b o hb2 e => ?_, ?_, rs ++ [p2], ls ++ [[v, 0 - u]], by rw [upd_same, List.map_append]; rfl, by rw [List.length_append, hl1]; rfl, by rw [List.length_append, hl2]; rfl, fun i h h' => ?_, fun l hl => ?_⟩
        · rw [upd_ne (ne_of_none (s1 b o hb2 e) hD)]
          exact s3 _ _ (s2 b o hb2 (sH b o hb2 e))
        · obtain ⟨x, y, z, e⟩ := d3
          exact ⟨x, y, z, by rw [upd_ne (Ne.symm nD)]; exact e⟩
        · by_cases c : i < ls.length
          · have e1 : (rs ++ [p2])[i] = rs[i]'(by omega) := List.getElem_append_left _
            have e2 : (ls ++ [[v, 0 - u]])[i] = ls[i] := List.getElem_append_left _
            rw [e1, e2]
            have e3 := s3 _ _ (s2 _ _ (dc_ne dH (hr i c (by omega))) (hr i c (by omega)))
            rw [upd_ne (dD _ _ e3)]
            exact e3
          · have ei : i = ls.length := by rw [List.length_append] at h; simp at h; omega
            subst ei
            have e1 : (rs ++ [p2])[ls.length] = p2 := by rw [List.getElem_append_right (by omega)]; simp [hl1, hl2]
            have e2 : (ls ++ [[v, 0 - u]])[ls.length] = [v, 0 - u] := by rw [List.getElem_append_right (by omega)]; simp
            rw [e1, e2, upd_ne (dD _ _ f3)]
            exact f3
        · rcases List.mem_append.mp hl with e | e
          · exact hb l e
          · rw [List.mem_singleton.mp e]
            exact bd_line hu hv
      · obtain ⟨sH, dH, rs, ls, hL, hl1, hl2, hr, hb⟩ := hP
        have hnn : ls.length = n := by omega
        refine ⟨D, rs, ls, rfl, hL, by omega, fun i h h' => ⟨hr i h h', (hb _ (List.getElem_mem h)).rw (by omega) (by decide)⟩, fun i hi => (bd_all hb i (by omega)).rw (by omega) (Nat.lt_of_le_of_lt (p6 (by omega)) (by decide)), fun p H3 s3 f3 => q p H3 _ (sH.trans (Sx.of s3)) (dH.same s3) f3 ?_⟩
        rw [hnn]
        exact (bd_all hb n (by omega)).mono (Nat.le_trans (p6 hn) (by decide))
    · -- a power of a line, times
      refine ⟨_, rfl, d, 3, rfl, d1, by decide, by decide, fun p H2 u v s2 d2 hp hu hv => ⟨p, u, v, rfl, hp, fun p2 n2 => gen_upd H2 p2 _ n2 fun H3 s3 f3 => ⟨_, rfl, _, rfl, _, _, rfl, rfl, ?_⟩⟩⟩
      have d3 := d2.same s3
      refine ⟨d, _, rfl, d3, by omega, lg (n + 1) (by omega), fun k H4 hk s4 d4 => ⟨_, _, rfl, ?_⟩⟩
      have hk' : k ≤ n := by have : (k : Int) < (n : Int) + 1 := hk; omega
      have f4 := s4 _ _ (dc_ne d3 f3) f3
      have bl : Bd [v, 0 - u] 1 6 := bd_line hu hv
      refine ⟨_, rfl, _, rfl, p2, _, k, rfl, f4, bl.ne, by show 2 ≤ 100; decide, fun x hx => (bl.rw (by decide) (Nat.lt_of_lt_of_le (show 6 < 2 ^ 4 by decide) (Nat.pow_le_pow_right (by decide) (by decide)))).sm x hx, fun i hi => ?_, by omega, fun p5 H5 s5 f5 => ?_⟩
      · have := (bd_pow bl i).rw (by omega) (Nat.lt_of_le_of_lt (p6 (by omega)) (by decide))
        exact ⟨this.ne, this.len, this.sm⟩
      · have d5 := d4.same s5
        refine ⟨_, rfl, _, rfl, _, rfl, _, _, rfl, rfl, d, n - k, 4, by show [V.ref d, V.int ((n : Int) - (k : Int)), V.int 4] = [V.ref d, V.int ((n - k : Nat) : Int), V.int 4]; rw [Int.ofNat_sub hk'], d5, by omega, by decide, fun p6' H6 l6 s6 d6 f6 hl6 hm6 => ?_⟩
        have f5' := s6 _ _ (dc_ne d5 f5) f5
        have b1 := bd_pow bl k
        have b2 := bd_small hl6 hm6
        have r1 := b1.rw (by omega) (Nat.lt_of_le_of_lt (p6 (by omega)) (by decide))
        have r2 := b2.rw (by omega) (Nat.lt_of_le_of_lt (show (n - k + 1) * 4 ≤ 36 by omega) (by decide))
        refine ⟨p5, p6', _, l6, rfl, f5', f6, r1.ne, r2.ne, r1.len, r2.len, r1.sm, r2.sm, fun p7 H7 s7 _ f7 => q p7 H7 _ ((((s1.trans s2).trans (Sx.of s3)).trans s4).trans (((Sx.of s5).trans s6).trans (Sx.of s7))) (d6.same s7) f7 ?_⟩
        have b3 := bd_ml b1 b2
        rw [show k + (n - k) = n by omega] at b3
        exact b3.mono (Nat.le_trans (Nat.mul_le_mul (p6 (by omega)) (show (n - k + 1) * 4 ≤ 36 by omega)) (by decide))
    · -- sums of powers
      refine ⟨_, rfl, _, _, rfl, rfl, _, rfl, by show -(2 ^ 62) ≤ (n : Int) + 1; omega, by show (n : Int) + 1 < 2 ^ 62; omega, fun D hD => lc_range (n := ((n : Int) + 1).toNat) (fun j H' => H' = upd H1 D (.lst (tab j fun _ => 0))) rfl (fun j H' hj hP => ?_) (fun H' hP => ?_)⟩
      · subst hP
        refine ⟨rfl, ⟨_, upd_same, by rw [tab_len]; exact small1000 (by omega), ?_⟩⟩
        rw [upd_upd, ← tab_snoc]
      · subst hP
        rw [show ((n : Int) + 1).toNat = n + 1 by omega, tab_tb]
        refine .inl ⟨D, _, rfl, SqL.of upd_same, fun p hp => gen_upd (upd H1 D _) p _ hp fun H2 s2 f2 => ?_⟩
        have s02 := (same_upd0 (o := HO.lst ((tb (n + 1) fun _ => 0).map V.int)) hD).trans s2
        have d2 := d1.same s02
        have b0 : Bd (tb (n + 1) fun _ => 0) n 0 := ⟨tb_len _ _, by
          rw [nm_tb]
          have : ∀ k, sN k (fun _ => 0) = 0 := by
            intro k
            induction k with
            | zero => rfl
            | succ k ih => show sN k (fun _ => 0) + 0 = 0; rw [ih]
          rw [this]
          exact Nat.le_refl _⟩
        refine ⟨_, rfl, d, 3, rfl, d2, by decide, lg 3 (by decide), fun k H3 hk s3 d3 => ⟨_, _, rfl, rfl, _, rfl, by omega, by omega, ?_⟩⟩
        have f3 := s3 _ _ (dc_ne d2 f2) f2
        have hk3 : (k : Int) < 3 := hk
        refine for_range (n := (1 + (k : Int)).toNat) (fun i σ H' => ∃ r y3 y4 y5 y7 l, σ = [some (.ref d), some (.int n), some (.int (r : Int)), y3, y4, y5, some (.ref y7), none] ∧ Sx d H1 H' ∧ Dc H' d ∧ H' y7 = some (tp l) ∧ Bd l n (i * 6718464)) ⟨_, _, _, _, _, _, rfl, (Sx.of s02).trans s3, d3, f3, b0.mono (Nat.zero_le _)⟩ (fun i σ H' hi hP => ?_) (fun σ H' hP => ?_)
        · obtain ⟨r', y3, y4, y5, y7, l, rfl, sH, dH, hl, bl⟩ := hP
          refine ⟨_, rfl, _, rfl, d, 3, rfl, dH, by decide, by decide, fun p4 H4 u v s4 d4 h4 hu hv => ⟨_, rfl, ?_⟩⟩
          have bp : Bd [u, v] 1 6 := bd_pair hu hv
          refine ⟨p4, _, n, rfl, h4, bp.ne, by show 2 ≤ 100; decide, fun x hx => (bp.rw (by decide) (Nat.lt_of_lt_of_le (show 6 < 2 ^ 4 by decide) (Nat.pow_le_pow_right (by decide) (by decide)))).sm x hx, fun i hi => ?_, by omega, fun p5 H5 s5 f5 => ?_⟩
          · have := (bd_pow bp i).rw (by omega) (Nat.lt_of_le_of_lt (p6 (by omega)) (by decide))
            exact ⟨this.ne, this.len, this.sm⟩
          · have d5 := d4.same s5
            have b5 := bd_pow bp n
            have r5 := b5.rw (by omega) (Nat.lt_of_le_of_lt (p6 (by omega)) (by decide))
            refine ⟨_, rfl, d, 4, rfl, d5, by decide, by rw [e15]; decide, fun c H6 c1 c2 s6 d6 => ?_⟩
            have f6 := s6 _ _ (dc_ne d5 f5) f5
            refine ⟨p5, _, c, rfl, f6, r5.len, r5.sm, Nat.lt_of_le_of_lt (show c.natAbs ≤ 4 by omega) (by decide), fun p7 H7 s7 _ f7 => ?_⟩
            have b7 := bd_scale (d := 4) b5 (show c.natAbs ≤ 4 by omega)
            have hl7 := s7 _ _ (s6 _ _ (dc_ne d5 (s5 _ _ (s4 _ _ (dc_ne dH hl) hl))) (s5 _ _ (s4 _ _ (dc_ne dH hl) hl)))
            refine ⟨_, p7, l, _, rfl, hl7, f7, by rw [bl.len, b7.len], by rw [bl.len]; omega, fun p8 H8 s8 _ f8 => ⟨_, _, _, _, p8, _, rfl, ((sH.trans s4).trans ((Sx.of s5).trans s6)).trans ((Sx.of s7).trans (Sx.of s8)), (d6.same s7).same s8, f8, (bd_zs bl b7).mono ?_⟩⟩
            have : 4 * 6 ^ n ≤ 4 * 1679616 := Nat.mul_le_mul (Nat.le_refl _) (p6 hn)
            rw [Nat.succ_mul]
            omega
        · obtain ⟨r', y3, y4, y5, y7, l, rfl, sH, dH, hl, bl⟩ := hP
          exact ⟨_, rfl, q y7 H' l (s1.trans sH) dH hl (bl.mono (by omega))⟩
    · -- some entries, some zeros
      refine ⟨_, rfl, _, _, rfl, rfl, _, rfl, by show -(2 ^ 62) ≤ (n : Int) + 1; omega, by show (n : Int) + 1 < 2 ^ 62; omega, fun D hD => lc_range (n := ((n : Int) + 1).toNat) (fun j H' => Sx d H1 H' ∧ Dc H' d ∧ ∃ l : List Int, H' D = some (.lst (l.map V.int)) ∧ l.length = j ∧ ∀ x ∈ l, x.natAbs ≤ 3) ⟨Sx.of (same_upd0 hD), d1.same (same_upd0 hD), [], upd_same, rfl, fun x hx => by cases hx⟩ (fun j H' hj hP => ?_) (fun H' hP => ?_)⟩
      · obtain ⟨sH, dH, l, hL, hl, hb⟩ := hP
        have nD : D ≠ d := d1.ne hD
        refine ⟨rfl, _, rfl, d, 3, rfl, dH, by decide, by rw [e15]; decide, fun c H2 c1 c2 s2 d2 => ⟨_, rfl, d, 2, rfl, d2, by decide, lg 2 (by decide), fun k H3 hk s3 d3 => ⟨_, _, rfl, rfl, sm_mul (Nat.lt_of_le_of_lt (show c.natAbs ≤ 3 by omega) (by decide)) (Nat.lt_of_le_of_lt (show ((k : Nat) : Int).natAbs ≤ 2 by have : (k : Int) < 2 := hk; omega) (by decide)), _, s3 D _ nD (s2 D _ nD hL), ?_, fun b o hb2 e => ?_, ?_, l ++ [c * (k : Int)], ?_, ?_, fun x hx => ?_⟩⟩⟩
        · rw [List.length_map]
          exact small1000 (by omega)
        · rw [upd_ne (ne_of_none e hD)]
          exact (sH.trans (s2.trans s3)) b o hb2 e
        · obtain ⟨x, y, z, e⟩ := d3
          exact ⟨x, y, z, by rw [upd_ne (Ne.symm nD)]; exact e⟩
        · rw [upd_same, List.map_append]
          rfl
        · rw [List.length_append, hl]
          rfl
        · rcases List.mem_append.mp hx with e | e
          · exact hb x e
          · rw [List.mem_singleton.mp e]
            have hk2 : (k : Int) < 2 := hk
            rw [Int.natAbs_mul]
            have := Nat.mul_le_mul (show c.natAbs ≤ 3 by omega) (show ((k : Nat) : Int).natAbs ≤ 1 by omega)
            omega
      · obtain ⟨sH, dH, l, hL, hl, hb⟩ := hP
        refine .inl ⟨D, _, rfl, SqL.of hL, fun p hp2 => ?_⟩
        exact q p _ l (s1.trans (sH.trans (Sx.of (same_upd0 hp2)))) (dH.same (same_upd0 hp2)) upd_same ((bd_small (n := n) (by omega) hb).mono (Nat.le_trans (Nat.mul_le_mul (show n + 1 ≤ 9 by omega) (Nat.le_refl _)) (by decide)))
    · -- great entries, or small ones
      have small : ∀ H2, Sx d H H2 → Dc H2 d → spSmall [V.ref d, V.int (n : Int), V.int 6] H2 Q E0 := fun H2 s2 d2 => ⟨d, n, 6, rfl, d2, by omega, by decide, fun p H3 l s3 d3 f3 hl hm => q p H3 l (s2.trans s3) d3 f3 ((bd_small hl hm).mono (by omega))⟩
      refine ⟨_, rfl, rfl, _, rfl, iteI (fun _ => ?_) (fun _ => ?_)⟩
      · refine ⟨_, rfl, d, 4, rfl, d1, by decide, lg 4 (by decide), fun k H2 hk s2 d2 => ⟨rfl, _, rfl, iteI (fun _ => ?_) (fun _ => ?_)⟩⟩
        · -- great entries
          refine ⟨_, rfl, _, _, rfl, rfl, _, rfl, by show -(2 ^ 62) ≤ (n : Int) + 1; omega, by show (n : Int) + 1 < 2 ^ 62; omega, fun D hD => lc_range (n := ((n : Int) + 1).toNat) (fun j H' => Sx d H2 H' ∧ Dc H' d ∧ ∃ l : List Int, H' D = some (.lst (l.map V.int)) ∧ l.length = j ∧ ∀ x ∈ l, x.natAbs ≤ 1000000000000) ⟨Sx.of (same_upd0 hD), d2.same (same_upd0 hD), [], upd_same, rfl, fun x hx => by cases hx⟩ (fun j H' hj hP => ?_) (fun H' hP => ?_)⟩
          · obtain ⟨sH, dH, l, hL, hl, hb⟩ := hP
            have nD : D ≠ d := d2.ne hD
            refine ⟨rfl, _, rfl, 10, 12, rfl, rfl, ⟨by decide, by decide, by decide⟩, d, 1000000000000, rfl, dH, by decide, by rw [e15]; decide, fun r H2 r1 r2 s2 d2 => ⟨_, s2 D _ nD hL, ?_, fun b o hb2 e => ?_, ?_, l ++ [r], ?_, ?_, fun x hx => ?_⟩⟩
            · rw [List.length_map]
              exact small1000 (by omega)
            · rw [upd_ne (ne_of_none e hD)]
              exact (sH.trans s2) b o hb2 e
            · obtain ⟨x, y, z, e⟩ := d2
              exact ⟨x, y, z, by rw [upd_ne (Ne.symm nD)]; exact e⟩
            · rw [upd_same, List.map_append]
              rfl
            · rw [List.length_append, hl]
              rfl
            · rcases List.mem_append.mp hx with e | e
              · exact hb x e
              · rw [List.mem_singleton.mp e]
                omega
          · obtain ⟨sH, dH, l, hL, hl, hb⟩ := hP
            refine .inl ⟨D, _, rfl, SqL.of hL, fun p hp2 => ?_⟩
            exact q p _ l ((s1.trans s2).trans (sH.trans (Sx.of (same_upd0 hp2)))) (dH.same (same_upd0 hp2)) upd_same ((bd_small (n := n) (by omega) hb).mono (Nat.le_trans (Nat.mul_le_mul (show n + 1 ≤ 9 by omega) (Nat.le_refl _)) (by decide)))
        · exact ⟨_, rfl, _, rfl, small H2 (s1.trans s2) d2⟩
      · exact ⟨_, rfl, _, rfl, small H1 s1 d1⟩
end
end K45

set_option Elab.async false
set_option linter.all false
set_option maxRecDepth 100000
set_option maxHeartbeats 4000000
namespace K45
open PySem PySem.Spec PyProof.Rows L2 StX RZ MyR SlX OwnR OwnF EnumT
/-! what is said of forms by those who use them (for other laws: K45u, K45v, K45y hold the same) -/
section
variable {P : Program} {w : World} {K : PySem.W.Frag} {mg : Str → Option Value} {base : Heap}
/-- what is asked of a told row -/
structure Tr (l : List Int) : Prop where
  ne : l ≠ []
  len : l.length ≤ 40
  sho : ∀ x ∈ l, Sho x
theorem Tr.rw {l : List Int} (h : Tr l) : Rw l := ⟨h.ne, by have := h.len; omega, fun x hx => Nat.lt_trans (h.sho x hx) (by decide)⟩
theorem Tr.pos {l : List Int} (h : Tr l) : 1 ≤ l.length := List.length_pos_iff.mpr h.ne
theorem shaped_lints (ns : List Int) : SeqAt.shaped (.list (ns.map PyData.int)) = true := by
  unfold SeqAt.shaped
  rw [show PyData.canLay0 (.list (ns.map PyData.int)) = PyData.canLayAll0 (ns.map PyData.int) from rfl, lay_ints]
  rw [show PyData.depth (.list (ns.map PyData.int)) = PyData.depthAll (ns.map PyData.int) + 1 from rfl, depth_ints]
  rfl
/-- Form(t) -/
theorem made_form {C x dx t : Addr} {l : List Int} {H0 H2 : Hp} (hx : H0 x = none) (hdx : H0 dx = none) (hne : dx ≠ x) (s : Same (upd (upd H0 dx (.own x)) x (.ins C dx [])) H2) (ht : H0 t = some (tp l)) : Same H0 (slH H2 x C dx [some (.ref t)]) ∧ Fo C (slH H2 x C dx [some (.ref t)]) x l := by
  have s3 := made (v := .ref t) hx hdx hne s
  refine ⟨s3, dx, t, upd_same, ?_, s3 _ _ ht⟩
  unfold slH
  rw [upd_ne hne, upd_same]
theorem Fo.sx {C a d : Addr} {H H' : Hp} {ns : List Int} (h : Fo C H a ns) (hd : Dc H d) (s : Sx d H H') : Fo C H' a ns := by
  obtain ⟨dx, t, h1, h2, h3⟩ := h
  obtain ⟨x, y, z, e⟩ := hd
  refine ⟨dx, t, s _ _ (fun q => ?_) h1, s _ _ (fun q => ?_) h2, s _ _ (fun q => ?_) h3⟩
  · rw [q, e] at h1
    cases h1
  · rw [q, e] at h2
    cases h2
  · rw [q, e] at h3
    cases h3
theorem mkF {CT C x dx t : Addr} {H : Hp} {l : List Int} {R : Hp → Prop} (hx : H x = none) (hdx : H dx = none) (hne : dx ≠ x) (ht : H t = some (tp l)) (h1 : 1 ≤ l.length) (h2 : l.length ≤ 41) (hs : ∀ z ∈ l, Sho z) (q : ∀ H', Same H H' → Fo C H' x l → R H') :
    spForm CT C [.ref x, .ref t] (upd (upd H dx (.own x)) x (.ins C dx [])) (fun v H2 => v = .non ∧ R H2) E0 := by
  refine ⟨x, dx, t, t, rfl, .inl ⟨upd_same, rfl⟩, .inr ⟨l, rfl, ?_, h1, h2, hs⟩, fun H2 s2 => ⟨rfl, ?_⟩⟩
  · rw [upd_ne (ne_of_none ht hx), upd_ne (ne_of_none ht hdx)]
    exact ht
  · obtain ⟨s, f⟩ := made_form hx hdx hne s2 ht
    exact q _ s f
theorem Bd.tr {l : List Int} {n b : Nat} (h : Bd l n b) (hn : n ≤ 39) (hb : b < 10 ^ 60) : Tr l := ⟨h.ne, by rw [h.len]; omega, fun x hx => Nat.lt_of_le_of_lt (h.mem x hx) hb⟩
/-- a pair of a form and its row -/
structure Pa (C : Addr) (H : Hp) (v : V) (l : List Int) : Prop where
  tr : Tr l
  at_ : ∃ p f t, v = .ref p ∧ H p = some (.tup [.ref f, .ref t]) ∧ Fo C H f l ∧ H t = some (tp l)
theorem Pa.same {C : Addr} {H H' : Hp} {v : V} {l : List Int} (h : Pa C H v l) (s : Same H H') : Pa C H' v l := by
  obtain ⟨p, f, t, e, h1, h2, h3⟩ := h.at_
  exact ⟨h.tr, p, f, t, e, s _ _ h1, h2.same s, s _ _ h3⟩
theorem ml_one (l : List Int) : ml l [1] = l := by
  refine co_inj (by rw [ml_len]; show l.length + 1 - 1 = _; omega) fun k => ?_
  rw [co_ml (by simp), cv_congr (h := fun i => if i = 0 then 1 else 0) l k fun i _ => by cases i <;> rfl, cv_one]
theorem prop_ent {C a : Addr} {H : Hp} {xs : List Int} {Q : VK} (fa : Fo C H a xs) (q : ∀ t, H t = some (tp xs) → Q (.ref t) H) : ∃ a' dx vs, V.ref a = .ref a' ∧ Slt H a' C dx vs ∧ spEnt C [.ref a'] H Q E0 := by
  obtain ⟨dx, t, ha, _⟩ := fa.slt
  exact ⟨a, dx, _, rfl, ha, a, xs, rfl, fa, q⟩
theorem prop_zero {C a : Addr} {H : Hp} {xs : List Int} {Q : VK} (fa : Fo C H a xs) (q : Q (.bl (!xs.any (· != 0))) H) : ∃ a' dx vs, V.ref a = .ref a' ∧ Slt H a' C dx vs ∧ spIsZ C [.ref a'] H Q E0 := by
  obtain ⟨dx, t, ha, _⟩ := fa.slt
  exact ⟨a, dx, _, rfl, ha, a, xs, rfl, fa, q⟩
theorem prop_deg {C a : Addr} {H : Hp} {xs : List Int} {Q : VK} (fa : Fo C H a xs) (q : Q (.int ((xs.length : Int) - 1)) H) : ∃ a' dx vs, V.ref a = .ref a' ∧ Slt H a' C dx vs ∧ spDeg C [.ref a'] H Q E0 := by
  obtain ⟨dx, t, ha, _⟩ := fa.slt
  exact ⟨a, dx, _, rfl, ha, a, xs, rfl, fa, q⟩
end
end K45

set_option Elab.async false
set_option linter.all false
set_option maxRecDepth 100000
/-! changed forms, derived forms: the plain law -/
namespace K45
theorem ev_zs (c : Int) {l m : List Int} (h : l.length = m.length) (x y : Int) : ev (zs c l m) x y = ev l x y + c * ev m x y := by
  have hz : (zs c l m).length = l.length := by unfold zs; rw [List.length_zipWith, h, Nat.min_self]
  have co_zs : ∀ k, co (zs c l m) k = co l k + c * co m k := fun k => by
    unfold zs
    by_cases hk : k < l.length
    · rw [co_get (by rw [List.length_zipWith]; omega), co_get hk, co_get (by omega), List.getElem_zipWith]
    · rw [co_far (by rw [List.length_zipWith]; omega), co_far (by omega), co_far (by omega), Int.mul_zero]
      rfl
  unfold ev
  rw [hz, ← h, ← evF_mul, ← evF_add]
  exact evF_congr _ fun i _ => co_zs i
theorem ev_map (c : Int) (l : List Int) (x y : Int) : ev (l.map (c * ·)) x y = c * ev l x y := by
  unfold ev
  rw [List.length_map, ← evF_mul]
  exact evF_congr _ fun i _ => co_map c l i
theorem ev_one (x y : Int) : ev [1] x y = 1 := by
  rw [ev_cons]
  show 1 * x ^ 0 + y * 0 = 1
  rw [Int.pow_zero, Int.mul_zero]
  rfl
theorem ev_nil (x y : Int) : ev [] x y = 0 := rfl
theorem pow_ne {l : List Int} (h : l ≠ []) : ∀ n, pow l n ≠ []
  | 0 => by show [1] ≠ []; simp
  | n + 1 => ml_ne (pow_ne h n) h
theorem pow_len {l : List Int} (h : l.length = 2) : ∀ n, (pow l n).length = n + 1
  | 0 => rfl
  | n + 1 => by
    show (ml (pow l n) l).length = _
    rw [ml_len, pow_len h n, h]
    omega
theorem ev_pow {l : List Int} (h : l ≠ []) (x y : Int) : ∀ n, ev (pow l n) x y = ev l x y ^ n
  | 0 => by rw [Int.pow_zero]; exact ev_one x y
  | n + 1 => by
    show ev (ml (pow l n) l) x y = _
    rw [ev_ml (pow_ne h n) h, ev_pow h x y n, Int.pow_succ]
theorem zs_len {c : Int} {l m : List Int} (h : l.length = m.length) : (zs c l m).length = l.length := by unfold zs; rw [List.length_zipWith, h, Nat.min_self]
/-- how the program changes: the entries that are left, what is found, the power of the second row -/
def chg (X Y : List Int) : List Int → List Int → List Int → List Int
  | [], f, _ => f
  | e :: r, f, p => chg X Y r (zs e (ml f X) (ml p Y)) (ml p Y)
theorem chg_len {X Y : List Int} (hX : X.length = 2) (hY : Y.length = 2) : ∀ (r f p : List Int), f ≠ [] → f.length = p.length → (chg X Y r f p).length = f.length + r.length
  | [], f, p, _, _ => rfl
  | e :: r, f, p, nf, h => by
    have pf : 0 < f.length := List.length_pos_iff.mpr nf
    have l1 : (ml f X).length = f.length + 1 := by rw [ml_len, hX]; omega
    have l2 : (ml p Y).length = f.length + 1 := by rw [ml_len, hY, ← h]; omega
    have l3 : (zs e (ml f X) (ml p Y)).length = f.length + 1 := by rw [zs_len (by rw [l1, l2]), l1]
    show (chg X Y r (zs e (ml f X) (ml p Y)) (ml p Y)).length = _
    rw [chg_len hX hY r _ _ (fun z => by rw [z] at l3; cases l3) (by rw [l3, l2]), l3, List.length_cons]
    omega
theorem ev_chg {X Y : List Int} (hX : X.length = 2) (hY : Y.length = 2) (x y : Int) : ∀ (r f p : List Int), f ≠ [] → f.length = p.length →
    ev (chg X Y r f p) x y = ev f x y * ev X x y ^ r.length + ev p x y * ev Y x y * ev r (ev X x y) (ev Y x y)
  | [], f, p, _, _ => by
    show ev f x y = ev f x y * ev X x y ^ 0 + ev p x y * ev Y x y * 0
    rw [Int.pow_zero, Int.mul_one, Int.mul_zero, Int.add_zero]
  | e :: r, f, p, nf, h => by
    have pf : 0 < f.length := List.length_pos_iff.mpr nf
    have np : p ≠ [] := fun z => by rw [z] at h; simp at h; exact nf h
    have nX : X ≠ [] := fun z => by rw [z] at hX; cases hX
    have nY : Y ≠ [] := fun z => by rw [z] at hY; cases hY
    have l1 : (ml f X).length = f.length + 1 := by rw [ml_len, hX]; omega
    have l2 : (ml p Y).length = f.length + 1 := by rw [ml_len, hY, ← h]; omega
    have l3 : (zs e (ml f X) (ml p Y)).length = f.length + 1 := by rw [zs_len (by rw [l1, l2]), l1]
    show ev (chg X Y r (zs e (ml f X) (ml p Y)) (ml p Y)) x y = _
    rw [ev_chg hX hY x y r _ _ (fun z => by rw [z] at l3; cases l3) (by rw [l3, l2]), ev_zs e (by rw [l1, l2]), ev_ml nf nX, ev_ml np nY, ev_cons, List.length_cons, Int.pow_succ]
    generalize ev f x y = a
    generalize ev p x y = b
    generalize ev X x y = u
    generalize ev Y x y = v
    generalize ev r u v = w
    generalize u ^ r.length = z
    grind
/-- the changed form -/
def changed (X Y l : List Int) : List Int := chg X Y l.tail [co l 0] [1]
theorem changed_len {X Y l : List Int} (hX : X.length = 2) (hY : Y.length = 2) (h : l ≠ []) : (changed X Y l).length = l.length := by
  match l, h with
  | a :: r, _ =>
    show (chg X Y r [a] [1]).length = _
    rw [chg_len hX hY r [a] [1] (by simp) rfl]
    show 1 + r.length = r.length + 1
    omega
theorem ev_changed {X Y l : List Int} (hX : X.length = 2) (hY : Y.length = 2) (h : l ≠ []) (x y : Int) : ev (changed X Y l) x y = ev l (ev X x y) (ev Y x y) := by
  match l, h with
  | a :: r, _ =>
    show ev (chg X Y r [a] [1]) x y = _
    rw [ev_chg hX hY x y r [a] [1] (by simp) rfl, ev_one, ev_cons a r, Int.one_mul, ev_cons a []]
    show (a * x ^ 0 + y * 0) * _ + _ = _
    rw [Int.pow_zero, Int.mul_one, Int.mul_zero, Int.add_zero]
/-- how the law changes: the first i entries -/
def chL (X Y l : List Int) : Nat → List Int
  | 0 => List.replicate l.length 0
  | i + 1 => zs 1 (chL X Y l i) ((ml (pow X (l.length - 1 - i)) (pow Y i)).map (co l i * ·))
theorem chL_len {X Y l : List Int} (hX : X.length = 2) (hY : Y.length = 2) : ∀ i, i ≤ l.length → (chL X Y l i).length = l.length
  | 0, _ => List.length_replicate
  | i + 1, h => by
    have l1 := chL_len (l := l) hX hY i (by omega)
    have l2 : ((ml (pow X (l.length - 1 - i)) (pow Y i)).map (co l i * ·)).length = l.length := by
      rw [List.length_map, ml_len, pow_len hX, pow_len hY]
      omega
    show (zs 1 (chL X Y l i) _).length = _
    rw [zs_len (by rw [l1, l2]), l1]
theorem ev_rep (n : Nat) (x y : Int) : ev (List.replicate n 0) x y = 0 := by
  unfold ev
  rw [show evF (List.replicate n (0 : Int)).length (co (List.replicate n 0)) x y = evF (List.replicate n (0 : Int)).length (fun _ => 0) x y from evF_congr _ fun i hi => by
    rw [co_get hi, List.getElem_replicate], evF_zero]
theorem ev_chL {X Y l : List Int} (hX : X.length = 2) (hY : Y.length = 2) (x y : Int) : ∀ i, i < l.length → ev (chL X Y l (i + 1)) x y = ev X x y ^ (l.length - 1 - i) * evF (i + 1) (co l) (ev X x y) (ev Y x y)
  | i, h => by
    have nX : X ≠ [] := fun z => by rw [z] at hX; cases hX
    have nY : Y ≠ [] := fun z => by rw [z] at hY; cases hY
    have l1 := chL_len (l := l) hX hY i (by omega)
    have l2 : ((ml (pow X (l.length - 1 - i)) (pow Y i)).map (co l i * ·)).length = l.length := by
      rw [List.length_map, ml_len, pow_len hX, pow_len hY]
      omega
    have ih : ev (chL X Y l i) x y = ev X x y ^ (l.length - 1 - i) * (ev X x y * evF i (co l) (ev X x y) (ev Y x y)) := by
      match i, h with
      | 0, _ =>
        show ev (List.replicate l.length 0) x y = _ * (_ * 0)
        rw [ev_rep, Int.mul_zero, Int.mul_zero]
      | j + 1, h =>
        rw [ev_chL hX hY x y j (by omega), show l.length - 1 - j = (l.length - 1 - (j + 1)) + 1 by omega, Int.pow_succ, Int.mul_assoc]
    show ev (zs 1 (chL X Y l i) _) x y = ev X x y ^ (l.length - 1 - i) * (ev X x y * evF i (co l) (ev X x y) (ev Y x y) + co l i * ev Y x y ^ i)
    rw [ev_zs 1 (by rw [l1, l2]), ev_map, ev_ml (pow_ne nX _) (pow_ne nY _), ev_pow nX, ev_pow nY, ih]
    generalize ev X x y ^ (l.length - 1 - i) = A
    generalize ev Y x y ^ i = B
    generalize ev X x y = u
    generalize evF i (co l) u (ev Y x y) = w
    grind
theorem chL_all {X Y l : List Int} (hX : X.length = 2) (hY : Y.length = 2) (h : l ≠ []) : chL X Y l l.length = changed X Y l := by
  have pl : 0 < l.length := List.length_pos_iff.mpr h
  refine ev_inj (by rw [chL_len hX hY _ (Nat.le_refl _), changed_len hX hY h]) fun x y => ?_
  rw [ev_changed hX hY h]
  have := ev_chL (l := l) hX hY x y (l.length - 1) (by omega)
  rw [show l.length - 1 + 1 = l.length by omega, Nat.sub_self, Int.pow_zero, Int.one_mul] at this
  exact this
theorem ev2 (a b x y : Int) : ev [a, b] x y = a * x + b * y := by
  rw [ev_cons, ev_cons, ev_nil]
  show a * x ^ 1 + y * (b * x ^ 0 + y * 0) = _
  rw [Int.pow_zero, Int.pow_succ, Int.pow_zero]
  grind
theorem pow_zero {c : Int} : ∀ {n : Nat}, c ^ n = 0 → c = 0
  | 0, h => by rw [Int.pow_zero] at h; cases h
  | n + 1, h => by
    rw [Int.pow_succ] at h
    rcases Int.mul_eq_zero.mp h with e | e
    · exact pow_zero e
    · exact e
theorem ev_zero {l : List Int} (h : ∀ z ∈ l, z = 0) (x y : Int) : ev l x y = 0 := by
  have e : l = List.replicate l.length 0 := List.eq_replicate_iff.mpr ⟨rfl, h⟩
  rw [e, ev_rep]
/-! ### values -/
def vf (x y : Int) : List Int → Int → Int → Int
  | [], f, _ => f
  | e :: r, f, p => vf x y r (f * x + e * p) (p * y)
theorem vf_ev (x y : Int) : ∀ (r : List Int) (f p : Int), vf x y r f p = f * x ^ r.length + p * ev r x y
  | [], f, p => by
    show f = f * x ^ 0 + p * 0
    rw [Int.pow_zero, Int.mul_one, Int.mul_zero, Int.add_zero]
  | e :: r, f, p => by
    show vf x y r (f * x + e * p) (p * y) = _
    rw [vf_ev x y r, ev_cons, List.length_cons, Int.pow_succ]
    generalize x ^ r.length = A
    generalize ev r x y = w
    grind
/-! ### derivatives -/
/-- derived by x, by y -/
def dX (l : List Int) : List Int := tb (l.length - 1) fun k => co l k * ((l.length : Int) - 1 - k)
def dY (l : List Int) : List Int := tb (l.length - 1) fun k => co l (k + 1) * ((k : Int) + 1)
theorem dX_len (l : List Int) : (dX l).length = l.length - 1 := tb_len _ _
theorem dY_len (l : List Int) : (dY l).length = l.length - 1 := tb_len _ _
theorem co_zs' (c : Int) {l m : List Int} (h : l.length = m.length) (k : Nat) : co (zs c l m) k = co l k + c * co m k := by
  unfold zs
  by_cases hk : k < l.length
  · rw [co_get (by rw [List.length_zipWith]; omega), co_get hk, co_get (by omega), List.getElem_zipWith]
  · rw [co_far (by rw [List.length_zipWith]; omega), co_far (by omega), co_far (by omega), Int.mul_zero]
    rfl
def it (f : List Int → List Int) : Nat → List Int → List Int
  | 0, l => l
  | n + 1, l => f (it f n l)
theorem dX_it_len (l : List Int) : ∀ n, (it dX n l).length = l.length - n
  | 0 => rfl
  | n + 1 => by
    show (dX (it dX n l)).length = _
    rw [dX_len, dX_it_len l n]
    omega
theorem dY_it_len (l : List Int) : ∀ n, (it dY n l).length = l.length - n
  | 0 => rfl
  | n + 1 => by
    show (dY (it dY n l)).length = _
    rw [dY_len, dY_it_len l n]
    omega
/-- derived i times by x, j times by y -/
def dd (i j : Nat) (l : List Int) : List Int := it dY j (it dX i l)
theorem dd_len (i j : Nat) (l : List Int) : (dd i j l).length = l.length - i - j := by
  unfold dd
  rw [dY_it_len, dX_it_len]
/-- the rule of Euler -/
theorem euler {l : List Int} (h : 2 ≤ l.length) : zs 1 (ml [1, 0] (dX l)) (ml [0, 1] (dY l)) = l.map fun x => x * ((l.length : Int) - 1) := by
  have n1 : dX l ≠ [] := fun z => by have := dX_len l; rw [z] at this; have : 0 = l.length - 1 := this; omega
  have n2 : dY l ≠ [] := fun z => by have := dY_len l; rw [z] at this; have : 0 = l.length - 1 := this; omega
  have l1 : (ml [1, 0] (dX l)).length = l.length := by rw [ml_len, dX_len]; show 2 + (l.length - 1) - 1 = _; omega
  have l2 : (ml [0, 1] (dY l)).length = l.length := by rw [ml_len, dY_len]; show 2 + (l.length - 1) - 1 = _; omega
  refine co_inj (by rw [zs_len (by rw [l1, l2]), l1, List.length_map]) fun k => ?_
  rw [co_zs' 1 (by rw [l1, l2]), co_ml n1, co_ml n2, map_mul_comm, co_map, cv_cons, cv_cons]
  unfold dX dY
  rw [co_tb, co_tb]
  cases k with
  | zero =>
    show 1 * _ + 0 + 1 * (0 * _ + 0) = _
    rw [if_pos (by omega)]
    grind
  | succ k =>
    show 1 * _ + (cv [0] _ k) + 1 * (0 * _ + (cv [1] _ k)) = _
    have c0 : ∀ (g : Nat → Int) j, cv [0] g j = 0 := fun g j => by
      cases j with
      | zero => rw [cv_zero, Int.zero_mul]
      | succ j => rw [cv_succ, Int.zero_mul]; rfl
    have c1 : ∀ (g : Nat → Int) j, cv [1] g j = g j := fun g j => by
      cases j with
      | zero => rw [cv_zero, Int.one_mul]
      | succ j => rw [cv_succ, Int.one_mul]; show g (j + 1) + 0 = _; omega
    rw [c0, c1, co_tb]
    by_cases h1 : k + 1 < l.length - 1
    · rw [if_pos h1, if_pos (by omega)]
      have : ((k + 1 : Nat) : Int) = (k : Int) + 1 := by omega
      rw [this]
      grind
    · rw [if_neg h1]
      by_cases h2 : k < l.length - 1
      · rw [if_pos h2, show (l.length : Int) - 1 = (k : Int) + 1 by omega]
        grind
      · rw [if_neg h2, show co l (k + 1) = 0 from co_far (by omega)]
        grind
end K45

set_option Elab.async false
set_option linter.all false
set_option maxRecDepth 100000
set_option maxHeartbeats 4000000
namespace K45
open PySem PySem.Spec PyProof.Rows L2 StX RZ MyR SlX OwnR OwnF EnumT
/-- a comprehension over enumerate of a tuple -/
theorem lc_enumT {K : PySem.W.Frag} {a : Addr} {xs : List V} {g : TG} {tt : TT} {te : TE} {vs : List Nat} {σ : L2.St} {H1 : Hp} {D : Addr} {Qd : Hp → Prop} (Pv : Nat → Hp → Prop) (h0 : Pv 0 (upd H1 D (.lst []))) (hq : ∀ i H, i ≤ xs.length → Pv i H → SqT K H a xs)
    (hs : ∀ (i : Nat) (x : V) (T : Addr) (H : Hp), xs[i]? = some x → Pv i H → H T = none → g (.ref T) (wipe σ vs) (upd H T (.tup [.int (i : Nat), x])) fun σ2 H2 => wipe σ2 vs = wipe σ vs ∧ tt σ2 H2 fun b H3 =>
      if b = true then te σ2 H3 fun y H4 => ∃ acc, H4 D = some (.lst acc) ∧ acc.length < sizeLine ∧ Pv (i + 1) (upd H4 D (.lst (acc ++ [y]))) else Pv (i + 1) H3) (hd : ∀ H, Pv xs.length H → Qd H) :
    ∃ W : Nat → Nat → Hp → Prop, (∃ m, W 0 m (upd H1 D (.lst []))) ∧ ∀ i m H, W i m H →
      ((IteT K a).stop i H ∧ Qd H) ∨ ((IteT K a).go i H ∧ ∃ Nx : Hp → Prop, (∀ H', Nx H' → ∃ m', m' < m ∧ W (i + 1) m' H') ∧ ∀ x H', (IteT K a).yld i H x H' → g x (wipe σ vs) H' fun σ2 H2 => wipe σ2 vs = wipe σ vs ∧ tt σ2 H2 fun b H3 =>
        if b = true then te σ2 H3 fun y H4 => ∃ acc, H4 D = some (.lst acc) ∧ acc.length < sizeLine ∧ Nx (upd H4 D (.lst (acc ++ [y]))) else Nx H3) := by
  refine ⟨fun i m H => m = xs.length - i ∧ i ≤ xs.length ∧ Pv i H, ⟨xs.length, by simp, Nat.zero_le _, h0⟩, ?_⟩
  rintro i m H ⟨rfl, hi, p⟩
  have qx := hq i H hi p
  by_cases hlt : i < xs.length
  · have hx : xs[i]? = some xs[i] := List.getElem?_eq_getElem hlt
    refine .inr ⟨⟨xs, _, qx, hx⟩, Pv (i + 1), fun H' p' => ⟨xs.length - (i + 1), by omega, rfl, hlt, p'⟩, fun v H' y => ?_⟩
    obtain ⟨T, x', rfl, hT, rfl, f1⟩ := y
    exact hs i x' T H (f1 xs qx) p hT
  · have e : i = xs.length := by omega
    subst e
    exact .inl ⟨⟨xs, qx, rfl⟩, hd H p⟩
section
variable {P : Program} {w : World} {K : PySem.W.Frag} {mg : Str → Option Value} {base : Heap}
def spFrom : Sp := fun vs H Q _ => ∃ i lo hi : Int, vs = [.int i, .int lo, .int hi] ∧ lo ≤ i ∧ i ≤ hi ∧ Q (.bl true) H
theorem ok_is_from (T : Facts K mg) : FnOk P w K mg base CX0 2 T.f_is_from T.fd_is_from ["value", "least", "most"] spFrom := by
  have G_is_whole : FnOk P w K mg base CX0 1 T.f_is_whole T.fd_is_whole ["value"] spWhole := ok_is_whole T
  refine T.F_is_from.ok sc_is_from (fun vs H Q E h => ?_) (fun cdv A outer s H vs Q E hr h => ?_)
  · obtain ⟨i, lo, hi, rfl, _⟩ := h
    rfl
  · obtain ⟨i, lo, hi, rfl, h1, h2, q⟩ := h
    refine ⟨_, (PSs.nox (pss_one (ps_ret (pe_and (pe_call G_is_whole hr (by rfl) T.g_is_whole T.F_is_whole.kp T.b_is_whole .nil pass0 (pa_cons (pv 0) pa_nil)) (pe_one (pe_chain op_le op_le (pv 1) (pv 0) (pv 2))))))), ?_⟩
    refine ⟨_, rfl, i, rfl, true, rfl, iteT ⟨_, rfl, _, rfl, _, _, rfl, rfl, true, ?_, iteT ⟨_, rfl, _, _, rfl, rfl, ?_⟩⟩⟩
    · show V.bl (decide (lo ≤ i)) = _
      rw [decide_eq_true h1]
    · show Q (V.bl (decide (i ≤ hi))) H
      rw [decide_eq_true h2]
      exact q
/-! ### values -/
/-- what is asked of a value's letters -/
structure Vb (l : List Int) (x y : Int) (M : Nat) : Prop where
  x : x.natAbs ≤ M
  y : y.natAbs ≤ M
  one : 1 ≤ M
  big : nm l * M ^ l.length < 2 ^ 4000
  pw : M ^ (l.length + 1) < 2 ^ 4000
/-- what stands after i turns -/
def vfs (x y : Int) (l : List Int) : Nat → Int × Int
  | 0 => (0, 1)
  | i + 1 => ((vfs x y l i).1 * x + co l i * (vfs x y l i).2, (vfs x y l i).2 * y)
theorem vfs_vf (x y : Int) (l : List Int) : ∀ i, i ≤ l.length → vf x y (l.drop i) (vfs x y l i).1 (vfs x y l i).2 = vf x y l 0 1
  | 0, _ => rfl
  | i + 1, h => by
    rw [← vfs_vf x y l i (by omega), show l.drop i = co l i :: l.drop (i + 1) by rw [co_get (by omega)]; exact List.drop_eq_getElem_cons (by omega)]
    rfl
theorem vfs_ev (x y : Int) (l : List Int) : (vfs x y l l.length).1 = ev l x y := by
  have := vfs_vf x y l l.length (Nat.le_refl _)
  rw [List.drop_length, vf_ev x y l 0 1, Int.zero_mul, Int.zero_add, Int.one_mul] at this
  exact this
theorem nm_take (l : List Int) (i : Nat) (h : i < l.length) : nm (l.take (i + 1)) = nm (l.take i) + (co l i).natAbs := by
  rw [take_snoc h, nm_snoc]
theorem vfs_bd {l : List Int} {x y : Int} {M : Nat} (h : Vb l x y M) : ∀ i, i ≤ l.length → (vfs x y l i).1.natAbs ≤ nm (l.take i) * M ^ i ∧ (vfs x y l i).2.natAbs ≤ M ^ i
  | 0, _ => ⟨Nat.zero_le _, Nat.le_refl _⟩
  | i + 1, hi => by
    obtain ⟨h1, h2⟩ := vfs_bd h i (by omega)
    show ((vfs x y l i).1 * x + co l i * (vfs x y l i).2).natAbs ≤ _ ∧ ((vfs x y l i).2 * y).natAbs ≤ _
    constructor
    · rw [nm_take l i (by omega), Nat.add_mul]
      refine Nat.le_trans (Int.natAbs_add_le _ _) ?_
      rw [Int.natAbs_mul, Int.natAbs_mul]
      have e1 := Nat.mul_le_mul h1 h.x
      have e2 := Nat.mul_le_mul (Nat.le_refl (co l i).natAbs) (Nat.le_trans h2 (Nat.pow_le_pow_right h.one (Nat.le_succ i)))
      rw [Nat.mul_assoc, ← Nat.pow_succ] at e1
      exact Nat.add_le_add e1 e2
    · rw [Int.natAbs_mul, Nat.pow_succ]
      exact Nat.mul_le_mul h2 h.y
/-! ### changes -/
/-- a table of two rows of two -/
def Tb (H : Hp) (t : Addr) (X Y : List Int) : Prop := ∃ r0 r1, H t = some (.tup [.ref r0, .ref r1]) ∧ H r0 = some (tp X) ∧ H r1 = some (tp Y)
theorem Tb.same {H H' : Hp} {t : Addr} {X Y : List Int} (h : Tb H t X Y) (s : Same H H') : Tb H' t X Y := by
  obtain ⟨r0, r1, h1, h2, h3⟩ := h
  exact ⟨r0, r1, s _ _ h1, s _ _ h2, s _ _ h3⟩
theorem Tb.sx {H H' : Hp} {t d : Addr} {X Y : List Int} (h : Tb H t X Y) (hd : Dc H d) (s : Sx d H H') : Tb H' t X Y := by
  obtain ⟨r0, r1, h1, h2, h3⟩ := h
  exact ⟨r0, r1, s _ _ (dc_ne hd h1) h1, s _ _ (dc_ne hd h2) h2, s _ _ (dc_ne hd h3) h3⟩
/-- short pairs -/
structure Pr2 (X : List Int) : Prop where
  len : X.length = 2
  sho : ∀ x ∈ X, Sho x
theorem sIx_neg {n : Nat} (h : 1 ≤ n) : HT.sIx n n (some (-1)) = n - 1 := by
  unfold HT.sIx
  simp only []
  split <;> omega
theorem cut_tail (xs : List V) (h : 1 ≤ xs.length) : cutV xs (some 1) none = xs.drop 1 := by
  unfold cutV
  have e1 : HT.sIx xs.length 0 (some 1) = 1 := by
    unfold HT.sIx
    simp only []
    split <;> omega
  have e2 : HT.sIx xs.length xs.length none = xs.length := rfl
  rw [e1, e2]
  exact List.take_of_length_le (by rw [List.length_drop]; omega)
theorem cut_init (xs : List V) (h : 1 ≤ xs.length) : cutV xs none (some (-1)) = xs.take (xs.length - 1) := by
  unfold cutV
  have e1 : HT.sIx xs.length 0 none = 0 := rfl
  rw [e1, sIx_neg h, List.drop_zero, Nat.sub_zero]
end
end K45

set_option Elab.async false
set_option linter.all false
set_option maxRecDepth 100000
set_option maxHeartbeats 4000000
namespace K45
open PySem PySem.Spec PyProof.Rows L2 StX RZ MyR SlX OwnR OwnF EnumT
section
variable {P : Program} {w : World} {K : PySem.W.Frag} {mg : Str → Option Value} {base : Heap}
/-- all that is derived on the way is let -/
structure DdOk (i j : Nat) (l : List Int) : Prop where
  len : i + j + 1 ≤ l.length
  le : l.length ≤ 100
  sx : ∀ u, u ≤ i → ∀ z ∈ it dX u l, sm z
  sy : ∀ u, u ≤ j → ∀ z ∈ it dY u (it dX i l), sm z
def spDerived : Sp := fun vs H Q _ => ∃ (a : Addr) (l : List Int) (i j : Nat), vs = [.ref a, .int i, .int j] ∧ H a = some (tp l) ∧ DdOk i j l ∧ ∀ p H', Same H H' → H' p = some (tp (dd i j l)) → Q (.ref p) H'
theorem ecut_init {l : List Int} (h : 1 ≤ l.length) : HO.tup (cutV (l.map V.int) none (some (-1))) = tp (l.take (l.length - 1)) := by
  rw [cut_init _ (by rw [List.length_map]; exact h), ← List.map_take, List.length_map]
theorem ecut_tail {l : List Int} (h : 1 ≤ l.length) : HO.tup (cutV (l.map V.int) (some 1) none) = tp (l.drop 1) := by
  rw [cut_tail _ (by rw [List.length_map]; exact h), ← List.map_drop]
theorem co_take {l : List Int} {n k : Nat} (h : k < n) : co (l.take n) k = co l k := by
  unfold co
  rw [List.getD_eq_getElem?_getD, List.getD_eq_getElem?_getD, List.getElem?_take_of_lt h]
theorem co_drop1 (l : List Int) (k : Nat) : co (l.drop 1) k = co l (k + 1) := by
  unfold co
  rw [List.getD_eq_getElem?_getD, List.getD_eq_getElem?_getD, List.getElem?_drop, Nat.add_comm]
theorem Pr2.rw {X : List Int} (h : Pr2 X) : Rw X := ⟨fun z => (by have := h.len; rw [z] at this; cases this), (by rw [h.len]; decide), fun x hx => Nat.lt_trans (h.sho x hx) (by decide)⟩
end
end K45

set_option Elab.async false
set_option linter.all false
set_option maxRecDepth 100000
set_option maxHeartbeats 4000000
namespace K45
open PySem PySem.Spec PyProof.Rows L2 StX RZ MyR SlX OwnR OwnF EnumT
/-! ### how large changed and derived forms are -/
theorem bd_zs' {l m : List Int} {n b c : Nat} (e : Int) (h : Bd l n b) (g : Bd m n c) : Bd (zs e l m) n (b + e.natAbs * c) := by
  have hz : zs e l m = zs 1 l (m.map (e * ·)) := by
    refine co_inj (by rw [zs_len (by rw [h.len, g.len]), zs_len (by rw [List.length_map, h.len, g.len])]) fun k => ?_
    rw [co_zs' e (by rw [h.len, g.len]), co_zs' 1 (by rw [List.length_map, h.len, g.len]), co_map, Int.one_mul]
  rw [hz]
  exact bd_zs h (bd_scale g (Nat.le_refl _))
theorem nm_cons (x : Int) (xs : List Int) : nm (x :: xs) = x.natAbs + nm xs := rfl
theorem chg_bd {X Y : List Int} {b : Nat} (hX : Bd X 1 b) (hY : Bd Y 1 b) : ∀ (r f p : List Int) (k S : Nat), Bd f k (S * b ^ k) → Bd p k (b ^ k) → Bd (chg X Y r f p) (k + r.length) ((S + nm r) * b ^ (k + r.length))
  | [], f, p, k, S, hf, hp => hf
  | e :: r, f, p, k, S, hf, hp => by
    have h1 := bd_ml hf hX
    have h2 := bd_ml hp hY
    have h3 := bd_zs' e h1 h2
    have h4 : Bd (zs e (ml f X) (ml p Y)) (k + 1) ((S + e.natAbs) * b ^ (k + 1)) := by
      refine h3.mono (Nat.le_of_eq ?_)
      rw [Nat.add_mul, Nat.pow_succ, Nat.mul_assoc]
    have h5 := chg_bd hX hY r _ _ (k + 1) (S + e.natAbs) h4 (by rw [Nat.pow_succ]; exact h2)
    rw [List.length_cons, nm_cons, show k + (r.length + 1) = k + 1 + r.length by omega, show S + (e.natAbs + nm r) = S + e.natAbs + nm r by omega]
    exact h5
theorem changed_bd {X Y l : List Int} {n b B : Nat} (hX : Bd X 1 b) (hY : Bd Y 1 b) (hl : Bd l n B) : Bd (changed X Y l) n (B * b ^ n) := by
  match l, hl with
  | a :: r, hl =>
    have hr : r.length = n := by have := hl.len; rw [List.length_cons] at this; omega
    have h0 : Bd [a] 0 (a.natAbs * b ^ 0) := ⟨rfl, by show a.natAbs + 0 ≤ _; rw [Nat.pow_zero]; omega⟩
    have := chg_bd hX hY r [a] [1] 0 a.natAbs h0 bd_one
    rw [Nat.zero_add, hr] at this
    exact this.mono (Nat.mul_le_mul (by have := hl.nm; rw [nm_cons] at this; exact this) (Nat.le_refl _))
theorem sN_le_mul {f g : Nat → Int} {c : Nat} : ∀ n, (∀ k, k < n → (f k).natAbs ≤ c * (g k).natAbs) → sN n f ≤ c * sN n g
  | 0, _ => Nat.zero_le _
  | n + 1, h => by
    show sN n f + (f n).natAbs ≤ c * (sN n g + (g n).natAbs)
    have h1 := sN_le_mul n fun k hk => h k (by omega)
    have h2 := h n (by omega)
    rw [Nat.mul_add]
    omega
theorem nm_drop1 (l : List Int) : nm (l.drop 1) ≤ nm l := by
  cases l with
  | nil => exact Nat.le_refl _
  | cons x xs => exact Nat.le_add_left _ _
theorem nm_dX (l : List Int) : nm (dX l) ≤ l.length * nm l := by
  unfold dX
  rw [nm_tb]
  refine Nat.le_trans (sN_le_mul (g := co l) (c := l.length) _ fun k hk => ?_) (Nat.mul_le_mul (Nat.le_refl _) (sN_co l _))
  rw [Int.natAbs_mul, Nat.mul_comm]
  exact Nat.mul_le_mul (by omega) (Nat.le_refl _)
theorem nm_dY (l : List Int) : nm (dY l) ≤ l.length * nm l := by
  unfold dY
  rw [nm_tb]
  refine Nat.le_trans (sN_le_mul (g := co (l.drop 1)) (c := l.length) _ fun k hk => ?_) (Nat.mul_le_mul (Nat.le_refl _) (Nat.le_trans (sN_co (l.drop 1) _) (nm_drop1 l)))
  rw [Int.natAbs_mul, Nat.mul_comm, co_drop1]
  exact Nat.mul_le_mul (by omega) (Nat.le_refl _)
theorem nm_dX_it (l : List Int) : ∀ u, nm (it dX u l) ≤ l.length ^ u * nm l
  | 0 => by rw [Nat.pow_zero, Nat.one_mul]; exact Nat.le_refl _
  | u + 1 => by
    have h1 := nm_dX (it dX u l)
    have h2 := nm_dX_it l u
    rw [dX_it_len] at h1
    show nm (dX (it dX u l)) ≤ _
    rw [Nat.pow_succ, Nat.mul_comm (l.length ^ u), Nat.mul_assoc]
    exact Nat.le_trans h1 (Nat.mul_le_mul (by omega) h2)
theorem nm_dY_it (l : List Int) : ∀ u, nm (it dY u l) ≤ l.length ^ u * nm l
  | 0 => by rw [Nat.pow_zero, Nat.one_mul]; exact Nat.le_refl _
  | u + 1 => by
    have h1 := nm_dY (it dY u l)
    have h2 := nm_dY_it l u
    rw [dY_it_len] at h1
    show nm (dY (it dY u l)) ≤ _
    rw [Nat.pow_succ, Nat.mul_comm (l.length ^ u), Nat.mul_assoc]
    exact Nat.le_trans h1 (Nat.mul_le_mul (by omega) h2)
theorem nm_dd (i j : Nat) (l : List Int) (h : 1 ≤ l.length) : nm (dd i j l) ≤ l.length ^ (i + j) * nm l := by
  unfold dd
  refine Nat.le_trans (nm_dY_it (it dX i l) j) ?_
  rw [dX_it_len]
  refine Nat.le_trans (Nat.mul_le_mul (Nat.pow_le_pow_left (show l.length - i ≤ l.length by omega) j) (nm_dX_it l i)) (Nat.le_of_eq ?_)
  rw [Nat.pow_add, ← Nat.mul_assoc, Nat.mul_comm (l.length ^ j)]
end K45

set_option Elab.async false
set_option linter.all false
set_option maxRecDepth 100000
set_option maxHeartbeats 4000000
namespace K45
open PySem PySem.Spec PyProof.Rows L2 StX RZ MyR SlX OwnR OwnF EnumT
section
variable {P : Program} {w : World} {K : PySem.W.Frag} {mg : Str → Option Value} {base : Heap}
def spByX : Sp := fun vs H Q _ => ∃ (a : Addr) (m : List Int), vs = [.ref a] ∧ H a = some (tp m) ∧ 1 ≤ m.length ∧ m.length ≤ 100 ∧ (∀ z ∈ m, sm z) ∧ ∀ p H', Same H H' → H' p = some (tp (dX m)) → Q (.ref p) H'
theorem ok_law_by_x (T : Facts K mg) : FnOk P w K mg base CX0 1 T.f_law_by_x T.fd_law_by_x ["_law_form_here"] spByX := by
  refine T.F_law_by_x.ok sc_law_by_x (fun vs H Q E h => ?_) (fun cdv A outer s H vs Q E hr h => ?_)
  · obtain ⟨a, m, rfl, _⟩ := h
    rfl
  · obtain ⟨a, m, rfl, ha, h1, h2, sm1, q⟩ := h
    refine ⟨_, (PSs.nox (pss_one (ps_ret (pe_tupleOf (by rfl) T.z_tuple (pe_lc (own := [("_law_at", 1), ("_law_entry", 2)]) (g := (gTup K 2 (gCons (gName 1) (gCons (gName 2) gNil)))) (tt := tYes) (by rfl) sc_law_by_x.nd (pi_enumT (by rfl) T.z_enumerate (pa_cons (pe_slice sl_tupA (pv 0) po_none (po_some (pe_un un_neg pe_int))) pa_nil)) (blkOk_by (N := N_law_by_x) (sc := defScope s_law_by_x) (by decide +kernel)) (fun _ _ _ _ _ => (pg_tup (by rfl) (pgs_cons (pg_name (i := 1) sc_law_by_x.nd rfl (.inl rfl)) (pgs_cons (pg_name (i := 2) sc_law_by_x.nd rfl (.inl rfl)) pgs_nil)))) (fun _ _ _ _ _ => pts_nil) (fun _ _ _ _ _ => (pe_op op_mulW (pv 2) (pe_op op_sub (pe_op op_sub (pe_callB (call_len_seq : CallR _ _ (Evl.rLenS K)) (by rfl) T.z_len (by decide +kernel) (pa_cons (pv 0) pa_nil)) pe_int) (pv 1))))))))), ?_⟩
    refine ⟨_, rfl, _, rfl, _, rfl, a, _, rfl, SqT.of ha, fun z => absurd z.2 (by rw [List.length_map, sIx_neg (by omega)]; omega), fun _ p np => ?_⟩
    rw [ecut_init (by omega)]
    refine gen_upd H p _ np fun H2 s2 f2 => ⟨p, _, rfl, SqT.of f2, fun D hD => lc_enumT (xs := (m.take (m.length - 1)).map V.int) (fun k H' => Same H2 H' ∧ H' D = some (.lst (tab k fun k => co m k * ((m.length : Int) - 1 - k)))) ⟨same_upd0 hD, upd_same⟩ (fun k H' _ hP => SqT.of (hP.1 _ _ f2)) (fun k x B H' hx hP hB => ?_) (fun H3 hP => ?_)⟩
    · obtain ⟨sH, hL⟩ := hP
      obtain ⟨hk, rfl⟩ := int_get hx
      rw [List.length_take] at hk
      rw [co_take (by omega)]
      refine gen_upd H' B _ hB fun H4 s4 f4 => ⟨B, _, rfl, SqT.of f4, rfl, _, _, rfl, _, _, rfl, rfl, rfl, ?_⟩
      have hfB := (s2.trans (sH.trans s4)) _ _ ha
      refine ⟨_, rfl, _, rfl, a, _, rfl, .inr (SqT.of hfB), ?_⟩
      rw [List.length_map]
      refine ⟨_, _, rfl, rfl, _, rfl, _, _, rfl, rfl, _, _, rfl, rfl, sm_mul (sm_co sm1 (by omega)) (Nat.lt_of_le_of_lt (show ((m.length : Int) - 1 - (k : Int)).natAbs ≤ 100 by omega) (Nat.lt_of_lt_of_le (show 100 < 2 ^ 7 by decide) (Nat.pow_le_pow_right (by decide) (by decide)))), _, s4 _ _ hL, ?_, fun b o e => ?_, ?_⟩
      · rw [tab_len]
        exact small1000 (by omega)
      · rw [upd_ne (ne_of_none e hD)]
        exact s4 _ _ (sH _ _ e)
      · rw [upd_same, ← tab_snoc]
    · obtain ⟨sH, hL⟩ := hP
      rw [List.length_map, List.length_take, Nat.min_eq_left (by omega), tab_tb] at hL
      exact .inl ⟨D, _, rfl, SqL.of hL, fun p5 n5 => q p5 _ (s2.trans (sH.trans (same_upd0 n5))) upd_same⟩
def spByY : Sp := fun vs H Q _ => ∃ (a : Addr) (m : List Int), vs = [.ref a] ∧ H a = some (tp m) ∧ 1 ≤ m.length ∧ m.length ≤ 100 ∧ (∀ z ∈ m, sm z) ∧ ∀ p H', Same H H' → H' p = some (tp (dY m)) → Q (.ref p) H'
theorem ok_law_by_y (T : Facts K mg) : FnOk P w K mg base CX0 1 T.f_law_by_y T.fd_law_by_y ["_law_form_here"] spByY := by
  refine T.F_law_by_y.ok sc_law_by_y (fun vs H Q E h => ?_) (fun cdv A outer s H vs Q E hr h => ?_)
  · obtain ⟨a, m, rfl, _⟩ := h
    rfl
  · obtain ⟨a, m, rfl, ha, h1, h2, sm1, q⟩ := h
    refine ⟨_, (PSs.nox (pss_one (ps_ret (pe_tupleOf (by rfl) T.z_tuple (pe_lc (own := [("_law_at", 1), ("_law_entry", 2)]) (g := (gTup K 2 (gCons (gName 1) (gCons (gName 2) gNil)))) (tt := tYes) (by rfl) sc_law_by_y.nd (pi_enumT (by rfl) T.z_enumerate (pa_cons (pe_slice sl_tupA (pv 0) (po_some pe_int) po_none) pa_nil)) (blkOk_by (N := N_law_by_y) (sc := defScope s_law_by_y) (by decide +kernel)) (fun _ _ _ _ _ => (pg_tup (by rfl) (pgs_cons (pg_name (i := 1) sc_law_by_y.nd rfl (.inl rfl)) (pgs_cons (pg_name (i := 2) sc_law_by_y.nd rfl (.inl rfl)) pgs_nil)))) (fun _ _ _ _ _ => pts_nil) (fun _ _ _ _ _ => (pe_op op_mulW (pv 2) (pe_op op_add (pv 1) pe_int)))))))), ?_⟩
    refine ⟨_, rfl, 1, rfl, a, _, rfl, SqT.of ha, fun z => absurd z.1 (by
      rw [List.length_map]
      unfold HT.sIx
      simp only []
      split <;> omega), fun _ p np => ?_⟩
    rw [ecut_tail (by omega)]
    refine gen_upd H p _ np fun H2 s2 f2 => ⟨p, _, rfl, SqT.of f2, fun D hD => lc_enumT (xs := (m.drop 1).map V.int) (fun k H' => Same H2 H' ∧ H' D = some (.lst (tab k fun k => co m (k + 1) * ((k : Int) + 1)))) ⟨same_upd0 hD, upd_same⟩ (fun k H' _ hP => SqT.of (hP.1 _ _ f2)) (fun k x B H' hx hP hB => ?_) (fun H3 hP => ?_)⟩
    · obtain ⟨sH, hL⟩ := hP
      obtain ⟨hk, rfl⟩ := int_get hx
      rw [List.length_drop] at hk
      rw [co_drop1]
      refine gen_upd H' B _ hB fun H4 s4 f4 => ⟨B, _, rfl, SqT.of f4, rfl, _, _, rfl, _, _, rfl, rfl, rfl, ?_⟩
      refine ⟨_, rfl, _, rfl, _, _, rfl, rfl, _, _, rfl, rfl, sm_mul (sm_co sm1 (by omega)) (Nat.lt_of_le_of_lt (show ((k : Int) + 1).natAbs ≤ 100 by omega) (Nat.lt_of_lt_of_le (show 100 < 2 ^ 7 by decide) (Nat.pow_le_pow_right (by decide) (by decide)))), _, s4 _ _ hL, ?_, fun b o e => ?_, ?_⟩
      · rw [tab_len]
        exact small1000 (by omega)
      · rw [upd_ne (ne_of_none e hD)]
        exact s4 _ _ (sH _ _ e)
      · rw [upd_same, ← tab_snoc]
    · obtain ⟨sH, hL⟩ := hP
      rw [List.length_map, List.length_drop, tab_tb] at hL
      exact .inl ⟨D, _, rfl, SqL.of hL, fun p5 n5 => q p5 _ (s2.trans (sH.trans (same_upd0 n5))) upd_same⟩
theorem ok_law_derived (T : Facts K mg) : FnOk P w K mg base CX0 2 T.f_law_derived T.fd_law_derived ["_law_form_here", "_law_one", "_law_other"] spDerived := by
  have G_law_by_x := ok_law_by_x (P := P) (w := w) (base := base) T
  have G_law_by_y := ok_law_by_y (P := P) (w := w) (base := base) T
  refine T.F_law_derived.ok sc_law_derived (fun vs H Q E h => ?_) (fun cdv A outer s H vs Q E hr h => ?_)
  · obtain ⟨a, l, i, j, rfl, _⟩ := h
    rfl
  · obtain ⟨a, l, i, j, rfl, ha, ok, q⟩ := h
    have hlen := ok.len
    have hle := ok.le
    refine ⟨_, (PSs.nox (pss_cons (ps_for PassesOwn.never (by rfl) (pi_range1 (by rfl) T.z_range (pa_cons (pv 1) pa_nil)) (pg_name (i := 3) sc_law_derived.nd rfl (.inl rfl))
      (pss_one (ps_set (i := 0) sc_law_derived.nd rfl (.inl rfl) (pe_call G_law_by_x hr (by rfl) T.g_law_by_x T.F_law_by_x.kp T.b_law_by_x .nil pass0 (pa_cons (pv 0) pa_nil)))))
    (pss_cons (ps_for PassesOwn.never (by rfl) (pi_range1 (by rfl) T.z_range (pa_cons (pv 2) pa_nil)) (pg_name (i := 3) sc_law_derived.nd rfl (.inl rfl))
      (pss_one (ps_set (i := 0) sc_law_derived.nd rfl (.inl rfl) (pe_call G_law_by_y hr (by rfl) T.g_law_by_y T.F_law_by_y.kp T.b_law_by_y .nil pass0 (pa_cons (pv 0) pa_nil)))))
    (pss_one (ps_ret (pv 0)))))), ?_⟩
    refine ⟨_, rfl, i, rfl, by omega, by omega, for_range (n := (i : Int).toNat) (fun u σ H' => ∃ fa y3, σ = [some (.ref fa), some (.int i), some (.int j), y3] ∧ Same H H' ∧ H' fa = some (tp (it dX u l))) ⟨a, none, rfl, Same.rf H, ha⟩ (fun u σ H1 hu hP => ?_) (fun σ H1 hP => ?_)⟩
    · obtain ⟨fa, y3, rfl, s1, hf⟩ := hP
      have lu := dX_it_len l u
      exact ⟨_, rfl, fa, _, rfl, hf, by omega, by omega, ok.sx u (by omega), fun p H2 s2 hp => ⟨p, _, rfl, s1.trans s2, hp⟩⟩
    · obtain ⟨fa, y3, rfl, s1, hf⟩ := hP
      rw [Int.toNat_natCast] at hf
      have lu0 := dX_it_len l i
      refine ⟨_, rfl, j, rfl, by omega, by omega, for_range (n := (j : Int).toNat) (fun u σ H' => ∃ fa y3, σ = [some (.ref fa), some (.int i), some (.int j), y3] ∧ Same H H' ∧ H' fa = some (tp (it dY u (it dX i l)))) ⟨fa, y3, rfl, s1, hf⟩ (fun u σ H1 hu hP => ?_) (fun σ H1 hP => ?_)⟩
      · obtain ⟨fa, y3, rfl, s1, hf⟩ := hP
        have lu := dY_it_len (it dX i l) u
        exact ⟨_, rfl, fa, _, rfl, hf, by omega, by omega, ok.sy u (by omega), fun p H2 s2 hp => ⟨p, _, rfl, s1.trans s2, hp⟩⟩
      · obtain ⟨fa, y3, rfl, s1, hf⟩ := hP
        rw [Int.toNat_natCast] at hf
        exact ⟨_, rfl, q fa H1 s1 hf⟩
/-- all that the law makes on its way is let -/
structure LchOk (X Y l : List Int) : Prop where
  ne : l ≠ []
  len : l.length ≤ 90
  lX : X.length = 2
  lY : Y.length = 2
  pX : ∀ i, i ≤ l.length → Rw (pow X i)
  pY : ∀ i, i ≤ l.length → Rw (pow Y i)
  pm : ∀ i, i < l.length → Rw (ml (pow X (l.length - 1 - i)) (pow Y i))
  sl : ∀ z ∈ l, sm z
def spLChanged : Sp := fun vs H Q _ => ∃ (a t : Addr) (l X Y : List Int), vs = [.ref a, .ref t] ∧ H a = some (tp l) ∧ Tb H t X Y ∧ LchOk X Y l ∧ ∀ p H', Same H H' → H' p = some (tp (changed X Y l)) → Q (.ref p) H'
theorem tab_repl (n : Nat) : tab n (fun _ => 0) = (List.replicate n (0 : Int)).map V.int := by
  rw [tab_tb]
  congr 1
  refine co_inj (by rw [tb_len, List.length_replicate]) fun k => ?_
  rw [co_tb]
  by_cases h : k < n
  · rw [if_pos h, co_get (by rw [List.length_replicate]; exact h), List.getElem_replicate]
  · rw [if_neg h, co_far (by rw [List.length_replicate]; omega)]
theorem ok_law_changed (T : Facts K mg) : FnOk P w K mg base CX0 3 T.f_law_changed T.fd_law_changed ["_law_form_here", "_law_table_here"] spLChanged := by
  have G_law_product := ok_law_product (P := P) (w := w) (base := base) T
  have G_law_power := ok_law_power (P := P) (w := w) (base := base) T
  have G_law_plus := ok_law_plus (P := P) (w := w) (base := base) T
  have G_law_scaled := ok_law_scaled (P := P) (w := w) (base := base) T
  refine T.F_law_changed.ok sc_law_changed (fun vs H Q E h => ?_) (fun cdv A outer s H vs Q E hr h => ?_)
  · obtain ⟨a, t, l, X, Y, rfl, _⟩ := h
    rfl
  · obtain ⟨a, t, l, X, Y, rfl, ha, ht, ok, q⟩ := h
    obtain ⟨r0, r1, h1, h2, h3⟩ := ht
    have hlen := ok.len
    have rX : Rw X := by have := ok.pX 1 (List.length_pos_iff.mpr ok.ne); rwa [show pow X 1 = X from by show ml [1] X = X; rw [ml_comm, ml_one]] at this
    have rY : Rw Y := by have := ok.pY 1 (List.length_pos_iff.mpr ok.ne); rwa [show pow Y 1 = Y from by show ml [1] Y = Y; rw [ml_comm, ml_one]] at this
    refine ⟨_, (PSs.nox (pss_cons (ps_set (i := 2) sc_law_changed.nd rfl (.inl rfl) (pe_tupleOf (by rfl) T.z_tuple (pe_lc (own := [("_law_entry", 3)]) (g := (gName 3)) (tt := tYes) (by rfl) sc_law_changed.nd (pi_tup (pv 0)) (blkOk_by (N := N_law_changed) (sc := defScope s_law_changed) (by decide +kernel)) (fun _ _ _ _ _ => (pg_name (i := 3) sc_law_changed.nd rfl (.inl rfl))) (fun _ _ _ _ _ => pts_nil) (fun _ _ _ _ _ => pe_int))))
    (pss_cons (ps_for PassesOwn.never (by rfl) (pi_enumT (by rfl) T.z_enumerate (pa_cons (pv 0) pa_nil)) (pg_tup (by rfl) (pgs_cons (pg_name (i := 4) sc_law_changed.nd rfl (.inl rfl)) (pgs_cons (pg_name (i := 3) sc_law_changed.nd rfl (.inl rfl)) pgs_nil)))
      (pss_cons (ps_set (i := 5) sc_law_changed.nd rfl (.inl rfl) (pe_call G_law_product (hr.mono (by decide)) (by rfl) T.g_law_product T.F_law_product.kp T.b_law_product .nil pass0 (pa_cons (pe_call G_law_power hr (by rfl) T.g_law_power T.F_law_power.kp T.b_law_power .nil pass0 (pa_cons (pe_ix ix_tup (pv 1) pe_int (fun _ _ => rfl)) (pa_cons (pe_op op_sub (pe_op op_sub (pe_callB call_len_seq (by rfl) T.z_len (by decide +kernel) (pa_cons (pv 0) pa_nil)) pe_int) (pv 4)) pa_nil))) (pa_cons (pe_call G_law_power hr (by rfl) T.g_law_power T.F_law_power.kp T.b_law_power .nil pass0 (pa_cons (pe_ix ix_tup (pv 1) pe_int (fun _ _ => rfl)) (pa_cons (pv 4) pa_nil))) pa_nil))))
      (pss_one (ps_set (i := 2) sc_law_changed.nd rfl (.inl rfl) (pe_call G_law_plus (hr.mono (by decide)) (by rfl) T.g_law_plus T.F_law_plus.kp T.b_law_plus .nil pass0 (pa_cons (pv 2) (pa_cons (pe_call G_law_scaled (hr.mono (by decide)) (by rfl) T.g_law_scaled T.F_law_scaled.kp T.b_law_scaled .nil pass0 (pa_cons (pv 5) (pa_cons (pv 3) pa_nil))) pa_nil)))))))
    (pss_one (ps_ret (pv 2)))))), ?_⟩
    refine ⟨_, rfl, a, rfl, ⟨_, SqT.of ha⟩, fun D hD => lc_tup (xs := l.map V.int) (fun j H' => H' = upd H D (.lst (tab j fun _ => 0))) rfl (fun j H' _ hP => by rw [hP]; exact SqT.of (same_upd0 hD _ _ ha)) (fun j x H' hx hP => ?_) (fun H' hP => ?_)⟩
    · subst hP
      obtain ⟨hj, rfl⟩ := int_get hx
      refine ⟨rfl, _, upd_same, by rw [tab_len]; exact small1000 (by omega), ?_⟩
      rw [upd_upd, ← tab_snoc]
    · subst hP
      rw [List.length_map, tab_repl]
      refine .inl ⟨D, _, rfl, SqL.of upd_same, fun p0 n0 => ?_⟩
      have sD := same_upd0 (o := .lst ((List.replicate l.length (0 : Int)).map V.int)) hD
      refine gen_upd _ p0 (tp (List.replicate l.length 0)) n0 fun H1 s1 f1 => ?_
      have s01 := sD.trans s1
      refine ⟨_, rfl, a, _, rfl, SqT.of (s01 _ _ ha), for_enumT (xs := l.map V.int) (fun i σ H' => ∃ fa y3 y4 y5, σ = [some (.ref a), some (.ref t), some (.ref fa), y3, y4, y5] ∧ Same H H' ∧ H' fa = some (tp (chL X Y l i))) ⟨p0, none, none, none, rfl, s01, f1⟩ (fun i σ H' hP => ?_) (fun i x B σ H' hx hP hB => ?_) (fun σ H' hP => ?_)⟩
      · obtain ⟨fa, y3, y4, y5, _, sH, _⟩ := hP
        exact SqT.of (sH _ _ ha)
      · obtain ⟨fa, y3, y4, y5, rfl, sH, hf⟩ := hP
        obtain ⟨hi, rfl⟩ := int_get hx
        refine gen_upd H' B _ hB fun H2 s2 f2 => ⟨B, _, rfl, SqT.of f2, rfl, _, _, rfl, _, _, rfl, rfl, ?_⟩
        have t2 := sH.trans s2
        refine ⟨_, rfl, t, _, 0, _, rfl, rfl, SqT.of (t2 _ _ h1), atI_nat (j := 0) rfl, _, rfl, a, _, rfl, .inr (SqT.of (t2 _ _ ha)), ?_⟩
        rw [List.length_map]
        refine ⟨_, _, rfl, rfl, _, rfl, _, _, rfl, rfl, r0, X, l.length - 1 - i, ?_, t2 _ _ h2, rX.ne, rX.len, rX.sm, fun k hk => ?_, by omega, fun p3 H3 s3 f3 => ?_⟩
        · show [V.ref r0, V.int ((l.length : Int) - 1 - (i : Int))] = [V.ref r0, V.int ((l.length - 1 - i : Nat) : Int)]
          rw [show (l.length : Int) - 1 - (i : Int) = ((l.length - 1 - i : Nat) : Int) by omega]
        · have r := ok.pX k (by omega)
          exact ⟨r.ne, r.len, r.sm⟩
        have t3 := t2.trans s3
        refine ⟨_, rfl, t, _, 1, _, rfl, rfl, SqT.of (t3 _ _ h1), atI_nat (j := 1) rfl, _, rfl, r1, Y, i, rfl, t3 _ _ h3, rY.ne, rY.len, rY.sm, fun k hk => ?_, by omega, fun p4 H4 s4 f4 => ?_⟩
        · have r := ok.pY k (by omega)
          exact ⟨r.ne, r.len, r.sm⟩
        have f3' := s4 _ _ f3
        have qX := ok.pX (l.length - 1 - i) (by omega)
        have qY := ok.pY i (by omega)
        have qm := ok.pm i hi
        refine ⟨p3, p4, _, _, rfl, f3', f4, qX.ne, qY.ne, qX.len, qY.len, qX.sm, qY.sm, fun p5 H5 s5 _ f5 => ?_⟩
        have t5 := (s2.trans s3).trans (s4.trans s5)
        refine ⟨_, rfl, _, rfl, _, rfl, p5, _, _, rfl, f5, qm.len, qm.sm, sm_co ok.sl hi, fun p6 H6 s6 _ f6 => ?_⟩
        have lc := chL_len (l := l) ok.lX ok.lY i (by omega)
        have lm : ((ml (pow X (l.length - 1 - i)) (pow Y i)).map (co l i * ·)).length = l.length := by
          rw [List.length_map, ml_len, pow_len ok.lX, pow_len ok.lY]
          omega
        exact ⟨fa, p6, _, _, rfl, (t5.trans s6) _ _ hf, f6, by rw [lc]; exact lm.symm, by rw [lc]; omega, fun p7 H7 s7 _ f7 => ⟨p7, _, _, _, rfl, sH.trans ((t5.trans s6).trans s7), f7⟩⟩
      · obtain ⟨fa, y3, y4, y5, rfl, sH, hf⟩ := hP
        rw [List.length_map, chL_all ok.lX ok.lY ok.ne] at hf
        exact ⟨_, rfl, q fa H' sH hf⟩
end
end K45

set_option Elab.async false
set_option linter.all false
set_option maxRecDepth 100000
set_option maxHeartbeats 4000000
namespace K45
open PySem PySem.Spec PyProof.Rows L2 StX RZ MyR SlX OwnR OwnF EnumT
section
variable {P : Program} {w : World} {K : PySem.W.Frag} {mg : Str → Option Value} {base : Heap}
theorem sm_le {x : Int} {n : Nat} (h : x.natAbs ≤ n) (hn : n < 2 ^ 60) : sm x := Nat.lt_of_le_of_lt h (Nat.lt_of_lt_of_le hn (Nat.pow_le_pow_right (by decide) (by decide)))
def spTable : Sp := fun vs H Q _ => ∃ (d : Addr) (m : Nat), vs = [.ref d, .int m] ∧ Dc H d ∧ 1 ≤ m ∧ m ≤ 1000 ∧ ∀ p H' a b c e, Sx d H H' → Dc H' d → Tb H' p [a, b] [c, e] → a.natAbs ≤ m → b.natAbs ≤ m → c.natAbs ≤ m → e.natAbs ≤ m → a * e - b * c ≠ 0 → Q (.ref p) H'
theorem ok_law_table (T : Facts K mg) : FnOk P w K mg base CX0 3 T.f_law_table T.fd_law_table ["_law_dice_here", "_law_most"] spTable := by
  have G_law_near : FnOk P w K mg base CX0 2 T.f_law_near T.fd_law_near ["_law_dice_here", "_law_most"] spNear := ok_law_near T
  refine T.F_law_table.ok sc_law_table (fun vs H Q E h => ?_) (fun cdv A outer s H vs Q E hr h => ?_)
  · obtain ⟨d, m, rfl, _⟩ := h
    rfl
  · obtain ⟨d, m, rfl, hd, h1, h2, q⟩ := h
    have e15 : (10 : Int) ^ 15 = 1000000000000000 := by decide
    have z2 : 2 ≤ sizeLine := by decide
    refine ⟨_, (PSs.nox (pss_cons (ps_set (i := 2) sc_law_table.nd rfl (.inl rfl) (pe_tupleOf (by rfl) T.z_tuple (pe_lc (own := [("_law_row", 3)]) (g := (gName 3)) (tt := tYes) (by rfl) sc_law_table.nd (pi_range1 (by rfl) T.z_range (pa_cons pe_int pa_nil)) (blkOk_by (N := N_law_table) (sc := defScope s_law_table) (by decide +kernel)) (fun _ _ _ _ _ => (pg_name (i := 3) sc_law_table.nd rfl (.inl rfl))) (fun _ _ _ _ _ => pts_nil) (fun _ _ _ _ _ => (pe_tup (pa_cons (pe_call G_law_near hr (by rfl) T.g_law_near T.F_law_near.kp T.b_law_near .nil pass0 (pa_cons (pv 0) (pa_cons (pv 1) pa_nil))) (pa_cons (pe_call G_law_near hr (by rfl) T.g_law_near T.F_law_near.kp T.b_law_near .nil pass0 (pa_cons (pv 0) (pa_cons (pv 1) pa_nil))) pa_nil)))))))
    (pss_one (ps_ret (pe_ifExp (pt_cmpR op_ne (pe_op op_mulW (pe_ix ix_tup (pe_ix ix_tup (pv 2) pe_int (fun _ _ => rfl)) pe_int (fun _ _ => rfl)) (pe_ix ix_tup (pe_ix ix_tup (pv 2) pe_int (fun _ _ => rfl)) pe_int (fun _ _ => rfl))) (pe_op op_mulW (pe_ix ix_tup (pe_ix ix_tup (pv 2) pe_int (fun _ _ => rfl)) pe_int (fun _ _ => rfl)) (pe_ix ix_tup (pe_ix ix_tup (pv 2) pe_int (fun _ _ => rfl)) pe_int (fun _ _ => rfl))) (nomark _)) (pv 2) (pe_tup (pa_cons (pe_tup (pa_cons pe_int (pa_cons pe_int pa_nil))) (pa_cons (pe_tup (pa_cons pe_int (pa_cons pe_int pa_nil))) pa_nil)))))))), ?_⟩
    refine ⟨2, rfl, by decide, by decide, fun D hD => lc_range (n := (2 : Int).toNat) (fun j H' => Sx d H H' ∧ Dc H' d ∧ ∃ (rs : List Addr) (ls : List (List Int)), H' D = some (.lst (rs.map V.ref)) ∧ rs.length = j ∧ ls.length = j ∧ (∀ i (h : i < ls.length) (h' : i < rs.length), H' rs[i] = some (tp ls[i])) ∧ ∀ l ∈ ls, l.length = 2 ∧ ∀ x ∈ l, x.natAbs ≤ m) ⟨Sx.of (same_upd0 hD), hd.same (same_upd0 hD), [], [], upd_same, rfl, rfl, fun i h _ => absurd h (Nat.not_lt_zero i), fun l h => (nomatch h)⟩ (fun j H' hj hP => ?_) (fun H' hP => ?_)⟩
    · obtain ⟨sH, dH, rs, ls, hL, hl1, hl2, hr, hb⟩ := hP
      have nD : D ≠ d := hd.ne hD
      refine ⟨rfl, _, rfl, _, rfl, d, m, rfl, dH, by omega, by rw [e15]; omega, fun u H2 u1 u2 s2 d2 => ⟨_, rfl, _, rfl, d, m, rfl, d2, by omega, by rw [e15]; omega, fun v H3 v1 v2 s3 d3 => ⟨z2, fun p2 n2 => gen_upd H3 p2 (tp [u, v]) n2 fun H4 s4 f4 => ?_⟩⟩⟩
      have hL4 := s4 _ _ (s3 D _ nD (s2 D _ nD hL))
      have dD : ∀ a l, H4 a = some (tp l) → a ≠ D := fun a l e z => by
        rw [z, hL4] at e
        cases e
      have d4 := d3.same s4
      have hj2 : j < 2 := hj
      refine ⟨_, hL4, by rw [List.length_map, hl1]; exact small1000 (by omega), fun b o hb2 e => ?_, ?_, rs ++ [p2], ls ++ [[u, v]], by rw [upd_same, List.map_append]; rfl, by rw [List.length_append, hl1]; rfl, by rw [List.length_append, hl2]; rfl, fun i h h' => ?_, fun l hl => ?_⟩
      · rw [upd_ne (ne_of_none e hD)]
        exact s4 _ _ (s3 b o hb2 (s2 b o hb2 (sH b o hb2 e)))
      · obtain ⟨x, y, z, e⟩ := d4
        exact ⟨x, y, z, by rw [upd_ne (Ne.symm nD)]; exact e⟩
      · by_cases c : i < ls.length
        · have e1 : (rs ++ [p2])[i] = rs[i]'(by omega) := List.getElem_append_left _
          have e2 : (ls ++ [[u, v]])[i] = ls[i] := List.getElem_append_left _
          rw [e1, e2]
          have e3 := s3 _ _ (dc_ne d2 (s2 _ _ (dc_ne dH (hr i c (by omega))) (hr i c (by omega)))) (s2 _ _ (dc_ne dH (hr i c (by omega))) (hr i c (by omega)))
          rw [upd_ne (dD _ _ (s4 _ _ e3))]
          exact s4 _ _ e3
        · have ei : i = ls.length := by rw [List.length_append] at h; simp at h; omega
          subst ei
          have e1 : (rs ++ [p2])[ls.length] = p2 := by rw [List.getElem_append_right (by omega)]; simp [hl1, hl2]
          have e2 : (ls ++ [[u, v]])[ls.length] = [u, v] := by rw [List.getElem_append_right (by omega)]; simp
          rw [e1, e2, upd_ne (dD _ _ f4)]
          exact f4
      · rcases List.mem_append.mp hl with e | e
        · exact hb l e
        · rw [List.mem_singleton.mp e]
          refine ⟨rfl, fun x hx => ?_⟩
          simp only [List.mem_cons, List.not_mem_nil, or_false] at hx
          rcases hx with e | e <;> rw [e] <;> omega
    · obtain ⟨sH, dH, rs, ls, hL, hl1, hl2, hr, hb⟩ := hP
      match rs, hl1, ls, hl2, hL, hr, hb with
      | [r0, r1], _, [l0, l1], _, hL, hr, hb =>
        have k0 : H' r0 = some (tp l0) := hr 0 (by simp) (by simp)
        have k1 : H' r1 = some (tp l1) := hr 1 (by simp) (by simp)
        obtain ⟨b0, c0⟩ := hb l0 (by simp)
        obtain ⟨b1, c1⟩ := hb l1 (by simp)
        match l0, b0, l1, b1, k0, k1, c0, c1 with
        | [a, b], _, [c, e], _, k0, k1, c0, c1 =>
          have ba := c0 a (by simp)
          have bb := c0 b (by simp)
          have bc := c1 c (by simp)
          have be := c1 e (by simp)
          refine .inl ⟨D, _, rfl, SqL.of hL, fun p np => ?_⟩
          refine gen_upd H' p (.tup [.ref r0, .ref r1]) np fun H2 s2 f2 => ?_
          have k0' := s2 _ _ k0
          have k1' := s2 _ _ k1
          have sa := sm_le (n := 1000) (show a.natAbs ≤ 1000 by omega) (by decide)
          have sb := sm_le (n := 1000) (show b.natAbs ≤ 1000 by omega) (by decide)
          have sc := sm_le (n := 1000) (show c.natAbs ≤ 1000 by omega) (by decide)
          have se := sm_le (n := 1000) (show e.natAbs ≤ 1000 by omega) (by decide)
          refine ⟨_, rfl, p, _, 0, _, rfl, rfl, SqT.of f2, atI_nat (j := 0) rfl, r0, _, 0, _, rfl, rfl, SqT.of k0', atI_nat (j := 0) rfl, _, rfl, p, _, 1, _, rfl, rfl, SqT.of f2, atI_nat (j := 1) rfl, r1, _, 1, _, rfl, rfl, SqT.of k1', atI_nat (j := 1) rfl, _, _, rfl, rfl, sm_mul sa se, ?_⟩
          refine ⟨_, rfl, p, _, 0, _, rfl, rfl, SqT.of f2, atI_nat (j := 0) rfl, r0, _, 1, _, rfl, rfl, SqT.of k0', atI_nat (j := 1) rfl, _, rfl, p, _, 1, _, rfl, rfl, SqT.of f2, atI_nat (j := 1) rfl, r1, _, 0, _, rfl, rfl, SqT.of k1', atI_nat (j := 0) rfl, _, _, rfl, rfl, sm_mul sb sc, rfl, _, rfl, ?_⟩
          by_cases z : a * e = b * c
          · rw [decide_eq_true (show V.int (a * e) = V.int (b * c) by rw [z])]
            refine iteF ⟨z2, fun q0 m0 => gen_upd H2 q0 (tp [1, 1]) m0 fun H3 s3 f3 => ⟨z2, fun q1 m1 => gen_upd H3 q1 (tp [0, 1]) m1 fun H4 s4 f4 => ⟨z2, fun q2 m2 => gen_upd H4 q2 (.tup [.ref q0, .ref q1]) m2 fun H5 s5 f5 => ?_⟩⟩⟩
            have s25 := (s3.trans s4).trans s5
            exact q q2 H5 1 1 0 1 (sH.trans (Sx.of (s2.trans s25))) (dH.same (s2.trans s25)) ⟨q0, q1, f5, s5 _ _ (s4 _ _ f3), s5 _ _ f4⟩ (by show 1 ≤ m; omega) (by show 1 ≤ m; omega) (by show 0 ≤ m; omega) (by show 1 ≤ m; omega) (by decide)
          · rw [decide_eq_false fun y => z (V.int.inj y)]
            refine iteT ⟨_, rfl, q p H2 a b c e (sH.trans (Sx.of s2)) (dH.same s2) ⟨r0, r1, f2, k0', k1'⟩ ba bb bc be (by omega)⟩
def spDet : Sp := fun vs H Q _ => ∃ (t : Addr) (a b c e : Int), vs = [.ref t] ∧ Tb H t [a, b] [c, e] ∧ a.natAbs ≤ 1000000 ∧ b.natAbs ≤ 1000000 ∧ c.natAbs ≤ 1000000 ∧ e.natAbs ≤ 1000000 ∧ Q (.int (a * e - b * c)) H
theorem ok_law_det (T : Facts K mg) : FnOk P w K mg base CX0 1 T.f_law_det T.fd_law_det ["_law_table_here"] spDet := by
  refine T.F_law_det.ok sc_law_det (fun vs H Q E h => ?_) (fun cdv A outer s H vs Q E hr h => ?_)
  · obtain ⟨t, a, b, c, e, rfl, _⟩ := h
    rfl
  · obtain ⟨t, a, b, c, e, rfl, ⟨r0, r1, f2, k0, k1⟩, ba, bb, bc, be, q⟩ := h
    refine ⟨_, (PSs.nox (pss_one (ps_ret (pe_op op_sub (pe_op op_mulW (pe_ix ix_tup (pe_ix ix_tup (pv 0) pe_int (fun _ _ => rfl)) pe_int (fun _ _ => rfl)) (pe_ix ix_tup (pe_ix ix_tup (pv 0) pe_int (fun _ _ => rfl)) pe_int (fun _ _ => rfl))) (pe_op op_mulW (pe_ix ix_tup (pe_ix ix_tup (pv 0) pe_int (fun _ _ => rfl)) pe_int (fun _ _ => rfl)) (pe_ix ix_tup (pe_ix ix_tup (pv 0) pe_int (fun _ _ => rfl)) pe_int (fun _ _ => rfl))))))), ?_⟩
    refine ⟨_, rfl, t, _, 0, _, rfl, rfl, SqT.of f2, atI_nat (j := 0) rfl, r0, _, 0, _, rfl, rfl, SqT.of k0, atI_nat (j := 0) rfl, _, rfl, t, _, 1, _, rfl, rfl, SqT.of f2, atI_nat (j := 1) rfl, r1, _, 1, _, rfl, rfl, SqT.of k1, atI_nat (j := 1) rfl, _, _, rfl, rfl, sm_mul (sm_le ba (by decide)) (sm_le be (by decide)), ?_⟩
    exact ⟨_, rfl, t, _, 0, _, rfl, rfl, SqT.of f2, atI_nat (j := 0) rfl, r0, _, 1, _, rfl, rfl, SqT.of k0, atI_nat (j := 1) rfl, _, rfl, t, _, 1, _, rfl, rfl, SqT.of f2, atI_nat (j := 1) rfl, r1, _, 0, _, rfl, rfl, SqT.of k1, atI_nat (j := 0) rfl, _, _, rfl, rfl, sm_mul (sm_le bb (by decide)) (sm_le bc (by decide)), _, _, rfl, rfl, q⟩
end
end K45

set_option Elab.async false
set_option linter.all false
set_option maxRecDepth 100000
/-! layings: the plain law -/
namespace K45
theorem evF_cons (g : Nat → Int) (x y : Int) : ∀ m, evF (m + 1) g x y = g 0 * x ^ m + y * evF m (fun k => g (k + 1)) x y
  | 0 => by
    show x * 0 + g 0 * y ^ 0 = g 0 * x ^ 0 + y * 0
    rw [Int.pow_zero, Int.pow_zero]
    grind
  | m + 1 => by
    show x * evF (m + 1) g x y + g (m + 1) * y ^ (m + 1) = g 0 * x ^ (m + 1) + y * (x * evF m (fun k => g (k + 1)) x y + g (m + 1) * y ^ m)
    rw [evF_cons g x y m, Int.pow_succ, Int.pow_succ]
    generalize evF m (fun k => g (k + 1)) x y = w
    generalize x ^ m = A
    generalize y ^ m = B
    grind
theorem ev_tb (n : Nat) (f : Nat → Int) (x y : Int) : ev (tb n f) x y = evF n f x y := by
  unfold ev
  rw [tb_len]
  exact evF_congr _ fun i hi => by rw [co_tb, if_pos hi]
theorem ev_dX (l : List Int) (x y : Int) : ev (dX l) x y = evF (l.length - 1) (fun k => co l k * ((l.length : Int) - 1 - k)) x y := ev_tb _ _ x y
theorem ev_dY (l : List Int) (x y : Int) : ev (dY l) x y = evF (l.length - 1) (fun k => co l (k + 1) * ((k : Int) + 1)) x y := ev_tb _ _ x y
theorem ev_dX_cons (a : Int) (l : List Int) (x y : Int) : ev (dX (a :: l)) x y = a * l.length * x ^ (l.length - 1) + y * ev (dX l) x y := by
  rw [ev_dX, ev_dX]
  show evF (l.length + 1 - 1) _ x y = _
  rw [Nat.add_sub_cancel]
  cases hl : l.length with
  | zero =>
    show (0 : Int) = a * 0 * _ + y * 0
    grind
  | succ m =>
    rw [evF_cons]
    rw [show evF m (fun k => co (a :: l) (k + 1) * (((a :: l).length : Int) - 1 - ((k + 1 : Nat) : Int))) x y = evF (m + 1 - 1) (fun k => co l k * (((m + 1 : Nat) : Int) - 1 - k)) x y from by
      rw [Nat.add_sub_cancel]
      refine evF_congr _ fun k _ => ?_
      show co l k * (((a :: l).length : Int) - 1 - ((k + 1 : Nat) : Int)) = _
      congr 1
      rw [List.length_cons, hl]
      omega]
    show a * (((a :: l).length : Int) - 1 - ((0 : Nat) : Int)) * x ^ m + _ = _
    rw [List.length_cons, hl, Nat.add_sub_cancel, show (((m + 1 + 1 : Nat)) : Int) - 1 - ((0 : Nat) : Int) = ((m + 1 : Nat) : Int) by omega]
theorem ev_dY_cons (a : Int) (l : List Int) (x y : Int) : ev (dY (a :: l)) x y = ev l x y + y * ev (dY l) x y := by
  rw [ev_dY, ev_dY]
  show evF (l.length + 1 - 1) (fun k => co l k * ((k : Int) + 1)) x y = _
  rw [Nat.add_sub_cancel]
  have e1 : evF l.length (fun k => co l k * ((k : Int) + 1)) x y = ev l x y + evF l.length (fun k => co l k * (k : Int)) x y := by
    unfold ev
    rw [← evF_add]
    exact evF_congr _ fun k _ => by grind
  rw [e1]
  congr 1
  cases hl : l.length with
  | zero =>
    show (0 : Int) = y * 0
    rw [Int.mul_zero]
  | succ m =>
    rw [evF_cons, Nat.add_sub_cancel]
    show co l 0 * ((0 : Nat) : Int) * x ^ m + y * evF m (fun k => co l (k + 1) * ((k + 1 : Nat) : Int)) x y = _
    rw [show evF m (fun k => co l (k + 1) * ((k + 1 : Nat) : Int)) x y = evF m (fun k => co l (k + 1) * ((k : Int) + 1)) x y from evF_congr _ fun k _ => by rw [show ((k + 1 : Nat) : Int) = (k : Int) + 1 by omega]]
    show co l 0 * 0 * x ^ m + _ = _
    grind
/-- a step along a line: up to squares it is told by the derivatives -/
theorem pow_step (x u h : Int) : ∀ n : Nat, ∃ R, (x + u * h) ^ n = x ^ n + h * (u * (n * x ^ (n - 1))) + h * h * R
  | 0 => ⟨0, by rw [Int.pow_zero, Int.pow_zero]; show (1 : Int) = 1 + h * (u * (0 * _)) + h * h * 0; grind⟩
  | 1 => ⟨0, by
    rw [Int.pow_succ, Int.pow_zero, Int.pow_succ, Int.pow_zero]
    show 1 * (x + u * h) = 1 * x + h * (u * (1 * 1)) + h * h * 0
    grind⟩
  | n + 2 => by
    obtain ⟨R, e⟩ := pow_step x u h (n + 1)
    refine ⟨u * u * ((n + 1 : Nat) * x ^ n) + R * (x + u * h), ?_⟩
    rw [Int.pow_succ, e, show n + 1 - 1 = n by omega, show n + 2 - 1 = n + 1 by omega, Int.pow_succ x (n + 1), Int.pow_succ x n, show ((n + 2 : Nat) : Int) = ((n + 1 : Nat) : Int) + 1 by omega]
    generalize x ^ n = A
    generalize ((n + 1 : Nat) : Int) = N
    grind
theorem ev_step (x y u v h : Int) : ∀ l : List Int, ∃ R, ev l (x + u * h) (y + v * h) = ev l x y + h * (u * ev (dX l) x y + v * ev (dY l) x y) + h * h * R
  | [] => ⟨0, by
    show (0 : Int) = 0 + h * (u * ev (dX []) x y + v * ev (dY []) x y) + h * h * 0
    rw [show ev (dX []) x y = 0 from rfl, show ev (dY []) x y = 0 from rfl]
    grind⟩
  | a :: l => by
    obtain ⟨R, e⟩ := ev_step x y u v h l
    obtain ⟨S, e2⟩ := pow_step x u h l.length
    refine ⟨a * S + v * (u * ev (dX l) x y + v * ev (dY l) x y) + (y + v * h) * R, ?_⟩
    rw [ev_cons, ev_cons, ev_dX_cons, ev_dY_cons, e, e2]
    generalize ev (dX l) x y = EX
    generalize ev (dY l) x y = EY
    generalize ev l x y = E
    generalize x ^ (l.length - 1) = A
    generalize x ^ l.length = B
    generalize (l.length : Int) = n
    grind
theorem step_eq {p q : Int} (H : ∀ h : Int, ∃ R, h * p = h * q + h * h * R) : p = q := by
  obtain ⟨R, e⟩ := H (((p - q).natAbs + 1 : Nat) : Int)
  have hp : (((p - q).natAbs + 1 : Nat) : Int) ≠ 0 := by omega
  have e2 : p = q + (((p - q).natAbs + 1 : Nat) : Int) * R := by
    refine Int.eq_of_mul_eq_mul_left hp ?_
    rw [Int.mul_add, ← Int.mul_assoc]
    exact e
  have hd : (((p - q).natAbs + 1 : Nat) : Int) ∣ p - q := ⟨R, by omega⟩
  have hz := Nat.eq_zero_of_dvd_of_lt (Int.natAbs_dvd_natAbs.mpr hd) (by rw [Int.natAbs_natCast]; omega)
  omega
theorem map_len (c : Int) (l : List Int) : (l.map (c * ·)).length = l.length := List.length_map ..
theorem dX_ne {l : List Int} (h : 2 ≤ l.length) : dX l ≠ [] := fun z => by have := dX_len l; rw [z] at this; have : 0 = l.length - 1 := this; omega
theorem dY_ne {l : List Int} (h : 2 ≤ l.length) : dY l ≠ [] := fun z => by have := dY_len l; rw [z] at this; have : 0 = l.length - 1 := this; omega
theorem ne_of2 {l : List Int} (h : 1 ≤ l.length) : l ≠ [] := List.length_pos_iff.mp h
/-- the rule of the chain -/
theorem dX_changed {a b c e : Int} {l : List Int} (h : 2 ≤ l.length) : dX (changed [a, b] [c, e] l) = zs 1 ((changed [a, b] [c, e] (dX l)).map (a * ·)) ((changed [a, b] [c, e] (dY l)).map (c * ·)) := by
  have nl := ne_of2 (show 1 ≤ l.length by omega)
  have l0 := changed_len (X := [a, b]) (Y := [c, e]) rfl rfl nl
  have l1 := changed_len (X := [a, b]) (Y := [c, e]) rfl rfl (dX_ne h)
  have l2 := changed_len (X := [a, b]) (Y := [c, e]) rfl rfl (dY_ne h)
  rw [dX_len] at l1
  rw [dY_len] at l2
  refine ev_inj (by rw [dX_len, l0, zs_len (by rw [map_len, map_len, l1, l2]), map_len, l1]) fun x y => step_eq fun k => ?_
  obtain ⟨R, e1⟩ := ev_step x y 1 0 k (changed [a, b] [c, e] l)
  obtain ⟨S, e2⟩ := ev_step (a * x + b * y) (c * x + e * y) a c k l
  rw [ev_changed rfl rfl nl, ev_changed rfl rfl nl, ev2, ev2, ev2, ev2] at e1
  rw [show a * (x + 1 * k) + b * (y + 0 * k) = a * x + b * y + a * k by grind, show c * (x + 1 * k) + e * (y + 0 * k) = c * x + e * y + c * k by grind, e2] at e1
  refine ⟨S - R, ?_⟩
  rw [ev_zs 1 (by rw [map_len, map_len, l1, l2]), ev_map, ev_map, ev_changed rfl rfl (dX_ne h), ev_changed rfl rfl (dY_ne h), ev2, ev2]
  grind
theorem dY_changed {a b c e : Int} {l : List Int} (h : 2 ≤ l.length) : dY (changed [a, b] [c, e] l) = zs 1 ((changed [a, b] [c, e] (dX l)).map (b * ·)) ((changed [a, b] [c, e] (dY l)).map (e * ·)) := by
  have nl := ne_of2 (show 1 ≤ l.length by omega)
  have l0 := changed_len (X := [a, b]) (Y := [c, e]) rfl rfl nl
  have l1 := changed_len (X := [a, b]) (Y := [c, e]) rfl rfl (dX_ne h)
  have l2 := changed_len (X := [a, b]) (Y := [c, e]) rfl rfl (dY_ne h)
  rw [dX_len] at l1
  rw [dY_len] at l2
  refine ev_inj (by rw [dY_len, l0, zs_len (by rw [map_len, map_len, l1, l2]), map_len, l1]) fun x y => step_eq fun k => ?_
  obtain ⟨R, e1⟩ := ev_step x y 0 1 k (changed [a, b] [c, e] l)
  obtain ⟨S, e2⟩ := ev_step (a * x + b * y) (c * x + e * y) b e k l
  rw [ev_changed rfl rfl nl, ev_changed rfl rfl nl, ev2, ev2, ev2, ev2] at e1
  rw [show a * (x + 0 * k) + b * (y + 1 * k) = a * x + b * y + b * k by grind, show c * (x + 0 * k) + e * (y + 1 * k) = c * x + e * y + e * k by grind, e2] at e1
  refine ⟨S - R, ?_⟩
  rw [ev_zs 1 (by rw [map_len, map_len, l1, l2]), ev_map, ev_map, ev_changed rfl rfl (dX_ne h), ev_changed rfl rfl (dY_ne h), ev2, ev2]
  grind
/-! ### the laying -/
def L : Nat → List Int → List Int → List Int
  | 0, f, g => ml f g
  | t + 1, f, g => zs (-1) (L t (dX f) (dY g)) (L t (dY f) (dX g))
theorem L_len : ∀ (t : Nat) (f g : List Int), t + 1 ≤ f.length → t + 1 ≤ g.length → (L t f g).length = f.length + g.length - 1 - 2 * t
  | 0, f, g, _, _ => ml_len f g
  | t + 1, f, g, hf, hg => by
    have h1 := L_len t (dX f) (dY g) (by rw [dX_len]; omega) (by rw [dY_len]; omega)
    have h2 := L_len t (dY f) (dX g) (by rw [dY_len]; omega) (by rw [dX_len]; omega)
    rw [dX_len, dY_len] at h1
    rw [dX_len, dY_len] at h2
    show (zs (-1) (L t (dX f) (dY g)) (L t (dY f) (dX g))).length = _
    rw [zs_len (by rw [h1, h2]), h1]
    omega
theorem ev_L_succ {t : Nat} {f g : List Int} (hf : t + 2 ≤ f.length) (hg : t + 2 ≤ g.length) (x y : Int) : ev (L (t + 1) f g) x y = ev (L t (dX f) (dY g)) x y - ev (L t (dY f) (dX g)) x y := by
  have h1 := L_len t (dX f) (dY g) (by rw [dX_len]; omega) (by rw [dY_len]; omega)
  have h2 := L_len t (dY f) (dX g) (by rw [dY_len]; omega) (by rw [dX_len]; omega)
  rw [dX_len, dY_len] at h1
  rw [dX_len, dY_len] at h2
  show ev (zs (-1) (L t (dX f) (dY g)) (L t (dY f) (dX g))) x y = _
  rw [ev_zs (-1) (by rw [h1, h2])]
  omega
theorem dX_zs' (c : Int) {l m : List Int} (h : l.length = m.length) : dX (zs c l m) = zs c (dX l) (dX m) := by
  refine co_inj (by rw [dX_len, zs_len h, zs_len (by rw [dX_len, dX_len, h]), dX_len]) fun k => ?_
  rw [co_zs' c (by rw [dX_len, dX_len, h])]
  unfold dX
  rw [co_tb, co_tb, co_tb, zs_len h, ← h, co_zs' c h]
  by_cases d : k < l.length - 1
  · rw [if_pos d, if_pos d, if_pos d]
    grind
  · rw [if_neg d, if_neg d, if_neg d]
    grind
theorem dY_zs' (c : Int) {l m : List Int} (h : l.length = m.length) : dY (zs c l m) = zs c (dY l) (dY m) := by
  refine co_inj (by rw [dY_len, zs_len h, zs_len (by rw [dY_len, dY_len, h]), dY_len]) fun k => ?_
  rw [co_zs' c (by rw [dY_len, dY_len, h])]
  unfold dY
  rw [co_tb, co_tb, co_tb, zs_len h, ← h, co_zs' c h]
  by_cases d : k < l.length - 1
  · rw [if_pos d, if_pos d, if_pos d]
    grind
  · rw [if_neg d, if_neg d, if_neg d]
    grind
/-- a laying is a sum in both -/
theorem L_zsl (c : Int) (x y : Int) : ∀ (t : Nat) (f f' g : List Int), f.length = f'.length → t + 1 ≤ f.length → t + 1 ≤ g.length → ev (L t (zs c f f') g) x y = ev (L t f g) x y + c * ev (L t f' g) x y
  | 0, f, f', g, h, hf, hg => by
    have n1 : zs c f f' ≠ [] := ne_of2 (by rw [zs_len h]; omega)
    show ev (ml (zs c f f') g) x y = ev (ml f g) x y + c * ev (ml f' g) x y
    rw [ev_ml n1 (ne_of2 hg), ev_ml (ne_of2 hf) (ne_of2 hg), ev_ml (ne_of2 (by omega)) (ne_of2 hg), ev_zs c h]
    grind
  | t + 1, f, f', g, h, hf, hg => by
    rw [ev_L_succ (by rw [zs_len h]; omega) (by omega), ev_L_succ (by omega) (by omega), ev_L_succ (by omega) (by omega), dX_zs' c h, dY_zs' c h,
      L_zsl c x y t _ _ _ (by rw [dX_len, dX_len, h]) (by rw [dX_len]; omega) (by rw [dY_len]; omega), L_zsl c x y t _ _ _ (by rw [dY_len, dY_len, h]) (by rw [dY_len]; omega) (by rw [dX_len]; omega)]
    grind
theorem L_zsr (c : Int) (x y : Int) : ∀ (t : Nat) (f g g' : List Int), g.length = g'.length → t + 1 ≤ f.length → t + 1 ≤ g.length → ev (L t f (zs c g g')) x y = ev (L t f g) x y + c * ev (L t f g') x y
  | 0, f, g, g', h, hf, hg => by
    have n1 : zs c g g' ≠ [] := ne_of2 (by rw [zs_len h]; omega)
    show ev (ml f (zs c g g')) x y = ev (ml f g) x y + c * ev (ml f g') x y
    rw [ev_ml (ne_of2 hf) n1, ev_ml (ne_of2 hf) (ne_of2 hg), ev_ml (ne_of2 hf) (ne_of2 (by omega)), ev_zs c h]
    grind
  | t + 1, f, g, g', h, hf, hg => by
    rw [ev_L_succ (by omega) (by rw [zs_len h]; omega), ev_L_succ (by omega) (by omega), ev_L_succ (by omega) (by omega), dX_zs' c h, dY_zs' c h,
      L_zsr c x y t _ _ _ (by rw [dY_len, dY_len, h]) (by rw [dX_len]; omega) (by rw [dY_len]; omega), L_zsr c x y t _ _ _ (by rw [dX_len, dX_len, h]) (by rw [dY_len]; omega) (by rw [dX_len]; omega)]
    grind
theorem dX_map (c : Int) (l : List Int) : dX (l.map (c * ·)) = (dX l).map (c * ·) := by
  refine co_inj (by rw [dX_len, map_len, map_len, dX_len]) fun k => ?_
  rw [co_map]
  unfold dX
  rw [co_tb, co_tb, map_len, co_map]
  by_cases d : k < l.length - 1
  · rw [if_pos d, if_pos d]
    grind
  · rw [if_neg d, if_neg d]
    grind
theorem dY_map (c : Int) (l : List Int) : dY (l.map (c * ·)) = (dY l).map (c * ·) := by
  refine co_inj (by rw [dY_len, map_len, map_len, dY_len]) fun k => ?_
  rw [co_map]
  unfold dY
  rw [co_tb, co_tb, map_len, co_map]
  by_cases d : k < l.length - 1
  · rw [if_pos d, if_pos d]
    grind
  · rw [if_neg d, if_neg d]
    grind
theorem L_mapl (c : Int) (x y : Int) : ∀ (t : Nat) (f g : List Int), t + 1 ≤ f.length → t + 1 ≤ g.length → ev (L t (f.map (c * ·)) g) x y = c * ev (L t f g) x y
  | 0, f, g, hf, hg => by
    show ev (ml (f.map (c * ·)) g) x y = c * ev (ml f g) x y
    rw [ev_ml (ne_of2 (by rw [map_len]; omega)) (ne_of2 hg), ev_ml (ne_of2 hf) (ne_of2 hg), ev_map]
    grind
  | t + 1, f, g, hf, hg => by
    rw [ev_L_succ (by rw [map_len]; omega) (by omega), ev_L_succ (by omega) (by omega), dX_map, dY_map, L_mapl c x y t _ _ (by rw [dX_len]; omega) (by rw [dY_len]; omega), L_mapl c x y t _ _ (by rw [dY_len]; omega) (by rw [dX_len]; omega)]
    grind
theorem L_mapr (c : Int) (x y : Int) : ∀ (t : Nat) (f g : List Int), t + 1 ≤ f.length → t + 1 ≤ g.length → ev (L t f (g.map (c * ·))) x y = c * ev (L t f g) x y
  | 0, f, g, hf, hg => by
    show ev (ml f (g.map (c * ·))) x y = c * ev (ml f g) x y
    rw [ev_ml (ne_of2 hf) (ne_of2 (by rw [map_len]; omega)), ev_ml (ne_of2 hf) (ne_of2 hg), ev_map]
    grind
  | t + 1, f, g, hf, hg => by
    rw [ev_L_succ (by omega) (by rw [map_len]; omega), ev_L_succ (by omega) (by omega), dX_map, dY_map, L_mapr c x y t _ _ (by rw [dX_len]; omega) (by rw [dY_len]; omega), L_mapr c x y t _ _ (by rw [dY_len]; omega) (by rw [dX_len]; omega)]
    grind
/-- laid after a change -/
theorem L_changed {a b c e : Int} (x y : Int) : ∀ (t : Nat) (f g : List Int), t + 1 ≤ f.length → t + 1 ≤ g.length →
    ev (L t (changed [a, b] [c, e] f) (changed [a, b] [c, e] g)) x y = (a * e - b * c) ^ t * ev (L t f g) (a * x + b * y) (c * x + e * y)
  | 0, f, g, hf, hg => by
    have l1 := changed_len (X := [a, b]) (Y := [c, e]) rfl rfl (ne_of2 hf)
    have l2 := changed_len (X := [a, b]) (Y := [c, e]) rfl rfl (ne_of2 hg)
    rw [Int.pow_zero, Int.one_mul]
    show ev (ml (changed [a, b] [c, e] f) (changed [a, b] [c, e] g)) x y = ev (ml f g) _ _
    rw [ev_ml (ne_of2 (by omega)) (ne_of2 (by omega)), ev_ml (ne_of2 hf) (ne_of2 hg), ev_changed rfl rfl (ne_of2 hf), ev_changed rfl rfl (ne_of2 hg), ev2, ev2]
  | t + 1, f, g, hf, hg => by
    have l1 := changed_len (X := [a, b]) (Y := [c, e]) rfl rfl (ne_of2 (show 1 ≤ f.length by omega))
    have l2 := changed_len (X := [a, b]) (Y := [c, e]) rfl rfl (ne_of2 (show 1 ≤ g.length by omega))
    have lfx := changed_len (X := [a, b]) (Y := [c, e]) rfl rfl (dX_ne (l := f) (by omega))
    have lfy := changed_len (X := [a, b]) (Y := [c, e]) rfl rfl (dY_ne (l := f) (by omega))
    have lgx := changed_len (X := [a, b]) (Y := [c, e]) rfl rfl (dX_ne (l := g) (by omega))
    have lgy := changed_len (X := [a, b]) (Y := [c, e]) rfl rfl (dY_ne (l := g) (by omega))
    rw [dX_len] at lfx lgx
    rw [dY_len] at lfy lgy
    rw [ev_L_succ (by omega) (by omega), ev_L_succ (by omega) (by omega), dX_changed (l := f) (by omega), dY_changed (l := f) (by omega), dX_changed (l := g) (by omega), dY_changed (l := g) (by omega)]
    have two : ∀ (p q r s : Int), ev (L t (zs 1 ((changed [a, b] [c, e] (dX f)).map (p * ·)) ((changed [a, b] [c, e] (dY f)).map (q * ·))) (zs 1 ((changed [a, b] [c, e] (dX g)).map (r * ·)) ((changed [a, b] [c, e] (dY g)).map (s * ·)))) x y =
        p * r * ((a * e - b * c) ^ t * ev (L t (dX f) (dX g)) (a * x + b * y) (c * x + e * y)) + p * s * ((a * e - b * c) ^ t * ev (L t (dX f) (dY g)) (a * x + b * y) (c * x + e * y)) +
        q * r * ((a * e - b * c) ^ t * ev (L t (dY f) (dX g)) (a * x + b * y) (c * x + e * y)) + q * s * ((a * e - b * c) ^ t * ev (L t (dY f) (dY g)) (a * x + b * y) (c * x + e * y)) := fun p q r s => by
      have ih1 := L_changed (a := a) (b := b) (c := c) (e := e) x y t (dX f) (dX g) (by rw [dX_len]; omega) (by rw [dX_len]; omega)
      have ih2 := L_changed (a := a) (b := b) (c := c) (e := e) x y t (dX f) (dY g) (by rw [dX_len]; omega) (by rw [dY_len]; omega)
      have ih3 := L_changed (a := a) (b := b) (c := c) (e := e) x y t (dY f) (dX g) (by rw [dY_len]; omega) (by rw [dX_len]; omega)
      have ih4 := L_changed (a := a) (b := b) (c := c) (e := e) x y t (dY f) (dY g) (by rw [dY_len]; omega) (by rw [dY_len]; omega)
      rw [L_zsl 1 x y t _ _ _ (by rw [map_len, map_len, lfx, lfy]) (by rw [map_len, lfx]; omega) (by rw [zs_len (by rw [map_len, map_len, lgx, lgy]), map_len, lgx]; omega),
        L_zsr 1 x y t _ _ _ (by rw [map_len, map_len, lgx, lgy]) (by rw [map_len, lfx]; omega) (by rw [map_len, lgx]; omega),
        L_zsr 1 x y t _ _ _ (by rw [map_len, map_len, lgx, lgy]) (by rw [map_len, lfy]; omega) (by rw [map_len, lgx]; omega),
        L_mapl p x y t _ _ (by rw [lfx]; omega) (by rw [map_len, lgx]; omega), L_mapl p x y t _ _ (by rw [lfx]; omega) (by rw [map_len, lgy]; omega),
        L_mapl q x y t _ _ (by rw [lfy]; omega) (by rw [map_len, lgx]; omega), L_mapl q x y t _ _ (by rw [lfy]; omega) (by rw [map_len, lgy]; omega),
        L_mapr r x y t _ _ (by rw [lfx]; omega) (by rw [lgx]; omega), L_mapr s x y t _ _ (by rw [lfx]; omega) (by rw [lgy]; omega),
        L_mapr r x y t _ _ (by rw [lfy]; omega) (by rw [lgx]; omega), L_mapr s x y t _ _ (by rw [lfy]; omega) (by rw [lgy]; omega), ih1, ih2, ih3, ih4]
      grind
    rw [two, two, Int.pow_succ]
    grind
/-! ### sums -/
def su : Nat → (Nat → Int) → Int
  | 0, _ => 0
  | n + 1, φ => su n φ + φ n
theorem su_congr {φ ψ : Nat → Int} : ∀ n, (∀ k, k < n → φ k = ψ k) → su n φ = su n ψ
  | 0, _ => rfl
  | n + 1, h => by
    show su n φ + φ n = su n ψ + ψ n
    rw [su_congr n fun k hk => h k (by omega), h n (by omega)]
theorem su_add (φ ψ : Nat → Int) : ∀ n, su n (fun k => φ k + ψ k) = su n φ + su n ψ
  | 0 => rfl
  | n + 1 => by
    show su n (fun k => φ k + ψ k) + (φ n + ψ n) = su n φ + φ n + (su n ψ + ψ n)
    rw [su_add φ ψ n]
    omega
theorem su_shift (φ : Nat → Int) : ∀ n, su (n + 1) φ = φ 0 + su n (fun k => φ (k + 1))
  | 0 => by show 0 + φ 0 = φ 0 + 0; omega
  | n + 1 => by
    show su (n + 1) φ + φ (n + 1) = φ 0 + (su n (fun k => φ (k + 1)) + φ (n + 1))
    rw [su_shift φ n]
    omega
/-- how many lots -/
def ch : Nat → Nat → Nat
  | _, 0 => 1
  | 0, _ + 1 => 0
  | n + 1, k + 1 => ch n k + ch n (k + 1)
theorem ch_zero (n : Nat) : ch n 0 = 1 := by cases n <;> rfl
theorem ch_far : ∀ n k : Nat, n < k → ch n k = 0
  | n, 0, h => absurd h (Nat.not_lt_zero n)
  | 0, k + 1, _ => rfl
  | n + 1, k + 1, h => by
    show ch n k + ch n (k + 1) = 0
    rw [ch_far n k (by omega), ch_far n (k + 1) (by omega)]
theorem ch_mul : ∀ n k : Nat, (ch n (k + 1) : Int) * ((k : Int) + 1) = ch n k * ((n : Int) - k)
  | 0, k => by
    show ((0 : Nat) : Int) * _ = _
    cases k with
    | zero => show (0 : Int) * _ = 1 * ((0 : Int) - 0); grind
    | succ k => show (0 : Int) * _ = (0 : Int) * _; grind
  | n + 1, 0 => by
    have h := ch_mul n 0
    rw [ch_zero] at h
    show ((ch n 0 + ch n (0 + 1) : Nat) : Int) * _ = ((ch (n + 1) 0 : Nat) : Int) * _
    rw [ch_zero, ch_zero, Int.natCast_add]
    have e : ((0 : Nat) : Int) = 0 := rfl
    rw [e] at h ⊢
    rw [show ((n + 1 : Nat) : Int) = (n : Int) + 1 by omega]
    grind
  | n + 1, k + 1 => by
    have h1 := ch_mul n (k + 1)
    have h2 := ch_mul n k
    show ((ch n (k + 1) + ch n (k + 1 + 1) : Nat) : Int) * _ = ((ch n k + ch n (k + 1) : Nat) : Int) * _
    rw [Int.natCast_add (ch n (k + 1)), Int.natCast_add (ch n k)]
    rw [show ((k + 1 : Nat) : Int) = (k : Int) + 1 by omega] at h1 ⊢
    rw [show ((n + 1 : Nat) : Int) = (n : Int) + 1 by omega]
    grind
/-- the sign of a place -/
def sgn (k : Nat) : Int := if k % 2 = 0 then 1 else -1
theorem sgn_succ (k : Nat) : sgn (k + 1) = -sgn k := by
  unfold sgn
  by_cases h : k % 2 = 0
  · rw [if_pos h, if_neg (by omega)]
  · rw [if_neg h, if_pos (by omega)]
    rfl
theorem dXY (l : List Int) : dX (dY l) = dY (dX l) := by
  refine co_inj (by rw [dX_len, dY_len, dY_len, dX_len]) fun k => ?_
  have a1 : ∀ m : List Int, ∀ k, co (dX m) k = if k < m.length - 1 then co m k * ((m.length : Int) - 1 - k) else 0 := fun m k => co_tb k
  have a2 : ∀ m : List Int, ∀ k, co (dY m) k = if k < m.length - 1 then co m (k + 1) * ((k : Int) + 1) else 0 := fun m k => co_tb k
  rw [a1 (dY l), a2 (dX l), dX_len, dY_len, a1 l, a2 l]
  by_cases h : k < l.length - 1 - 1
  · rw [if_pos h, if_pos h, if_pos (by omega), if_pos (by omega)]
    rw [show ((k + 1 : Nat) : Int) = (k : Int) + 1 by omega, show ((l.length - 1 : Nat) : Int) = (l.length : Int) - 1 by omega]
    grind
  · rw [if_neg h, if_neg h]
theorem it_succ (f : List Int → List Int) (n : Nat) (l : List Int) : it f n (f l) = it f (n + 1) l := by
  induction n with
  | zero => rfl
  | succ n ih => show f (it f n (f l)) = f (it f (n + 1) l); rw [ih]
theorem dX_it_dY (l : List Int) : ∀ n, it dX n (dY l) = dY (it dX n l)
  | 0 => rfl
  | n + 1 => by
    show dX (it dX n (dY l)) = dY (dX (it dX n l))
    rw [dX_it_dY l n, dXY]
theorem dd_dX (i j : Nat) (l : List Int) : dd i j (dX l) = dd (i + 1) j l := by
  unfold dd
  rw [it_succ]
theorem dd_dY (i j : Nat) (l : List Int) : dd i j (dY l) = dd i (j + 1) l := by
  unfold dd
  rw [dX_it_dY, it_succ]
/-- a laying, as a sum -/
theorem L_sum (x y : Int) : ∀ (t : Nat) (f g : List Int), t + 1 ≤ f.length → t + 1 ≤ g.length →
    ev (L t f g) x y = su (t + 1) fun k => sgn k * ch t k * (ev (dd (t - k) k f) x y * ev (dd k (t - k) g) x y)
  | 0, f, g, hf, hg => by
    show ev (ml f g) x y = 0 + 1 * 1 * (ev f x y * ev g x y)
    rw [ev_ml (ne_of2 hf) (ne_of2 hg)]
    grind
  | t + 1, f, g, hf, hg => by
    rw [ev_L_succ (by omega) (by omega), L_sum x y t _ _ (by rw [dX_len]; omega) (by rw [dY_len]; omega), L_sum x y t _ _ (by rw [dY_len]; omega) (by rw [dX_len]; omega)]
    have T : ∃ T : Nat → Int, ∀ k, k ≤ t + 1 → T k = ev (dd (t + 1 - k) k f) x y * ev (dd k (t + 1 - k) g) x y := ⟨_, fun _ _ => rfl⟩
    obtain ⟨T, hT⟩ := T
    have e1 : su (t + 1) (fun k => sgn k * ch t k * (ev (dd (t - k) k (dX f)) x y * ev (dd k (t - k) (dY g)) x y)) = su (t + 1) fun k => sgn k * ch t k * T k := su_congr _ fun k hk => by
      rw [dd_dX, dd_dY, hT k (by omega), show t - k + 1 = t + 1 - k by omega]
    have e2 : su (t + 1) (fun k => sgn k * ch t k * (ev (dd (t - k) k (dY f)) x y * ev (dd k (t - k) (dX g)) x y)) = su (t + 1) fun k => sgn k * ch t k * T (k + 1) := su_congr _ fun k hk => by
      rw [dd_dX, dd_dY, hT (k + 1) (by omega), show t + 1 - (k + 1) = t - k by omega]
    have e3 : su (t + 1 + 1) (fun k => sgn k * ch (t + 1) k * (ev (dd (t + 1 - k) k f) x y * ev (dd k (t + 1 - k) g) x y)) = su (t + 1 + 1) fun k => sgn k * ch (t + 1) k * T k := su_congr _ fun k hk => by
      rw [hT k (by omega)]
    rw [e1, e2, e3, su_shift _ (t + 1)]
    have e4 : su (t + 1) (fun k => sgn (k + 1) * ch (t + 1) (k + 1) * T (k + 1)) = su (t + 1) (fun k => sgn (k + 1) * ch t (k + 1) * T (k + 1)) + su (t + 1) (fun k => -1 * (sgn k * ch t k * T (k + 1))) := by
      rw [← su_add]
      refine su_congr _ fun k hk => ?_
      show sgn (k + 1) * ((ch t k + ch t (k + 1) : Nat) : Int) * T (k + 1) = _
      rw [Int.natCast_add, sgn_succ]
      grind
    have e5 := su_shift (fun k => sgn k * ch t k * T k) (t + 1)
    have e6 : su (t + 1 + 1) (fun k => sgn k * ch t k * T k) = su (t + 1) (fun k => sgn k * ch t k * T k) + sgn (t + 1) * ch t (t + 1) * T (t + 1) := rfl
    have e7 : su (t + 1) (fun k => -1 * (sgn k * ch t k * T (k + 1))) = - su (t + 1) (fun k => sgn k * ch t k * T (k + 1)) := by
      have : ∀ n φ, su n (fun k => -1 * φ k) = - su n φ := by
        intro n φ
        induction n with
        | zero => rfl
        | succ n ih => show su n (fun k => -1 * φ k) + -1 * φ n = -(su n φ + φ n); rw [ih]; omega
      exact this _ _
    rw [e4, e7]
    rw [e6, ch_far t (t + 1) (by omega)] at e5
    rw [ch_zero] at e5 ⊢
    have z0 : sgn (t + 1) * ((0 : Nat) : Int) * T (t + 1) = 0 := by
      rw [show ((0 : Nat) : Int) = 0 from rfl, Int.mul_zero, Int.zero_mul]
    omega
end K45

set_option Elab.async false
set_option linter.all false
set_option maxRecDepth 100000
set_option maxHeartbeats 4000000
namespace K45
open PySem PySem.Spec PyProof.Rows L2 StX RZ MyR SlX OwnR OwnF EnumT GxR
theorem st_norm {S : TS} {D : Ends} {σ : L2.St} (σ' : L2.St) {H : Hp} (e : σ = σ') (h : S D σ' H) : S D σ H := e ▸ h
/-! ### the first entry other than 0 -/
def nzr (l : List Int) : Bool := l.any (· != 0)
def fi (l : List Int) : Nat := l.findIdx (· != 0)
theorem fi_lt {l : List Int} (h : nzr l = true) : fi l < l.length := by
  unfold fi
  refine List.findIdx_lt_length_of_exists ?_
  obtain ⟨x, h1, h2⟩ := List.any_eq_true.mp h
  exact ⟨x, h1, h2⟩
theorem fi_ne {l : List Int} (h : nzr l = true) : co l (fi l) ≠ 0 := by
  have := List.findIdx_getElem (p := (· != 0)) (w := fi_lt h)
  rw [co_get (fi_lt h)]
  have h2 : (l[fi l]'(fi_lt h) != 0) = true := this
  simpa using h2
theorem sm_of_le {x y : Int} (h : sm y) (k : x.natAbs ≤ y.natAbs) : sm x := Nat.lt_of_le_of_lt k h
theorem eq_lints {K : PySem.W.Frag} {H : Hp} {a b : Addr} {xs ys : List Int} {Q : VK} (ha : SqL K H a (xs.map V.int)) (hb : SqL K H b (ys.map V.int)) (q : Q (.bl (decide (xs = ys))) H) : rEqD K (.ref a) (.ref b) H Q := by
  refine ⟨.list (xs.map PyData.int), .list (ys.map PyData.int), .lst ha (dpAll_ints xs), .lst hb (dpAll_ints ys), shaped_lints xs, shaped_lints ys, ?_⟩
  rw [show PyData.eqv (.list (xs.map PyData.int)) (.list (ys.map PyData.int)) = decide (xs = ys) from eqvAll_ints xs ys]
  exact q
/-! ### tables of code objects -/
def Tg (Ps : List Addr) (H : Hp) : Prop := ∀ P ∈ Ps, TabG H P
def Sts (Ps : List Addr) (H H' : Hp) : Prop := ∀ b o, b ∉ Ps → H b = some o → H' b = some o
/-- all but the dice at d and the tables Ps stays -/
def Sy (d : Addr) (Ps : List Addr) (H H' : Hp) : Prop := ∀ b o, b ≠ d → b ∉ Ps → H b = some o → H' b = some o
theorem Sts.rf (Ps : List Addr) (H : Hp) : Sts Ps H H := fun _ _ _ e => e
theorem Sts.of {Ps : List Addr} {H H' : Hp} (s : Same H H') : Sts Ps H H' := fun b o _ h => s b o h
theorem Sts.trans {Ps : List Addr} {H H1 H2 : Hp} (s : Sts Ps H H1) (t : Sts Ps H1 H2) : Sts Ps H H2 := fun b o n h => t b o n (s b o n h)
theorem Sy.rf (d : Addr) (Ps : List Addr) (H : Hp) : Sy d Ps H H := fun _ _ _ _ e => e
theorem Sy.of {d : Addr} {Ps : List Addr} {H H' : Hp} (s : Same H H') : Sy d Ps H H' := fun b o _ _ h => s b o h
theorem Sy.ofD {d : Addr} {Ps : List Addr} {H H' : Hp} (s : Sx d H H') : Sy d Ps H H' := fun b o n _ h => s b o n h
theorem Sy.trans {d : Addr} {Ps : List Addr} {H H1 H2 : Hp} (s : Sy d Ps H H1) (t : Sy d Ps H1 H2) : Sy d Ps H H2 := fun b o n m h => t b o n m (s b o n m h)
theorem tabS {P : Addr} {H H' : Hp} (t : TabG H P) (s : Same H H') : TabG H' P := by
  obtain ⟨ps, h, k⟩ := t
  exact ⟨ps, s _ _ h, k⟩
theorem Tg.same {Ps : List Addr} {H H' : Hp} (t : Tg Ps H) (s : Same H H') : Tg Ps H' := fun P m => tabS (t P m) s
theorem Tg.sx {Ps : List Addr} {d : Addr} {H H' : Hp} (t : Tg Ps H) (s : Sx d H H') (hd : Dc H d) : Tg Ps H' := fun P m => by
  obtain ⟨ps, h, k⟩ := t P m
  obtain ⟨x, y, z, e⟩ := hd
  refine ⟨ps, s _ _ (fun q => ?_) h, k⟩
  rw [q, e] at h
  cases h
theorem Tg.ne {Ps : List Addr} {H : Hp} {a : Addr} {o : HO} (t : Tg Ps H) (h : H a = some o) (ho : ∀ ps, o ≠ .tbl ps) : a ∉ Ps := fun m => by
  obtain ⟨ps, e, _⟩ := t a m
  rw [h] at e
  exact ho ps (Option.some.inj e)
theorem tbd_sts {Ps : List Addr} {P : Addr} {H H' : Hp} (t : Tabbed P H H') (h : P ∈ Ps) : Sts Ps H H' := fun b o nb e => (t.2 b (fun z => nb (z ▸ h))).trans e
theorem tbd_tg {Ps : List Addr} {P : Addr} {H H' : Hp} (t : Tabbed P H H') (g : Tg Ps H) : Tg Ps H' := fun P' m => by
  by_cases e : P' = P
  · rw [e]
    exact t.1
  · obtain ⟨ps, h, k⟩ := g P' m
    exact ⟨ps, (t.2 P' e).trans h, k⟩
theorem Sts.tup {Ps : List Addr} {H H' : Hp} {t : Addr} {xs : List V} (s : Sts Ps H H') (g : Tg Ps H) (h : H t = some (.tup xs)) : H' t = some (.tup xs) := s _ _ (g.ne h fun _ e => by cases e) h
theorem Sts.lst {Ps : List Addr} {H H' : Hp} {t : Addr} {xs : List V} (s : Sts Ps H H') (g : Tg Ps H) (h : H t = some (.lst xs)) : H' t = some (.lst xs) := s _ _ (g.ne h fun _ e => by cases e) h
theorem Sts.fo {Ps : List Addr} {C a : Addr} {H H' : Hp} {l : List Int} (s : Sts Ps H H') (g : Tg Ps H) (h : Fo C H a l) : Fo C H' a l := by
  obtain ⟨dx, t, e1, e2, e3⟩ := h
  exact ⟨dx, t, s _ _ (g.ne e1 fun _ e => by cases e) e1, s _ _ (g.ne e2 fun _ e => by cases e) e2, s _ _ (g.ne e3 fun _ e => by cases e) e3⟩
theorem Sts.dc {Ps : List Addr} {d : Addr} {H H' : Hp} (s : Sts Ps H H') (g : Tg Ps H) (h : Dc H d) : Dc H' d := by
  obtain ⟨x, y, z, e⟩ := h
  exact ⟨x, y, z, s _ _ (g.ne e fun _ e => by cases e) e⟩
/-- dice and the tables -/
structure Dp (d : Addr) (Ps : List Addr) (H : Hp) : Prop where
  dd : Dc H d
  tt : Tg Ps H
theorem Dp.same {d : Addr} {Ps : List Addr} {H H' : Hp} (D : Dp d Ps H) (s : Same H H') : Dp d Ps H' := ⟨D.dd.same s, D.tt.same s⟩
theorem Dp.sx {d : Addr} {Ps : List Addr} {H H' : Hp} (D : Dp d Ps H) (s : Sx d H H') (h : Dc H' d) : Dp d Ps H' := ⟨h, D.tt.sx s D.dd⟩
theorem Dp.sp {d : Addr} {Ps : List Addr} {H H' : Hp} (D : Dp d Ps H) (s : Sts Ps H H') (h : Tg Ps H') : Dp d Ps H' := ⟨s.dc D.tt D.dd, h⟩
theorem Dp.tup {d : Addr} {Ps : List Addr} {H H' : Hp} {t : Addr} {xs : List V} (D : Dp d Ps H) (s : Sy d Ps H H') (h : H t = some (.tup xs)) : H' t = some (.tup xs) := s _ _ (dc_ne D.dd h) (D.tt.ne h fun _ e => by cases e) h
theorem Dp.fo {d : Addr} {Ps : List Addr} {H H' : Hp} {C a : Addr} {l : List Int} (D : Dp d Ps H) (s : Sy d Ps H H') (h : Fo C H a l) : Fo C H' a l := by
  obtain ⟨dx, t, e1, e2, e3⟩ := h
  obtain ⟨x, y, z, e⟩ := D.dd
  have nd : ∀ {b o}, H b = some o → (∀ l, o ≠ .lst l) → b ≠ d := fun h1 h2 q => by
    rw [q, e] at h1
    exact h2 _ (Option.some.inj h1).symm
  exact ⟨dx, t, s _ _ (nd e1 fun _ e => by cases e) (D.tt.ne e1 fun _ e => by cases e) e1, s _ _ (nd e2 fun _ e => by cases e) (D.tt.ne e2 fun _ e => by cases e) e2, s _ _ (nd e3 fun _ e => by cases e) (D.tt.ne e3 fun _ e => by cases e) e3⟩
theorem script_Sy {K : PySem.W.Frag} {d a : Addr} {Ps : List Addr} {H H' : Hp} {o : HO} {xs : List V} (s : Sy d Ps (upd H d o) H') (n : H d = none) (t : Tg Ps H) (h : SqL K H a xs) : SqL K H' a xs := by
  rcases h with (h | ⟨u, h⟩) | h
  · have ne : a ≠ d := ne_of_none h n
    exact .inl (.inl (s a _ ne (t.ne h fun _ e => by cases e) (by rw [upd_ne ne]; exact h)))
  · have ne : a ≠ d := ne_of_none h n
    exact .inl (.inr ⟨u, s a _ ne (t.ne h fun _ e => by cases e) (by rw [upd_ne ne]; exact h)⟩)
  · exact .inr h
def spLawT (K : PySem.W.Frag) (Ps : List Addr) : Sp := fun vs H Q _ => ∃ (a : Addr) (ns : List Int), vs = [.ref a] ∧ SqL K H a (ns.map V.int) ∧ ns.length ≤ 63 ∧ Tg Ps H ∧ ∀ H', Q (.bl true) H'
/-! ### cut and joined rows -/
theorem cat_rows {K : PySem.W.Frag} {a b : Addr} {H : Hp} {xs ys : List Int} {Q : VK} (ha : H a = some (tp xs)) (hb : H b = some (tp ys)) (hl : xs.length + ys.length ≤ 1000) (q : ∀ p H', Same H H' → H' p = some (tp (xs ++ ys)) → Q (.ref p) H') : rCatA K (.ref a) (.ref b) H Q := by
  refine ⟨a, b, _, _, rfl, rfl, SqT.of ha, SqT.of hb, ?_, fun e => ?_, fun _ e => ?_, fun _ _ p hp => ?_⟩
  · rw [List.length_map, List.length_map]
    have : 1000 ≤ sizeLine := by decide
    omega
  · have e := List.map_eq_nil_iff.mp e
    subst e
    exact q b H (Same.rf _) hb
  · have e := List.map_eq_nil_iff.mp e
    subst e
    exact q a H (Same.rf _) (by rw [List.append_nil]; exact ha)
  · refine q p _ (same_upd0 hp) ?_
    rw [upd_same]
    exact congrArg (fun z => some (HO.tup z)) List.map_append.symm
end K45

set_option Elab.async false
set_option linter.all false
set_option maxRecDepth 100000
set_option maxHeartbeats 2000000
/-! // by an int of any size, where the quotient is not too great: fewer than 4500 bits -/
namespace FDivQ
open PySem PySem.Spec PyProof.Rows L2
theorem noPylong_quot {x y : Int} (h : x.natAbs.log2 ≤ y.natAbs.log2 + 4470) : Builtin.divisionGoesByPylong x y = false := by
  show (decide ((if y == 0 then 0 else y.natAbs.log2 / 30 + 1) > 300) && decide ((if x == 0 then 0 else x.natAbs.log2 / 30 + 1) > (if y == 0 then 0 else y.natAbs.log2 / 30 + 1) + 150)) = false
  by_cases hy : (y == 0) = true
  · rw [if_pos hy]
    rfl
  · rw [if_neg hy]
    by_cases hx : (x == 0) = true
    · rw [if_pos hx]
      simp
    · rw [if_neg hx]
      have : ¬ (x.natAbs.log2 / 30 + 1 > y.natAbs.log2 / 30 + 1 + 150) := by omega
      rw [decide_eq_false this, Bool.and_false]
/-- a divisor other than 0 of fewer than 9000 bits, or a quotient of fewer than some 4470 -/
def CDivQ (i j : Int) : Prop := j ≠ 0 ∧ (j.natAbs.log2 < 9000 ∨ i.natAbs.log2 ≤ j.natAbs.log2 + 4470)
theorem op_fdivQ {X : Cx} : OpR X (binaryOp .FloorDiv) (rI CDivQ fun i j => .int (i.fdiv j)) := opI fun i j _ _ _ _ _ hc q =>
  floordiv_int hc.1 q (.inl (hc.2.elim PyProof.noPylong_of_log2 noPylong_quot))
/-- an exact quotient below 2 ^ 4470 -/
theorem CDivQ.exact {i j q : Int} (hj : j ≠ 0) (e : i = q * j) (hq : q.natAbs < 2 ^ 4470) : CDivQ i j := by
  refine ⟨hj, .inr ?_⟩
  by_cases h0 : i.natAbs = 0
  · rw [h0, Nat.log2_zero]
    exact Nat.zero_le _
  · have h1 : j.natAbs ≠ 0 := by omega
    have h2 : i.natAbs < 2 ^ (4470 + (j.natAbs.log2 + 1)) := by
      rw [e, Int.natAbs_mul, Nat.pow_add]
      exact Nat.mul_lt_mul'' hq Nat.lt_log2_self
    have := (Nat.log2_lt h0).mpr h2
    omega
end FDivQ

set_option Elab.async false
set_option linter.all false
/-! list(xs) of a list or a tuple, the fragment named (for comprehensions) -/
namespace ListOf
open PySem PySem.Spec PyProof.Rows L2
end ListOf

set_option Elab.async false
set_option linter.all false
set_option maxRecDepth 100000
set_option maxHeartbeats 4000000
set_option exponentiation.threshold 10000
namespace K45
open PySem PySem.Spec PyProof.Rows L2 StX RZ MyR SlX OwnR OwnF EnumT GxR GenNx FDivQ
def gl (l : List Int) : Nat := l.foldl (fun a x => Nat.gcd a x.natAbs) 0
theorem gl_snoc (l : List Int) (x : Int) : gl (l ++ [x]) = Nat.gcd (gl l) x.natAbs := by
  unfold gl
  rw [List.foldl_append]
  rfl
def foE (l : List Int) : Int := (l.find? (· != 0)).getD 0
theorem foE_of {l : List Int} {r : Int} (h : FirstOf (fun i => i != 0) l 0 r) : r = foE l := by
  unfold foE
  rcases h with ⟨h, rfl⟩ | ⟨i, h1, h2, h3⟩
  · have e : l.find? (· != 0) = none := List.find?_eq_none.mpr fun x hx => by
      obtain ⟨j, hj, e⟩ := List.mem_iff_getElem.mp hx
      have q : (x != 0) = false := h j x (by rw [List.getElem?_eq_getElem hj, e])
      rw [q]
      exact Bool.false_ne_true
    rw [e]
    rfl
  · obtain ⟨hi, e⟩ := List.getElem?_eq_some_iff.mp h1
    have e2 : l.find? (· != 0) = some r := List.find?_eq_some_iff_getElem.mpr ⟨h2, i, hi, e, fun j hj => by
      have q : (l[j] != 0) = false := h3 j _ hj (List.getElem?_eq_getElem (Nat.lt_trans hj hi))
      rw [q]
      rfl⟩
    rw [e2]
    rfl
abbrev ls (ns : List Int) : HO := .lst (ns.map V.int)
section
variable {P : Program} {w : World} {K : PySem.W.Frag} {mg : Str → Option Value} {base : Heap} {Ps : List Addr}
def spSharedL (K : PySem.W.Frag) : Sp := fun vs H Q _ => ∃ (t : Addr) (ns : List Int), vs = [.ref t] ∧ SqL K H t (ns.map V.int) ∧ Q (.int (gl ns : Nat)) H
theorem ok_shared_of (T : Facts K mg) : FnOk P w K mg base CX0 1 T.f_shared_of T.fd_shared_of ["numbers"] (spSharedL K) := by
  refine T.F_shared_of.ok sc_shared_of (fun vs H Q E h => ?_) (fun cdv A outer s H vs Q E hr h => ?_)
  · obtain ⟨t, ns, rfl, _⟩ := h
    rfl
  · obtain ⟨t, ns, rfl, ht, q⟩ := h
    refine ⟨_, (PSs.nox (pss_cons (ps_set (i := 1) sc_shared_of.nd rfl (.inl rfl) pe_int)
    (pss_cons (ps_for PassesOwn.never (by rfl) (pi_list (pv 0)) (pg_name (i := 2) sc_shared_of.nd rfl (.inl rfl))
      (pss_one (ps_set (i := 1) sc_shared_of.nd rfl (.inl rfl) (pe_callBfun cr_gcd (by rfl) T.m_gcd (pa_cons (pv 1) (pa_cons (pv 2) pa_nil))))))
    (pss_one (ps_ret (pv 1)))))), ?_⟩
    refine ⟨_, rfl, t, rfl, ⟨_, ht⟩, for_list (xs := ns.map V.int) (fun i σ H' => ∃ y, σ = [some (.ref t), some (.int ((gl (ns.take i) : Nat) : Int)), y] ∧ H' = H) ⟨none, rfl, rfl⟩ (fun i σ H' _ hP => by rw [hP.choose_spec.2]; exact ht) (fun i x σ H' hx hP => ?_) (fun σ H' hP => ?_)⟩
    · obtain ⟨y, rfl, rfl⟩ := hP
      obtain ⟨hi, rfl⟩ := int_get hx
      refine ⟨_, rfl, _, rfl, _, _, rfl, some (.int (co ns i)), ?_, rfl⟩
      rw [take_snoc hi, gl_snoc]
      rfl
    · obtain ⟨y, rfl, rfl⟩ := hP
      rw [List.length_map, List.take_length]
      exact ⟨_, rfl, q⟩
def spFirstOf (K : PySem.W.Frag) (Ps : List Addr) : Sp := fun vs H Q _ => ∃ (t : Addr) (l : List Int), vs = [.ref t] ∧ SqL K H t (l.map V.int) ∧ Tg Ps H ∧ ∀ H', Sts Ps H H' → Tg Ps H' → Q (.int (foE l)) H'
theorem ok_first_of (T : Facts K mg) (TB_first_of : TabB base mg T.c_first_of T.P_first_of) (hP : T.P_first_of ∈ Ps) : FnOk P w K mg base CX0 1 T.f_first_of T.fd_first_of ["numbers"] (spFirstOf K Ps) := by
  refine HookT.okC T.F_first_of sc_first_of (fun vs H Q E h => ?_) (fun A outer s H vs Q E hr h => ?_)
  · obtain ⟨t, l, rfl, _⟩ := h
    rfl
  · obtain ⟨t, l, rfl, ht, hG, q⟩ := h
    refine ⟨_, (PSs.nox (pss_one (ps_ret (GenNl.pe_nextL hr (by rfl) T.z_next TB_first_of T.code_first_of (GenNx.genS_of rfl rfl (by decide +kernel) rfl rfl) (pv 0) (GenNx.test_ne0 rfl rfl))))), ?_⟩
    refine ⟨_, rfl, t, l, rfl, ht, hG _ hP, fun r H2 hr2 hT => ?_⟩
    have q2 := q H2 (tbd_sts hT hP) (tbd_tg hT hG)
    rw [← foE_of hr2] at q2
    exact q2
end
theorem lc_zipL {K : PySem.W.Frag} {a b : Addr} {xs ys : List V} {g : TG} {tt : TT} {te : TE} {vs : List Nat} {σ : L2.St} {H1 : Hp} {D : Addr} {Qd : Hp → Prop} (hl : xs.length = ys.length) (Pv : Nat → Hp → Prop) (h0 : Pv 0 (upd H1 D (.lst []))) (hq : ∀ i H, i ≤ xs.length → Pv i H → SqL K H a xs ∧ SqL K H b ys)
    (hs : ∀ (i : Nat) (x y : V) (T : Addr) (H : Hp), xs[i]? = some x → ys[i]? = some y → Pv i H → H T = none → g (.ref T) (wipe σ vs) (upd H T (.tup [x, y])) fun σ2 H2 => wipe σ2 vs = wipe σ vs ∧ tt σ2 H2 fun b H3 =>
      if b = true then te σ2 H3 fun y H4 => ∃ acc, H4 D = some (.lst acc) ∧ acc.length < sizeLine ∧ Pv (i + 1) (upd H4 D (.lst (acc ++ [y]))) else Pv (i + 1) H3) (hd : ∀ H, Pv xs.length H → Qd H) :
    ∃ W : Nat → Nat → Hp → Prop, (∃ m, W 0 m (upd H1 D (.lst []))) ∧ ∀ i m H, W i m H →
      ((Itz K a b).stop i H ∧ Qd H) ∨ ((Itz K a b).go i H ∧ ∃ Nx : Hp → Prop, (∀ H', Nx H' → ∃ m', m' < m ∧ W (i + 1) m' H') ∧ ∀ x H', (Itz K a b).yld i H x H' → g x (wipe σ vs) H' fun σ2 H2 => wipe σ2 vs = wipe σ vs ∧ tt σ2 H2 fun b H3 =>
        if b = true then te σ2 H3 fun y H4 => ∃ acc, H4 D = some (.lst acc) ∧ acc.length < sizeLine ∧ Nx (upd H4 D (.lst (acc ++ [y]))) else Nx H3) := by
  refine ⟨fun i m H => m = xs.length - i ∧ i ≤ xs.length ∧ Pv i H, ⟨xs.length, by simp, Nat.zero_le _, h0⟩, ?_⟩
  rintro i m H ⟨rfl, hi, p⟩
  obtain ⟨qx, qy⟩ := hq i H hi p
  by_cases hlt : i < xs.length
  · have hlt2 : i < ys.length := by omega
    have hx : xs[i]? = some xs[i] := List.getElem?_eq_getElem hlt
    have hy : ys[i]? = some ys[i] := List.getElem?_eq_getElem hlt2
    refine .inr ⟨⟨xs, ys, _, _, qx, qy, hx, hy⟩, Pv (i + 1), fun H' p' => ⟨xs.length - (i + 1), by omega, rfl, hlt, p'⟩, fun v H' y => ?_⟩
    obtain ⟨T, x', y', rfl, hT, rfl, f1, f2⟩ := y
    exact hs i x' y' T H (f1 xs qx) (f2 ys qy) p hT
  · have e : i = xs.length := by omega
    subst e
    exact .inl ⟨⟨xs, ys, qx, qy, Or.inl (Nat.le_refl _)⟩, hd H p⟩
def dv (l : List Int) (c : Int) : List Int := l.map fun x => x.fdiv c
theorem dv_tb (l : List Int) (c : Int) : (tb l.length fun k => (co l k).fdiv c) = dv l c := tb_map (fun x => x.fdiv c) l
def primE (l : List Int) : List Int := if gl l = 0 then l else dv l (if 0 < foE l then (gl l : Int) else -(gl l : Int))
def DivOk (l : List Int) : Prop := gl l ≠ 0 → ∀ x ∈ l, CDivQ x (gl l)
theorem cdivQ_neg {i j : Int} (h : CDivQ i j) : CDivQ i (-j) := ⟨fun e => h.1 (by omega), by rw [Int.natAbs_neg]; exact h.2⟩
theorem co_memE {l : List Int} {k : Nat} (h : k < l.length) : co l k ∈ l := by
  rw [co_get h]
  exact List.getElem_mem h
section
variable {P : Program} {w : World} {K : PySem.W.Frag} {mg : Str → Option Value} {base : Heap} {Ps : List Addr}
def spPrimL (Ps : List Addr) : Sp := fun vs H Q _ => ∃ (t : Addr) (l : List Int), vs = [.ref t] ∧ H t = some (ls l) ∧ l.length ≤ 100 ∧ DivOk l ∧ Tg Ps H ∧ ∀ p H', Sts Ps H H' → Tg Ps H' → H' p = some (ls (primE l)) → Q (.ref p) H'
theorem ok_primitive_of (T : Facts K mg) (TB_first_of : TabB base mg T.c_first_of T.P_first_of) (hP : T.P_first_of ∈ Ps) : FnOk P w K mg base CX0 2 T.f_primitive_of T.fd_primitive_of ["numbers"] (spPrimL Ps) := by
  have G_shared_of : FnOk P w K mg base CX0 1 T.f_shared_of T.fd_shared_of ["numbers"] (spSharedL K) := ok_shared_of T
  have G_first_of := ok_first_of (P := P) (w := w) (base := base) T TB_first_of hP
  refine T.F_primitive_of.ok sc_primitive_of (fun vs H Q E h => ?_) (fun cdv A outer s H vs Q E hr h => ?_)
  · obtain ⟨t, l, rfl, _⟩ := h
    rfl
  · obtain ⟨t, l, rfl, ht, hl, hdo, hG, q⟩ := h
    refine ⟨_, (PSs.nox (pss_cons (ps_set (i := 1) sc_primitive_of.nd rfl (.inr rfl) (pe_call G_shared_of hr (by rfl) T.g_shared_of T.F_shared_of.kp T.b_shared_of .nil pass0 (pa_cons (pv 0) pa_nil)))
    (pss_cons (ps_if (pt_cmpR op_eq (pv 1) pe_int (nomark _))
      (pss_one (ps_ret (pe_callTy call_list_of (by rfl) T.z_list (by decide +kernel) (pa_cons (pv 0) pa_nil))))
      pss_nil)
    (pss_cons (ps_set (i := 1) sc_primitive_of.nd rfl (.inr rfl) (pe_ifExp (pt_cmpR op_gt (pe_call G_first_of hr (by rfl) T.g_first_of T.F_first_of.kp T.b_first_of .nil pass0 (pa_cons (pv 0) pa_nil)) pe_int (nomark _)) (pv 1) (pe_un un_neg (pv 1))))
    (pss_one (ps_ret (pe_lc (own := [("number", 2)]) (g := (gName 2)) (tt := tYes) (by rfl) sc_primitive_of.nd (pi_list (pv 0)) (blkOk_by (N := N_primitive_of) (sc := defScope s_primitive_of) (by decide +kernel)) (fun _ _ _ _ _ => (pg_name (i := 2) sc_primitive_of.nd rfl (.inl rfl))) (fun _ _ _ _ _ => pts_nil) (fun _ _ _ _ _ => (pe_op FDivQ.op_fdivQ (pv 2) (pv 1)))))))))), ?_⟩
    refine ⟨_, rfl, t, l, rfl, SqL.of ht, _, rfl, rfl, _, rfl, ?_⟩
    by_cases c : gl l = 0
    · rw [decide_eq_true (show V.int ((gl l : Nat) : Int) = V.int 0 by rw [c]; rfl)]
      refine iteT ⟨_, rfl, t, l.map V.int, rfl, .inl (SqL.of ht), fun p hp => q p _ (Sts.of (same_upd0 hp)) (hG.same (same_upd0 hp)) ?_⟩
      unfold primE
      rw [if_pos c]
      exact upd_same
    · rw [decide_eq_false fun z => c (Int.natCast_eq_zero.mp (V.int.inj z))]
      refine iteF ⟨_, rfl, t, l, rfl, SqL.of ht, hG, fun H1 s1 g1 => ?_⟩
      have ht1 := s1.lst hG ht
      have fin : ∀ c2 : Int, primE l = dv l c2 → (∀ x ∈ l, CDivQ x c2) → ∀ D, H1 D = none → ∃ W : Nat → Nat → Hp → Prop, (∃ m, W 0 m (upd H1 D (.lst []))) ∧ ∀ i m H, W i m H →
          ((Itl K t).stop i H ∧ Q (.ref D) H) ∨ ((Itl K t).go i H ∧ ∃ Nx : Hp → Prop, (∀ H', Nx H' → ∃ m', m' < m ∧ W (i + 1) m' H') ∧ ∀ x H', (Itl K t).yld i H x H' → gName 2 x (wipe (List.set (L2.start N_primitive_of [V.ref t]) 1 (some (V.int c2))) [2]) H' fun σ2 H2 => wipe σ2 [2] = wipe (List.set (L2.start N_primitive_of [V.ref t]) 1 (some (V.int c2))) [2] ∧ tYes σ2 H2 fun b H3 =>
            if b = true then tOp (rI CDivQ fun i j => V.int (i.fdiv j)) (tVar 2) (tVar 1) σ2 H3 fun y H4 => ∃ acc, H4 D = some (.lst acc) ∧ acc.length < sizeLine ∧ Nx (upd H4 D (.lst (acc ++ [y]))) else Nx H3) := fun c2 e hc D hD => by
        refine lc_list (xs := l.map V.int) (fun j H' => H' = upd H1 D (.lst (tab j fun k => (co l k).fdiv c2))) rfl (fun j H' _ hP => ?_) (fun j x H' hx hP => ?_) (fun H' hP => ?_)
        · rw [hP]
          exact SqL.of (same_upd0 hD _ _ ht1)
        · subst hP
          obtain ⟨hj, rfl⟩ := int_get hx
          refine ⟨rfl, _, rfl, _, rfl, _, _, rfl, rfl, hc _ (co_memE hj), _, upd_same, ?_, ?_⟩
          · rw [tab_len]
            exact small1000 (by omega)
          · rw [upd_upd, ← tab_snoc]
        · subst hP
          rw [List.length_map]
          refine q D _ (s1.trans (Sts.of (same_upd0 hD))) (g1.same (same_upd0 hD)) ?_
          rw [upd_same, tab_tb, dv_tb, e]
      refine ⟨_, _, rfl, rfl, _, rfl, ?_⟩
      by_cases d : 0 < foE l
      · rw [decide_eq_true d]
        refine iteT ⟨_, rfl, _, rfl, t, rfl, ⟨_, SqL.of ht1⟩, fin _ ?_ (hdo c)⟩
        unfold primE
        rw [if_neg c, if_pos d]
      · rw [decide_eq_false d]
        refine iteF ⟨_, rfl, _, rfl, _, rfl, t, rfl, ⟨_, SqL.of ht1⟩, fin _ ?_ fun x hx => cdivQ_neg (hdo c x hx)⟩
        unfold primE
        rw [if_neg c, if_neg d]
def lf (row head : List Int) (p : Nat) : List Int :=
  tb row.length fun k => co row k * (co head p).fdiv (Nat.gcd (co head p).natAbs (co row p).natAbs : Nat) - (co row p).fdiv (Nat.gcd (co head p).natAbs (co row p).natAbs : Nat) * co head k
def less (row head : List Int) (p : Nat) : List Int := if co row p = 0 then row else if 1 < gl (lf row head p) then dv (lf row head p) (gl (lf row head p)) else lf row head p
structure LessOk (row head : List Int) (p : Nat) : Prop where
  c1 : CDivQ (co head p) (Nat.gcd (co head p).natAbs (co row p).natAbs : Nat)
  c2 : CDivQ (co row p) (Nat.gcd (co head p).natAbs (co row p).natAbs : Nat)
  m1 : ∀ k, k < row.length → CMulW (co row k) ((co head p).fdiv (Nat.gcd (co head p).natAbs (co row p).natAbs : Nat))
  m2 : ∀ k, k < row.length → CMulW ((co row p).fdiv (Nat.gcd (co head p).natAbs (co row p).natAbs : Nat)) (co head k)
  d : DivOk (lf row head p)
theorem sz2 : 2 ≤ sizeLine := by decide
end
def lless (row head : List Int) (p : Nat) : List Int := if 1 < gl (lf row head p) then dv (lf row head p) (gl (lf row head p)) else lf row head p
theorem lc_enumL {K : PySem.W.Frag} {a : Addr} {xs : List V} {g : TG} {tt : TT} {te : TE} {vs : List Nat} {σ : L2.St} {H1 : Hp} {D : Addr} {Qd : Hp → Prop} (Pv : Nat → Hp → Prop) (h0 : Pv 0 (upd H1 D (.lst []))) (hq : ∀ i H, i ≤ xs.length → Pv i H → SqL K H a xs)
    (hs : ∀ (i : Nat) (x : V) (T : Addr) (H : Hp), xs[i]? = some x → Pv i H → H T = none → g (.ref T) (wipe σ vs) (upd H T (.tup [.int (i : Nat), x])) fun σ2 H2 => wipe σ2 vs = wipe σ vs ∧ tt σ2 H2 fun b H3 =>
      if b = true then te σ2 H3 fun y H4 => ∃ acc, H4 D = some (.lst acc) ∧ acc.length < sizeLine ∧ Pv (i + 1) (upd H4 D (.lst (acc ++ [y]))) else Pv (i + 1) H3) (hd : ∀ H, Pv xs.length H → Qd H) :
    ∃ W : Nat → Nat → Hp → Prop, (∃ m, W 0 m (upd H1 D (.lst []))) ∧ ∀ i m H, W i m H →
      ((Ite K a).stop i H ∧ Qd H) ∨ ((Ite K a).go i H ∧ ∃ Nx : Hp → Prop, (∀ H', Nx H' → ∃ m', m' < m ∧ W (i + 1) m' H') ∧ ∀ x H', (Ite K a).yld i H x H' → g x (wipe σ vs) H' fun σ2 H2 => wipe σ2 vs = wipe σ vs ∧ tt σ2 H2 fun b H3 =>
        if b = true then te σ2 H3 fun y H4 => ∃ acc, H4 D = some (.lst acc) ∧ acc.length < sizeLine ∧ Nx (upd H4 D (.lst (acc ++ [y]))) else Nx H3) := by
  refine ⟨fun i m H => m = xs.length - i ∧ i ≤ xs.length ∧ Pv i H, ⟨xs.length, by simp, Nat.zero_le _, h0⟩, ?_⟩
  rintro i m H ⟨rfl, hi, p⟩
  have qx := hq i H hi p
  by_cases hlt : i < xs.length
  · have hx : xs[i]? = some xs[i] := List.getElem?_eq_getElem hlt
    refine .inr ⟨⟨xs, _, qx, hx⟩, Pv (i + 1), fun H' p' => ⟨xs.length - (i + 1), by omega, rfl, hlt, p'⟩, fun v H' y => ?_⟩
    obtain ⟨T, x', rfl, hT, rfl, f1⟩ := y
    exact hs i x' T H (f1 xs qx) p hT
  · have e : i = xs.length := by omega
    subst e
    exact .inl ⟨⟨xs, qx, Nat.le_refl _⟩, hd H p⟩
theorem ne_lintsL {K : PySem.W.Frag} {H : Hp} {a b : Addr} {xs ys : List Int} {Q : VK} (ha : SqL K H a (xs.map V.int)) (hb : SqL K H b (ys.map V.int)) (q : Q (.bl (!decide (xs = ys))) H) : rNeD K (.ref a) (.ref b) H Q := by
  refine ⟨.list (xs.map PyData.int), .list (ys.map PyData.int), .lst ha (dpAll_ints xs), .lst hb (dpAll_ints ys), shaped_lints xs, shaped_lints ys, ?_⟩
  rw [show PyData.eqv (.list (xs.map PyData.int)) (.list (ys.map PyData.int)) = decide (xs = ys) from eqvAll_ints xs ys]
  exact q
def RX (p : Addr → List Int → Prop) : List Addr → List (List Int) → Prop
  | [], [] => True
  | a :: as, r :: rs => p a r ∧ RX p as rs
  | _, _ => False
theorem RX.len {p : Addr → List Int → Prop} : ∀ {as : List Addr} {rs : List (List Int)}, RX p as rs → as.length = rs.length
  | [], [], _ => rfl
  | a :: as, r :: rs, h => congrArg (· + 1) (RX.len h.2)
theorem RX.imp {p q : Addr → List Int → Prop} (f : ∀ a r, p a r → q a r) : ∀ {as : List Addr} {rs : List (List Int)}, RX p as rs → RX q as rs
  | [], [], _ => True.intro
  | a :: as, r :: rs, h => ⟨f _ _ h.1, RX.imp f h.2⟩
theorem RX.app {p : Addr → List Int → Prop} {bs : List Addr} {ss : List (List Int)} (g : RX p bs ss) : ∀ {as : List Addr} {rs : List (List Int)}, RX p as rs → RX p (as ++ bs) (rs ++ ss)
  | [], [], _ => g
  | a :: as, r :: rs, h => ⟨h.1, RX.app g h.2⟩
theorem RX.get {p : Addr → List Int → Prop} : ∀ {as : List Addr} {rs : List (List Int)} {i : Nat}, RX p as rs → i < rs.length → ∃ a r, as[i]? = some a ∧ rs[i]? = some r ∧ p a r
  | [], [], _, _, h => absurd h (Nat.not_lt_zero _)
  | a :: as, r :: rs, 0, h, _ => ⟨a, r, rfl, rfl, h.1⟩
  | a :: as, r :: rs, i + 1, h, hi => by
    obtain ⟨b, s, e1, e2, k⟩ := RX.get (i := i) h.2 (Nat.lt_of_succ_lt_succ hi)
    exact ⟨b, s, by rw [List.getElem?_cons_succ]; exact e1, by rw [List.getElem?_cons_succ]; exact e2, k⟩
theorem RX.snoc {p : Addr → List Int → Prop} {as : List Addr} {rs : List (List Int)} {a : Addr} {r : List Int} (h : RX p as rs) (k : p a r) : RX p (as ++ [a]) (rs ++ [r]) := RX.app (bs := [a]) (ss := [r]) ⟨k, True.intro⟩ h
def RR (H : Hp) : List Addr → List (List Int) → Prop := RX fun a r => H a = some (ls r)
def RA (H : Hp) : List Addr → List (List Int) → Prop := RX fun a r => H a = some (tp r) ∨ H a = some (ls r)
def RT (H : Hp) : List Addr → List (List Int) → Prop := RX fun a r => H a = some (tp r)
theorem RR.same {H H' : Hp} {as : List Addr} {rs : List (List Int)} (h : RR H as rs) (s : Same H H') : RR H' as rs := RX.imp (fun a r e => s _ _ e) h
theorem RA.same {H H' : Hp} {as : List Addr} {rs : List (List Int)} (h : RA H as rs) (s : Same H H') : RA H' as rs := RX.imp (fun a r e => e.imp (s _ _) (s _ _)) h
theorem RX.impM {p q : Addr → List Int → Prop} : ∀ {as : List Addr} {rs : List (List Int)}, (∀ a ∈ as, ∀ r, p a r → q a r) → RX p as rs → RX q as rs
  | [], [], _, _ => True.intro
  | a :: as, r :: rs, f, h => ⟨f a List.mem_cons_self r h.1, RX.impM (fun b hb => f b (List.mem_cons_of_mem _ hb)) h.2⟩
theorem row_ne {H : Hp} {b D : Addr} {r : List Int} {xs : List Addr} (h : H b = some (ls r)) (hD : H D = some (.lst (xs.map V.ref))) (hx : xs ≠ []) : b ≠ D := fun e => by
  rw [e, hD] at h
  have h := HO.lst.inj (Option.some.inj h)
  cases xs with
  | nil => exact hx rfl
  | cons x xs =>
    cases r with
    | nil => cases h
    | cons y r => cases h
theorem RR.upd {H : Hp} {D : Addr} {o : HO} {xs as : List Addr} {rs : List (List Int)} (h : RR H as rs) (hD : H D = some (.lst (xs.map V.ref))) (hx : as ≠ [] → xs ≠ []) : RR (L2.upd H D o) as rs :=
  RX.impM (fun a ha r e => by rw [upd_ne (row_ne e hD (hx fun z => by rw [z] at ha; cases ha))]; exact e) h
def hix (left : List (List Int)) (p : Nat) : Option Nat := left.findIdx? fun r => co r p != 0
def stp (le : List Int → List Int → Nat → List Int) (p : Nat) (s : List (List Int) × List (List Int)) : List (List Int) × List (List Int) := match hix s.1 p with
  | none => s
  | some h => ((s.1.eraseIdx h).map fun r => le r (s.1.getD h []) p, (s.2.map fun r => le r (s.1.getD h []) p) ++ [s.1.getD h []])
def eS (le : List Int → List Int → Nat → List Int) (rows : List (List Int)) : Nat → List (List Int) × List (List Int)
  | 0 => (rows, [])
  | p + 1 => stp le p (eS le rows p)
def ech (le : List Int → List Int → Nat → List Int) (rows : List (List Int)) (w : Nat) : List (List Int) := (eS le rows w).2.map primE
structure EOk (le : List Int → List Int → Nat → List Int) (rows : List (List Int)) (w : Nat) : Prop where
  d : ∀ r ∈ (eS le rows w).2, DivOk r
  l : ∀ p, p < w → ∀ h, hix (eS le rows p).1 p = some h → ∀ r, (r ∈ (eS le rows p).1.eraseIdx h ∨ r ∈ (eS le rows p).2) → LessOk r ((eS le rows p).1.getD h []) p
theorem primE_len (l : List Int) : (primE l).length = l.length := by
  unfold primE dv
  split
  · rfl
  · rw [List.length_map]
theorem less_len (row head : List Int) (p : Nat) : (less row head p).length = row.length := by
  unfold less dv lf
  split
  · rfl
  · split
    · rw [List.length_map, tb_len]
    · rw [tb_len]
theorem stp_none {le : List Int → List Int → Nat → List Int} {p : Nat} {s : List (List Int) × List (List Int)} (h : hix s.1 p = none) : stp le p s = s := by
  unfold stp
  rw [h]
theorem stp_some {le : List Int → List Int → Nat → List Int} {p h : Nat} {s : List (List Int) × List (List Int)} (e : hix s.1 p = some h) : stp le p s = ((s.1.eraseIdx h).map fun r => le r (s.1.getD h []) p, (s.2.map fun r => le r (s.1.getD h []) p) ++ [s.1.getD h []]) := by
  unfold stp
  rw [e]
section
variable {P : Program} {w : World} {K : PySem.W.Frag} {mg : Str → Option Value} {base : Heap} {Ps : List Addr}
end
def ld (r : List Int) : Nat := r.findIdx (· != 0)
section
variable {P : Program} {w : World} {K : PySem.W.Frag} {mg : Str → Option Value} {base : Heap} {Ps : List Addr}
end
end K45

set_option Elab.async false
set_option linter.all false
/-! linear algebra over the integers, up to factors: spans, independence, numbers of rows -/
namespace LA
/-- sums -/
def S : Nat → (Nat → Int) → Int
  | 0, _ => 0
  | n + 1, f => S n f + f n
theorem S_congr {f g : Nat → Int} : ∀ {n : Nat}, (∀ i, i < n → f i = g i) → S n f = S n g
  | 0, _ => rfl
  | n + 1, h => by
    show S n f + f n = S n g + g n
    rw [S_congr fun i hi => h i (Nat.lt_succ_of_lt hi), h n (Nat.lt_succ_self n)]
theorem S_zero {f : Nat → Int} {n : Nat} (h : ∀ i, i < n → f i = 0) : S n f = 0 := by
  induction n with
  | zero => rfl
  | succ n ih =>
    show S n f + f n = 0
    rw [ih fun i hi => h i (Nat.lt_succ_of_lt hi), h n (Nat.lt_succ_self n)]
    rfl
theorem S_add (f g : Nat → Int) : ∀ n, S n (fun i => f i + g i) = S n f + S n g
  | 0 => rfl
  | n + 1 => by
    show S n _ + (f n + g n) = (S n f + f n) + (S n g + g n)
    rw [S_add f g n]
    omega
theorem S_mul (c : Int) (f : Nat → Int) : ∀ n, S n (fun i => c * f i) = c * S n f
  | 0 => (Int.mul_zero c).symm
  | n + 1 => by
    show S n _ + c * f n = c * (S n f + f n)
    rw [S_mul c f n, Int.mul_add]
theorem S_mulr (c : Int) (f : Nat → Int) (n : Nat) : S n (fun i => f i * c) = S n f * c := by
  rw [Int.mul_comm (S n f) c, ← S_mul c f n]
  exact S_congr fun i _ => Int.mul_comm _ _
theorem S_swap (f : Nat → Nat → Int) (m : Nat) : ∀ n, S n (fun i => S m (fun k => f i k)) = S m (fun k => S n (fun i => f i k))
  | 0 => (S_zero fun i _ => rfl).symm
  | n + 1 => by
    show S n _ + S m _ = _
    rw [S_swap f m n, ← S_add]
    rfl
/-- one alone -/
theorem S_one {f : Nat → Int} {n p : Nat} (hp : p < n) (h : ∀ i, i < n → i ≠ p → f i = 0) : S n f = f p := by
  induction n with
  | zero => exact absurd hp (Nat.not_lt_zero _)
  | succ n ih =>
    show S n f + f n = f p
    by_cases c : p = n
    · subst c
      rw [S_zero fun i hi => h i (Nat.lt_succ_of_lt hi) (Nat.ne_of_lt hi), Int.zero_add]
    · rw [ih (by omega) fun i hi hne => h i (Nat.lt_succ_of_lt hi) hne, h n (Nat.lt_succ_self n) (Ne.symm c), Int.add_zero]
/-- all but one: i, or i + 1 from p on -/
def sk (p i : Nat) : Nat := if i < p then i else i + 1
theorem S_skip (f : Nat → Int) (p : Nat) : ∀ n, p ≤ n → S (n + 1) f = f p + S n fun i => f (sk p i)
  | 0, h => by
    have : p = 0 := by omega
    subst this
    show 0 + f 0 = f 0 + 0
    omega
  | n + 1, h => by
    by_cases c : p = n + 1
    · subst c
      show S (n + 1) f + f (n + 1) = _
      rw [Int.add_comm]
      congr 1
      exact S_congr fun i hi => by
        unfold sk
        rw [if_pos hi]
    · show S (n + 1) f + f (n + 1) = f p + (S n (fun i => f (sk p i)) + f (sk p n))
      rw [S_skip f p n (by omega), show sk p n = n + 1 by unfold sk; rw [if_neg (by omega)]]
      omega
/-- more vectors than columns: they hang on one another -/
theorem dep : ∀ (m n : Nat) (x : Nat → Nat → Int), m < n → ∃ y : Nat → Int, (∃ i, i < n ∧ y i ≠ 0) ∧ ∀ j, j < m → S n (fun i => y i * x i j) = 0
  | 0, n, x, h => ⟨fun _ => 1, ⟨0, h, by decide⟩, fun j hj => absurd hj (Nat.not_lt_zero _)⟩
  | m + 1, n, x, h => by
    by_cases c : ∀ i, i < n → x i m = 0
    · obtain ⟨y, hy, he⟩ := dep m n x (by omega)
      refine ⟨y, hy, fun j hj => ?_⟩
      by_cases e : j = m
      · subst e
        exact S_zero fun i hi => by rw [c i hi, Int.mul_zero]
      · exact he j (by omega)
    · obtain ⟨p, hp⟩ := Classical.not_forall.mp c
      obtain ⟨hpn, hp0⟩ : p < n ∧ x p m ≠ 0 := ⟨Classical.byContradiction fun z => hp fun a => absurd a z, fun z => hp fun _ => z⟩
      obtain ⟨n', rfl⟩ : ∃ n', n = n' + 1 := ⟨n - 1, by omega⟩
      obtain ⟨y, ⟨i0, hi0, hy0⟩, he⟩ := dep m n' (fun i j => x p m * x (sk p i) j - x (sk p i) m * x p j) (by omega)
      have back : ∀ i, (if sk p i < p then sk p i else sk p i - 1) = i ∧ sk p i ≠ p := fun i => by
        unfold sk
        by_cases z : i < p
        · rw [if_pos z, if_pos z]
          exact ⟨rfl, by omega⟩
        · rw [if_neg z, if_neg (by omega)]
          exact ⟨by omega, by omega⟩
      let Y : Nat → Int := fun k => if k = p then - S n' (fun i => y i * x (sk p i) m) else x p m * y (if k < p then k else k - 1)
      have Yp : Y p = - S n' (fun i => y i * x (sk p i) m) := if_pos rfl
      have Ys : ∀ i, Y (sk p i) = x p m * y i := fun i => by
        show (if sk p i = p then _ else _) = _
        rw [if_neg (back i).2, (back i).1]
      refine ⟨Y, ⟨sk p i0, by unfold sk; split <;> omega, by rw [Ys]; exact Int.mul_ne_zero hp0 hy0⟩, fun j hj => ?_⟩
      have e0 : S n' (fun i => Y (sk p i) * x (sk p i) j) = S n' (fun i => x p m * y i * x (sk p i) j) := S_congr fun i _ => by rw [Ys i]
      rw [S_skip _ p n' (by omega), e0]
      show Y p * x p j + _ = 0
      rw [Yp]
      have e1 : S n' (fun i => x p m * y i * x (sk p i) j) = S n' (fun i => y i * (x p m * x (sk p i) j - x (sk p i) m * x p j)) + S n' (fun i => y i * x (sk p i) m) * x p j := by
        rw [← S_mulr, ← S_add]
        exact S_congr fun i _ => by grind
      rw [e1]
      by_cases e : j = m
      · subst e
        rw [S_zero (f := fun i => y i * (x p j * x (sk p i) j - x (sk p i) j * x p j)) fun i _ => by rw [Int.mul_comm (x p j), Int.sub_self, Int.mul_zero]]
        grind
      · rw [he j (by omega)]
        grind
/-- v, times a number other than 0, is a sum of multiples of m rows -/
def Sp (w m : Nat) (B : Nat → Nat → Int) (v : Nat → Int) : Prop := ∃ c : Int, c ≠ 0 ∧ ∃ a : Nat → Int, ∀ j, j < w → c * v j = S m (fun k => a k * B k j)
def Ind (w n : Nat) (A : Nat → Nat → Int) : Prop := ∀ a : Nat → Int, (∀ j, j < w → S n (fun i => a i * A i j) = 0) → ∀ i, i < n → a i = 0
/-- independent rows are not more than rows whose span holds them -/
theorem steinitz {w n m : Nat} {A B : Nat → Nat → Int} (hI : Ind w n A) (h : ∀ i, i < n → Sp w m B (A i)) : n ≤ m := by
  by_cases c : n ≤ m
  · exact c
  · exfalso
    have h' : ∀ i, ∃ c : Int, i < n → c ≠ 0 ∧ ∃ a : Nat → Int, ∀ j, j < w → c * A i j = S m (fun k => a k * B k j) := fun i => by
      by_cases hi : i < n
      · obtain ⟨c, hc, a, ha⟩ := h i hi
        exact ⟨c, fun _ => ⟨hc, a, ha⟩⟩
      · exact ⟨0, fun z => absurd z hi⟩
    obtain ⟨C, hC⟩ := Classical.axiomOfChoice h'
    have h2 : ∀ i, ∃ a : Nat → Int, i < n → ∀ j, j < w → C i * A i j = S m (fun k => a k * B k j) := fun i => by
      by_cases hi : i < n
      · obtain ⟨_, a, ha⟩ := hC i hi
        exact ⟨a, fun _ => ha⟩
      · exact ⟨fun _ => 0, fun z => absurd z hi⟩
    obtain ⟨a, ha⟩ := Classical.axiomOfChoice h2
    obtain ⟨y, ⟨i0, hi0, hy⟩, he⟩ := dep m n a (by omega)
    have z := hI (fun i => y i * C i) (fun j hj => by
      have e1 : S n (fun i => y i * C i * A i j) = S n (fun i => S m (fun k => y i * a i k * B k j)) := S_congr fun i hi => by
        rw [Int.mul_assoc, ha i hi j hj, ← S_mul]
        exact S_congr fun k _ => by rw [Int.mul_assoc]
      rw [e1, S_swap]
      exact S_zero fun k hk => by rw [S_mulr, he k hk, Int.zero_mul]) i0 hi0
    exact Int.mul_ne_zero hy (hC i0 hi0).1 z
theorem Sp.own {w m : Nat} {B : Nat → Nat → Int} {k : Nat} (hk : k < m) : Sp w m B (B k) := ⟨1, by decide, fun i => if i = k then 1 else 0, fun j _ => by
  rw [Int.one_mul, S_one hk fun i _ hne => by
    show (if i = k then (1 : Int) else 0) * B i j = 0
    rw [if_neg hne, Int.zero_mul]]
  show B k j = (if k = k then (1 : Int) else 0) * B k j
  rw [if_pos rfl, Int.one_mul]⟩
theorem Sp.zero {w m : Nat} {B : Nat → Nat → Int} {v : Nat → Int} (h : ∀ j, j < w → v j = 0) : Sp w m B v := ⟨1, by decide, fun _ => 0, fun j hj => by
  rw [h j hj, S_zero fun i _ => Int.zero_mul _]
  rfl⟩
theorem Sp.lin {w m : Nat} {B : Nat → Nat → Int} {u v : Nat → Int} (α β : Int) (h : Sp w m B u) (g : Sp w m B v) : Sp w m B fun j => α * u j + β * v j := by
  obtain ⟨c, hc, a, ha⟩ := h
  obtain ⟨d, hd, b, hb⟩ := g
  refine ⟨c * d, Int.mul_ne_zero hc hd, fun k => α * d * a k + β * c * b k, fun j hj => ?_⟩
  have e : S m (fun k => (α * d * a k + β * c * b k) * B k j) = α * d * S m (fun k => a k * B k j) + β * c * S m (fun k => b k * B k j) := by
    rw [← S_mul, ← S_mul, ← S_add]
    exact S_congr fun k _ => by grind
  rw [e, ← ha j hj, ← hb j hj]
  grind
theorem Sp.div {w m : Nat} {B : Nat → Nat → Int} {u v : Nat → Int} {c : Int} (hc : c ≠ 0) (h : Sp w m B u) (e : ∀ j, j < w → c * v j = u j) : Sp w m B v := by
  obtain ⟨d, hd, a, ha⟩ := h
  exact ⟨d * c, Int.mul_ne_zero hd hc, a, fun j hj => by rw [Int.mul_assoc, e j hj]; exact ha j hj⟩
theorem Sp.sum {w m' : Nat} {B B' : Nat → Nat → Int} (a : Nat → Int) : ∀ {m : Nat}, (∀ k, k < m → Sp w m' B' (B k)) → Sp w m' B' fun j => S m (fun k => a k * B k j)
  | 0, _ => .zero fun j _ => rfl
  | m + 1, h => by
    have q := Sp.lin 1 (a m) (Sp.sum a fun k hk => h k (Nat.lt_succ_of_lt hk)) (h m (Nat.lt_succ_self m))
    exact .div (c := 1) (by decide) q fun j _ => by rw [Int.one_mul, Int.one_mul]; rfl
/-- what is in the span of rows that are in a span -/
theorem Sp.trans {w m m' : Nat} {B B' : Nat → Nat → Int} {v : Nat → Int} (h : Sp w m B v) (g : ∀ k, k < m → Sp w m' B' (B k)) : Sp w m' B' v := by
  obtain ⟨c, hc, a, ha⟩ := h
  exact .div hc (Sp.sum a g) ha
/-- one factor for all -/
theorem common {w r : Nat} {E A : Nat → Nat → Int} : ∀ {n : Nat}, (∀ i, i < n → Sp w r E (A i)) → ∃ c : Int, c ≠ 0 ∧ ∃ a : Nat → Nat → Int, ∀ i, i < n → ∀ j, j < w → c * A i j = S r (fun k => a i k * E k j)
  | 0, _ => ⟨1, by decide, fun _ _ => 0, fun i hi => absurd hi (Nat.not_lt_zero _)⟩
  | n + 1, h => by
    obtain ⟨c, hc, a, ha⟩ := common (n := n) fun i hi => h i (Nat.lt_succ_of_lt hi)
    obtain ⟨d, hd, b, hb⟩ := h n (Nat.lt_succ_self n)
    refine ⟨c * d, Int.mul_ne_zero hc hd, fun i k => if i = n then c * b k else d * a i k, fun i hi j hj => ?_⟩
    by_cases e : i = n
    · subst e
      rw [S_congr (g := fun k => c * (b k * E k j)) fun k _ => by
        show (if i = i then c * b k else d * a i k) * E k j = _
        rw [if_pos rfl, Int.mul_assoc], S_mul, ← hb j hj, Int.mul_assoc]
    · rw [S_congr (g := fun k => d * (a i k * E k j)) fun k _ => by
        show (if i = n then c * b k else d * a i k) * E k j = _
        rw [if_neg e, Int.mul_assoc], S_mul, ← ha i (by omega) j hj, Int.mul_comm c d, Int.mul_assoc]
/-- rows with leads: E i is the only one that is not 0 at its lead -/
structure Ech (w r : Nat) (E : Nat → Nat → Int) (lead : Nat → Nat) : Prop where
  lt : ∀ i, i < r → lead i < w
  nz : ∀ i, i < r → E i (lead i) ≠ 0
  z : ∀ i k, i < r → k < r → k ≠ i → E k (lead i) = 0
theorem Ech.ind {w r : Nat} {E : Nat → Nat → Int} {lead : Nat → Nat} (h : Ech w r E lead) : Ind w r E := fun a ha i hi => by
  have e := ha (lead i) (h.lt i hi)
  rw [S_one hi fun k hk hne => by rw [h.z i k hi hk hne, Int.mul_zero]] at e
  rcases Int.mul_eq_zero.mp e with z | z
  · exact z
  · exact absurd z (h.nz i hi)
/-- the rows of A have the base E -/
structure Base (w n : Nat) (A : Nat → Nat → Int) (r : Nat) (E : Nat → Nat → Int) : Prop where
  ind : Ind w r E
  of : ∀ k, k < r → Sp w n A (E k)
  to : ∀ i, i < n → Sp w r E (A i)
theorem Base.same {w n r r' : Nat} {A E E' : Nat → Nat → Int} (h : Base w n A r E) (g : Base w n A r' E') : r = r' :=
  Nat.le_antisymm (steinitz h.ind fun k hk => (h.of k hk).trans g.to) (steinitz g.ind fun k hk => (g.of k hk).trans h.to)
/-- columns have no greater number -/
theorem Base.col {w n r r' : Nat} {A E E' : Nat → Nat → Int} (h : Base w n A r E) (g : Base n w (fun j i => A i j) r' E') : r' ≤ r := by
  obtain ⟨c, hc, a, ha⟩ := common h.to
  refine steinitz g.ind fun k hk => (g.of k hk).trans (B' := fun k i => a i k) fun j hj => ⟨c, hc, fun k => E k j, fun i hi => ?_⟩
  rw [ha i hi j hj]
  exact S_congr fun k _ => Int.mul_comm _ _
theorem Base.turned {w n r r' : Nat} {A E E' : Nat → Nat → Int} (h : Base w n A r E) (g : Base n w (fun j i => A i j) r' E') : r = r' :=
  Nat.le_antisymm (g.col h) (h.col g)
/-- rows that are sums of multiples of others -/
theorem Base.le {w n m r r' : Nat} {A B E E' : Nat → Nat → Int} (h : Base w n A r E) (g : Base w m B r' E') (s : ∀ i, i < n → Sp w m B (A i)) : r ≤ r' :=
  steinitz h.ind fun k hk => ((h.of k hk).trans s).trans g.to
theorem Base.ind_all {w n r : Nat} {A E : Nat → Nat → Int} (h : Base w n A r E) (hA : Ind w n A) : r = n :=
  Nat.le_antisymm (steinitz h.ind h.of) (steinitz hA h.to)
/-- what is 0 on rows is 0 on their span -/
theorem Sp.perp {w m : Nat} {B : Nat → Nat → Int} {v x : Nat → Int} (h : Sp w m B v) (hz : ∀ k, k < m → S w (fun j => x j * B k j) = 0) : S w (fun j => x j * v j) = 0 := by
  obtain ⟨c, hc, a, ha⟩ := h
  have e : c * S w (fun j => x j * v j) = 0 := by
    rw [← S_mul, S_congr (g := fun j => S m (fun k => a k * (x j * B k j))) fun j hj => by
      rw [← Int.mul_assoc, Int.mul_comm c, Int.mul_assoc, ha j hj, ← S_mul]
      exact S_congr fun k _ => by rw [← Int.mul_assoc, Int.mul_comm (x j), Int.mul_assoc], S_swap]
    exact S_zero fun k hk => by rw [S_mul, hz k hk, Int.mul_zero]
  exact (Int.mul_eq_zero.mp e).resolve_left hc
end LA

set_option Elab.async false
set_option linter.all false
/-! small solutions: more small rows than columns hang on one another by small factors -/
namespace LA
theorem pigeon : ∀ (N : Nat) (f : Nat → Nat), (∀ i, i < N + 1 → f i < N) → ∃ i j, i < j ∧ j < N + 1 ∧ f i = f j
  | 0, f, h => absurd (h 0 (Nat.lt_succ_self 0)) (Nat.not_lt_zero _)
  | N + 1, f, h => by
    by_cases c : ∃ i, i < N + 1 ∧ f i = f (N + 1)
    · obtain ⟨i, hi, e⟩ := c
      exact ⟨i, N + 1, hi, Nat.lt_succ_self _, e⟩
    · have ne : ∀ i, i < N + 1 → f i ≠ f (N + 1) := fun i hi e => c ⟨i, hi, e⟩
      have hl := h (N + 1) (Nat.lt_succ_self _)
      obtain ⟨i, j, hij, hj, e⟩ := pigeon N (fun i => if f i < f (N + 1) then f i else f i - 1) (fun i hi => by
        have h1 := ne i hi
        have h2 := h i (by omega)
        show (if f i < f (N + 1) then f i else f i - 1) < N
        split <;> omega)
      refine ⟨i, j, hij, by omega, ?_⟩
      have h1 := ne i (by omega)
      have h2 := ne j hj
      have e : (if f i < f (N + 1) then f i else f i - 1) = (if f j < f (N + 1) then f j else f j - 1) := e
      split at e <;> split at e <;> omega
/-- digits put together -/
def enc (b : Nat) : Nat → (Nat → Nat) → Nat
  | 0, _ => 0
  | n + 1, g => enc b n g + b ^ n * g n
theorem enc_lt {b : Nat} : ∀ {n : Nat} {g : Nat → Nat}, (∀ i, i < n → g i < b) → enc b n g < b ^ n
  | 0, g, _ => Nat.zero_lt_one
  | n + 1, g, h => by
    have h1 := enc_lt (n := n) fun i hi => h i (Nat.lt_succ_of_lt hi)
    have h2 := h n (Nat.lt_succ_self n)
    show enc b n g + b ^ n * g n < b ^ (n + 1)
    have h3 : b ^ n * (g n + 1) ≤ b ^ n * b := Nat.mul_le_mul_left _ h2
    have h4 : b ^ (n + 1) = b ^ n * b := rfl
    rw [Nat.mul_add, Nat.mul_one] at h3
    omega
theorem enc_inj {b : Nat} : ∀ {n : Nat} {f g : Nat → Nat}, (∀ i, i < n → f i < b) → (∀ i, i < n → g i < b) → enc b n f = enc b n g → ∀ i, i < n → f i = g i
  | 0, _, _, _, _, _ => fun i hi => absurd hi (Nat.not_lt_zero _)
  | n + 1, f, g, hf, hg, e => by
    have h1 := enc_lt (n := n) fun i hi => hf i (Nat.lt_succ_of_lt hi)
    have h2 := enc_lt (n := n) fun i hi => hg i (Nat.lt_succ_of_lt hi)
    have e : enc b n f + b ^ n * f n = enc b n g + b ^ n * g n := e
    have p : 0 < b ^ n := by omega
    have e1 : enc b n f = enc b n g := by
      have q : (enc b n f + b ^ n * f n) % b ^ n = (enc b n g + b ^ n * g n) % b ^ n := by rw [e]
      rwa [Nat.add_mul_mod_self_left, Nat.add_mul_mod_self_left, Nat.mod_eq_of_lt h1, Nat.mod_eq_of_lt h2] at q
    have e2 : f n = g n := Nat.eq_of_mul_eq_mul_left p (by omega)
    intro i hi
    by_cases c : i = n
    · rw [c]; exact e2
    · exact enc_inj (fun i hi => hf i (Nat.lt_succ_of_lt hi)) (fun i hi => hg i (Nat.lt_succ_of_lt hi)) e1 i (by omega)
theorem enc_dig (b t : Nat) : ∀ n, enc b n (fun i => t / b ^ i % b) = t % b ^ n
  | 0 => by
    show 0 = t % 1
    rw [Nat.mod_one]
  | n + 1 => by
    show enc b n _ + b ^ n * (t / b ^ n % b) = t % (b ^ n * b)
    rw [enc_dig b t n, Nat.mod_mul]
theorem S_abs {f : Nat → Int} {n : Nat} {B : Nat} (h : ∀ i, i < n → (f i).natAbs ≤ B) : (S n f).natAbs ≤ n * B := by
  induction n with
  | zero => exact Nat.zero_le _
  | succ n ih =>
    have h1 := ih fun i hi => h i (Nat.lt_succ_of_lt hi)
    have h2 := h n (Nat.lt_succ_self n)
    show (S n f + f n).natAbs ≤ (n + 1) * B
    have h3 := Int.natAbs_add_le (S n f) (f n)
    rw [Nat.succ_mul]
    omega
theorem siegel (m M : Nat) (x : Nat → Nat → Int) (hx : ∀ i, i < m + 1 → ∀ j, j < m → (x i j).natAbs ≤ M) :
    ∃ y : Nat → Int, (∃ i, i < m + 1 ∧ y i ≠ 0) ∧ (∀ i, (y i).natAbs ≤ (2 * (m + 1) * M + 1) ^ m) ∧ ∀ j, j < m → S (m + 1) (fun i => y i * x i j) = 0 := by
  generalize hY : (2 * (m + 1) * M + 1) ^ m = Y
  let d : Nat → Nat → Nat := fun t i => t / (Y + 1) ^ i % (Y + 1)
  have dl : ∀ t i, d t i < Y + 1 := fun t i => Nat.mod_lt _ (Nat.succ_pos _)
  let s : Nat → Nat → Int := fun t j => S (m + 1) fun i => (d t i : Int) * x i j
  have sb : ∀ t j, j < m → (s t j).natAbs ≤ (m + 1) * (Y * M) := fun t j hj => S_abs fun i hi => by
    rw [Int.natAbs_mul, Int.natAbs_natCast]
    exact Nat.mul_le_mul (Nat.le_of_lt_succ (dl t i)) (hx i hi j hj)
  generalize hC : (m + 1) * (Y * M) = C at sb
  let g : Nat → Nat → Nat := fun t j => (s t j + C).toNat
  have gl : ∀ t j, j < m → g t j < 2 * C + 1 := fun t j hj => by
    have := sb t j hj
    show (s t j + C).toNat < _
    omega
  have hW : (2 * C + 1) ^ m < (Y + 1) ^ (m + 1) := by
    have h1 : 2 * C + 1 ≤ (2 * (m + 1) * M + 1) * (Y + 1) := by
      have : 2 * C = 2 * (m + 1) * M * Y := by
        rw [← hC, Nat.mul_comm Y M, ← Nat.mul_assoc, ← Nat.mul_assoc]
      rw [this]
      generalize 2 * (m + 1) * M = q
      rw [Nat.add_mul, Nat.mul_add, Nat.one_mul, Nat.mul_one]
      omega
    have h2 := Nat.pow_le_pow_left h1 m
    rw [Nat.mul_pow, hY] at h2
    have h3 : 0 < (Y + 1) ^ m := Nat.pow_pos (Nat.succ_pos _)
    have h4 : (Y + 1) ^ (m + 1) = (Y + 1) ^ m * (Y + 1) := rfl
    rw [h4, Nat.mul_add, Nat.mul_one, Nat.mul_comm _ Y]
    omega
  obtain ⟨t, t', ht, ht', e⟩ := pigeon ((2 * C + 1) ^ m) (fun t => enc (2 * C + 1) m (g t)) fun t _ => enc_lt (gl t)
  have eg := enc_inj (gl t) (gl t') e
  refine ⟨fun i => (d t i : Int) - d t' i, ?_, fun i => ?_, fun j hj => ?_⟩
  · refine Classical.byContradiction fun c => ?_
    have same : ∀ i, i < m + 1 → d t i = d t' i := fun i hi => Classical.byContradiction fun z => c ⟨i, hi, by
      show (d t i : Int) - d t' i ≠ 0
      omega⟩
    have e1 := enc_dig (Y + 1) t (m + 1)
    have e2 := enc_dig (Y + 1) t' (m + 1)
    rw [Nat.mod_eq_of_lt (by omega)] at e1 e2
    have e3 : ∀ n, n ≤ m + 1 → enc (Y + 1) n (d t) = enc (Y + 1) n (d t') := fun n => by
      induction n with
      | zero => exact fun _ => rfl
      | succ n ih =>
        intro hn
        show enc (Y + 1) n (d t) + _ * d t n = enc (Y + 1) n (d t') + _ * d t' n
        rw [ih (by omega), same n (by omega)]
    have := e3 (m + 1) (Nat.le_refl _)
    have e1 : enc (Y + 1) (m + 1) (d t) = t := e1
    have e2 : enc (Y + 1) (m + 1) (d t') = t' := e2
    omega
  · have h1 := dl t i
    have h2 := dl t' i
    show ((d t i : Int) - d t' i).natAbs ≤ Y
    omega
  · have e1 : s t j = s t' j := by
      have q := eg j hj
      have h1 := sb t j hj
      have h2 := sb t' j hj
      have q : (s t j + C).toNat = (s t' j + C).toNat := q
      omega
    have e2 : S (m + 1) (fun i => ((d t i : Int) - d t' i) * x i j) = s t j + (-1) * s t' j := by
      show _ = S (m + 1) (fun i => (d t i : Int) * x i j) + (-1) * S (m + 1) (fun i => (d t' i : Int) * x i j)
      rw [← S_mul, ← S_add]
      exact S_congr fun i _ => by grind
    rw [e2, e1]
    omega
end LA

set_option Elab.async false
set_option linter.all false
set_option maxRecDepth 100000
set_option maxHeartbeats 4000000
set_option exponentiation.threshold 10000
namespace K45
open PySem PySem.Spec PyProof.Rows L2 StX RZ MyR SlX OwnR OwnF EnumT GxR GenNx FDivQ LA
theorem gl_iff {d : Nat} : ∀ (l : List Int) (a : Nat), d ∣ l.foldl (fun a x => Nat.gcd a x.natAbs) a ↔ d ∣ a ∧ ∀ x ∈ l, d ∣ x.natAbs
  | [], a => ⟨fun h => ⟨h, fun x hx => absurd hx List.not_mem_nil⟩, fun h => h.1⟩
  | y :: l, a => by
    rw [List.foldl_cons, gl_iff l]
    constructor
    · rintro ⟨h1, h2⟩
      refine ⟨Nat.dvd_trans h1 (Nat.gcd_dvd_left ..), fun x hx => ?_⟩
      rcases List.mem_cons.mp hx with rfl | hx
      · exact Nat.dvd_trans h1 (Nat.gcd_dvd_right ..)
      · exact h2 x hx
    · rintro ⟨h1, h2⟩
      exact ⟨Nat.dvd_gcd h1 (h2 y List.mem_cons_self), fun x hx => h2 x (List.mem_cons_of_mem _ hx)⟩
theorem gl_dvd {l : List Int} {x : Int} (h : x ∈ l) : gl l ∣ x.natAbs := ((gl_iff l 0).mp (Nat.dvd_refl _)).2 x h
theorem dvd_gl {l : List Int} {d : Nat} (h : ∀ x ∈ l, d ∣ x.natAbs) : d ∣ gl l := (gl_iff l 0).mpr ⟨Nat.dvd_zero _, h⟩
theorem mem_co {l : List Int} {x : Int} (h : x ∈ l) : ∃ k, k < l.length ∧ co l k = x := by
  obtain ⟨k, hk, e⟩ := List.mem_iff_getElem.mp h
  exact ⟨k, hk, by rw [co_get hk, e]⟩
theorem dvd_glc {l : List Int} {d : Nat} (h : ∀ k, k < l.length → d ∣ (co l k).natAbs) : d ∣ gl l := dvd_gl fun x hx => by
  obtain ⟨k, hk, e⟩ := mem_co hx
  rw [← e]
  exact h k hk
theorem gl_dvdc (l : List Int) (k : Nat) : gl l ∣ (co l k).natAbs := by
  by_cases h : k < l.length
  · exact gl_dvd (co_memE h)
  · rw [co_far (by omega)]
    exact Nat.dvd_zero _
theorem gl_zero {l : List Int} (h : gl l = 0) (k : Nat) : co l k = 0 := by
  have := gl_dvdc l k
  rw [h] at this
  have := Nat.eq_zero_of_zero_dvd this
  omega
theorem co_dv (l : List Int) (c : Int) (k : Nat) : co (dv l c) k = (co l k).fdiv c := by
  by_cases h : k < l.length
  · have h2 : k < (dv l c).length := by
      unfold dv
      rw [List.length_map]
      exact h
    rw [co_get h2, co_get h]
    exact List.getElem_map ..
  · rw [co_far (l := dv l c) (by unfold dv; rw [List.length_map]; omega), co_far (by omega), Int.zero_fdiv]
theorem fdiv_ex {x c : Int} (h : c ∣ x) : c * x.fdiv c = x := Int.mul_fdiv_cancel' h
theorem dv_ex {l : List Int} (h : gl l ≠ 0) (k : Nat) : (gl l : Int) * co (dv l (gl l)) k = co l k := by
  rw [co_dv]
  exact fdiv_ex (Int.ofNat_dvd_left.mpr (gl_dvdc l k))
theorem gl_dv {l : List Int} (h : gl l ≠ 0) : gl (dv l (gl l)) = 1 := by
  have q : gl l * gl (dv l (gl l)) ∣ gl l := dvd_glc fun k _ => by
    rw [← dv_ex h k, Int.natAbs_mul, Int.natAbs_natCast]
    exact Nat.mul_dvd_mul_left _ (gl_dvdc _ _)
  have hp : 0 < gl l := Nat.pos_of_ne_zero h
  have h1 : gl (dv l (gl l)) ∣ 1 := Nat.dvd_of_mul_dvd_mul_left hp (by rw [Nat.mul_one]; exact q)
  exact Nat.dvd_one.mp h1
theorem red_le {w : Nat} {v : List Int} {u : Nat → Int} {α β : Int} (hv : gl v ≤ 1) (hl : v.length = w) (hα : α ≠ 0) (h : ∀ j, j < w → α * co v j = β * u j) : ∀ j, j < w → (co v j).natAbs ≤ (u j).natAbs := by
  have hn : ∀ j, j < w → α.natAbs * (co v j).natAbs = β.natAbs * (u j).natAbs := fun j hj => by
    rw [← Int.natAbs_mul, ← Int.natAbs_mul, h j hj]
  have ha : 0 < α.natAbs := by omega
  generalize α.natAbs = a at hn ha
  generalize β.natAbs = b at hn
  have hg : 0 < Nat.gcd a b := Nat.gcd_pos_of_pos_left _ ha
  obtain ⟨a', ea⟩ := Nat.gcd_dvd_left a b
  obtain ⟨b', eb⟩ := Nat.gcd_dvd_right a b
  have cop : Nat.Coprime a' b' := by
    have e1 : a' = a / Nat.gcd a b := Nat.eq_div_of_mul_eq_right (by omega) ea.symm
    have e2 : b' = b / Nat.gcd a b := Nat.eq_div_of_mul_eq_right (by omega) eb.symm
    rw [e1, e2]
    exact Nat.coprime_div_gcd_div_gcd hg
  have hn2 : ∀ j, j < w → a' * (co v j).natAbs = b' * (u j).natAbs := fun j hj => by
    refine Nat.eq_of_mul_eq_mul_left hg ?_
    rw [← Nat.mul_assoc, ← Nat.mul_assoc, ← ea, ← eb]
    exact hn j hj
  have ha' : 0 < a' := by
    rcases Nat.eq_zero_or_pos a' with z | z
    · rw [z, Nat.mul_zero] at ea
      omega
    · exact z
  have hb : b' ∣ gl v := dvd_glc fun k hk => cop.symm.dvd_of_dvd_mul_left ⟨_, hn2 k (hl ▸ hk)⟩
  intro j hj
  rcases Nat.eq_zero_or_pos (gl v) with z | z
  · rw [gl_zero z]
    exact Nat.zero_le _
  · have e1 : gl v = 1 := by omega
    rw [e1] at hb
    have e2 := Nat.dvd_one.mp hb
    have q := hn2 j hj
    rw [e2, Nat.one_mul] at q
    rw [← q]
    exact Nat.le_mul_of_pos_left _ ha'
abbrev row (B : List (List Int)) (k : Nat) : Nat → Int := co (B.getD k [])
def SpM (w : Nat) (B : List (List Int)) (v : List Int) : Prop := Sp w B.length (row B) (co v)
theorem row_mem {B : List (List Int)} {x : List Int} (h : x ∈ B) : ∃ k, k < B.length ∧ row B k = co x := by
  obtain ⟨k, hk, e⟩ := List.mem_iff_getElem.mp h
  exact ⟨k, hk, by unfold row; rw [List.getD_eq_getElem?_getD, List.getElem?_eq_getElem hk, e]; rfl⟩
theorem mem_row {B : List (List Int)} {k : Nat} (h : k < B.length) : B.getD k [] ∈ B := by
  rw [List.getD_eq_getElem?_getD, List.getElem?_eq_getElem h]
  exact List.getElem_mem h
theorem SpM.own {w : Nat} {B : List (List Int)} {x : List Int} (h : x ∈ B) : SpM w B x := by
  obtain ⟨k, hk, e⟩ := row_mem h
  unfold SpM
  rw [← e]
  exact Sp.own hk
theorem SpM.trans {w : Nat} {B B' : List (List Int)} {v : List Int} (h : SpM w B v) (g : ∀ x ∈ B, SpM w B' x) : SpM w B' v :=
  Sp.trans h fun k hk => g _ (mem_row hk)
theorem SpM.mono {w : Nat} {B B' : List (List Int)} {v : List Int} (h : SpM w B v) (g : ∀ x ∈ B, x ∈ B') : SpM w B' v := h.trans fun x hx => SpM.own (g x hx)
theorem SpM.lin {w : Nat} {B : List (List Int)} {u v t : List Int} {c : Int} (α β : Int) (hc : c ≠ 0) (h : SpM w B u) (g : SpM w B v) (e : ∀ j, j < w → c * co t j = α * co u j + β * co v j) : SpM w B t :=
  Sp.div hc (Sp.lin α β h g) e
theorem SpM.zero {w : Nat} {B : List (List Int)} {v : List Int} (h : ∀ j, j < w → co v j = 0) : SpM w B v := Sp.zero h
theorem SpM.mul {w : Nat} {B : List (List Int)} {u t : List Int} {c α : Int} (hc : c ≠ 0) (h : SpM w B u) (e : ∀ j, j < w → c * co t j = α * co u j) : SpM w B t :=
  h.lin α 0 hc h fun j hj => by rw [e j hj, Int.zero_mul, Int.add_zero]
theorem ind_of {w n : Nat} {A B : Nat → Nat → Int} (hA : Ind w n A) (h : ∀ i, i < n → Sp w n B (A i)) : Ind w n B := fun a ha i0 hi0 => by
  refine Classical.byContradiction fun ne => ?_
  obtain ⟨m, rfl⟩ : ∃ m, n = m + 1 := ⟨n - 1, by omega⟩
  have key : ∀ k, k < m + 1 → Sp w m (fun i => B (sk i0 i)) (B k) := fun k hk => by
    by_cases c : k = i0
    · subst c
      refine ⟨a k, ne, fun i => - a (sk k i), fun j hj => ?_⟩
      have e := ha j hj
      rw [S_skip _ k m (by omega)] at e
      rw [S_congr (g := fun i => (-1) * (a (sk k i) * B (sk k i) j)) fun i _ => by rw [Int.neg_mul, Int.neg_mul, Int.one_mul], S_mul]
      omega
    · obtain ⟨i, hi, e⟩ : ∃ i, i < m ∧ sk i0 i = k := by
        by_cases d : k < i0
        · exact ⟨k, by omega, if_pos d⟩
        · exact ⟨k - 1, by omega, by unfold sk; rw [if_neg (by omega)]; omega⟩
      rw [← e]
      exact Sp.own hi
  have := steinitz hA fun i hi => (h i hi).trans key
  omega
def BdE (R M : Nat) : Nat := R * ((2 * R * M + 1) ^ (R - 1) * M)
theorem Bd_mono {R R' M : Nat} (h : R ≤ R') : BdE R M ≤ BdE R' M := by
  unfold BdE
  refine Nat.mul_le_mul h (Nat.mul_le_mul_right _ ?_)
  refine Nat.le_trans (Nat.pow_le_pow_left (Nat.add_le_add_right (Nat.mul_le_mul_right _ (Nat.mul_le_mul_left _ h)) 1) _) ?_
  exact Nat.pow_le_pow_right (Nat.succ_pos _) (by omega)
theorem Bd_le {R M : Nat} (h : 1 ≤ R) : M ≤ BdE R M := by
  unfold BdE
  have h1 : 0 < (2 * R * M + 1) ^ (R - 1) := Nat.pow_pos (Nat.succ_pos _)
  have h2 := Nat.mul_le_mul_right M (show 1 ≤ (2 * R * M + 1) ^ (R - 1) from h1)
  have h3 := Nat.mul_le_mul_right ((2 * R * M + 1) ^ (R - 1) * M) h
  omega
theorem bd_left {w r M : Nat} {B : Nat → Nat → Int} {P : Nat → Nat} {v : List Int} (hl : v.length = w) (hv : gl v ≤ 1) (hM : ∀ i, i < r + 1 → ∀ j, (B i j).natAbs ≤ M) (hP : ∀ k, k < r → P k < w) (hI : Ind r r fun k j => B k (P j)) (hs : Sp w (r + 1) B (co v)) (hz : ∀ k, k < r → co v (P k) = 0) :
    ∀ j, j < w → (co v j).natAbs ≤ BdE (r + 1) M := by
  obtain ⟨y, ⟨i0, hi0, hy0⟩, hyb, hy⟩ := siegel r M (fun i k => B i (P k)) fun i hi k hk => hM i hi _
  obtain ⟨c, hc, a, ha⟩ := hs
  have yr : y r ≠ 0 := fun z => by
    have q := hI y (fun k hk => by
      have e := hy k hk
      have e : S r (fun i => y i * B i (P k)) + y r * B r (P k) = 0 := e
      rw [z, Int.zero_mul, Int.add_zero] at e
      exact e)
    by_cases d : i0 = r
    · rw [d] at hy0
      exact hy0 z
    · exact hy0 (q i0 (by omega))
  have D : ∀ j, j < w → y r * (c * co v j) - a r * S (r + 1) (fun i => y i * B i j) = S r (fun i => (y r * a i - a r * y i) * B i j) := fun j hj => by
    rw [ha j hj, ← S_mul, ← S_mul]
    have e : S r (fun i => (y r * a i - a r * y i) * B i j) = S r (fun i => y r * (a i * B i j)) + (-1) * S r (fun i => a r * (y i * B i j)) := by
      rw [← S_mul, ← S_add]
      exact S_congr fun i _ => by grind
    rw [e]
    show S r _ + y r * (a r * B r j) - (S r _ + a r * (y r * B r j)) = _
    grind
  have dz := hI (fun i => y r * a i - a r * y i) fun k hk => by
    rw [← D (P k) (hP k hk), hz k hk, hy k hk]
    rw [Int.mul_zero, Int.mul_zero, Int.mul_zero]
    rfl
  refine fun j hj => Nat.le_trans (red_le (u := fun j => S (r + 1) (fun i => y i * B i j)) (α := y r * c) (β := a r) hv hl (Int.mul_ne_zero yr hc) (fun j hj => ?_) j hj) (S_abs fun i hi => ?_)
  · have e := D j hj
    rw [S_zero (f := fun i => (y r * a i - a r * y i) * B i j) fun i hi => by rw [dz i hi, Int.zero_mul]] at e
    rw [Int.mul_assoc]
    exact Int.sub_eq_zero.mp e
  · rw [Int.natAbs_mul]
    exact Nat.mul_le_mul (hyb i) (hM i hi j)
theorem bd_found {w m M : Nat} {B : Nat → Nat → Int} {P : Nat → Nat} {v : List Int} {i0 : Nat} (hl : v.length = w) (hv : gl v ≤ 1) (hM : ∀ i, i < m + 1 → ∀ j, (B i j).natAbs ≤ M) (hP : ∀ k, k < m + 1 → P k < w) (hI : Ind (m + 1) (m + 1) fun k j => B k (P j)) (hs : Sp w (m + 1) B (co v)) (hi0 : i0 < m + 1) (hz : ∀ k, k < m + 1 → k ≠ i0 → co v (P k) = 0) :
    ∀ j, j < w → (co v j).natAbs ≤ BdE (m + 1) M := by
  obtain ⟨y, ⟨i1, hi1, hy1⟩, hyb, hy⟩ := siegel m M (fun i k => B i (P (sk i0 k))) fun i hi k hk => hM i hi _
  obtain ⟨c, hc, a, ha⟩ := hs
  have uz : ∀ k, k < m + 1 → k ≠ i0 → S (m + 1) (fun i => y i * B i (P k)) = 0 := fun k hk hne => by
    obtain ⟨i, hi, e⟩ : ∃ i, i < m ∧ sk i0 i = k := by
      by_cases d : k < i0
      · exact ⟨k, by omega, if_pos d⟩
      · exact ⟨k - 1, by omega, by unfold sk; rw [if_neg (by omega)]; omega⟩
    have := hy i hi
    rw [e] at this
    exact this
  have u0 : S (m + 1) (fun i => y i * B i (P i0)) ≠ 0 := fun z => hy1 (hI y (fun k hk => by
    by_cases d : k = i0
    · rw [d]
      exact z
    · exact uz k hk d) i1 hi1)
  generalize hU : S (m + 1) (fun i => y i * B i (P i0)) = U at u0
  have D : ∀ j, j < w → U * (c * co v j) - c * co v (P i0) * S (m + 1) (fun i => y i * B i j) = S (m + 1) (fun i => (U * a i - c * co v (P i0) * y i) * B i j) := fun j hj => by
    rw [ha j hj, ← S_mul, ← S_mul]
    have e : S (m + 1) (fun i => (U * a i - c * co v (P i0) * y i) * B i j) = S (m + 1) (fun i => U * (a i * B i j)) + (-1) * S (m + 1) (fun i => c * co v (P i0) * (y i * B i j)) := by
      rw [← S_mul, ← S_add]
      exact S_congr fun i _ => by grind
    rw [e]
    omega
  have dz := hI (fun i => U * a i - c * co v (P i0) * y i) fun k hk => by
    rw [← D (P k) (hP k hk)]
    by_cases d : k = i0
    · rw [d, hU]
      grind
    · rw [hz k hk d, uz k hk d]
      rw [Int.mul_zero, Int.mul_zero, Int.mul_zero]
      rfl
  refine fun j hj => Nat.le_trans (red_le (u := fun j => S (m + 1) (fun i => y i * B i j)) (α := U * c) (β := c * co v (P i0)) hv hl (Int.mul_ne_zero u0 hc) (fun j hj => ?_) j hj) (S_abs fun i hi => ?_)
  · have e := D j hj
    rw [S_zero (f := fun i => (U * a i - c * co v (P i0) * y i) * B i j) fun i hi => by rw [dz i hi, Int.zero_mul]] at e
    rw [Int.mul_assoc]
    exact Int.sub_eq_zero.mp e
  · rw [Int.natAbs_mul]
    exact Nat.mul_le_mul (hyb i) (hM i hi j)
structure LeP (le : List Int → List Int → Nat → List Int) : Prop where
  lin : ∀ row head p, co head p ≠ 0 → row.length = head.length → ∃ c : Int, c ≠ 0 ∧ ∀ j, c * co (le row head p) j = co head p * co row j - co row p * co head j
  len : ∀ row head p, (le row head p).length = row.length
  red : ∀ row head p, gl (le row head p) ≤ 1 ∨ le row head p = row
theorem lf_lin {row head : List Int} {p : Nat} (h : co head p ≠ 0) (hl : row.length = head.length) (j : Nat) : ((Nat.gcd (co head p).natAbs (co row p).natAbs : Nat) : Int) * co (lf row head p) j = co head p * co row j - co row p * co head j := by
  unfold lf
  have d1 : ((Nat.gcd (co head p).natAbs (co row p).natAbs : Nat) : Int) ∣ co head p := Int.ofNat_dvd_left.mpr (Nat.gcd_dvd_left ..)
  have d2 : ((Nat.gcd (co head p).natAbs (co row p).natAbs : Nat) : Int) ∣ co row p := Int.ofNat_dvd_left.mpr (Nat.gcd_dvd_right ..)
  have e1 := fdiv_ex d1
  have e2 := fdiv_ex d2
  generalize ((Nat.gcd (co head p).natAbs (co row p).natAbs : Nat) : Int) = g at e1 e2 ⊢
  rw [co_tb]
  by_cases hj : j < row.length
  · rw [if_pos hj]
    grind
  · rw [if_neg hj, co_far (l := row) (by omega), co_far (l := head) (i := j) (by omega), Int.mul_zero, Int.mul_zero, Int.mul_zero]
    rfl
theorem gcd_ne {a b : Int} (h : a ≠ 0) : ((Nat.gcd a.natAbs b.natAbs : Nat) : Int) ≠ 0 := by
  have := Nat.gcd_pos_of_pos_left b.natAbs (show 0 < a.natAbs by omega)
  omega
theorem lless_lin {row head : List Int} {p : Nat} (h : co head p ≠ 0) (hl : row.length = head.length) : ∃ c : Int, c ≠ 0 ∧ ∀ j, c * co (lless row head p) j = co head p * co row j - co row p * co head j := by
  unfold lless
  have g0 := gcd_ne (b := co row p) h
  by_cases d : 1 < gl (lf row head p)
  · rw [if_pos d]
    refine ⟨_, Int.mul_ne_zero g0 (show ((gl (lf row head p) : Nat) : Int) ≠ 0 by omega), fun j => ?_⟩
    rw [Int.mul_assoc, dv_ex (by omega), lf_lin h hl]
  · rw [if_neg d]
    exact ⟨_, g0, lf_lin h hl⟩
theorem lless_red (row head : List Int) (p : Nat) : gl (lless row head p) ≤ 1 := by
  unfold lless
  by_cases d : 1 < gl (lf row head p)
  · rw [if_pos d, gl_dv (by omega)]
    exact Nat.le_refl _
  · rw [if_neg d]
    omega
theorem less_eq {row head : List Int} {p : Nat} (h : co row p ≠ 0) : less row head p = lless row head p := by
  unfold less lless
  rw [if_neg h]
theorem less_id {row head : List Int} {p : Nat} (h : co row p = 0) : less row head p = row := by
  unfold less
  rw [if_pos h]
theorem lePP : LeP less := ⟨fun row head p h hl => by
  by_cases c : co row p = 0
  · rw [less_id c]
    exact ⟨_, h, fun j => by rw [c, Int.zero_mul, Int.sub_zero]⟩
  · rw [less_eq c]
    exact lless_lin h hl, less_len, fun row head p => by
  by_cases c : co row p = 0
  · exact .inr (less_id c)
  · rw [less_eq c]
    exact .inl (lless_red ..)⟩
structure Inv (w : Nat) (rows : List (List Int)) (p : Nat) (left found Hh : List (List Int)) (P : List Nat) : Prop where
  hr : ∀ x ∈ Hh, x ∈ rows
  hl : Hh.length = found.length
  pl : P.length = found.length
  lf : ∀ r ∈ left, ∃ x ∈ rows, SpM w (Hh ++ [x]) r
  ff : ∀ r ∈ found, SpM w Hh r
  lz : ∀ r ∈ left, ∀ j, j < p → co r j = 0
  pp : ∀ k, k < found.length → P.getD k 0 < p
  nz : ∀ k, k < found.length → row found k (P.getD k 0) ≠ 0
  z : ∀ i k, i < found.length → k < found.length → k ≠ i → row found k (P.getD i 0) = 0
  be : ∀ k, k < found.length → ∀ j, j < P.getD k 0 → row found k j = 0
  rd : ∀ r, r ∈ left ∨ r ∈ found → gl r ≤ 1 ∨ r ∈ rows
  rv : ∀ x ∈ rows, SpM w (found ++ left) x
  ll : ∀ r, r ∈ left ∨ r ∈ found → r.length = w
theorem row_app {A : List (List Int)} {x : List Int} {k : Nat} : row (A ++ [x]) k = if k < A.length then row A k else if k = A.length then co x else co [] := by
  unfold row
  rw [List.getD_eq_getElem?_getD, List.getD_eq_getElem?_getD]
  by_cases h : k < A.length
  · rw [if_pos h, List.getElem?_append_left h]
  · rw [if_neg h, List.getElem?_append_right (by omega)]
    by_cases e : k = A.length
    · rw [if_pos e, e, Nat.sub_self]
      rfl
    · rw [if_neg e, List.getElem?_eq_none (by show 1 ≤ _; omega)]
      rfl
theorem row_map {A : List (List Int)} {f : List Int → List Int} {k : Nat} (h : k < A.length) : row (A.map f) k = co (f (A.getD k [])) := by
  unfold row
  rw [List.getD_eq_getElem?_getD, List.getD_eq_getElem?_getD, List.getElem?_map, List.getElem?_eq_getElem h]
  rfl
theorem getD_app {P : List Nat} {x k : Nat} : (P ++ [x]).getD k 0 = if k < P.length then P.getD k 0 else if k = P.length then x else 0 := by
  rw [List.getD_eq_getElem?_getD, List.getD_eq_getElem?_getD]
  by_cases h : k < P.length
  · rw [if_pos h, List.getElem?_append_left h]
  · rw [if_neg h, List.getElem?_append_right (by omega)]
    by_cases e : k = P.length
    · rw [if_pos e, e, Nat.sub_self]
      rfl
    · rw [if_neg e, List.getElem?_eq_none (by show 1 ≤ _; omega)]
      rfl
theorem hix_some {left : List (List Int)} {p h : Nat} (e : hix left p = some h) : h < left.length ∧ co (left.getD h []) p ≠ 0 := by
  obtain ⟨hh, h1, _⟩ := List.findIdx?_eq_some_iff_getElem.mp e
  refine ⟨hh, ?_⟩
  rw [List.getD_eq_getElem?_getD, List.getElem?_eq_getElem hh]
  show co left[h] p ≠ 0
  simpa using h1
theorem hix_none {left : List (List Int)} {p : Nat} (e : hix left p = none) : ∀ r ∈ left, co r p = 0 := fun r hr => by
  have := List.findIdx?_eq_none_iff.mp e r hr
  simpa using this
theorem Inv.init {w : Nat} {rows : List (List Int)} (hw : ∀ r ∈ rows, r.length = w) : Inv w rows 0 rows [] [] [] :=
  ⟨fun x hx => absurd hx List.not_mem_nil, rfl, rfl, fun r hr => ⟨r, hr, SpM.own (by simp)⟩, fun r hr => absurd hr List.not_mem_nil, fun r _ j hj => absurd hj (Nat.not_lt_zero _), fun k hk => absurd hk (Nat.not_lt_zero _), fun k hk => absurd hk (Nat.not_lt_zero _), fun i k hi => absurd hi (Nat.not_lt_zero _), fun k hk => absurd hk (Nat.not_lt_zero _), fun r hr => .inr (hr.resolve_right List.not_mem_nil), fun x hx => SpM.own (by simpa using hx), fun r hr => hw r (hr.resolve_right List.not_mem_nil)⟩
theorem Inv.none {w p : Nat} {rows left found Hh : List (List Int)} {P : List Nat} (I : Inv w rows p left found Hh P) (e : hix left p = none) : Inv w rows (p + 1) left found Hh P :=
  ⟨I.hr, I.hl, I.pl, I.lf, I.ff, fun r hr j hj => by
    by_cases c : j = p
    · rw [c]
      exact hix_none e r hr
    · exact I.lz r hr j (by omega), fun k hk => Nat.lt_succ_of_lt (I.pp k hk), I.nz, I.z, I.be, I.rd, I.rv, I.ll⟩
theorem Inv.some {le : List Int → List Int → Nat → List Int} (hle : LeP le) {w p h : Nat} {rows left found Hh : List (List Int)} {P : List Nat} (I : Inv w rows p left found Hh P) (hp : p < w) (e : hix left p = .some h) :
    ∃ x, Inv w rows (p + 1) ((left.eraseIdx h).map fun r => le r (left.getD h []) p) ((found.map fun r => le r (left.getD h []) p) ++ [left.getD h []]) (Hh ++ [x]) (P ++ [p]) := by
  obtain ⟨hh, hd⟩ := hix_some e
  have hm : left.getD h [] ∈ left := mem_row hh
  generalize hH : left.getD h [] = hed at hd hm
  obtain ⟨x, hx, hs⟩ := I.lf hed hm
  have hlen := I.ll hed (.inl hm)
  have sub : ∀ r ∈ left.eraseIdx h, r ∈ left := fun r hr => List.mem_of_mem_eraseIdx hr
  have lin : ∀ r, r ∈ left ∨ r ∈ found → ∃ c : Int, c ≠ 0 ∧ ∀ j, c * co (le r hed p) j = co hed p * co r j - co r p * co hed j := fun r hr => hle.lin r hed p hd (by rw [I.ll r hr, hlen])
  have van : ∀ r, r ∈ left ∨ r ∈ found → ∀ j, co r j = 0 → co hed j = 0 → co (le r hed p) j = 0 := fun r hr j h1 h2 => by
    obtain ⟨c, hc, q⟩ := lin r hr
    have := q j
    rw [h1, h2, Int.mul_zero, Int.mul_zero] at this
    exact (Int.mul_eq_zero.mp this).resolve_left hc
  have vanp : ∀ r, r ∈ left ∨ r ∈ found → co (le r hed p) p = 0 := fun r hr => by
    obtain ⟨c, hc, q⟩ := lin r hr
    have := q p
    rw [Int.mul_comm (co hed p), Int.sub_self] at this
    · exact (Int.mul_eq_zero.mp this).resolve_left hc
  have keep : ∀ r, r ∈ left ∨ r ∈ found → ∀ j, co r j ≠ 0 → co hed j = 0 → co (le r hed p) j ≠ 0 := fun r hr j h1 h2 z => by
    obtain ⟨c, hc, q⟩ := lin r hr
    have := q j
    rw [z, h2, Int.mul_zero, Int.mul_zero, Int.sub_zero] at this
    rcases Int.mul_eq_zero.mp this.symm with z | z
    · exact hd z
    · exact h1 z
  have hz : ∀ j, j < p → co hed j = 0 := I.lz hed hm
  have fl : (found.map fun r => le r hed p).length = found.length := List.length_map ..
  have rw1 : ∀ k, k < found.length → row ((found.map fun r => le r hed p) ++ [hed]) k = co (le (found.getD k []) hed p) := fun k hk => by
    rw [row_app, fl, if_pos hk, row_map hk]
  have rw2 : row ((found.map fun r => le r hed p) ++ [hed]) found.length = co hed := by
    rw [row_app, fl, if_neg (Nat.lt_irrefl _), if_pos rfl]
  have pw1 : ∀ k, k < found.length → (P ++ [p]).getD k 0 = P.getD k 0 := fun k hk => by rw [getD_app, I.pl, if_pos hk]
  have pw2 : (P ++ [p]).getD found.length 0 = p := by rw [getD_app, I.pl, if_neg (Nat.lt_irrefl _), if_pos rfl]
  have nl : ((found.map fun r => le r hed p) ++ [hed]).length = found.length + 1 := by
    rw [List.length_append, fl]
    rfl
  refine ⟨x, fun y hy => ?_, ?_, ?_, fun r hr => ?_, fun r hr => ?_, fun r hr j hj => ?_, fun k hk => ?_, fun k hk => ?_, fun i k hi hk hne => ?_, fun k hk j hj => ?_, fun r hr => ?_, fun y hy => ?_, fun r hr => ?_⟩
  · rcases List.mem_append.mp hy with hy | hy
    · exact I.hr y hy
    · rw [List.mem_singleton.mp hy]
      exact hx
  · rw [List.length_append, List.length_append, fl, I.hl]
    rfl
  · rw [List.length_append, List.length_append, fl, I.pl]
    rfl
  · obtain ⟨r0, hr0, rfl⟩ := List.mem_map.mp hr
    obtain ⟨y, hy, hs2⟩ := I.lf r0 (sub r0 hr0)
    obtain ⟨c, hc, q⟩ := lin r0 (.inl (sub r0 hr0))
    refine ⟨y, hy, SpM.lin (co hed p) (- co r0 p) hc (hs2.mono fun z hz => ?_) (hs.mono fun z hz => ?_) fun j _ => by rw [q j, Int.neg_mul, Int.sub_eq_add_neg]⟩
    · simp only [List.mem_append, List.mem_singleton] at hz ⊢
      rcases hz with hz | hz
      · exact .inl (.inl hz)
      · exact .inr hz
    · exact List.mem_append.mpr (.inl hz)
  · rcases List.mem_append.mp hr with hr | hr
    · obtain ⟨r0, hr0, rfl⟩ := List.mem_map.mp hr
      obtain ⟨c, hc, q⟩ := lin r0 (.inr hr0)
      exact SpM.lin (co hed p) (- co r0 p) hc ((I.ff r0 hr0).mono fun z hz => List.mem_append.mpr (.inl hz)) hs fun j _ => by rw [q j, Int.neg_mul, Int.sub_eq_add_neg]
    · rw [List.mem_singleton.mp hr]
      exact hs
  · obtain ⟨r0, hr0, rfl⟩ := List.mem_map.mp hr
    by_cases c : j = p
    · rw [c]
      exact vanp r0 (.inl (sub r0 hr0))
    · exact van r0 (.inl (sub r0 hr0)) j (I.lz r0 (sub r0 hr0) j (by omega)) (hz j (by omega))
  · rw [nl] at hk
    by_cases c : k = found.length
    · rw [c, pw2]
      exact Nat.lt_succ_self _
    · rw [pw1 k (by omega)]
      exact Nat.lt_succ_of_lt (I.pp k (by omega))
  · rw [nl] at hk
    by_cases c : k = found.length
    · rw [c, pw2, rw2]
      exact hd
    · have hk : k < found.length := by omega
      rw [pw1 k hk, rw1 k hk]
      exact keep _ (.inr (mem_row hk)) _ (I.nz k hk) (hz _ (I.pp k hk))
  · rw [nl] at hi hk
    by_cases c : k = found.length
    · have hi : i < found.length := by omega
      rw [c, rw2, pw1 i hi]
      exact hz _ (I.pp i hi)
    · have hk : k < found.length := by omega
      rw [rw1 k hk]
      by_cases d : i = found.length
      · rw [d, pw2]
        exact vanp _ (.inr (mem_row hk))
      · have hi : i < found.length := by omega
        rw [pw1 i hi]
        exact van _ (.inr (mem_row hk)) _ (I.z i k hi hk hne) (hz _ (I.pp i hi))
  · rw [nl] at hk
    by_cases c : k = found.length
    · rw [c, pw2] at hj
      rw [c, rw2]
      exact hz j hj
    · have hk : k < found.length := by omega
      rw [pw1 k hk] at hj
      rw [rw1 k hk]
      exact van _ (.inr (mem_row hk)) _ (I.be k hk j hj) (hz j (Nat.lt_trans hj (I.pp k hk)))
  · have key : ∀ r0, r0 ∈ left ∨ r0 ∈ found → gl (le r0 hed p) ≤ 1 ∨ le r0 hed p ∈ rows := fun r0 h0 => by
      rcases hle.red r0 hed p with g | g
      · exact .inl g
      · rw [g]
        exact I.rd r0 h0
    rcases hr with hr | hr
    · obtain ⟨r0, hr0, rfl⟩ := List.mem_map.mp hr
      exact key r0 (.inl (sub r0 hr0))
    · rcases List.mem_append.mp hr with hr | hr
      · obtain ⟨r0, hr0, rfl⟩ := List.mem_map.mp hr
        exact key r0 (.inr hr0)
      · rw [List.mem_singleton.mp hr]
        exact I.rd hed (.inl hm)
  · refine (I.rv y hy).trans fun r hr => ?_
    have hin : SpM w (((found.map fun r => le r hed p) ++ [hed]) ++ ((left.eraseIdx h).map fun r => le r hed p)) hed := SpM.own (by simp)
    have back : ∀ r0, r0 ∈ left ∨ r0 ∈ found → le r0 hed p ∈ ((found.map fun r => le r hed p) ++ [hed]) ++ ((left.eraseIdx h).map fun r => le r hed p) → SpM w (((found.map fun r => le r hed p) ++ [hed]) ++ ((left.eraseIdx h).map fun r => le r hed p)) r0 := fun r0 h0 hm0 => by
      obtain ⟨c, hc, q⟩ := lin r0 h0
      exact SpM.lin c (co r0 p) hd (SpM.own hm0) hin fun j _ => by rw [q j]; omega
    rcases List.mem_append.mp hr with hr | hr
    · exact back r (.inr hr) (List.mem_append.mpr (.inl (List.mem_append.mpr (.inl (List.mem_map.mpr ⟨r, hr, rfl⟩)))))
    · obtain ⟨i, hi, ei⟩ := List.mem_iff_getElem.mp hr
      by_cases c : i = h
      · have : r = hed := by
          rw [← ei, ← hH, List.getD_eq_getElem?_getD]
          subst c
          rw [List.getElem?_eq_getElem hi]
          rfl
        rw [this]
        exact hin
      · exact back r (.inl hr) (List.mem_append.mpr (.inr (List.mem_map.mpr ⟨r, List.mem_eraseIdx_iff_getElem.mpr ⟨i, hi, c, ei⟩, rfl⟩)))
  · have key : ∀ r0, r0 ∈ left ∨ r0 ∈ found → (le r0 hed p).length = w := fun r0 h0 => by
      rw [hle.len]
      exact I.ll r0 h0
    rcases hr with hr | hr
    · obtain ⟨r0, hr0, rfl⟩ := List.mem_map.mp hr
      exact key r0 (.inl (sub r0 hr0))
    · rcases List.mem_append.mp hr with hr | hr
      · obtain ⟨r0, hr0, rfl⟩ := List.mem_map.mp hr
        exact key r0 (.inr hr0)
      · rw [List.mem_singleton.mp hr]
        exact hlen
theorem inv {le : List Int → List Int → Nat → List Int} (hle : LeP le) {w : Nat} {rows : List (List Int)} (hw : ∀ r ∈ rows, r.length = w) : ∀ p, p ≤ w → ∃ Hh P, Inv w rows p (eS le rows p).1 (eS le rows p).2 Hh P
  | 0, _ => ⟨[], [], Inv.init hw⟩
  | p + 1, hp => by
    obtain ⟨Hh, P, I⟩ := inv hle hw p (by omega)
    show ∃ Hh P, Inv w rows (p + 1) (stp le p (eS le rows p)).1 (stp le p (eS le rows p)).2 Hh P
    cases e : hix (eS le rows p).1 p with
    | none =>
      rw [stp_none e]
      exact ⟨Hh, P, I.none e⟩
    | some h =>
      rw [stp_some e]
      obtain ⟨x, J⟩ := I.some hle (by omega) e
      exact ⟨_, _, J⟩
theorem Inv.ind {w p : Nat} {rows left found Hh : List (List Int)} {P : List Nat} (I : Inv w rows p left found Hh P) (hp : p ≤ w) : Ind found.length found.length fun k j => row Hh k (P.getD j 0) := by
  refine ind_of (A := fun k j => row found k (P.getD j 0)) ?_ fun i hi => ?_
  · exact Ech.ind (lead := fun i => i) ⟨fun i hi => hi, fun i hi => I.nz i hi, fun i k hi hk hne => I.z i k hi hk hne⟩
  · obtain ⟨c, hc, a, ha⟩ := I.ff _ (mem_row hi)
    rw [I.hl] at ha
    exact ⟨c, hc, a, fun j hj => ha _ (Nat.lt_of_lt_of_le (I.pp j hj) hp)⟩
theorem co_bd {rows : List (List Int)} {M : Nat} (hM : ∀ r ∈ rows, ∀ x ∈ r, x.natAbs ≤ M) {r : List Int} (hr : r ∈ rows) (j : Nat) : (co r j).natAbs ≤ M := by
  by_cases h : j < r.length
  · exact hM r hr _ (co_memE h)
  · rw [co_far (by omega)]
    exact Nat.zero_le _
theorem Inv.bd {w p M : Nat} {rows left found Hh : List (List Int)} {P : List Nat} (I : Inv w rows p left found Hh P) (hp : p ≤ w) (hM : ∀ r ∈ rows, ∀ x ∈ r, x.natAbs ≤ M) (hc : left.length + found.length = rows.length) :
    ∀ r, r ∈ left ∨ r ∈ found → ∀ j, (co r j).natAbs ≤ BdE rows.length M := fun r hr j => by
  by_cases hj : j < w
  · rcases I.rd r hr with hv | hv
    · rcases hr with hr | hr
      · obtain ⟨x, hx, hs⟩ := I.lf r hr
        have hp1 := List.length_pos_of_mem hr
        refine Nat.le_trans (bd_left (r := found.length) (B := row (Hh ++ [x])) (P := fun k => P.getD k 0) (I.ll r (.inl hr)) hv (fun i hi j => ?_) (fun k hk => Nat.lt_of_lt_of_le (I.pp k hk) hp) (fun a ha => I.ind hp a fun k hk => ?_) ?_ (fun k hk => I.lz r hr _ (I.pp k hk)) j hj) (Bd_mono (by omega))
        · rw [row_app, I.hl]
          by_cases c : i < found.length
          · rw [if_pos c]
            exact co_bd hM (I.hr _ (mem_row (by rw [I.hl]; exact c))) j
          · rw [if_neg c, if_pos (by omega)]
            exact co_bd hM hx j
        · rw [← ha k hk]
          exact S_congr fun i hi => by
            show _ = a i * row (Hh ++ [x]) i (P.getD k 0)
            rw [row_app, I.hl, if_pos hi]
        · unfold SpM at hs
          rw [List.length_append, I.hl] at hs
          exact hs
      · obtain ⟨i0, hi0, e⟩ := row_mem hr
        obtain ⟨m, hm⟩ : ∃ m, found.length = m + 1 := ⟨found.length - 1, by omega⟩
        have hI := I.ind hp
        have hs := I.ff r hr
        unfold SpM at hs
        rw [I.hl] at hs
        rw [hm] at hI hs hi0
        refine Nat.le_trans (bd_found (B := row Hh) (P := fun k => P.getD k 0) (i0 := i0) (I.ll r (.inr hr)) hv (fun i hi j => co_bd hM (I.hr _ (mem_row (by rw [I.hl, hm]; exact hi))) j) (fun k hk => Nat.lt_of_lt_of_le (I.pp k (by omega)) hp) hI hs hi0 (fun k hk hne => ?_) j hj) (Bd_mono (by omega))
        rw [← e]
        exact I.z k i0 (by omega) (by omega) (Ne.symm hne)
    · exact Nat.le_trans (co_bd hM hv j) (Bd_le (List.length_pos_of_mem hv))
  · rw [co_far (by rw [I.ll r hr]; omega)]
    exact Nat.zero_le _
theorem quot_le {c q x : Int} (h : c * q = x) (hc : c ≠ 0) : q.natAbs ≤ x.natAbs := by
  rw [← h, Int.natAbs_mul]
  exact Nat.le_mul_of_pos_left _ (by omega)
theorem log_lt {n k : Nat} (h : n < 2 ^ k) (hk : 0 < k) : n.log2 < k := by
  by_cases h0 : n = 0
  · rw [h0, Nat.log2_zero]
    exact hk
  · exact (Nat.log2_lt h0).mpr h
theorem gl_mul (c : Int) : ∀ (l : List Int) (a : Nat), (l.map (c * ·)).foldl (fun a x => Nat.gcd a x.natAbs) (c.natAbs * a) = c.natAbs * l.foldl (fun a x => Nat.gcd a x.natAbs) a
  | [], _ => rfl
  | x :: l, a => by
    rw [List.map_cons, List.foldl_cons, List.foldl_cons, Int.natAbs_mul, Nat.gcd_mul_left]
    exact gl_mul c l _
theorem gl_scale (c : Int) (l : List Int) : gl (l.map (c * ·)) = c.natAbs * gl l := gl_mul c l 0
theorem co_scale (c : Int) (l : List Int) (j : Nat) : co (l.map (c * ·)) j = c * co l j := by
  by_cases h : j < l.length
  · rw [co_get (by rw [List.length_map]; exact h), co_get h, List.getElem_map]
  · rw [co_far (by rw [List.length_map]; omega), co_far (by omega), Int.mul_zero]
theorem gl0_of {l : List Int} (h : ∀ j, co l j = 0) : gl l = 0 := Nat.eq_zero_of_zero_dvd (dvd_glc fun k _ => by rw [h k]; exact Nat.dvd_refl _)
theorem ld_char {l : List Int} {k : Nat} (h : co l k ≠ 0) (hz : ∀ j, j < k → co l j = 0) : ld l = k := by
  have hk : k < l.length := by
    refine Classical.byContradiction fun c => h (co_far (by omega))
  unfold ld
  refine (List.findIdx_eq hk).mpr ⟨?_, fun j hj => ?_⟩
  · rw [← co_get hk]
    simpa using h
  · have := hz j hj
    rw [co_get (by omega)] at this
    simpa using this
theorem fo_ld : ∀ {l : List Int}, (∃ k, co l k ≠ 0) → foE l = co l (ld l) ∧ co l (ld l) ≠ 0 ∧ ∀ j, j < ld l → co l j = 0
  | [], ⟨k, h⟩ => absurd (co_far (Nat.zero_le _)) h
  | x :: l, ⟨k, h⟩ => by
    by_cases c : x = 0
    · have hk : ∃ k, co l k ≠ 0 := by
        cases k with
        | zero => exact absurd c h
        | succ k => exact ⟨k, h⟩
      obtain ⟨h1, h2, h3⟩ := fo_ld hk
      have e1 : foE (x :: l) = foE l := by
        unfold foE
        rw [List.find?_cons_of_neg (by simp [c])]
      have e2 : ld (x :: l) = ld l + 1 := ld_char (l := x :: l) (k := ld l + 1) h2 fun j hj => by
        cases j with
        | zero => exact c
        | succ j => exact h3 j (by omega)
      rw [e1, e2]
      refine ⟨h1, h2, fun j hj => ?_⟩
      cases j with
      | zero => exact c
      | succ j => exact h3 j (by omega)
    · have e1 : foE (x :: l) = x := by
        unfold foE
        rw [List.find?_cons_of_pos (by simp [c])]
        rfl
      have e2 : ld (x :: l) = 0 := ld_char (l := x :: l) (k := 0) c fun j hj => absurd hj (Nat.not_lt_zero _)
      rw [e1, e2]
      exact ⟨rfl, c, fun j hj => absurd hj (Nat.not_lt_zero _)⟩
def pf (l : List Int) : Int := if gl l = 0 then 1 else if 0 < foE l then (gl l : Int) else -(gl l : Int)
theorem pf_ne (l : List Int) : pf l ≠ 0 := by
  unfold pf
  split
  · decide
  · split <;> omega
theorem prim_ex (l : List Int) (j : Nat) : pf l * co (primE l) j = co l j := by
  unfold pf primE
  by_cases c : gl l = 0
  · rw [if_pos c, if_pos c, Int.one_mul]
  · rw [if_neg c, if_neg c, co_dv]
    refine fdiv_ex ?_
    have := Int.ofNat_dvd_left.mpr (gl_dvdc l j)
    split
    · exact this
    · exact Int.neg_dvd.mpr this
theorem prim_le (l : List Int) (j : Nat) : (co (primE l) j).natAbs ≤ (co l j).natAbs := quot_le (prim_ex l j) (pf_ne l)
def Pq (w : Nat) (r r' : List Int) : Prop := r.length = w ∧ r'.length = w ∧ ∃ α β : Int, α ≠ 0 ∧ β ≠ 0 ∧ ∀ j, α * co r j = β * co r' j
theorem Pq.zero {w : Nat} {r r' : List Int} (h : Pq w r r') (j : Nat) : co r j = 0 ↔ co r' j = 0 := by
  obtain ⟨_, _, α, β, ha, hb, e⟩ := h
  have := e j
  constructor <;> intro z <;> rw [z, Int.mul_zero] at this
  · exact (Int.mul_eq_zero.mp this.symm).resolve_left hb
  · exact (Int.mul_eq_zero.mp this).resolve_left ha
theorem sq_pos {a : Int} (h : a ≠ 0) : 0 < a * a := by
  rcases Int.lt_or_gt_of_ne h with z | z
  · exact Int.mul_pos_of_neg_of_neg z z
  · exact Int.mul_pos z z
theorem prim_pq {w : Nat} {r r' : List Int} (h : Pq w r r') : primE r = primE r' := by
  have hz := h.zero
  obtain ⟨hl, hl', α, β, ha, hb, e⟩ := h
  by_cases c : gl r = 0
  · have c' : gl r' = 0 := gl0_of fun j => (hz j).mp (gl_zero c j)
    unfold primE
    rw [if_pos c, if_pos c']
    exact co_inj (hl.trans hl'.symm) fun j => by rw [gl_zero c j, gl_zero c' j]
  · have c' : gl r' ≠ 0 := fun z => c (gl0_of fun j => (hz j).mpr (gl_zero z j))
    have ex : ∀ l : List Int, gl l ≠ 0 → ∃ k, co l k ≠ 0 := fun l hl => Classical.byContradiction fun z => hl (gl0_of fun j => Classical.byContradiction fun q => z ⟨j, q⟩)
    obtain ⟨f1, f2, f3⟩ := fo_ld (ex r c)
    obtain ⟨g1, g2, g3⟩ := fo_ld (ex r' c')
    have el : ld r' = ld r := ld_char (fun z => f2 ((hz _).mpr z)) fun j hj => (hz j).mp (f3 j hj)
    have e0 : α * foE r = β * foE r' := by rw [f1, g1, el]; exact e _
    have eg : α.natAbs * gl r = β.natAbs * gl r' := by
      rw [← gl_scale, ← gl_scale]
      refine congrArg gl (co_inj (by rw [List.length_map, List.length_map, hl, hl']) fun j => ?_)
      rw [co_scale, co_scale]
      exact e j
    have s1 : 0 < pf r * foE r := by
      unfold pf
      rw [if_neg c]
      split
      · exact Int.mul_pos (by omega) ‹_›
      · exact Int.mul_pos_of_neg_of_neg (by omega) (by omega)
    have s2 : 0 < pf r' * foE r' := by
      unfold pf
      rw [if_neg c']
      split
      · exact Int.mul_pos (by omega) ‹_›
      · exact Int.mul_pos_of_neg_of_neg (by omega) (by omega)
    have n1 : (α * pf r).natAbs = (β * pf r').natAbs := by
      have q : ∀ l, gl l ≠ 0 → (pf l).natAbs = gl l := fun l hl => by
        unfold pf
        rw [if_neg hl]
        split <;> omega
      rw [Int.natAbs_mul, Int.natAbs_mul, q r c, q r' c', eg]
    have z0 : α * foE r ≠ 0 := Int.mul_ne_zero ha (by omega)
    have t1 : 0 < α * pf r * (α * foE r) := by
      have : α * pf r * (α * foE r) = α * α * (pf r * foE r) := by grind
      rw [this]
      exact Int.mul_pos (sq_pos ha) s1
    have t2 : 0 < β * pf r' * (α * foE r) := by
      rw [e0]
      have : β * pf r' * (β * foE r') = β * β * (pf r' * foE r') := by grind
      rw [this]
      exact Int.mul_pos (sq_pos hb) s2
    have key : α * pf r = β * pf r' := by
      rcases Int.natAbs_eq_natAbs_iff.mp n1 with q | q
      · exact q
      · exfalso
        rw [q, Int.neg_mul] at t1
        omega
    refine co_inj (by rw [primE_len, primE_len, hl, hl']) fun j => ?_
    have a1 := prim_ex r j
    have a2 := prim_ex r' j
    have q : α * pf r * co (primE r) j = α * pf r * co (primE r') j := by
      rw [Int.mul_assoc, a1, e j, ← a2, ← Int.mul_assoc, key]
    exact Int.eq_of_mul_eq_mul_left (Int.mul_ne_zero ha (pf_ne r)) q
def PL (w : Nat) : List (List Int) → List (List Int) → Prop
  | [], [] => True
  | a :: as, b :: bs => Pq w a b ∧ PL w as bs
  | _, _ => False
theorem PL.hix {w p : Nat} : ∀ {A B : List (List Int)}, PL w A B → hix A p = hix B p
  | [], [], _ => rfl
  | a :: as, b :: bs, h => by
    have ih := PL.hix (p := p) h.2
    unfold K45.hix at ih ⊢
    rw [List.findIdx?_cons, List.findIdx?_cons, ih]
    have : (co a p != 0) = (co b p != 0) := by
      by_cases c : co a p = 0
      · rw [c, (h.1.zero p).mp c]
      · have c2 : co b p ≠ 0 := fun z => c ((h.1.zero p).mpr z)
        rw [bne_iff_ne.mpr c, bne_iff_ne.mpr c2]
    rw [this]
theorem PL.get {w : Nat} : ∀ {A B : List (List Int)} {k : Nat}, PL w A B → k < A.length → Pq w (A.getD k []) (B.getD k [])
  | [], [], _, _, hk => absurd hk (Nat.not_lt_zero _)
  | a :: as, b :: bs, 0, h, _ => h.1
  | a :: as, b :: bs, k + 1, h, hk => PL.get (k := k) h.2 (Nat.lt_of_succ_lt_succ hk)
theorem PL.map {w : Nat} {f g : List Int → List Int} (hf : ∀ a b, Pq w a b → Pq w (f a) (g b)) : ∀ {A B : List (List Int)}, PL w A B → PL w (A.map f) (B.map g)
  | [], [], _ => True.intro
  | a :: as, b :: bs, h => ⟨hf _ _ h.1, PL.map hf h.2⟩
theorem PL.app {w : Nat} {a b : List Int} (h : Pq w a b) : ∀ {A B : List (List Int)}, PL w A B → PL w (A ++ [a]) (B ++ [b])
  | [], [], _ => ⟨h, True.intro⟩
  | a :: as, b :: bs, g => ⟨g.1, PL.app h g.2⟩
theorem PL.rf {w : Nat} : ∀ {A : List (List Int)}, (∀ a ∈ A, a.length = w) → PL w A A
  | [], _ => True.intro
  | a :: as, h => ⟨⟨h a List.mem_cons_self, h a List.mem_cons_self, 1, 1, by decide, by decide, fun _ => rfl⟩, PL.rf fun b hb => h b (List.mem_cons_of_mem _ hb)⟩
theorem PL.primE {w : Nat} : ∀ {A B : List (List Int)}, PL w A B → A.map primE = B.map primE
  | [], [], _ => rfl
  | a :: as, b :: bs, h => by
    rw [List.map_cons, List.map_cons, prim_pq h.1, PL.primE h.2]
structure Told (w M : Nat) (rows T : List (List Int)) : Prop where
  len : ∀ t ∈ T, t.length = w
  lt : ∀ t ∈ T, ld t < w
  nz : ∀ t ∈ T, co t (ld t) ≠ 0
  z : ∀ i k, i < T.length → k < T.length → k ≠ i → row T k (ld (T.getD i [])) = 0
  base : Base w rows.length (row rows) T.length (row T)
  bd : ∀ t ∈ T, ∀ j, (co t j).natAbs ≤ BdE T.length M
theorem getD_map {A : List (List Int)} {f : List Int → List Int} {k : Nat} (h : k < A.length) : (A.map f).getD k [] = f (A.getD k []) := by
  rw [List.getD_eq_getElem?_getD, List.getD_eq_getElem?_getD, List.getElem?_map, List.getElem?_eq_getElem h]
  rfl
theorem told {le : List Int → List Int → Nat → List Int} (hle : LeP le) {w M : Nat} {rows : List (List Int)} (hw : ∀ r ∈ rows, r.length = w) (hM : ∀ r ∈ rows, ∀ x ∈ r, x.natAbs ≤ M) : Told w M rows (ech le rows w) := by
  obtain ⟨Hh, P, I⟩ := inv hle hw w (Nat.le_refl _)
  unfold ech
  generalize (eS le rows w).1 = left at I
  generalize (eS le rows w).2 = found at I
  have hz : ∀ (r : List Int) (j : Nat), co (primE r) j = 0 ↔ co r j = 0 := fun r j => by
    have := prim_ex r j
    constructor <;> intro z <;> rw [z] at this
    · rw [Int.mul_zero] at this
      exact this.symm
    · exact (Int.mul_eq_zero.mp this).resolve_left (pf_ne r)
  have hld : ∀ k, k < found.length → ld (primE (found.getD k [])) = P.getD k 0 := fun k hk => ld_char (fun z => I.nz k hk ((hz _ _).mp z)) fun j hj => (hz _ _).mpr (I.be k hk j hj)
  have mem : ∀ t ∈ found.map primE, ∃ k, k < found.length ∧ t = primE (found.getD k []) := fun t ht => by
    obtain ⟨r, hr, rfl⟩ := List.mem_map.mp ht
    obtain ⟨k, hk, e⟩ := List.mem_iff_getElem.mp hr
    exact ⟨k, hk, by rw [List.getD_eq_getElem?_getD, List.getElem?_eq_getElem hk, e]; rfl⟩
  have z' : ∀ i k, i < (found.map primE).length → k < (found.map primE).length → k ≠ i → row (found.map primE) k (ld ((found.map primE).getD i [])) = 0 := fun i k hi hk hne => by
    rw [List.length_map] at hi hk
    rw [row_map hk, getD_map hi, hld i hi]
    exact (hz _ _).mpr (I.z i k hi hk hne)
  have nz' : ∀ k, k < (found.map primE).length → row (found.map primE) k (ld ((found.map primE).getD k [])) ≠ 0 := fun k hk => by
    rw [List.length_map] at hk
    rw [row_map hk, getD_map hk, hld k hk]
    exact fun z => I.nz k hk ((hz _ _).mp z)
  have lt' : ∀ k, k < (found.map primE).length → ld ((found.map primE).getD k []) < w := fun k hk => by
    rw [List.length_map] at hk
    rw [getD_map hk, hld k hk]
    exact I.pp k hk
  refine ⟨fun t ht => ?_, fun t ht => ?_, fun t ht => ?_, z', ⟨?_, fun k hk => ?_, fun i hi => ?_⟩, fun t ht j => ?_⟩
  · obtain ⟨k, hk, rfl⟩ := mem t ht
    rw [primE_len]
    exact I.ll _ (.inr (mem_row hk))
  · obtain ⟨k, hk, rfl⟩ := mem t ht
    rw [hld k hk]
    exact I.pp k hk
  · obtain ⟨k, hk, rfl⟩ := mem t ht
    rw [hld k hk]
    exact fun z => I.nz k hk ((hz _ _).mp z)
  · exact Ech.ind (lead := fun k => ld ((found.map primE).getD k [])) ⟨lt', nz', z'⟩
  · rw [List.length_map] at hk
    rw [row_map hk]
    have h1 : SpM w rows (found.getD k []) := (I.ff _ (mem_row hk)).trans fun x hx => SpM.own (I.hr x hx)
    exact SpM.mul (c := pf (found.getD k [])) (α := 1) (pf_ne _) h1 fun j _ => by rw [prim_ex, Int.one_mul]
  · refine (I.rv _ (mem_row hi)).trans fun x hx => ?_
    rcases List.mem_append.mp hx with hx | hx
    · exact SpM.mul (c := 1) (α := pf x) (by decide) (SpM.own (List.mem_map.mpr ⟨x, hx, rfl⟩)) fun j _ => by rw [prim_ex, Int.one_mul]
    · exact SpM.zero (I.lz x hx)
  · obtain ⟨k, hk, rfl⟩ := mem t ht
    rw [List.length_map]
    refine Nat.le_trans (prim_le _ j) ?_
    have hr := mem_row hk
    generalize hR : found.getD k [] = r at hr
    by_cases hj : j < w
    · rcases I.rd r (.inr hr) with hv | hv
      · obtain ⟨m, hm⟩ : ∃ m, found.length = m + 1 := ⟨found.length - 1, by omega⟩
        have hI := I.ind (Nat.le_refl _)
        have hs := I.ff r hr
        unfold SpM at hs
        rw [I.hl] at hs
        have hk0 := hk
        rw [hm] at hI hs hk ⊢
        refine bd_found (B := row Hh) (P := fun k => P.getD k 0) (i0 := k) (I.ll r (.inr hr)) hv (fun i hi j => co_bd hM (I.hr _ (mem_row (by rw [I.hl, hm]; exact hi))) j) (fun k hk => I.pp k (by omega)) hI hs hk (fun i hi hne => ?_) j hj
        rw [← hR]
        exact I.z i k (by omega) hk0 (Ne.symm hne)
      · exact Nat.le_trans (co_bd hM hv j) (Bd_le (by omega))
    · rw [co_far (by rw [I.ll r (.inr hr)]; omega)]
      exact Nat.zero_le _
abbrev le0 (t : List Int) : Int := co t (ld t)
def wst (a : Int) (t : List Int) : Int := a * (le0 t).fdiv (Nat.gcd a.natAbs (le0 t).natAbs : Nat)
def whl (T : List (List Int)) : Int := T.foldl wst 1
def frees (T : List (List Int)) (w : Nat) : List Nat := (List.range w).filter fun p => !(T.map ld).contains p
def kst (W : Int) (f : Nat) (o : List Int) (t : List Int) : List Int := o.set (ld t) (-(W.fdiv (le0 t)) * co t f)
def k0 (W : Int) (w f : Nat) : List Int := (List.replicate w (0 : Int)).set f W
def kone (T : List (List Int)) (w f : Nat) : List Int := T.foldl (kst (whl T) f) (k0 (whl T) w f)
theorem kst_len (W : Int) (f : Nat) (o t : List Int) : (kst W f o t).length = o.length := List.length_set ..
theorem k0_len (W : Int) (w f : Nat) : (k0 W w f).length = w := by
  unfold k0
  rw [List.length_set, List.length_replicate]
theorem fold_len {g : List Int → List Int → List Int} (h : ∀ o t, (g o t).length = o.length) : ∀ (T : List (List Int)) (o : List Int), (T.foldl g o).length = o.length
  | [], _ => rfl
  | t :: T, o => by
    rw [List.foldl_cons, fold_len h T, h]
theorem kone_len (T : List (List Int)) (w f : Nat) : (kone T w f).length = w := by
  unfold kone
  rw [fold_len (kst_len _ _), k0_len]
def kvs (T : List (List Int)) (w : Nat) : List (List Int) := (frees T w).map (kone T w)
theorem frees_lt {T : List (List Int)} {w f : Nat} (h : f ∈ frees T w) : f < w := List.mem_range.mp (List.mem_filter.mp h).1
structure KOk (T : List (List Int)) : Prop where
  c1 : ∀ A t B, T = A ++ t :: B → CDivQ (le0 t) (Nat.gcd (whl A).natAbs (le0 t).natAbs : Nat)
  m1 : ∀ A t B, T = A ++ t :: B → CMulW (whl A) ((le0 t).fdiv (Nat.gcd (whl A).natAbs (le0 t).natAbs : Nat))
  c2 : ∀ t ∈ T, CDivQ (whl T) (le0 t)
  m2 : ∀ t ∈ T, ∀ f, CMulW (-((whl T).fdiv (le0 t))) (co t f)
  m3 : ∀ t ∈ T, ∀ f, CMulW (whl T) (co t f)
  c3 : ∀ t ∈ T, ∀ f, CDivQ (whl T * co t f) (le0 t)
theorem wst_dvd (a : Int) (t : List Int) : a ∣ wst a t := ⟨_, rfl⟩
theorem wst_lead (a : Int) (t : List Int) : le0 t ∣ wst a t := by
  unfold wst
  have d1 : ((Nat.gcd a.natAbs (le0 t).natAbs : Nat) : Int) ∣ a := Int.ofNat_dvd_left.mpr (Nat.gcd_dvd_left ..)
  have d2 : ((Nat.gcd a.natAbs (le0 t).natAbs : Nat) : Int) ∣ le0 t := Int.ofNat_dvd_left.mpr (Nat.gcd_dvd_right ..)
  have e2 := fdiv_ex d2
  obtain ⟨q, hq⟩ := d1
  generalize ((Nat.gcd a.natAbs (le0 t).natAbs : Nat) : Int) = g at *
  refine ⟨q, ?_⟩
  have : a * (le0 t).fdiv g = g * (le0 t).fdiv g * q := by grind
  rw [this, e2]
theorem gcd_ne2 {a b : Int} (h : b ≠ 0) : ((Nat.gcd a.natAbs b.natAbs : Nat) : Int) ≠ 0 := by
  have := Nat.gcd_pos_of_pos_right a.natAbs (show 0 < b.natAbs by omega)
  omega
theorem gq_le {a : Int} {t : List Int} (h : le0 t ≠ 0) : ((le0 t).fdiv (Nat.gcd a.natAbs (le0 t).natAbs : Nat)).natAbs ≤ (le0 t).natAbs :=
  quot_le (fdiv_ex (Int.ofNat_dvd_left.mpr (Nat.gcd_dvd_right ..))) (gcd_ne2 h)
theorem gq_ne {a : Int} {t : List Int} (h : le0 t ≠ 0) : (le0 t).fdiv (Nat.gcd a.natAbs (le0 t).natAbs : Nat) ≠ 0 := fun z => by
  have e := fdiv_ex (Int.ofNat_dvd_left.mpr (Nat.gcd_dvd_right a.natAbs (le0 t).natAbs) : ((Nat.gcd a.natAbs (le0 t).natAbs : Nat) : Int) ∣ le0 t)
  rw [z, Int.mul_zero] at e
  exact h e.symm
theorem wst_le {a : Int} {t : List Int} (h : le0 t ≠ 0) : (wst a t).natAbs ≤ a.natAbs * (le0 t).natAbs := by
  unfold wst
  rw [Int.natAbs_mul]
  exact Nat.mul_le_mul_left _ (gq_le h)
theorem wst_ne {a : Int} {t : List Int} (ha : a ≠ 0) (h : le0 t ≠ 0) : wst a t ≠ 0 := Int.mul_ne_zero ha (gq_ne h)
theorem whl_aux {B : Nat} : ∀ (T : List (List Int)) (a : Int), a ≠ 0 → (∀ t ∈ T, le0 t ≠ 0 ∧ (le0 t).natAbs ≤ B) → T.foldl wst a ≠ 0 ∧ a ∣ T.foldl wst a ∧ (∀ t ∈ T, le0 t ∣ T.foldl wst a) ∧ (T.foldl wst a).natAbs ≤ a.natAbs * B ^ T.length
  | [], a, ha, _ => ⟨ha, Int.dvd_refl _, fun t ht => absurd ht List.not_mem_nil, by show a.natAbs ≤ a.natAbs * 1; omega⟩
  | t :: T, a, ha, h => by
    obtain ⟨ht, hb⟩ := h t List.mem_cons_self
    obtain ⟨h1, h2, h3, h4⟩ := whl_aux T (wst a t) (wst_ne ha ht) fun u hu => h u (List.mem_cons_of_mem _ hu)
    rw [List.foldl_cons]
    refine ⟨h1, Int.dvd_trans (wst_dvd a t) h2, fun u hu => ?_, ?_⟩
    · rcases List.mem_cons.mp hu with rfl | hu
      · exact Int.dvd_trans (wst_lead a u) h2
      · exact h3 u hu
    · refine Nat.le_trans h4 ?_
      rw [List.length_cons, Nat.pow_succ, Nat.mul_comm (B ^ T.length), ← Nat.mul_assoc]
      exact Nat.mul_le_mul_right _ (Nat.le_trans (wst_le ht) (Nat.mul_le_mul_left _ hb))
theorem whl_ok {B : Nat} {T : List (List Int)} (h : ∀ t ∈ T, le0 t ≠ 0 ∧ (le0 t).natAbs ≤ B) : whl T ≠ 0 ∧ (∀ t ∈ T, le0 t ∣ whl T) ∧ (whl T).natAbs ≤ B ^ T.length := by
  obtain ⟨h1, _, h3, h4⟩ := whl_aux T 1 (by decide) h
  exact ⟨h1, h3, by rw [show (1 : Int).natAbs = 1 from rfl, Nat.one_mul] at h4; exact h4⟩
theorem co_set {l : List Int} {i j : Nat} {x : Int} : co (l.set i x) j = if j = i ∧ i < l.length then x else co l j := by
  unfold co
  rw [List.getD_eq_getElem?_getD, List.getD_eq_getElem?_getD, List.getElem?_set]
  by_cases c : j = i
  · subst c
    by_cases d : j < l.length
    · rw [if_pos rfl, if_pos d, if_pos ⟨rfl, d⟩]
      rfl
    · rw [if_pos rfl, if_neg d, if_neg fun z => d z.2, List.getElem?_eq_none (by omega)]
  · rw [if_neg (Ne.symm c), if_neg fun z => c z.1]
theorem fold_out {W : Int} {f j : Nat} : ∀ (T : List (List Int)) (o : List Int), (∀ t ∈ T, ld t ≠ j) → co (T.foldl (kst W f) o) j = co o j
  | [], _, _ => rfl
  | t :: T, o, h => by
    rw [List.foldl_cons, fold_out T _ fun u hu => h u (List.mem_cons_of_mem _ hu)]
    unfold kst
    rw [co_set, if_neg fun z => h t List.mem_cons_self z.1.symm]
theorem fold_in {W : Int} {f : Nat} {t : List Int} {C : List (List Int)} (A : List (List Int)) (o : List Int) (hC : ∀ u ∈ C, ld u ≠ ld t) (hl : ld t < o.length) : co ((A ++ t :: C).foldl (kst W f) o) (ld t) = -(W.fdiv (le0 t)) * co t f := by
  rw [List.foldl_append, List.foldl_cons, fold_out C _ hC]
  have e := fold_len (kst_len W f) A o
  generalize List.foldl (kst W f) o A = o2 at e ⊢
  show co (o2.set (ld t) _) (ld t) = _
  rw [co_set, if_pos ⟨rfl, by omega⟩]
theorem co_k0 {W : Int} {w f j : Nat} (hf : f < w) : co (k0 W w f) j = if j = f then W else 0 := by
  unfold k0
  rw [co_set, List.length_replicate]
  by_cases c : j = f
  · rw [if_pos ⟨c, hf⟩, if_pos c]
  · rw [if_neg fun z => c z.1, if_neg c]
    by_cases d : j < w
    · unfold co
      rw [List.getD_eq_getElem?_getD, List.getElem?_replicate, if_pos d]
      rfl
    · exact co_far (by rw [List.length_replicate]; omega)
theorem mem_frees {T : List (List Int)} {w f : Nat} : f ∈ frees T w ↔ f < w ∧ ∀ t ∈ T, ld t ≠ f := by
  unfold frees
  rw [List.mem_filter, List.mem_range]
  constructor
  · rintro ⟨h1, h2⟩
    refine ⟨h1, fun t ht e => ?_⟩
    have : (T.map ld).contains f = true := List.contains_iff_mem.mpr (List.mem_map.mpr ⟨t, ht, e⟩)
    rw [this] at h2
    cases h2
  · rintro ⟨h1, h2⟩
    refine ⟨h1, ?_⟩
    have : (T.map ld).contains f = false := by
      rw [Bool.eq_false_iff]
      intro z
      obtain ⟨t, ht, e⟩ := List.mem_map.mp (List.contains_iff_mem.mp z)
      exact h2 t ht e
    rw [this]
    rfl
theorem frees_cnt {T : List (List Int)} {w : Nat} (hl : ∀ t ∈ T, ld t < w) (hn : (T.map ld).Nodup) : (frees T w).length + T.length = w := by
  have p : List.Perm (frees T w ++ T.map ld) (List.range w) := (List.perm_ext_iff_of_nodup (List.nodup_append.mpr ⟨List.nodup_range.filter _, hn, fun a ha b hb e => by
      obtain ⟨t, ht, q⟩ := List.mem_map.mp hb
      exact (mem_frees.mp ha).2 t ht (q.trans e.symm)⟩) List.nodup_range).mpr fun a => by
    rw [List.mem_append, List.mem_range]
    constructor
    · rintro (h | h)
      · exact (mem_frees.mp h).1
      · obtain ⟨t, ht, q⟩ := List.mem_map.mp h
        exact q ▸ hl t ht
    · intro h
      by_cases c : ∀ t ∈ T, ld t ≠ a
      · exact .inl (mem_frees.mpr ⟨h, c⟩)
      · obtain ⟨t, ht⟩ := Classical.not_forall.mp c
        obtain ⟨h1, h2⟩ := Classical.not_imp.mp ht
        exact .inr (List.mem_map.mpr ⟨t, h1, Classical.not_not.mp h2⟩)
  have := p.length_eq
  rwa [List.length_append, List.length_map, List.length_range] at this
structure Kv (n : Nat) (T : List (List Int)) : Prop where
  free : ∀ f ∈ frees T n, ∀ g ∈ frees T n, co (kone T n f) g = if g = f then whl T else 0
  dot : ∀ f ∈ frees T n, ∀ t ∈ T, S n (fun j => co (kone T n f) j * co t j) = 0
  nz : whl T ≠ 0
  bd : ∀ B, (∀ t ∈ T, ∀ j, (co t j).natAbs ≤ B) → 1 ≤ B → ∀ f ∈ frees T n, ∀ j, (co (kone T n f) j).natAbs ≤ B ^ (T.length + 1)
theorem S_two {g : Nat → Int} {n p q : Nat} (hp : p < n) (hq : q < n) (hpq : p ≠ q) (h : ∀ i, i < n → i ≠ p → i ≠ q → g i = 0) : S n g = g p + g q := by
  have e : S n g = S n (fun i => (if i = p then g i else 0) + (if i = p then 0 else g i)) := S_congr fun i _ => by
    by_cases c : i = p
    · rw [if_pos c, if_pos c, Int.add_zero]
    · rw [if_neg c, if_neg c, Int.zero_add]
  rw [e, S_add, S_one hp fun i _ hne => by rw [if_neg hne], S_one hq fun i hi hne => by
    by_cases c : i = p
    · rw [if_pos c]
    · rw [if_neg c]
      exact h i hi c hne]
  rw [if_pos rfl, if_neg (Ne.symm hpq)]
theorem Told.nodup {w M : Nat} {rows T : List (List Int)} (h : Told w M rows T) : (T.map ld).Nodup := by
  unfold List.Nodup
  rw [List.pairwise_iff_getElem]
  intro i j hi hj hij e
  rw [List.length_map] at hi hj
  rw [List.getElem_map, List.getElem_map] at e
  have hz := h.z i j hi hj (by omega)
  have g : ∀ k, (hk : k < T.length) → T.getD k [] = T[k] := fun k hk => by rw [List.getD_eq_getElem?_getD, List.getElem?_eq_getElem hk]; rfl
  unfold row at hz
  rw [g i hi, g j hj, e] at hz
  exact h.nz _ (List.getElem_mem hj) hz
theorem Told.split {w M : Nat} {rows T : List (List Int)} (h : Told w M rows T) {t : List Int} (ht : t ∈ T) : ∃ A C, T = A ++ t :: C ∧ (∀ u ∈ C, ld u ≠ ld t) ∧ ∀ u ∈ T, u ≠ t → co t (ld u) = 0 := by
  obtain ⟨i, hi, e⟩ := List.mem_iff_getElem.mp ht
  have g : ∀ k, (hk : k < T.length) → T.getD k [] = T[k] := fun k hk => by rw [List.getD_eq_getElem?_getD, List.getElem?_eq_getElem hk]; rfl
  obtain ⟨A, C, es⟩ := List.append_of_mem ht
  refine ⟨A, C, es, fun u hu eq => ?_, fun u hu ne => ?_⟩
  · have nd := h.nodup
    rw [es, List.map_append, List.map_cons] at nd
    have := (List.nodup_append.mp nd).2.1
    exact (List.nodup_cons.mp this).1 (List.mem_map.mpr ⟨u, hu, eq⟩)
  · obtain ⟨k, hk, e2⟩ := List.mem_iff_getElem.mp hu
    have hki : i ≠ k := fun z => by
      subst z
      exact ne (e2.symm.trans e)
    have hz := h.z k i hk hi hki
    unfold row at hz
    rw [g k hk, g i hi, e, e2] at hz
    exact hz
theorem kv {n M : Nat} {rows T : List (List Int)} (h : Told n M rows T) : Kv n T := by
  have hle : ∀ B, (∀ t ∈ T, ∀ j, (co t j).natAbs ≤ B) → ∀ t ∈ T, le0 t ≠ 0 ∧ (le0 t).natAbs ≤ B := fun B hB t ht => ⟨h.nz t ht, hB t ht _⟩
  obtain ⟨w0, w1, _⟩ := whl_ok (hle _ h.bd)
  have out : ∀ f ∈ frees T n, ∀ j, (∀ t ∈ T, ld t ≠ j) → co (kone T n f) j = if j = f then whl T else 0 := fun f hf j hj => by
    unfold kone
    rw [fold_out T _ hj, co_k0 (frees_lt hf)]
  have inn : ∀ f ∈ frees T n, ∀ t ∈ T, co (kone T n f) (ld t) = -((whl T).fdiv (le0 t)) * co t f := fun f hf t ht => by
    obtain ⟨A, C, es, hC, _⟩ := h.split ht
    unfold kone
    generalize whl T = W
    rw [es]
    exact fold_in A _ hC (by rw [k0_len]; exact h.lt t ht)
  refine ⟨fun f hf g hg => out f hf g (mem_frees.mp hg).2, fun f hf t ht => ?_, w0, fun B hB h1 f hf j => ?_⟩
  · obtain ⟨fn, fl⟩ := mem_frees.mp hf
    obtain ⟨A, C, es, hC, hz⟩ := h.split ht
    rw [S_two fn (h.lt t ht) (Ne.symm (fl t ht)) fun j hj h1 h2 => ?_]
    · rw [out f hf f fl, if_pos rfl, inn f hf t ht]
      have e := fdiv_ex (w1 t ht)
      generalize (whl T).fdiv (le0 t) = q at e
      rw [← e]
      grind
    · by_cases c : ∃ u ∈ T, ld u = j
      · obtain ⟨u, hu, eu⟩ := c
        rw [← eu, hz u hu fun z => h2 (by rw [← eu, z]), Int.mul_zero]
      · rw [out f hf j fun u hu e => c ⟨u, hu, e⟩, if_neg h1, Int.zero_mul]
  · have w2 := (whl_ok (hle B hB)).2.2
    have p1 : B ^ T.length ≤ B ^ (T.length + 1) := Nat.pow_le_pow_right h1 (by omega)
    by_cases c : ∃ u ∈ T, ld u = j
    · obtain ⟨u, hu, eu⟩ := c
      rw [← eu, inn f hf u hu, Int.natAbs_mul, Int.natAbs_neg, Nat.pow_succ]
      exact Nat.mul_le_mul (Nat.le_trans (quot_le (fdiv_ex (w1 u hu)) (h.nz u hu)) w2) (hB u hu f)
    · rw [out f hf j fun u hu e => c ⟨u, hu, e⟩]
      by_cases d : j = f
      · rw [if_pos d]
        exact Nat.le_trans w2 p1
      · rw [if_neg d]
        exact Nat.zero_le _
end K45

set_option Elab.async false
set_option linter.all false
set_option maxRecDepth 100000
set_option maxHeartbeats 4000000
set_option exponentiation.threshold 10000
namespace K45
open PySem PySem.Spec PyProof.Rows L2 StX RZ MyR SlX OwnR OwnF EnumT GxR GenNx FDivQ LA
section
variable {P : Program} {w : World} {K : PySem.W.Frag} {mg : Str → Option Value} {base : Heap} {Ps : List Addr}
end
theorem gl_all0 : ∀ (l : List Int), (∀ x ∈ l, x = 0) → gl l = 0 := fun l h => by
  unfold gl
  induction l with
  | nil => rfl
  | cons x l ih =>
    rw [List.foldl_cons, h x List.mem_cons_self]
    exact ih fun y hy => h y (List.mem_cons_of_mem _ hy)
section
variable {P : Program} {w : World} {K : PySem.W.Frag} {mg : Str → Option Value} {base : Heap} {Ps : List Addr}
end
section
variable {P : Program} {w : World} {K : PySem.W.Frag} {mg : Str → Option Value} {base : Heap} {Ps : List Addr}
end
section
variable {P : Program} {w : World} {K : PySem.W.Frag} {mg : Str → Option Value} {base : Heap} {Ps : List Addr}
end
section
variable {P : Program} {w : World} {K : PySem.W.Frag} {mg : Str → Option Value} {base : Heap} {Ps : List Addr}
end
theorem gl_cont : ∀ (l : List Int), cont l = gl l := fun l => by
  have key : ∀ n, n ≤ l.length → cont (l.take n) = gl (l.take n) := fun n => by
    induction n with
    | zero => exact fun _ => rfl
    | succ n ih =>
      intro h
      rw [take_snoc (by omega), cont_snoc, ih (by omega)]
      unfold gl
      rw [List.foldl_append]
      rfl
  have := key l.length (Nat.le_refl _)
  rw [List.take_length] at this
  exact this
section
variable {P : Program} {w : World} {K : PySem.W.Frag} {mg : Str → Option Value} {base : Heap} {Ps : List Addr}
end
end K45

set_option Elab.async false
set_option linter.all false
set_option maxRecDepth 100000
/-! layings: three forms, powers -/
namespace K45
def fact : Nat → Int
  | 0 => 1
  | n + 1 => fact n * (n + 1)
end K45

set_option Elab.async false
set_option linter.all false
set_option maxRecDepth 100000
set_option maxHeartbeats 4000000
namespace K45
open PySem PySem.Spec PyProof.Rows L2 StX RZ MyR SlX OwnR OwnF EnumT
/-- a loop over enumerate of a list -/
theorem for_enum {K : PySem.W.Frag} {a : Addr} {xs : List V} {g : TG} {tb : TS} {D : Ends} {σ : L2.St} {H : Hp} (Pv : Nat → L2.St → Hp → Prop) (h0 : Pv 0 σ H) (hq : ∀ i σ H, Pv i σ H → SqL K H a xs)
    (hs : ∀ (i : Nat) (x : V) (T : Addr) (σ : L2.St) (H : Hp), xs[i]? = some x → Pv i σ H → H T = none → g (.ref T) σ (upd H T (.tup [.int (i : Nat), x])) fun σ2 H2 => tb { D with nx := Pv (i + 1), ct := Pv (i + 1), bk := D.nx } σ2 H2) (hd : ∀ σ H, Pv xs.length σ H → D.nx σ H) :
    ∃ W : Nat → Nat → L2.St → Hp → Prop, (∃ m, W 0 m σ H) ∧ ∀ i m σ H, W i m σ H →
      ((Ite K a).stop i H ∧ D.nx σ H) ∨ ((Ite K a).go i H ∧ ∃ N : L2.St → Hp → Prop, (∀ σ' H', N σ' H' → ∃ m', m' < m ∧ W (i + 1) m' σ' H') ∧ ∀ v H', (Ite K a).yld i H v H' → g v σ H' fun σ2 H2 => tb { D with nx := N, ct := N, bk := D.nx } σ2 H2) := by
  refine ⟨fun i m σ H => m = xs.length - i ∧ i ≤ xs.length ∧ Pv i σ H, ⟨xs.length, rfl, Nat.zero_le _, h0⟩, ?_⟩
  rintro i m σ H ⟨rfl, hi, p⟩
  have qx := hq i σ H p
  by_cases hlt : i < xs.length
  · have hx : xs[i]? = some xs[i] := List.getElem?_eq_getElem hlt
    refine .inr ⟨⟨xs, _, qx, hx⟩, Pv (i + 1), fun σ' H' p' => ⟨xs.length - (i + 1), by omega, rfl, hlt, p'⟩, fun v H' y => ?_⟩
    obtain ⟨T, x', rfl, hT, rfl, f1⟩ := y
    exact hs i x' T σ H (f1 xs qx) p hT
  · have e : i = xs.length := by omega
    subst e
    exact .inl ⟨⟨xs, qx, Nat.le_refl _⟩, hd σ H p⟩
/-- a comprehension over enumerate of a list -/
theorem lc_enum {K : PySem.W.Frag} {a : Addr} {xs : List V} {g : TG} {tt : TT} {te : TE} {vs : List Nat} {σ : L2.St} {H1 : Hp} {D : Addr} {Qd : Hp → Prop} (Pv : Nat → Hp → Prop) (h0 : Pv 0 (upd H1 D (.lst []))) (hq : ∀ i H, i ≤ xs.length → Pv i H → SqL K H a xs)
    (hs : ∀ (i : Nat) (x : V) (T : Addr) (H : Hp), xs[i]? = some x → Pv i H → H T = none → g (.ref T) (wipe σ vs) (upd H T (.tup [.int (i : Nat), x])) fun σ2 H2 => wipe σ2 vs = wipe σ vs ∧ tt σ2 H2 fun b H3 =>
      if b = true then te σ2 H3 fun y H4 => ∃ acc, H4 D = some (.lst acc) ∧ acc.length < sizeLine ∧ Pv (i + 1) (upd H4 D (.lst (acc ++ [y]))) else Pv (i + 1) H3) (hd : ∀ H, Pv xs.length H → Qd H) :
    ∃ W : Nat → Nat → Hp → Prop, (∃ m, W 0 m (upd H1 D (.lst []))) ∧ ∀ i m H, W i m H →
      ((Ite K a).stop i H ∧ Qd H) ∨ ((Ite K a).go i H ∧ ∃ Nx : Hp → Prop, (∀ H', Nx H' → ∃ m', m' < m ∧ W (i + 1) m' H') ∧ ∀ x H', (Ite K a).yld i H x H' → g x (wipe σ vs) H' fun σ2 H2 => wipe σ2 vs = wipe σ vs ∧ tt σ2 H2 fun b H3 =>
        if b = true then te σ2 H3 fun y H4 => ∃ acc, H4 D = some (.lst acc) ∧ acc.length < sizeLine ∧ Nx (upd H4 D (.lst (acc ++ [y]))) else Nx H3) := by
  refine ⟨fun i m H => m = xs.length - i ∧ i ≤ xs.length ∧ Pv i H, ⟨xs.length, by simp, Nat.zero_le _, h0⟩, ?_⟩
  rintro i m H ⟨rfl, hi, p⟩
  have qx := hq i H hi p
  by_cases hlt : i < xs.length
  · have hx : xs[i]? = some xs[i] := List.getElem?_eq_getElem hlt
    refine .inr ⟨⟨xs, _, qx, hx⟩, Pv (i + 1), fun H' p' => ⟨xs.length - (i + 1), by omega, rfl, hlt, p'⟩, fun v H' y => ?_⟩
    obtain ⟨T, x', rfl, hT, rfl, f1⟩ := y
    exact hs i x' T H (f1 xs qx) p hT
  · have e : i = xs.length := by omega
    subst e
    exact .inl ⟨⟨xs, qx, Nat.le_refl _⟩, hd H p⟩
/-- a list of ints -/
abbrev lp (ns : List Int) : HO := .lst (ns.map V.int)
theorem lcut_init {l : List Int} (h : 1 ≤ l.length) : HO.lst (cutV (l.map V.int) none (some (-1))) = lp (l.take (l.length - 1)) := by
  rw [cut_init _ (by rw [List.length_map]; exact h), ← List.map_take, List.length_map]
theorem lcut_tail {l : List Int} (h : 1 ≤ l.length) : HO.lst (cutV (l.map V.int) (some 1) none) = lp (l.drop 1) := by
  rw [cut_tail _ (by rw [List.length_map]; exact h), ← List.map_drop]
theorem ch_le : ∀ n k : Nat, ch n k ≤ 2 ^ n
  | n, 0 => by rw [ch_zero]; exact Nat.one_le_two_pow
  | 0, k + 1 => Nat.zero_le _
  | n + 1, k + 1 => by
    show ch n k + ch n (k + 1) ≤ _
    have h1 := ch_le n k
    have h2 := ch_le n (k + 1)
    rw [Nat.pow_succ]
    omega
section
variable {P : Program} {w : World} {K : PySem.W.Frag} {mg : Str → Option Value} {base : Heap}
def spLots : Sp := fun vs H Q _ => ∃ n k : Nat, vs = [.int n, .int k] ∧ k ≤ n ∧ n ≤ 50 ∧ Q (.int (ch n k)) H
theorem sm_ch {n k : Nat} (h : n ≤ 50) : sm ((ch n k : Nat) : Int) := by
  show ((ch n k : Nat) : Int).natAbs < _
  rw [Int.natAbs_natCast]
  exact Nat.lt_of_le_of_lt (ch_le n k) (Nat.pow_lt_pow_right (by decide) (by omega))
theorem ok_lots_of (T : Facts K mg) : FnOk P w K mg base CX0 1 T.f_lots_of T.fd_lots_of ["many", "few"] spLots := by
  refine T.F_lots_of.ok sc_lots_of (fun vs H Q E h => ?_) (fun cdv A outer s H vs Q E hr h => ?_)
  · obtain ⟨n, k, rfl, _⟩ := h
    rfl
  · obtain ⟨n, k, rfl, hk, hn, q⟩ := h
    refine ⟨_, (PSs.nox (pss_cons (ps_set (i := 2) sc_lots_of.nd rfl (.inl rfl) pe_int)
    (pss_cons (ps_for PassesOwn.never (by rfl) (pi_range1 (by rfl) T.z_range (pa_cons (pv 1) pa_nil)) (pg_name (i := 3) sc_lots_of.nd rfl (.inl rfl))
      (pss_one (ps_set (i := 2) sc_lots_of.nd rfl (.inl rfl) (pe_op op_fdivZ (pe_op op_mulW (pv 2) (pe_op op_sub (pv 0) (pv 3))) (pe_op op_add (pv 3) pe_int)))))
    (pss_one (ps_ret (pv 2)))))), ?_⟩
    refine ⟨_, rfl, k, rfl, by omega, by omega, for_range (n := (k : Int).toNat) (fun i σ H' => ∃ y3, σ = [some (.int n), some (.int k), some (.int (ch n i)), y3] ∧ H' = H) ⟨none, by rw [ch_zero]; rfl, rfl⟩ (fun i σ H' hi hP => ?_) (fun σ H' hP => ?_)⟩
    · obtain ⟨y3, rfl, rfl⟩ := hP
      have e := ch_mul n i
      have hi1 : (0 : Int) + (i : Int) + 1 ≠ 0 := by omega
      refine ⟨_, rfl, _, rfl, _, rfl, _, _, rfl, rfl, _, _, rfl, rfl, sm_mul (sm_ch hn) (Nat.lt_of_le_of_lt (show ((n : Int) - (0 + (i : Int))).natAbs ≤ 50 by omega) (Nat.lt_of_lt_of_le (show 50 < 2 ^ 7 by decide) (Nat.pow_le_pow_right (by decide) (by decide)))), _, rfl, _, _, rfl, rfl, _, _, rfl, rfl, ⟨hi1, Nat.lt_trans (PySem.Flt.log2_lt_of (k := 10) (by decide) (by show ((0 : Int) + (i : Int) + 1).natAbs < 2 ^ 10; omega)) (by decide)⟩, some (.int (0 + (i : Int))), ?_, rfl⟩
      have e2 : (((ch n i : Nat) : Int) * ((n : Int) - (0 + (i : Int)))).fdiv (0 + (i : Int) + 1) = ((ch n (i + 1) : Nat) : Int) := by
        rw [Int.zero_add, ← e, Int.mul_fdiv_cancel _ (by omega)]
      show [some (V.int n), some (V.int k), some (V.int ((((ch n i : Nat) : Int) * ((n : Int) - (0 + (i : Int)))).fdiv (0 + (i : Int) + 1))), _] = _
      rw [e2]
    · obtain ⟨y3, rfl, rfl⟩ := hP
      rw [Int.toNat_natCast]
      exact ⟨_, rfl, q⟩
def spSlope : Sp := fun vs H Q _ => ∃ (a : Addr) (m : List Int) (b : Bool), vs = [.ref a, .bl b] ∧ H a = some (lp m) ∧ 1 ≤ m.length ∧ m.length ≤ 100 ∧ (∀ z ∈ m, sm z) ∧ ∀ p H', Same H H' → H p = none → H' p = some (lp (if b = true then dY m else dX m)) → Q (.ref p) H'
theorem ok_laying_slope (T : Facts K mg) : FnOk P w K mg base CX0 1 T.f_laying_slope T.fd_laying_slope ["entries", "by_y"] spSlope := by
  refine T.F_laying_slope.ok sc_laying_slope (fun vs H Q E h => ?_) (fun cdv A outer s H vs Q E hr h => ?_)
  · obtain ⟨a, m, b, rfl, _⟩ := h
    rfl
  · obtain ⟨a, m, b, rfl, ha, h1, h2, sm1, q⟩ := h
    refine ⟨_, (PSs.nox (pss_cons (ps_if (pt_val (pv 1))
      (pss_one (ps_ret (pe_lc (own := [("at", 2), ("entry", 3)]) (g := (gTup K 2 (gCons (gName 2) (gCons (gName 3) gNil)))) (tt := tYes) (by rfl) sc_laying_slope.nd (pi_enum (by rfl) T.z_enumerate (pa_cons (pe_slice sl_list (pv 0) (po_some pe_int) po_none) pa_nil)) (blkOk_by (N := N_laying_slope) (sc := defScope s_laying_slope) (by decide +kernel)) (fun _ _ _ _ _ => (pg_tup (by rfl) (pgs_cons (pg_name (i := 2) sc_laying_slope.nd rfl (.inl rfl)) (pgs_cons (pg_name (i := 3) sc_laying_slope.nd rfl (.inl rfl)) pgs_nil)))) (fun _ _ _ _ _ => pts_nil) (fun _ _ _ _ _ => (pe_op op_mulW (pv 3) (pe_op op_add (pv 2) pe_int))))))
      pss_nil)
    (pss_one (ps_ret (pe_lc (own := [("at", 2), ("entry", 3)]) (g := (gTup K 2 (gCons (gName 2) (gCons (gName 3) gNil)))) (tt := tYes) (by rfl) sc_laying_slope.nd (pi_enum (by rfl) T.z_enumerate (pa_cons (pe_slice sl_list (pv 0) po_none (po_some (pe_un un_neg pe_int))) pa_nil)) (blkOk_by (N := N_laying_slope) (sc := defScope s_laying_slope) (by decide +kernel)) (fun _ _ _ _ _ => (pg_tup (by rfl) (pgs_cons (pg_name (i := 2) sc_laying_slope.nd rfl (.inl rfl)) (pgs_cons (pg_name (i := 3) sc_laying_slope.nd rfl (.inl rfl)) pgs_nil)))) (fun _ _ _ _ _ => pts_nil) (fun _ _ _ _ _ => (pe_op op_mulW (pv 3) (pe_op op_sub (pe_op op_sub (pe_callB (call_len_seq : CallR _ _ (Evl.rLenS K)) (by rfl) T.z_len (by decide +kernel) (pa_cons (pv 0) pa_nil)) pe_int) (pv 2))))))))), ?_⟩
    cases b with
    | true =>
      refine ⟨_, rfl, true, rfl, iteT ⟨_, rfl, 1, rfl, a, _, rfl, SqL.of ha, fun p np => ?_⟩⟩
      rw [lcut_tail (by omega)]
      refine gen_upd H p _ np fun H2 s2 f2 => ⟨p, _, rfl, SqL.of f2, fun D hD => lc_enum (xs := (m.drop 1).map V.int) (fun k H' => Same H2 H' ∧ H' D = some (.lst (tab k fun k => co m (k + 1) * ((k : Int) + 1)))) ⟨same_upd0 hD, upd_same⟩ (fun k H' _ hP => SqL.of (hP.1 _ _ f2)) (fun k x B H' hx hP hB => ?_) (fun H3 hP => ?_)⟩
      · obtain ⟨sH, hL⟩ := hP
        obtain ⟨hk, rfl⟩ := int_get hx
        rw [List.length_drop] at hk
        rw [co_drop1]
        refine gen_upd H' B _ hB fun H4 s4 f4 => ⟨B, _, rfl, SqT.of f4, rfl, _, _, rfl, _, _, rfl, rfl, rfl, ?_⟩
        refine ⟨_, rfl, _, rfl, _, _, rfl, rfl, _, _, rfl, rfl, sm_mul (sm_co sm1 (by omega)) (Nat.lt_of_le_of_lt (show ((k : Int) + 1).natAbs ≤ 100 by omega) (Nat.lt_of_lt_of_le (show 100 < 2 ^ 7 by decide) (Nat.pow_le_pow_right (by decide) (by decide)))), _, s4 _ _ hL, ?_, fun b o e => ?_, ?_⟩
        · rw [tab_len]
          exact small1000 (by omega)
        · rw [upd_ne (ne_of_none e hD)]
          exact s4 _ _ (sH _ _ e)
        · rw [upd_same, ← tab_snoc]
      · obtain ⟨sH, hL⟩ := hP
        rw [List.length_map, List.length_drop, tab_tb] at hL
        exact q D H3 (s2.trans sH) (Same.free s2 hD) hL
    | false =>
      refine ⟨_, rfl, false, rfl, iteF ⟨_, rfl, _, rfl, _, rfl, a, _, rfl, SqL.of ha, fun p np => ?_⟩⟩
      rw [lcut_init (by omega)]
      refine gen_upd H p _ np fun H2 s2 f2 => ⟨p, _, rfl, SqL.of f2, fun D hD => lc_enum (xs := (m.take (m.length - 1)).map V.int) (fun k H' => Same H2 H' ∧ H' D = some (.lst (tab k fun k => co m k * ((m.length : Int) - 1 - k)))) ⟨same_upd0 hD, upd_same⟩ (fun k H' _ hP => SqL.of (hP.1 _ _ f2)) (fun k x B H' hx hP hB => ?_) (fun H3 hP => ?_)⟩
      · obtain ⟨sH, hL⟩ := hP
        obtain ⟨hk, rfl⟩ := int_get hx
        rw [List.length_take] at hk
        rw [co_take (by omega)]
        refine gen_upd H' B _ hB fun H4 s4 f4 => ⟨B, _, rfl, SqT.of f4, rfl, _, _, rfl, _, _, rfl, rfl, rfl, ?_⟩
        have hfB := (s2.trans (sH.trans s4)) _ _ ha
        refine ⟨_, rfl, _, rfl, a, _, rfl, .inl (SqL.of hfB), ?_⟩
        rw [List.length_map]
        refine ⟨_, _, rfl, rfl, _, rfl, _, _, rfl, rfl, _, _, rfl, rfl, sm_mul (sm_co sm1 (by omega)) (Nat.lt_of_le_of_lt (show ((m.length : Int) - 1 - (k : Int)).natAbs ≤ 100 by omega) (Nat.lt_of_lt_of_le (show 100 < 2 ^ 7 by decide) (Nat.pow_le_pow_right (by decide) (by decide)))), _, s4 _ _ hL, ?_, fun b o e => ?_, ?_⟩
        · rw [tab_len]
          exact small1000 (by omega)
        · rw [upd_ne (ne_of_none e hD)]
          exact s4 _ _ (sH _ _ e)
        · rw [upd_same, ← tab_snoc]
      · obtain ⟨sH, hL⟩ := hP
        rw [List.length_map, List.length_take, Nat.min_eq_left (by omega), tab_tb] at hL
        exact q D H3 (s2.trans sH) (Same.free s2 hD) hL
end
end K45

set_option Elab.async false
set_option linter.all false
set_option maxRecDepth 100000
set_option maxHeartbeats 4000000
namespace K45
open PySem PySem.Spec PyProof.Rows L2 StX RZ MyR SlX OwnR OwnF EnumT
theorem dX_itY (l : List Int) : ∀ j, dX (it dY j l) = it dY j (dX l)
  | 0 => rfl
  | j + 1 => by
    show dX (dY (it dY j l)) = dY (it dY j (dX l))
    rw [dXY, dX_itY l j]
theorem dX_dd (i j : Nat) (l : List Int) : dX (dd i j l) = dd (i + 1) j l := by
  unfold dd
  rw [dX_itY]
  rfl
theorem dY_dd (i j : Nat) (l : List Int) : dY (dd i j l) = dd i (j + 1) l := rfl
/-- lists of ints: where they stand, what they hold -/
structure Ll (H : Hp) (rs : List Addr) (n : Nat) (φ : Nat → List Int) : Prop where
  len : rs.length = n
  row : ∀ k (h : k < rs.length), H rs[k] = some (lp (φ k))
theorem Ll.same {H H' : Hp} {rs : List Addr} {n : Nat} {φ : Nat → List Int} (h : Ll H rs n φ) (s : Same H H') : Ll H' rs n φ := ⟨h.len, fun k hk => s _ _ (h.row k hk)⟩
theorem Ll.snoc {H H' : Hp} {rs : List Addr} {n : Nat} {φ : Nat → List Int} {p : Addr} {l : List Int} (h : Ll H rs n φ) (s : ∀ k (hk : k < rs.length), H' rs[k] = H rs[k]) (hp : H' p = some (lp l)) (e : l = φ n) : Ll H' (rs ++ [p]) (n + 1) φ := by
  refine ⟨by rw [List.length_append, h.len]; rfl, fun k hk => ?_⟩
  by_cases c : k < rs.length
  · rw [show (rs ++ [p])[k] = rs[k] from List.getElem_append_left _, s k c]
    exact h.row k c
  · have ek : k = rs.length := by rw [List.length_append] at hk; simp at hk; omega
    subst ek
    rw [show (rs ++ [p])[rs.length] = p by rw [List.getElem_append_right (Nat.le_refl _)]; simp, hp, e, h.len]
/-- all these addresses are free -/
def Fr (H : Hp) (rs : List Addr) : Prop := ∀ r ∈ rs, H r = none
theorem Fr.snoc {H : Hp} {rs : List Addr} {p : Addr} (h : Fr H rs) (hp : H p = none) : Fr H (rs ++ [p]) := fun r hr => by
  rcases List.mem_append.mp hr with e | e
  · exact h r e
  · rw [List.mem_singleton.mp e]
    exact hp
theorem get_ref {rs : List Addr} {i : Nat} {x : V} (h : (rs.map V.ref)[i]? = some x) : ∃ hi : i < rs.length, x = .ref rs[i] := by
  rw [List.getElem?_map] at h
  obtain ⟨b, hb, rfl⟩ := Option.map_eq_some_iff.mp h
  obtain ⟨h1, e1⟩ := List.getElem?_eq_some_iff.mp hb
  exact ⟨h1, by rw [e1]⟩
section
variable {P : Program} {w : World} {K : PySem.W.Frag} {mg : Str → Option Value} {base : Heap}
def spSlopes : Sp := fun vs H Q _ => ∃ (a : Addr) (l : List Int) (t : Nat), vs = [.ref a, .int t] ∧ H a = some (tp l) ∧ t + 1 ≤ l.length ∧ l.length ≤ 100 ∧ (∀ i j, i + j ≤ t → ∀ z ∈ dd i j l, sm z) ∧
  ∀ p rs H', Same H H' → H p = none → Fr H rs → H' p = some (.lst (rs.map V.ref)) → Ll H' rs (t + 1) (fun k => dd (t - k) k l) → Q (.ref p) H'
theorem ok_laying_slopes (T : Facts K mg) : FnOk P w K mg base CX0 2 T.f_laying_slopes T.fd_laying_slopes ["entries", "times"] spSlopes := by
  have G_laying_slope := ok_laying_slope (P := P) (w := w) (base := base) T
  refine T.F_laying_slopes.ok sc_laying_slopes (fun vs H Q E h => ?_) (fun cdv A outer s H vs Q E hr h => ?_)
  · obtain ⟨a, l, t, rfl, _⟩ := h
    rfl
  · obtain ⟨a, l, t, rfl, ha, h1, h2, hs, q⟩ := h
    refine ⟨_, (PSs.nox (pss_cons (ps_set (i := 2) sc_laying_slopes.nd rfl (.inl rfl) (pe_lst (pa_cons (pe_callTy call_list_of (by rfl) T.z_list (by decide +kernel) (pa_cons (pv 0) pa_nil)) pa_nil)))
    (pss_cons (ps_for PassesOwn.never (by rfl) (pi_range1 (by rfl) T.z_range (pa_cons (pv 1) pa_nil)) (pg_name (i := 3) sc_laying_slopes.nd rfl (.inl rfl))
      (pss_one (ps_set (i := 2) sc_laying_slopes.nd rfl (.inl rfl) (pe_lst (pa_star (pe_lc (own := [("one", 4)]) (g := (gName 4)) (tt := tYes) (by rfl) sc_laying_slopes.nd (pi_list (pv 2)) (blkOk_by (N := N_laying_slopes) (sc := defScope s_laying_slopes) (by decide +kernel)) (fun _ _ _ _ _ => (pg_name (i := 4) sc_laying_slopes.nd rfl (.inl rfl))) (fun _ _ _ _ _ => pts_nil) (fun _ _ _ _ _ => (pe_call G_laying_slope hr (by rfl) T.g_laying_slope T.F_laying_slope.kp T.b_laying_slope .nil pass0 (pa_cons (pv 4) (pa_cons pe_bl pa_nil))))) (pa_cons (pe_call G_laying_slope hr (by rfl) T.g_laying_slope T.F_laying_slope.kp T.b_laying_slope .nil pass0 (pa_cons (pe_ix ix_list (pv 2) (pe_un un_neg pe_int) (fun _ _ => rfl)) (pa_cons pe_bl pa_nil))) pa_nil))))))
    (pss_one (ps_ret (pv 2)))))), ?_⟩
    refine ⟨_, rfl, a, _, rfl, .inr (SqT.of ha), fun p0 n0 => gen_upd H p0 (lp l) n0 fun H1 s1 f1 => ⟨by show 1 ≤ sizeLine; decide, fun p1 n1 => gen_upd H1 p1 (.lst [.ref p0]) n1 fun H2 s2 f2 => ?_⟩⟩
    refine ⟨_, rfl, t, rfl, by omega, by omega, for_range (n := (t : Int).toNat) (fun u σ H' => ∃ fa rs y3, σ = [some (.ref a), some (.int t), some (.ref fa), y3, none] ∧ Same H H' ∧ H fa = none ∧ Fr H rs ∧ H' fa = some (.lst (rs.map V.ref)) ∧ Ll H' rs (u + 1) (fun k => dd (u - k) k l)) ⟨p1, [p0], none, rfl, s1.trans s2, Same.free s1 n1, fun r hr => by rw [List.mem_singleton.mp hr]; exact n0, f2, ⟨rfl, fun k hk => ?_⟩⟩ (fun u σ H' hu hP => ?_) (fun σ H' hP => ?_)⟩
    · have k0 : k = 0 := by have : k < 1 := hk; omega
      subst k0
      exact s2 _ _ f1
    · obtain ⟨fa, rs, y3, rfl, sH, nfa, fr, hfa, ll⟩ := hP
      have hu2 : u < t := by omega
      refine ⟨_, rfl, fa, rfl, ⟨_, SqL.of hfa⟩, fun D hD => lc_list (xs := rs.map V.ref) (fun j H3 => Same H' H3 ∧ ∃ ss, H3 D = some (.lst (ss.map V.ref)) ∧ Fr H ss ∧ Ll H3 ss j (fun k => dd (u + 1 - k) k l)) ⟨same_upd0 hD, [], upd_same, fun r hr => (nomatch hr), rfl, fun k hk => absurd hk (Nat.not_lt_zero k)⟩ (fun j H3 _ hP3 => SqL.of (hP3.1 _ _ hfa)) (fun j x H3 hx hP3 => ?_) (fun H3 hP3 => ?_)⟩
      · obtain ⟨s3, ss, hL, fs, l3⟩ := hP3
        obtain ⟨hj, rfl⟩ := get_ref hx
        have hj2 : j < u + 1 := by rw [← ll.len]; exact hj
        have hrow := s3 _ _ (ll.row j hj)
        have dl := dd_len (u - j) j l
        refine ⟨rfl, _, rfl, rs[j], _, false, rfl, hrow, by omega, by omega, hs (u - j) j (by omega), fun p4 H4 s4 n4 f4 => ?_⟩
        have hL4 := s4 _ _ hL
        have nD4 : ∀ q ls, H4 q = some (lp ls) → H3 q = none ∨ True → q ≠ D ∨ True := fun _ _ _ _ => .inr True.intro
        have p4D : p4 ≠ D := fun z => by rw [z, hL] at n4; cases n4
        have dH : ∀ b o, H' b = some o → b ≠ D := fun b o e => ne_of_none e hD
        refine ⟨_, hL4, by rw [List.length_map, l3.len]; exact small1000 (by omega), fun b o e => ?_, ss ++ [p4], by rw [upd_same, List.map_append]; rfl, fs.snoc (Same.free sH (Same.free s3 n4)), l3.snoc (fun k hk => ?_) (by rw [upd_ne p4D]; exact f4) ?_⟩
        · rw [upd_ne (dH b o e)]
          exact s4 _ _ (s3 _ _ e)
        · have e3 := l3.row k hk
          have nk : ss[k] ≠ D := fun z => by
            have e4 := e3
            rw [z, hL] at e4
            have hh := HO.lst.inj (Option.some.inj e4)
            have dl2 := dd_len (u + 1 - k) k l
            have hk2 : k < j := by rw [← l3.len]; exact hk
            have c0 := congrArg (fun zs => zs[0]?) hh
            have : 0 < (dd (u + 1 - k) k l).length := by omega
            have : 0 < ss.length := by omega
            simp only [List.getElem?_map] at c0
            rw [List.getElem?_eq_getElem (by omega), List.getElem?_eq_getElem (by omega)] at c0
            cases c0
          rw [upd_ne nk, s4 _ _ e3, e3]
        · rw [if_neg (by decide), dX_dd]
          rw [show u - j + 1 = u + 1 - j by omega]
      · obtain ⟨s3, ss, hL, fs, l3⟩ := hP3
        rw [List.length_map, ll.len] at l3
        refine ⟨D, _, rfl, .inr (SqL.of hL), ?_⟩
        obtain ⟨rs0, rl, ers⟩ : ∃ rs0 rl, rs = rs0 ++ [rl] := ⟨rs.dropLast, rs.getLast (fun z => by have := ll.len; rw [z] at this; cases this), (List.dropLast_concat_getLast _).symm⟩
        have lr0 : rs0.length = u := by have := ll.len; rw [ers, List.length_append] at this; simp at this; exact this
        have hrl : H' rl = some (lp (dd 0 u l)) := by
          have := ll.row u (by rw [ll.len]; omega)
          rw [Nat.sub_self] at this
          rw [← this]
          congr 1
          simp only [ers]
          rw [List.getElem_append_right (by omega)]
          simp [lr0]
        have hfa' : H' fa = some (.lst (rs0.map V.ref ++ [.ref rl])) := by rw [hfa, ers, List.map_append]; rfl
        have dl := dd_len 0 u l
        refine ⟨_, rfl, _, rfl, fa, _, _, _, rfl, rfl, SqL.of (s3 _ _ hfa'), atI_last _ _, rl, _, true, rfl, s3 _ _ hrl, by omega, by omega, hs 0 u (by omega), fun p5 H5 s5 n5 f5 => ?_⟩
        refine ⟨by rw [List.length_append, List.length_map, l3.len]; exact Nat.le_of_lt (small1000 (by show u + 1 + 1 ≤ 1000; omega)), fun p6 n6 => gen_upd H5 p6 _ n6 fun H6 s6 f6 => ?_⟩
        refine ⟨p6, ss ++ [p5], _, rfl, ((sH.trans s3).trans s5).trans s6, Same.free sH (Same.free s3 (Same.free s5 n6)), fs.snoc (Same.free sH (Same.free s3 n5)), by rw [f6, List.map_append]; rfl, l3.snoc (fun k hk => ?_) (s6 _ _ f5) ?_⟩
        · have e3 := l3.row k hk
          rw [(s5.trans s6) _ _ e3, e3]
        · rw [if_pos rfl, dY_dd, Nat.sub_self]
    · obtain ⟨fa, rs, y3, rfl, sH, nfa, fr, hfa, ll⟩ := hP
      rw [Int.toNat_natCast] at ll
      exact ⟨_, rfl, q fa rs H' sH nfa fr hfa ll⟩
end
end K45

set_option Elab.async false
set_option linter.all false
set_option maxRecDepth 100000
set_option maxHeartbeats 4000000
namespace K45
open PySem PySem.Spec PyProof.Rows L2 StX RZ MyR SlX OwnR OwnF EnumT
theorem tab_inj {n : Nat} {f g : Nat → Int} (h : f = g) : tab n f = tab n g := by rw [h]
/-- the entries so far of a laying -/
def Lc (t : Nat) (f g : List Int) (i k : Nat) : Int := su i fun j => sgn j * ch t j * cv (dd (t - j) j f) (co (dd j (t - j) g)) k
theorem evF_su (N : Nat) (φ : Nat → Nat → Int) (x y : Int) : ∀ n, evF N (fun k => su n fun j => φ j k) x y = su n fun j => evF N (φ j) x y
  | 0 => evF_zero x y N
  | n + 1 => by
    show evF N (fun k => su n (fun j => φ j k) + φ n k) x y = su n (fun j => evF N (φ j) x y) + evF N (φ n) x y
    rw [evF_add, evF_su N φ x y n]
theorem L_tab {t : Nat} {f g : List Int} (hf : t + 1 ≤ f.length) (hg : t + 1 ≤ g.length) : tb (f.length + g.length - 1 - 2 * t) (Lc t f g (t + 1)) = L t f g := by
  refine ev_inj (by rw [tb_len, L_len t f g hf hg]) fun x y => ?_
  rw [ev_tb, L_sum x y t f g hf hg]
  unfold Lc
  rw [evF_su]
  refine su_congr _ fun j hj => ?_
  have l1 := dd_len (t - j) j f
  have l2 := dd_len j (t - j) g
  have n1 : dd (t - j) j f ≠ [] := ne_of2 (by omega)
  have n2 : dd j (t - j) g ≠ [] := ne_of2 (by omega)
  rw [evF_mul]
  congr 1
  rw [← ev_ml n1 n2]
  unfold ev
  rw [ml_len, show (dd (t - j) j f).length + (dd j (t - j) g).length - 1 = f.length + g.length - 1 - 2 * t by omega]
  exact evF_congr _ fun k _ => (co_ml n2 k).symm
/-- what is asked of what is laid -/
structure LdOk (t : Nat) (f g : List Int) : Prop where
  lf : t + 1 ≤ f.length
  lg : t + 1 ≤ g.length
  mf : f.length ≤ 42
  mg : g.length ≤ 42
  sf : ∀ i j, i + j ≤ t → nm (dd i j f) ≤ 2 ^ 1500
  sg : ∀ i j, i + j ≤ t → nm (dd i j g) ≤ 2 ^ 1500
theorem lt400 {x i : Nat} (h : x ≤ 2 ^ i) (hi : i < 4000) : x < 2 ^ 4000 := Nat.lt_of_le_of_lt h (Nat.pow_lt_pow_right (by decide) hi)
theorem LdOk.smf {t : Nat} {f g : List Int} (h : LdOk t f g) (i j : Nat) (hij : i + j ≤ t) : ∀ z ∈ dd i j f, sm z := fun z hz => lt400 (Nat.le_trans (nm_mem hz) (h.sf i j hij)) (by decide)
theorem LdOk.smg {t : Nat} {f g : List Int} (h : LdOk t f g) (i j : Nat) (hij : i + j ≤ t) : ∀ z ∈ dd i j g, sm z := fun z hz => lt400 (Nat.le_trans (nm_mem hz) (h.sg i j hij)) (by decide)
section
variable {P : Program} {w : World} {K : PySem.W.Frag} {mg : Str → Option Value} {base : Heap}
def spAddP : Sp := fun vs H Q _ => ∃ (R a b : Addr) (N : Nat) (g : Nat → Int) (xs ys : List Int) (c : Int), vs = [.ref R, .ref a, .ref b, .int c] ∧ H R = some (.lst (tab N g)) ∧ H a = some (lp xs) ∧ H b = some (lp ys) ∧ a ≠ R ∧ b ≠ R ∧ xs.length + ys.length ≤ N + 1 ∧ N ≤ 900 ∧
  (∀ x ∈ xs, sm x ∧ sm (c * x)) ∧ (∀ y ∈ ys, sm y) ∧ sm c ∧ ∀ H', Sx R H H' → H' R = some (.lst (tab N fun k => g k + c * cv xs (co ys) k)) → Q .non H'
theorem ok_add_product (T : Facts K mg) : FnOk P w K mg base CX0 1 T.f_add_product T.fd_add_product ["found", "one", "other", "factor"] spAddP := by
  refine T.F_add_product.ok sc_add_product (fun vs H Q E h => ?_) (fun cdv A outer s H vs Q E hr h => ?_)
  · obtain ⟨R, a, b, N, g, xs, ys, c, rfl, _⟩ := h
    rfl
  · obtain ⟨R, a, b, N, g, xs, ys, c, rfl, hR, ha, hb, naR, nbR, hN, hN9, hx, hy, hc, q⟩ := h
    refine ⟨_, (PSs.nox (pss_one (ps_for PassesOwn.never (by rfl) (pi_enum (by rfl) T.z_enumerate (pa_cons (pv 1) pa_nil)) (pg_tup (by rfl) (pgs_cons (pg_name (i := 4) sc_add_product.nd rfl (.inl rfl)) (pgs_cons (pg_name (i := 5) sc_add_product.nd rfl (.inl rfl)) pgs_nil)))
      (pss_one (ps_for PassesOwn.never (by rfl) (pi_enum (by rfl) T.z_enumerate (pa_cons (pv 2) pa_nil)) (pg_tup (by rfl) (pgs_cons (pg_name (i := 6) sc_add_product.nd rfl (.inl rfl)) (pgs_cons (pg_name (i := 7) sc_add_product.nd rfl (.inl rfl)) pgs_nil)))
        (pss_one (ps_augS (pv 0) (pe_op op_add (pv 4) (pv 6)) OwnC.get_list (pe_op op_mulW (pe_op op_mulW (pv 3) (pv 5)) (pv 7)) ip_add set_list))))))), ?_⟩
    refine ⟨_, rfl, a, _, rfl, SqL.of ha, for_enum (xs := xs.map V.int) (fun i σ H' => ∃ y4 y5 y6 y7, σ = [some (.ref R), some (.ref a), some (.ref b), some (.int c), y4, y5, y6, y7] ∧ Sx R H H' ∧ H' R = some (.lst (tab N fun k => g k + c * cv (xs.take i) (co ys) k))) ⟨none, none, none, none, rfl, Sx.refl R H, ?_⟩ (fun i σ H' hP => ?_) (fun i x B σ H' hxi hP hB => ?_) (fun σ H' hP => ?_)⟩
    · rw [hR]
      congr 2
      refine tab_inj (funext fun k => ?_)
      show g k = g k + c * 0
      omega
    · obtain ⟨y4, y5, y6, y7, _, sH, _⟩ := hP
      exact SqL.of (sH _ _ naR ha)
    · obtain ⟨y4, y5, y6, y7, rfl, sH, hL⟩ := hP
      obtain ⟨hi2, rfl⟩ := int_get hxi
      refine ⟨B, _, rfl, SqT.of upd_same, rfl, _, _, rfl, _, _, rfl, rfl, ?_⟩
      refine gen_upd H' B _ hB (fun H2 s2 _ => ?_)
      have sH2 : Sx R H H2 := sH.trans (Sx.of s2)
      have hL2 := s2 _ _ hL
      rw [tab_ext (g := fun k => g k + c * J xs (co ys) i 0 k) fun k hk => by rw [J_0]] at hL2
      refine ⟨_, rfl, b, _, rfl, SqL.of (sH2 _ _ nbR hb), for_enum (xs := ys.map V.int) (fun j σ H3 => ∃ y6 y7, σ = [some (.ref R), some (.ref a), some (.ref b), some (.int c), some (.int ((i : Nat) : Int)), some (.int (co xs i)), y6, y7] ∧ Sx R H H3 ∧ H3 R = some (.lst (tab N fun k => g k + c * J xs (co ys) i j k))) ⟨y6, y7, rfl, sH2, hL2⟩ (fun j σ H3 hP => ?_) (fun j y B2 σ H3 hyj hP hB2 => ?_) (fun σ H3 hP => ?_)⟩
      · obtain ⟨y6, y7, _, sH3, _⟩ := hP
        exact SqL.of (sH3 _ _ nbR hb)
      · obtain ⟨y6, y7, rfl, sH3, hL3⟩ := hP
        obtain ⟨hj2, rfl⟩ := int_get hyj
        refine ⟨B2, _, rfl, SqT.of upd_same, rfl, _, _, rfl, _, _, rfl, rfl, ?_⟩
        refine gen_upd H3 B2 _ hB2 (fun H4 s4 _ => ?_)
        have sH4 : Sx R H H4 := sH3.trans (Sx.of s4)
        have hL4 := s4 _ _ hL3
        have e1 : ((i : Nat) : Int) + ((j : Nat) : Int) = ((i + j : Nat) : Int) := by omega
        obtain ⟨sx, scx⟩ := hx (co xs i) (by rw [co_get hi2]; exact List.getElem_mem hi2)
        refine ⟨_, rfl, _, rfl, _, rfl, _, _, rfl, rfl, R, _, i + j, _, rfl, by rw [← e1], SqL.of hL4, tab_get (by omega), ?_⟩
        refine ⟨_, rfl, _, rfl, _, _, rfl, rfl, sm_mul hc sx, _, rfl, _, _, rfl, rfl, sm_mul scx (sm_co hy hj2), _, _, rfl, rfl, R, _, _, (i + j), rfl, rfl, hL4, ?_, ?_⟩
        · rw [tab_len]
          exact ix_at e1 (by omega)
        · refine ⟨_, _, rfl, fun d o n e => ?_, ?_⟩
          · rw [upd_ne n]
            exact sH4 _ _ n e
          · rw [upd_same]
            show some (HO.lst ((tab N fun k => g k + c * J xs (co ys) i j k).set (i + j) (.int (g (i + j) + c * J xs (co ys) i j (i + j) + c * co xs i * co ys j)))) = _
            rw [tab_set]
            congr 2
            refine tab_ext fun k hk => ?_
            rw [← J_step]
            by_cases z : k = i + j
            · subst z
              rw [if_pos rfl, if_pos rfl]
              grind
            · rw [if_neg z, if_neg z]
      · obtain ⟨y6, y7, rfl, sH3, hL3⟩ := hP
        rw [List.length_map, tab_ext (g := fun k => g k + c * cv (xs.take (i + 1)) (co ys) k) fun k hk => by rw [J_end hi2]] at hL3
        exact ⟨_, _, _, _, rfl, sH3, hL3⟩
    · obtain ⟨y4, y5, y6, y7, rfl, sH, hL⟩ := hP
      rw [List.length_map, List.take_length] at hL
      exact q H' sH hL
end
end K45

set_option Elab.async false
set_option linter.all false
set_option maxRecDepth 100000
set_option maxHeartbeats 4000000
namespace K45
open PySem PySem.Spec PyProof.Rows L2 StX RZ MyR SlX OwnR OwnF EnumT
section
variable {P : Program} {w : World} {K : PySem.W.Frag} {mg : Str → Option Value} {base : Heap}
theorem sgn_abs (k : Nat) : (sgn k).natAbs = 1 := by
  unfold sgn
  split <;> rfl
theorem tab_rep0 (n : Nat) : (List.replicate n [V.int 0]).flatten = tab n fun _ => 0 := by
  rw [← tab_rep]
  induction n with
  | zero => rfl
  | succ n ih => rw [List.replicate_succ, List.flatten_cons, ih, List.replicate_succ]; rfl
def spLaidIn : Sp := fun vs H Q _ => ∃ (a b : Addr) (f g : List Int) (t : Nat), vs = [.ref a, .ref b, .int t] ∧ H a = some (tp f) ∧ H b = some (tp g) ∧ LdOk t f g ∧ ∀ p H', Same H H' → H' p = some (tp (L t f g)) → Q (.ref p) H'
theorem ok_laid_in (T : Facts K mg) : FnOk P w K mg base CX0 3 T.f_laid_in T.fd_laid_in ["one", "other", "times"] spLaidIn := by
  have G_laying_slopes := ok_laying_slopes (P := P) (w := w) (base := base) T
  have G_add_product := ok_add_product (P := P) (w := w) (base := base) T
  have G_lots_of := ok_lots_of (P := P) (w := w) (base := base) T
  refine T.F_laid_in.ok sc_laid_in (fun vs H Q E h => ?_) (fun cdv A outer s H vs Q E hr h => ?_)
  · obtain ⟨a, b, f, g, t, rfl, _⟩ := h
    rfl
  · obtain ⟨a, b, f, g, t, rfl, ha, hb, ok, q⟩ := h
    have lf := ok.lf
    have lg := ok.lg
    have mf := ok.mf
    have mg' := ok.mg
    refine ⟨_, (PSs.nox (pss_cons (ps_set (i := 3) sc_laid_in.nd rfl (.inl rfl) (pe_op op_rep (pe_lst (pa_cons pe_int pa_nil)) (pe_op op_sub (pe_op op_sub (pe_op op_add (pe_callB call_len_seq (by rfl) T.z_len (by decide +kernel) (pa_cons (pv 0) pa_nil)) (pe_callB call_len_seq (by rfl) T.z_len (by decide +kernel) (pa_cons (pv 1) pa_nil))) pe_int) (pe_op op_mulW pe_int (pv 2)))))
    (pss_cons (ps_par (i := 4) (j := 5) (by rfl) sc_laid_in.nd rfl rfl (by decide) rfl rfl (pa_cons (pe_call G_laying_slopes hr (by rfl) T.g_laying_slopes T.F_laying_slopes.kp T.b_laying_slopes .nil pass0 (pa_cons (pv 0) (pa_cons (pv 2) pa_nil))) (pa_cons (pe_call G_laying_slopes hr (by rfl) T.g_laying_slopes T.F_laying_slopes.kp T.b_laying_slopes .nil pass0 (pa_cons (pv 1) (pa_cons (pv 2) pa_nil))) pa_nil)) (by rfl))
    (pss_cons (ps_for PassesOwn.never (by rfl) (pi_range1 (by rfl) T.z_range (pa_cons (pe_op op_add (pv 2) pe_int) pa_nil)) (pg_name (i := 6) sc_laid_in.nd rfl (.inl rfl))
      (pss_one (ps_expr (pe_call G_add_product (hr.mono (by decide)) (by rfl) T.g_add_product T.F_add_product.kp T.b_add_product .nil pass0 (pa_cons (pv 3) (pa_cons (pe_ix ix_list (pv 4) (pv 6) (fun _ _ => rfl)) (pa_cons (pe_ix ix_list (pv 5) (pe_op op_sub (pv 2) (pv 6)) (fun _ _ => rfl)) (pa_cons (pe_op op_mulW (pe_call G_lots_of (hr.mono (by decide)) (by rfl) T.g_lots_of T.F_lots_of.kp T.b_lots_of .nil pass0 (pa_cons (pv 2) (pa_cons (pv 6) pa_nil))) (pe_ifExp (pt_cmpR op_eq (pe_op op_mod (pv 6) pe_int) pe_int (nomark _)) pe_int (pe_un un_neg pe_int))) pa_nil))))))))
    (pss_one (ps_ret (pe_tupleOf (by rfl) T.z_tuple (pv 3)))))))), ?_⟩
    refine ⟨by show 1 ≤ sizeLine; decide, fun p0 n0 => gen_upd H p0 (.lst [.int 0]) n0 fun H0 s0 f0 => ⟨_, rfl, a, _, rfl, .inr (SqT.of (s0 _ _ ha)), _, rfl, b, _, rfl, .inr (SqT.of (s0 _ _ hb)), ?_⟩⟩
    rw [List.length_map, List.length_map]
    refine ⟨_, _, rfl, rfl, _, _, rfl, rfl, _, rfl, _, _, rfl, rfl, sm_mul (show sm 2 by show (2 : Nat) < 2 ^ 4000; exact lt400 (i := 1) (by decide) (by decide)) (sm_le (n := 100) (show ((t : Nat) : Int).natAbs ≤ 100 by omega) (by decide)), _, _, rfl, rfl, ?_⟩
    obtain ⟨N, hN⟩ : ∃ N, N = f.length + g.length - 1 - 2 * t := ⟨_, rfl⟩
    have eN : ((f.length : Int) + (g.length : Int) - 1 - 2 * (t : Int)) = (N : Int) := by omega
    dsimp only []
    rw [eN]
    have hz1 : [V.int 0].length * (N : Int).toNat ≤ sizeLine := by
      have hz : (1000 : Nat) ≤ sizeLine := by decide
      show 1 * (N : Int).toNat ≤ sizeLine
      omega
    refine ⟨p0, N, _, rfl, rfl, f0, by omega, by omega, hz1, fun R nR => ?_⟩
    rw [Int.toNat_natCast, tab_rep0]
    refine gen_upd H0 R _ nR fun H1 s1 f1 => ?_
    have s01 := s0.trans s1
    refine ⟨_, rfl, _, rfl, a, f, t, rfl, s01 _ _ ha, by omega, by omega, ok.smf, fun p2 rs H2 s2 n2 fr2 h2 l2 => ?_⟩
    refine ⟨_, rfl, _, rfl, b, g, t, rfl, (s01.trans s2) _ _ hb, by omega, by omega, ok.smg, fun p3 rs' H3 s3 n3 fr3 h3 l3 => ⟨_, _, rfl, ?_⟩⟩
    have f3 := (s2.trans s3) _ _ f1
    have h2' := s3 _ _ h2
    have l2' := l2.same s3
    have ne2 : ∀ r ∈ rs, r ≠ R := fun r hr z => by have := fr2 r hr; rw [z, f1] at this; cases this
    have ne3 : ∀ r ∈ rs', r ≠ R := fun r hr z => by have := fr3 r hr; rw [z, s2 _ _ f1] at this; cases this
    have nR2 : p2 ≠ R := fun z => by rw [z, f1] at n2; cases n2
    have nR3 : p3 ≠ R := fun z => by rw [z, s2 _ _ f1] at n3; cases n3
    have nHR : ∀ d o, H d = some o → d ≠ R := fun d o e => ne_of_none (s0 _ _ e) nR
    refine ⟨_, rfl, _, _, rfl, rfl, _, rfl, by omega, by omega, for_range (n := ((t : Int) + 1).toNat) (fun i σ H' => ∃ y6, σ = [some (.ref a), some (.ref b), some (.int t), some (.ref R), some (.ref p2), some (.ref p3), y6] ∧ Sx R H3 H' ∧ H' R = some (.lst (tab N (Lc t f g i)))) ⟨none, rfl, Sx.refl R H3, f3⟩ (fun i σ H' hi hP => ?_) (fun σ H' hP => ?_)⟩
    · obtain ⟨y6, rfl, sH, hL⟩ := hP
      have hi2 : i ≤ t := by omega
      have ei : (0 : Int) + (i : Int) = ((i : Nat) : Int) := by omega
      have et : (t : Int) - (0 + (i : Int)) = ((t - i : Nat) : Int) := by omega
      have hr1 : i < rs.length := by rw [l2'.len]; omega
      have hr2 : t - i < rs'.length := by rw [l3.len]; omega
      have q1 := sH _ _ (ne2 _ (List.getElem_mem hr1)) (l2'.row i hr1)
      have q2 := sH _ _ (ne3 _ (List.getElem_mem hr2)) (l3.row (t - i) hr2)
      rw [show t - (t - i) = i by omega] at q2
      refine ⟨_, rfl, _, rfl, _, rfl, p2, _, _, _, rfl, rfl, SqL.of (sH _ _ nR2 h2'), at_of ei (by rw [List.getElem?_map, List.getElem?_eq_getElem hr1]; rfl), ?_⟩
      refine ⟨_, rfl, _, rfl, _, rfl, _, _, rfl, rfl, p3, _, _, _, rfl, rfl, SqL.of (sH _ _ nR3 h3), at_of et (by rw [List.getElem?_map, List.getElem?_eq_getElem hr2]; rfl), ?_⟩
      have lotE : [V.int (t : Int), V.int (0 + (i : Int))] = [V.int (t : Int), V.int (i : Int)] := by rw [ei]
      have l1 := dd_len (t - i) i f
      have l2 := dd_len i (t - i) g
      refine ⟨_, rfl, _, rfl, t, i, lotE, hi2, by omega, ?_⟩
      refine ⟨_, rfl, _, _, rfl, rfl, (by show (0 : Int) < 2; decide), rfl, _, rfl, iteI (fun e => ?_) (fun e => ⟨_, rfl, ?_⟩)⟩
      · have es : sgn i = 1 := by
          unfold sgn
          rw [if_pos (by have : ((0 : Int) + (i : Int)) % 2 = 0 := e; omega)]
        have hc : ((ch t i : Nat) : Int) * 1 = sgn i * ch t i := by rw [es]; omega
        have cab : (((ch t i : Nat) : Int) * 1).natAbs ≤ 2 ^ 50 := by
          rw [hc, Int.natAbs_mul, sgn_abs, Nat.one_mul, Int.natAbs_natCast]
          exact Nat.le_trans (ch_le t i) (Nat.pow_le_pow_right (by decide) (by omega))
        refine ⟨_, _, rfl, rfl, sm_mul (sm_ch (by omega)) (show (1 : Int).natAbs < 2 ^ 4000 from lt400 (i := 1) (by decide) (by decide)), R, rs[i], rs'[t - i], N, Lc t f g i, dd (t - i) i f, dd i (t - i) g, ((ch t i : Nat) : Int) * 1, rfl, hL, q1, q2, ne2 _ (List.getElem_mem hr1), ne3 _ (List.getElem_mem hr2), by omega, by omega, fun z hz => ⟨ok.smf _ _ (by omega) z hz, ?_⟩, ok.smg _ _ (by omega), lt400 cab (by decide), fun H4 s4 f4 => ⟨_, rfl, sH.trans s4, ?_⟩⟩
        · show (_ * z).natAbs < _
          rw [Int.natAbs_mul]
          exact lt400 (Nat.le_trans (Nat.mul_le_mul cab (Nat.le_trans (nm_mem hz) (ok.sf (t - i) i (by omega)))) (Nat.le_of_eq (Nat.pow_add 2 50 1500).symm)) (by decide)
        · rw [f4, hc]
          rfl
      · have es : sgn i = -1 := by
          unfold sgn
          rw [if_neg (by have : ¬ ((0 : Int) + (i : Int)) % 2 = 0 := e; omega)]
        have hc : ((ch t i : Nat) : Int) * -1 = sgn i * ch t i := by rw [es]; omega
        have cab : (((ch t i : Nat) : Int) * -1).natAbs ≤ 2 ^ 50 := by
          rw [hc, Int.natAbs_mul, sgn_abs, Nat.one_mul, Int.natAbs_natCast]
          exact Nat.le_trans (ch_le t i) (Nat.pow_le_pow_right (by decide) (by omega))
        refine ⟨_, _, rfl, rfl, sm_mul (sm_ch (by omega)) (show (-1 : Int).natAbs < 2 ^ 4000 from lt400 (i := 1) (by decide) (by decide)), R, rs[i], rs'[t - i], N, Lc t f g i, dd (t - i) i f, dd i (t - i) g, ((ch t i : Nat) : Int) * -1, rfl, hL, q1, q2, ne2 _ (List.getElem_mem hr1), ne3 _ (List.getElem_mem hr2), by omega, by omega, fun z hz => ⟨ok.smf _ _ (by omega) z hz, ?_⟩, ok.smg _ _ (by omega), lt400 cab (by decide), fun H4 s4 f4 => ⟨_, rfl, sH.trans s4, ?_⟩⟩
        · show (_ * z).natAbs < _
          rw [Int.natAbs_mul]
          exact lt400 (Nat.le_trans (Nat.mul_le_mul cab (Nat.le_trans (nm_mem hz) (ok.sf (t - i) i (by omega)))) (Nat.le_of_eq (Nat.pow_add 2 50 1500).symm)) (by decide)
        · rw [f4, hc]
          rfl
    · obtain ⟨y6, rfl, sH, hL⟩ := hP
      rw [show ((t : Int) + 1).toNat = t + 1 by omega] at hL
      refine ⟨_, rfl, .inl ⟨R, _, rfl, SqL.of hL, fun p np => q p _ (fun d o e => ?_) ?_⟩⟩
      · exact same_upd0 np _ _ (sH _ _ (nHR d o e) ((s01.trans (s2.trans s3)) _ _ e))
      · rw [upd_same, tab_tb, hN, L_tab ok.lf ok.lg]
def spReqForm (C : Addr) : Sp := fun vs H Q _ => ∃ (a : Addr) (l : List Int), vs = [.ref a] ∧ Fo C H a l ∧ Q .non H
theorem ok_require_form (T : Facts K mg) : FnOk P w K mg base CX0 1 T.f_require_form T.fd_require_form ["value"] (spReqForm T.C_Form) := by
  refine T.F_require_form.ok sc_require_form (fun vs H Q E h => ?_) (fun cdv A outer s H vs Q E hr h => ?_)
  · obtain ⟨a, l, rfl, _⟩ := h
    rfl
  · obtain ⟨a, l, rfl, fa, q⟩ := h
    obtain ⟨dx, t, ha, ht⟩ := fa.slt
    refine ⟨_, (PSs.nox (pss_one (ps_if (pt_not (pt_val (pe_callB (call_isiF T.C_Form) (by rfl) T.z_isinstance (by decide +kernel) (pa_cons (pv 0) (pa_cons (pe_glob (v := .ref T.C_Form) (by rfl) T.g_Form rfl) pa_nil)))))
      (pss_one ps_never)
      pss_nil))), ?_⟩
    exact ⟨_, rfl, isi_form (X := (cxOf CX0 P w K mg base N_require_form (Str.ofString "require_form") (defScope s_require_form) T.f_require_form cdv A outer s H E).nox) T.oc_Form ha ⟨true, rfl, iteF q⟩⟩
def spLaid (C : Addr) : Sp := fun vs H Q _ => ∃ (a b : Addr) (f g : List Int) (t : Nat), vs = [.ref a, .ref b, .int t] ∧ Fo C H a f ∧ Fo C H b g ∧ LdOk t f g ∧ f.length + g.length ≤ 42 ∧ ∀ p H', Same H H' → Fo C H' p (L t f g) → Q (.ref p) H'
theorem ok_laid (T : Facts K mg) : FnOk P w K mg base CX0 8 T.f_laid T.fd_laid ["one", "other", "times"] (spLaid T.C_Form) := by
  have G_require_form := ok_require_form (P := P) (w := w) (base := base) T
  have G_is_from := ok_is_from (P := P) (w := w) (base := base) T
  have G_laid_in := ok_laid_in (P := P) (w := w) (base := base) T
  have G_Form_degree : FnOk P w K mg base CX0 1 T.f_Form_degree T.fd_Form_degree ["self"] (spDeg T.C_Form) := ok_Form_degree T
  have G_Form_entries := ok_Form_entries (P := P) (w := w) (base := base) T
  have G_form_of : FnOk P w K mg base CX0 7 T.f_form_of T.fd_form_of ["entries"] (spMake T.C_Form) := ok_form_of T
  refine T.F_laid.ok sc_laid (fun vs H Q E h => ?_) (fun cdv A outer s H vs Q E hr h => ?_)
  · obtain ⟨a, b, f, g, t, rfl, _⟩ := h
    rfl
  · obtain ⟨a, b, f, g, t, rfl, fa, fb, ok, hl, q⟩ := h
    have lf := ok.lf
    have lg := ok.lg
    refine ⟨_, (PSs.nox (pss_cons (ps_expr (pe_call G_require_form (hr.mono (by decide)) (by rfl) T.g_require_form T.F_require_form.kp T.b_require_form .nil pass0 (pa_cons (pv 0) pa_nil)))
    (pss_cons (ps_expr (pe_call G_require_form (hr.mono (by decide)) (by rfl) T.g_require_form T.F_require_form.kp T.b_require_form .nil pass0 (pa_cons (pv 1) pa_nil)))
    (pss_cons (ps_if (pt_not (pt_val (pe_call G_is_from (hr.mono (by decide)) (by rfl) T.g_is_from T.F_is_from.kp T.b_is_from .nil pass0 (pa_cons (pv 2) (pa_cons pe_int (pa_cons (pe_callB (call_min2 (by rfl)) (by rfl) T.z_min (by decide +kernel) (pa_cons (pe_prp (pv 0) T.oc_Form T.pr_Form_degree G_Form_degree T.b_Form_degree (hr.mono (by decide))) (pa_cons (pe_prp (pv 1) T.oc_Form T.pr_Form_degree G_Form_degree T.b_Form_degree (hr.mono (by decide))) pa_nil))) pa_nil))))))
      (pss_one ps_never)
      pss_nil)
    (pss_cons (ps_if (pt_cmpR op_gt (pe_op op_sub (pe_op op_add (pe_prp (pv 0) T.oc_Form T.pr_Form_degree G_Form_degree T.b_Form_degree (hr.mono (by decide))) (pe_prp (pv 1) T.oc_Form T.pr_Form_degree G_Form_degree T.b_Form_degree (hr.mono (by decide)))) (pe_op op_mulW pe_int (pv 2))) (pe_glob (v := .int 40) (by rfl) T.c_MOST_LAID.choose_spec ⟨_, rfl⟩) (nomark _))
      (pss_one ps_never)
      pss_nil)
    (pss_one (ps_ret (pe_call G_form_of hr (by rfl) T.g_form_of T.F_form_of.kp T.b_form_of .nil pass0 (pa_cons (pe_call G_laid_in (hr.mono (by decide)) (by rfl) T.g_laid_in T.F_laid_in.kp T.b_laid_in .nil pass0 (pa_cons (pe_prp (pv 0) T.oc_Form T.pr_Form_entries G_Form_entries T.b_Form_entries (hr.mono (by decide))) (pa_cons (pe_prp (pv 1) T.oc_Form T.pr_Form_entries G_Form_entries T.b_Form_entries (hr.mono (by decide))) (pa_cons (pv 2) pa_nil)))) pa_nil))))))))), ?_⟩
    refine ⟨_, rfl, a, f, rfl, fa, _, rfl, b, g, rfl, fb, ?_⟩
    refine ⟨_, rfl, _, rfl, prop_deg fa ⟨_, rfl, prop_deg fb ⟨_, _, rfl, t, 0, _, rfl, by omega, ?_, true, rfl, iteF ?_⟩⟩⟩
    · split <;> omega
    · refine ⟨_, rfl, prop_deg fa ⟨_, rfl, prop_deg fb ⟨_, _, rfl, rfl, _, rfl, _, _, rfl, rfl, sm_mul (show sm 2 by show (2 : Nat) < 2 ^ 4000; exact lt400 (i := 1) (by decide) (by decide)) (sm_le (n := 100) (show ((t : Nat) : Int).natAbs ≤ 100 by omega) (by decide)), _, _, rfl, rfl, _, _, rfl, rfl, _, rfl, ?_⟩⟩⟩
      rw [decide_eq_false (show ¬ (40 : Int) < (f.length : Int) - 1 + ((g.length : Int) - 1) - 2 * (t : Int) by omega)]
      exact iteF ⟨_, rfl, prop_ent fa fun u hu => ⟨_, rfl, prop_ent fb fun v hv => ⟨_, rfl, u, v, f, g, t, rfl, hu, hv, ok, fun p H2 s2 hp => ⟨p, _, rfl, hp, fun p2 H3 s3 n3 f3 => q p2 H3 (s2.trans s3) f3⟩⟩⟩⟩
end
end K45

set_option Elab.async false
set_option linter.all false
set_option maxRecDepth 100000
set_option maxHeartbeats 4000000
namespace K45
open PySem PySem.Spec PyProof.Rows L2 StX RZ MyR SlX OwnR OwnF EnumT
theorem L_changed_list {a b c e : Int} {t : Nat} {f g : List Int} (hf : t + 1 ≤ f.length) (hg : t + 1 ≤ g.length) :
    L t (changed [a, b] [c, e] f) (changed [a, b] [c, e] g) = (changed [a, b] [c, e] (L t f g)).map fun x => x * (a * e - b * c) ^ t := by
  have l1 := changed_len (X := [a, b]) (Y := [c, e]) rfl rfl (ne_of2 (show 1 ≤ f.length by omega))
  have l2 := changed_len (X := [a, b]) (Y := [c, e]) rfl rfl (ne_of2 (show 1 ≤ g.length by omega))
  have l3 := L_len t f g hf hg
  have n3 : L t f g ≠ [] := ne_of2 (by omega)
  have l4 := changed_len (X := [a, b]) (Y := [c, e]) rfl rfl n3
  rw [map_mul_comm]
  refine ev_inj (by rw [map_len, L_len t _ _ (by omega) (by omega), l1, l2, l4, l3]) fun x y => ?_
  rw [L_changed x y t f g hf hg, ev_map, ev_changed rfl rfl n3, ev2, ev2]
theorem L_bd : ∀ (t : Nat) {f g : List Int} {n m A B : Nat}, Bd f n A → Bd g m B → n ≤ 7 → m ≤ 7 → t ≤ n → t ≤ m → Bd (L t f g) (n + m - 2 * t) (2 ^ (7 * t) * (A * B))
  | 0, f, g, n, m, A, B, hf, hg, _, _, _, _ => by
    have := bd_ml hf hg
    rw [Nat.mul_zero, Nat.pow_zero, Nat.one_mul]
    exact this
  | t + 1, f, g, n, m, A, B, hf, hg, hn, hm, h1, h2 => by
    have lf := hf.len
    have lg := hg.len
    have bx : ∀ {l : List Int} {k C : Nat}, Bd l k C → k ≤ 7 → 1 ≤ k → Bd (dX l) (k - 1) (8 * C) := fun h hk h0 => ⟨by rw [dX_len, h.len]; omega, Nat.le_trans (nm_dX _) (Nat.mul_le_mul (by rw [h.len]; omega) h.nm)⟩
    have by_ : ∀ {l : List Int} {k C : Nat}, Bd l k C → k ≤ 7 → 1 ≤ k → Bd (dY l) (k - 1) (8 * C) := fun h hk h0 => ⟨by rw [dY_len, h.len]; omega, Nat.le_trans (nm_dY _) (Nat.mul_le_mul (by rw [h.len]; omega) h.nm)⟩
    have r1 := L_bd t (bx hf hn (by omega)) (by_ hg hm (by omega)) (by omega) (by omega) (by omega) (by omega)
    have r2 := L_bd t (by_ hf hn (by omega)) (bx hg hm (by omega)) (by omega) (by omega) (by omega) (by omega)
    have r3 := bd_zs' (-1) r1 r2
    rw [show n - 1 + (m - 1) - 2 * t = n + m - 2 * (t + 1) by omega] at r3
    refine r3.mono (Nat.le_of_eq ?_)
    rw [show 7 * (t + 1) = 7 * t + 7 by omega, Nat.pow_add]
    show _ + 1 * _ = _
    generalize 2 ^ (7 * t) = Z
    rw [show (2 : Nat) ^ 7 = 128 by decide]
    grind
theorem dd_nm {l : List Int} {n A i j : Nat} (h : Bd l n A) (hn : n ≤ 7) (hij : i + j ≤ n) : nm (dd i j l) ≤ 2 ^ 21 * A := by
  have hl := h.len
  refine Nat.le_trans (nm_dd i j l (by omega)) (Nat.mul_le_mul ?_ h.nm)
  exact Nat.le_trans (Nat.pow_le_pow_left (show l.length ≤ 8 by omega) _) (Nat.le_trans (Nat.pow_le_pow_right (by decide) (show i + j ≤ 7 by omega)) (by decide))
section
variable {P : Program} {w : World} {K : PySem.W.Frag} {mg : Str → Option Value} {base : Heap}
theorem ok_law_choose (T : Facts K mg) : FnOk P w K mg base CX0 1 T.f_law_choose T.fd_law_choose ["_law_many", "_law_few"] spLots := by
  refine T.F_law_choose.ok sc_law_choose (fun vs H Q E h => ?_) (fun cdv A outer s H vs Q E hr h => ?_)
  · obtain ⟨n, k, rfl, _⟩ := h
    rfl
  · obtain ⟨n, k, rfl, hk, hn, q⟩ := h
    refine ⟨_, (PSs.nox (pss_cons (ps_set (i := 2) sc_law_choose.nd rfl (.inl rfl) pe_int)
    (pss_cons (ps_for PassesOwn.never (by rfl) (pi_range1 (by rfl) T.z_range (pa_cons (pv 1) pa_nil)) (pg_name (i := 3) sc_law_choose.nd rfl (.inl rfl))
      (pss_one (ps_set (i := 2) sc_law_choose.nd rfl (.inl rfl) (pe_op op_fdivZ (pe_op op_mulW (pv 2) (pe_op op_sub (pv 0) (pv 3))) (pe_op op_add (pv 3) pe_int)))))
    (pss_one (ps_ret (pv 2)))))), ?_⟩
    refine ⟨_, rfl, k, rfl, by omega, by omega, for_range (n := (k : Int).toNat) (fun i σ H' => ∃ y3, σ = [some (.int n), some (.int k), some (.int (ch n i)), y3] ∧ H' = H) ⟨none, by rw [ch_zero]; rfl, rfl⟩ (fun i σ H' hi hP => ?_) (fun σ H' hP => ?_)⟩
    · obtain ⟨y3, rfl, rfl⟩ := hP
      have e := ch_mul n i
      have hi1 : (0 : Int) + (i : Int) + 1 ≠ 0 := by omega
      refine ⟨_, rfl, _, rfl, _, rfl, _, _, rfl, rfl, _, _, rfl, rfl, sm_mul (sm_ch hn) (Nat.lt_of_le_of_lt (show ((n : Int) - (0 + (i : Int))).natAbs ≤ 50 by omega) (Nat.lt_of_lt_of_le (show 50 < 2 ^ 7 by decide) (Nat.pow_le_pow_right (by decide) (by decide)))), _, rfl, _, _, rfl, rfl, _, _, rfl, rfl, ⟨hi1, Nat.lt_trans (PySem.Flt.log2_lt_of (k := 10) (by decide) (by show ((0 : Int) + (i : Int) + 1).natAbs < 2 ^ 10; omega)) (by decide)⟩, some (.int (0 + (i : Int))), ?_, rfl⟩
      have e2 : (((ch n i : Nat) : Int) * ((n : Int) - (0 + (i : Int)))).fdiv (0 + (i : Int) + 1) = ((ch n (i + 1) : Nat) : Int) := by
        rw [Int.zero_add, ← e, Int.mul_fdiv_cancel _ (by omega)]
      show [some (V.int n), some (V.int k), some (V.int ((((ch n i : Nat) : Int) * ((n : Int) - (0 + (i : Int)))).fdiv (0 + (i : Int) + 1))), _] = _
      rw [e2]
    · obtain ⟨y3, rfl, rfl⟩ := hP
      rw [Int.toNat_natCast]
      exact ⟨_, rfl, q⟩
def spRaised : Sp := fun vs H Q _ => ∃ (c : Int) (n : Nat), vs = [.int c, .int n] ∧ (∀ i, i ≤ n → sm (c ^ i)) ∧ sm c ∧ n ≤ 100 ∧ Q (.int (c ^ n)) H
theorem ok_law_raised (T : Facts K mg) : FnOk P w K mg base CX0 1 T.f_law_raised T.fd_law_raised ["_law_number", "_law_times"] spRaised := by
  refine T.F_law_raised.ok sc_law_raised (fun vs H Q E h => ?_) (fun cdv A outer s H vs Q E hr h => ?_)
  · obtain ⟨c, n, rfl, _⟩ := h
    rfl
  · obtain ⟨c, n, rfl, hs, hc, hn, q⟩ := h
    refine ⟨_, (PSs.nox (pss_cons (ps_set (i := 2) sc_law_raised.nd rfl (.inl rfl) pe_int)
    (pss_cons (ps_for PassesOwn.never (by rfl) (pi_range1 (by rfl) T.z_range (pa_cons (pv 1) pa_nil)) (pg_name (i := 3) sc_law_raised.nd rfl (.inl rfl))
      (pss_one (ps_set (i := 2) sc_law_raised.nd rfl (.inl rfl) (pe_op op_mulW (pv 2) (pv 0)))))
    (pss_one (ps_ret (pv 2)))))), ?_⟩
    refine ⟨_, rfl, n, rfl, by omega, by omega, for_range (n := (n : Int).toNat) (fun i σ H' => ∃ y3, σ = [some (.int c), some (.int n), some (.int (c ^ i)), y3] ∧ H' = H) ⟨none, by rw [Int.pow_zero]; rfl, rfl⟩ (fun i σ H' hi hP => ?_) (fun σ H' hP => ?_)⟩
    · obtain ⟨y3, rfl, rfl⟩ := hP
      refine ⟨_, rfl, _, rfl, _, _, rfl, rfl, sm_mul (hs i (by omega)) hc, some (.int (0 + (i : Int))), ?_, rfl⟩
      rw [Int.pow_succ]
      rfl
    · obtain ⟨y3, rfl, rfl⟩ := hP
      rw [Int.toNat_natCast]
      exact ⟨_, rfl, q⟩
theorem ok_law_laid (T : Facts K mg) : FnOk P w K mg base CX0 3 T.f_law_laid T.fd_law_laid ["_law_one", "_law_other", "_law_times"] spLaidIn := by
  have G_law_choose := ok_law_choose (P := P) (w := w) (base := base) T
  have G_law_derived := ok_law_derived (P := P) (w := w) (base := base) T
  have G_law_product := ok_law_product (P := P) (w := w) (base := base) T
  have G_law_plus := ok_law_plus (P := P) (w := w) (base := base) T
  have G_law_scaled := ok_law_scaled (P := P) (w := w) (base := base) T
  refine T.F_law_laid.ok sc_law_laid (fun vs H Q E h => ?_) (fun cdv A outer s H vs Q E hr h => ?_)
  · obtain ⟨a, b, f, g, t, rfl, _⟩ := h
    rfl
  · obtain ⟨a, b, f, g, t, rfl, ha, hb, ok, q⟩ := h
    have lf := ok.lf
    have lg := ok.lg
    have mf := ok.mf
    have mg' := ok.mg
    refine ⟨_, (PSs.nox (pss_cons (ps_set (i := 3) sc_law_laid.nd rfl (.inl rfl) (pe_tupleOf (by rfl) T.z_tuple (pe_lc (own := [("_law_place", 4)]) (g := (gName 4)) (tt := tYes) (by rfl) sc_law_laid.nd (pi_range1 (by rfl) T.z_range (pa_cons (pe_op op_sub (pe_op op_sub (pe_op op_add (pe_callB call_len_seq (by rfl) T.z_len (by decide +kernel) (pa_cons (pv 0) pa_nil)) (pe_callB call_len_seq (by rfl) T.z_len (by decide +kernel) (pa_cons (pv 1) pa_nil))) pe_int) (pe_op op_mulW pe_int (pv 2))) pa_nil)) (blkOk_by (N := N_law_laid) (sc := defScope s_law_laid) (by decide +kernel)) (fun _ _ _ _ _ => (pg_name (i := 4) sc_law_laid.nd rfl (.inl rfl))) (fun _ _ _ _ _ => pts_nil) (fun _ _ _ _ _ => pe_int))))
    (pss_cons (ps_for PassesOwn.never (by rfl) (pi_range1 (by rfl) T.z_range (pa_cons (pe_op op_add (pv 2) pe_int) pa_nil)) (pg_name (i := 5) sc_law_laid.nd rfl (.inl rfl))
      (pss_cons (ps_set (i := 6) sc_law_laid.nd rfl (.inl rfl) (pe_call G_law_product (hr.mono (by decide)) (by rfl) T.g_law_product T.F_law_product.kp T.b_law_product .nil pass0 (pa_cons (pe_call G_law_derived hr (by rfl) T.g_law_derived T.F_law_derived.kp T.b_law_derived .nil pass0 (pa_cons (pv 0) (pa_cons (pe_op op_sub (pv 2) (pv 5)) (pa_cons (pv 5) pa_nil)))) (pa_cons (pe_call G_law_derived hr (by rfl) T.g_law_derived T.F_law_derived.kp T.b_law_derived .nil pass0 (pa_cons (pv 1) (pa_cons (pv 5) (pa_cons (pe_op op_sub (pv 2) (pv 5)) pa_nil)))) pa_nil))))
      (pss_cons (ps_set (i := 7) sc_law_laid.nd rfl (.inl rfl) (pe_call G_law_choose (hr.mono (by decide)) (by rfl) T.g_law_choose T.F_law_choose.kp T.b_law_choose .nil pass0 (pa_cons (pv 2) (pa_cons (pv 5) pa_nil))))
      (pss_one (ps_set (i := 3) sc_law_laid.nd rfl (.inl rfl) (pe_call G_law_plus (hr.mono (by decide)) (by rfl) T.g_law_plus T.F_law_plus.kp T.b_law_plus .nil pass0 (pa_cons (pv 3) (pa_cons (pe_call G_law_scaled (hr.mono (by decide)) (by rfl) T.g_law_scaled T.F_law_scaled.kp T.b_law_scaled .nil pass0 (pa_cons (pv 6) (pa_cons (pe_ifExp (pt_cmpR op_eq (pe_op op_mod (pv 5) pe_int) pe_int (nomark _)) (pv 7) (pe_op op_sub pe_int (pv 7))) pa_nil))) pa_nil))))))))
    (pss_one (ps_ret (pv 3)))))), ?_⟩
    refine ⟨_, rfl, a, _, rfl, .inr (SqT.of ha), _, rfl, b, _, rfl, .inr (SqT.of hb), ?_⟩
    rw [List.length_map, List.length_map]
    refine ⟨_, _, rfl, rfl, _, _, rfl, rfl, _, rfl, _, _, rfl, rfl, sm_mul (show sm 2 by show (2 : Nat) < 2 ^ 4000; exact lt400 (i := 1) (by decide) (by decide)) (sm_le (n := 100) (show ((t : Nat) : Int).natAbs ≤ 100 by omega) (by decide)), _, _, rfl, rfl, ?_⟩
    obtain ⟨N, hN⟩ : ∃ N, N = f.length + g.length - 1 - 2 * t := ⟨_, rfl⟩
    have eN : ((f.length : Int) + (g.length : Int) - 1 - 2 * (t : Int)) = (N : Int) := by omega
    dsimp only []
    rw [eN]
    refine ⟨N, rfl, by omega, by omega, fun D hD => lc_range (n := (N : Int).toNat) (fun j H' => H' = upd H D (.lst (tab j fun _ => 0))) rfl (fun j H' hj hP => ?_) (fun H' hP => ?_)⟩
    · subst hP
      refine ⟨rfl, _, upd_same, by rw [tab_len]; exact small1000 (by omega), ?_⟩
      rw [upd_upd, ← tab_snoc]
    · subst hP
      rw [Int.toNat_natCast, tab_tb]
      refine .inl ⟨D, _, rfl, SqL.of upd_same, fun p0 n0 => ?_⟩
      have sD := same_upd0 (o := .lst ((tb N fun _ => (0 : Int)).map V.int)) hD
      refine gen_upd _ p0 (tp (tb N fun _ => 0)) n0 fun H1 s1 f1 => ?_
      have s01 := sD.trans s1
      refine ⟨_, rfl, _, _, rfl, rfl, _, rfl, by omega, by omega, for_range (n := ((t : Int) + 1).toNat) (fun i σ H' => ∃ r y4 y5 y6 y7, σ = [some (.ref a), some (.ref b), some (.int t), some (.ref r), y4, y5, y6, y7] ∧ Same H H' ∧ H' r = some (tp (tb N (Lc t f g i)))) ⟨p0, none, none, none, none, rfl, s01, f1⟩ (fun i σ H' hi hP => ?_) (fun σ H' hP => ?_)⟩
      · obtain ⟨r, y4, y5, y6, y7, rfl, sH, hr2⟩ := hP
        have hi2 : i ≤ t := by omega
        have ei : (0 : Int) + (i : Int) = ((i : Nat) : Int) := by omega
        have et : (t : Int) - (0 + (i : Int)) = ((t - i : Nat) : Int) := by omega
        have l1 := dd_len (t - i) i f
        have l2 := dd_len i (t - i) g
        have of_ : DdOk (t - i) i f := ⟨by omega, by omega, fun u hu z hz => ok.smf u 0 (by omega) z hz, fun u hu z hz => ok.smf (t - i) u (by omega) z hz⟩
        have og : DdOk i (t - i) g := ⟨by omega, by omega, fun u hu z hz => ok.smg u 0 (by omega) z hz, fun u hu z hz => ok.smg i u (by omega) z hz⟩
        have n1 : dd (t - i) i f ≠ [] := ne_of2 (by omega)
        have n2 : dd i (t - i) g ≠ [] := ne_of2 (by omega)
        refine ⟨_, rfl, _, rfl, _, rfl, _, _, rfl, rfl, _, rfl, a, f, t - i, i, ?_, sH _ _ ha, of_, fun p3 H3 s3 f3 => ?_⟩
        · show [V.ref a, V.int ((t : Int) - (0 + (i : Int))), V.int (0 + (i : Int))] = _
          rw [et, ei]
        refine ⟨_, rfl, _, rfl, _, rfl, _, rfl, _, _, rfl, rfl, b, g, i, t - i, ?_, (sH.trans s3) _ _ hb, og, fun p4 H4 s4 f4 => ?_⟩
        · show [V.ref b, V.int (0 + (i : Int)), V.int ((t : Int) - (0 + (i : Int)))] = _
          rw [et, ei]
        refine ⟨p3, p4, _, _, rfl, s4 _ _ f3, f4, n1, n2, by omega, by omega, ok.smf _ _ (by omega), ok.smg _ _ (by omega), fun p5 H5 s5 _ f5 => ?_⟩
        refine ⟨_, rfl, _, rfl, t, i, by rw [ei]; rfl, hi2, by omega, ?_⟩
        have lm : (ml (dd (t - i) i f) (dd i (t - i) g)).length = N := by rw [ml_len]; omega
        have sm5 : ∀ z ∈ ml (dd (t - i) i f) (dd i (t - i) g), sm z := fun z hz => lt400 (Nat.le_trans (nm_mem hz) (Nat.le_trans (nm_ml _ _) (Nat.le_trans (Nat.mul_le_mul (ok.sf (t - i) i (by omega)) (ok.sg i (t - i) (by omega))) (Nat.le_of_eq (Nat.pow_add 2 1500 1500).symm)))) (by decide)
        have t5 := (s3.trans s4).trans s5
        have fin : ∀ c : Int, c = sgn i * ch t i → ∀ p6 H6, Same H5 H6 → H6 p6 = some (tp ((ml (dd (t - i) i f) (dd i (t - i) g)).map (c * ·))) → H6 r = some (tp (tb N (Lc t f g i))) ∧ (tb N (Lc t f g i)).length = ((ml (dd (t - i) i f) (dd i (t - i) g)).map (c * ·)).length ∧ zs 1 (tb N (Lc t f g i)) ((ml (dd (t - i) i f) (dd i (t - i) g)).map (c * ·)) = tb N (Lc t f g (i + 1)) := fun c hc p6 H6 s6 f6 => by
          have hlen : (tb N (Lc t f g i)).length = ((ml (dd (t - i) i f) (dd i (t - i) g)).map (c * ·)).length := by rw [tb_len, List.length_map, lm]
          refine ⟨(t5.trans s6) _ _ hr2, hlen, co_inj (by rw [zs_len hlen, tb_len, tb_len]) fun k => ?_⟩
          rw [co_zs' 1 hlen, co_map, co_tb, co_tb, hc]
          by_cases hk : k < N
          · rw [if_pos hk, if_pos hk, co_ml n2]
            show _ = Lc t f g i k + sgn i * ch t i * cv (dd (t - i) i f) (co (dd i (t - i) g)) k
            omega
          · rw [if_neg hk, if_neg hk, co_far (by rw [lm]; omega)]
            omega
        have bc : sm ((ch t i : Nat) : Int) := sm_ch (by omega)
        have bc' : sm (0 - ((ch t i : Nat) : Int)) := by
          show (0 - ((ch t i : Nat) : Int)).natAbs < _
          rw [Int.zero_sub, Int.natAbs_neg]
          exact bc
        refine ⟨_, rfl, _, rfl, _, rfl, _, _, rfl, rfl, (by show (0 : Int) < 2; decide), rfl, _, rfl, iteI (fun e => ?_) (fun e => ?_)⟩
        · have es : ((ch t i : Nat) : Int) = sgn i * ch t i := by
            unfold sgn
            rw [if_pos (by have : ((0 : Int) + (i : Int)) % 2 = 0 := e; omega), Int.one_mul]
          refine ⟨_, rfl, p5, _, _, rfl, f5, by rw [lm]; omega, sm5, bc, fun p6 H6 s6 _ f6 => ?_⟩
          obtain ⟨g1, g2, g3⟩ := fin _ es p6 H6 s6 f6
          exact ⟨r, p6, _, _, rfl, g1, f6, g2, by rw [tb_len]; omega, fun p7 H7 s7 _ f7 => ⟨p7, _, _, _, _, rfl, sH.trans ((t5.trans s6).trans s7), by rw [f7, g3]⟩⟩
        · have es : 0 - ((ch t i : Nat) : Int) = sgn i * ch t i := by
            unfold sgn
            rw [if_neg (by have : ¬ ((0 : Int) + (i : Int)) % 2 = 0 := e; omega)]
            omega
          refine ⟨_, rfl, _, _, rfl, rfl, p5, _, _, rfl, f5, by rw [lm]; omega, sm5, bc', fun p6 H6 s6 _ f6 => ?_⟩
          obtain ⟨g1, g2, g3⟩ := fin _ es p6 H6 s6 f6
          exact ⟨r, p6, _, _, rfl, g1, f6, g2, by rw [tb_len]; omega, fun p7 H7 s7 _ f7 => ⟨p7, _, _, _, _, rfl, sH.trans ((t5.trans s6).trans s7), by rw [f7, g3]⟩⟩
      · obtain ⟨r, y4, y5, y6, y7, rfl, sH, hr2⟩ := hP
        rw [show ((t : Int) + 1).toNat = t + 1 by omega, hN, L_tab ok.lf ok.lg] at hr2
        exact ⟨_, rfl, q r H' sH hr2⟩
end
end K45

set_option Elab.async false
set_option linter.all false
set_option maxRecDepth 100000
set_option maxHeartbeats 4000000
namespace K45
open PySem PySem.Spec PyProof.Rows L2 StX RZ MyR SlX OwnR OwnF EnumT GxR
/-! ### dividing rows -/
/-- what is left behind i turns -/
def rmd (xs ys : List Int) : Nat → Nat → Int
  | 0 => co xs
  | i + 1 => fun k => rmd xs ys i k - (if i ≤ k then (rmd xs ys i (i + fi ys)).fdiv (co ys (fi ys)) * co ys (k - i) else 0)
def quo (xs ys : List Int) (i : Nat) : Int := (rmd xs ys i (i + fi ys)).fdiv (co ys (fi ys))
theorem rmd_succ (xs ys : List Int) (i k : Nat) : rmd xs ys (i + 1) k = rmd xs ys i k - (if i ≤ k then quo xs ys i * co ys (k - i) else 0) := rfl
/-- how many turns there are -/
def mny (xs ys : List Int) : Nat := xs.length + 1 - ys.length
def GoodTo (xs ys : List Int) (i : Nat) : Prop := ∀ j, j < i → rmd xs ys (j + 1) (j + fi ys) = 0
instance (xs ys : List Int) (i : Nat) : Decidable (GoodTo xs ys i) := by unfold GoodTo; infer_instance
/-- the quotient of rows -/
def qd (xs ys : List Int) : Option (List Int) :=
  if xs.length < ys.length ∨ nzr (xs.take (fi ys)) = true then none
  else if GoodTo xs ys (mny xs ys) ∧ nzr (tb xs.length (rmd xs ys (mny xs ys))) = false then some (tb (mny xs ys) (quo xs ys)) else none
theorem qd_of {xs ys q : List Int} (h : qd xs ys = some q) : ys.length ≤ xs.length ∧ GoodTo xs ys (mny xs ys) ∧ nzr (tb xs.length (rmd xs ys (mny xs ys))) = false ∧ q = tb (mny xs ys) (quo xs ys) := by
  unfold qd at h
  by_cases h1 : xs.length < ys.length ∨ nzr (xs.take (fi ys)) = true
  · rw [if_pos h1] at h
    cases h
  · rw [if_neg h1] at h
    by_cases h2 : GoodTo xs ys (mny xs ys) ∧ nzr (tb xs.length (rmd xs ys (mny xs ys))) = false
    · rw [if_pos h2] at h
      exact ⟨Nat.le_of_not_lt fun z => h1 (.inl z), h2.1, h2.2, (Option.some.inj h).symm⟩
    · rw [if_neg h2] at h
      cases h
theorem qd_len {xs ys q : List Int} (h : qd xs ys = some q) : q.length = mny xs ys := by rw [(qd_of h).2.2.2, tb_len]
theorem rmd_bd {xs ys : List Int} {M B : Nat} (hx : ∀ z ∈ xs, z.natAbs ≤ M) (hy : ∀ z ∈ ys, z.natAbs ≤ B) : ∀ i k, (rmd xs ys i k).natAbs ≤ M * (1 + B) ^ i
  | 0, k => by
    rw [Nat.pow_zero, Nat.mul_one]
    show (co xs k).natAbs ≤ M
    rcases co_mem (l := xs) (k := k) with e | e
    · rw [e]; exact Nat.zero_le _
    · exact hx _ e
  | i + 1, k => by
    have h1 := rmd_bd hx hy i k
    have h2 := Nat.le_trans (Int.natAbs_fdiv_le_natAbs (rmd xs ys i (i + fi ys)) (co ys (fi ys))) (rmd_bd hx hy i (i + fi ys))
    have h3 : (co ys (k - i)).natAbs ≤ B := by
      rcases co_mem (l := ys) (k := k - i) with e | e
      · rw [e]; exact Nat.zero_le _
      · exact hy _ e
    rw [rmd_succ, Nat.pow_succ, ← Nat.mul_assoc, Nat.mul_add, Nat.mul_one]
    refine Nat.le_trans (Int.natAbs_sub_le _ _) (Nat.add_le_add h1 ?_)
    split
    · rw [Int.natAbs_mul]
      exact Nat.mul_le_mul h2 h3
    · exact Nat.zero_le _
theorem quo_bd {xs ys : List Int} {M B : Nat} (hx : ∀ z ∈ xs, z.natAbs ≤ M) (hy : ∀ z ∈ ys, z.natAbs ≤ B) (i : Nat) : (quo xs ys i).natAbs ≤ M * (1 + B) ^ i :=
  Nat.le_trans (Int.natAbs_fdiv_le_natAbs _ _) (rmd_bd hx hy i _)
/-- what is asked for dividing -/
structure QdOk (xs ys : List Int) : Prop where
  nz : nzr ys = true
  nx : xs ≠ []
  lx : xs.length ≤ 100
  ly : ys.length ≤ 100
  ex : ∃ M B : Nat, (∀ z ∈ xs, z.natAbs ≤ M) ∧ (∀ z ∈ ys, z.natAbs ≤ B) ∧ B < 2 ^ 4000 ∧ M * (1 + B) ^ (mny xs ys) < 2 ^ 4000
theorem QdOk.sy {xs ys : List Int} (h : QdOk xs ys) : ∀ z ∈ ys, sm z := by
  obtain ⟨M, B, h1, h2, h3, h4⟩ := h.ex
  exact fun z hz => Nat.lt_of_le_of_lt (h2 z hz) h3
theorem QdOk.sr {xs ys : List Int} (h : QdOk xs ys) {i : Nat} (hi : i ≤ mny xs ys) (k : Nat) : sm (rmd xs ys i k) := by
  obtain ⟨M, B, h1, h2, h3, h4⟩ := h.ex
  exact Nat.lt_of_le_of_lt (rmd_bd h1 h2 i k) (Nat.lt_of_le_of_lt (Nat.mul_le_mul_left M (Nat.pow_le_pow_right (by omega) hi)) h4)
theorem QdOk.sq {xs ys : List Int} (h : QdOk xs ys) {i : Nat} (hi : i ≤ mny xs ys) : sm (quo xs ys i) := sm_of_le (h.sr hi (i + fi ys)) (Int.natAbs_fdiv_le_natAbs _ _)
theorem QdOk.ny {xs ys : List Int} (h : QdOk xs ys) : ys ≠ [] := fun e => by
  have := h.nz
  rw [e] at this
  cases this
theorem QdOk.lead {xs ys : List Int} (h : QdOk xs ys) : co ys (fi ys) ≠ 0 := fi_ne h.nz
end K45

set_option Elab.async false
set_option linter.all false
set_option maxRecDepth 100000
set_option maxHeartbeats 4000000
namespace K45
open PySem PySem.Spec PyProof.Rows L2 StX RZ MyR SlX OwnR OwnF EnumT GxR
/-- the first entry other than 0, or 0 -/
def fo (l : List Int) : Int := if nzr l = true then co l (fi l) else 0
/-- a row, or none -/
def OV (H : Hp) (v : V) : Option (List Int) → Prop
  | none => v = .non
  | some q => ∃ t, v = .ref t ∧ H t = some (tp q)
theorem OV.same {H H' : Hp} {v : V} {r : Option (List Int)} (h : OV H v r) (s : Same H H') : OV H' v r := by
  cases r with
  | none => exact h
  | some q =>
    obtain ⟨t, e, k⟩ := h
    exact ⟨t, e, s _ _ k⟩
/-- points -/
structure Pt (u v : Int) : Prop where
  cop : Nat.gcd u.natAbs v.natAbs = 1
  pos : 0 < fo [u, v]
theorem Pt.ne {u v : Int} (h : Pt u v) : [u, v] ≠ [0, 0] := fun e => by
  have h1 := h.cop
  cases e
  cases h1
section
variable {P : Program} {w : World} {K : PySem.W.Frag} {mg : Str → Option Value} {base : Heap} {Ps : List Addr}
end
end K45

set_option Elab.async false
set_option linter.all false
set_option maxRecDepth 100000
set_option maxHeartbeats 4000000
namespace K45
open PySem PySem.Spec PyProof.Rows L2 StX RZ MyR SlX OwnR OwnF EnumT GxR
structure TmOk (xs ys : List Int) : Prop where
  nz : nzr ys = true
  nx : xs ≠ []
  ly : ys.length = 2
  ex : ∃ n M B : Nat, n ≤ 100 ∧ xs.length ≤ n ∧ (∀ z ∈ xs, z.natAbs ≤ M) ∧ (∀ z ∈ ys, z.natAbs ≤ B) ∧ B < 2 ^ 4000 ∧ M * ((1 + B) ^ n) ^ xs.length < 2 ^ 4000
theorem TmOk.qk {xs ys : List Int} (h : TmOk xs ys) : QdOk xs ys := by
  obtain ⟨n, M, B, h1, h2, h3, h4, h5, h6⟩ := h.ex
  have ly := h.ly
  refine ⟨h.nz, h.nx, by omega, by omega, M, B, h3, h4, h5, Nat.lt_of_le_of_lt (Nat.mul_le_mul_left M ?_) h6⟩
  have e : mny xs ys ≤ n := by unfold mny; omega
  refine Nat.le_trans (Nat.pow_le_pow_right (by omega) e) ?_
  have lp := List.length_pos_iff.mpr h.nx
  have := Nat.pow_le_pow_right (n := (1 + B) ^ n) (Nat.pow_pos (by omega)) lp
  rw [Nat.pow_one] at this
  exact this
theorem TmOk.next {xs ys q : List Int} (h : TmOk xs ys) (e : qd xs ys = some q) : TmOk q ys := by
  obtain ⟨n, M, B, h1, h2, h3, h4, h5, h6⟩ := h.ex
  have ly := h.ly
  obtain ⟨g1, _, _, g4⟩ := qd_of e
  have g2 : q.length = xs.length + 1 - ys.length := qd_len e
  have e1 : xs.length = q.length + 1 := by omega
  refine ⟨h.nz, fun z => ?_, ly, n, M * (1 + B) ^ n, B, h1, by omega, fun z hz => ?_, h4, h5, ?_⟩
  · rw [z] at g2
    have : 0 = xs.length + 1 - ys.length := g2
    omega
  · rw [g4] at hz
    obtain ⟨i, hi, rfl⟩ := List.mem_map.mp hz
    have hi := List.mem_range.mp hi
    have hi2 : i < xs.length + 1 - ys.length := hi
    exact Nat.le_trans (quo_bd h3 h4 i) (Nat.mul_le_mul_left M (Nat.pow_le_pow_right (by omega) (by omega)))
  · rw [Nat.mul_assoc, Nat.mul_comm ((1 + B) ^ n), ← Nat.pow_succ, Nat.succ_eq_add_one, ← e1]
    exact h6
section
variable {P : Program} {w : World} {K : PySem.W.Frag} {mg : Str → Option Value} {base : Heap} {Ps : List Addr}
end
end K45

set_option Elab.async false
set_option linter.all false
set_option maxRecDepth 100000
set_option maxHeartbeats 4000000
namespace K45
open PySem PySem.Spec PyProof.Rows L2 StX RZ MyR SlX OwnR OwnF EnumT GxR
section
variable {P : Program} {w : World} {K : PySem.W.Frag} {mg : Str → Option Value} {base : Heap}
end
end K45

set_option Elab.async false
set_option linter.all false
set_option maxRecDepth 100000
set_option maxHeartbeats 4000000
set_option exponentiation.threshold 10000
namespace K45
open PySem PySem.Spec PyProof.Rows L2 StX RZ MyR SlX OwnR OwnF EnumT GxR GenNx FDivQ
def TD (ls : List (List Int)) : List PyData := ls.map fun l => .tuple (l.map PyData.int)
theorem lay_td : ∀ ls : List (List Int), PyData.canLayAll0 (TD ls) = true
  | [] => rfl
  | l :: r => by
    show (PyData.canLay0 (.tuple (l.map PyData.int)) && PyData.canLayAll0 (TD r)) = true
    rw [lay_td r, show PyData.canLay0 (.tuple (l.map PyData.int)) = PyData.canLayAll0 (l.map PyData.int) from rfl, lay_ints]
    rfl
theorem depth_td : ∀ ls : List (List Int), PyData.depthAll (TD ls) ≤ 1
  | [] => Nat.zero_le _
  | l :: r => by
    show max (PyData.depth (.tuple (l.map PyData.int))) (PyData.depthAll (TD r)) ≤ 1
    have h := depth_td r
    rw [show PyData.depth (.tuple (l.map PyData.int)) = PyData.depthAll (l.map PyData.int) + 1 from rfl, depth_ints]
    omega
theorem shaped_ltd (ls : List (List Int)) : SeqAt.shaped (.list (TD ls)) = true := by
  unfold SeqAt.shaped
  rw [show PyData.canLay0 (.list (TD ls)) = PyData.canLayAll0 (TD ls) from rfl, lay_td]
  rw [show PyData.depth (.list (TD ls)) = PyData.depthAll (TD ls) + 1 from rfl, decide_eq_true (show PyData.depthAll (TD ls) + 1 ≤ 64 by have := depth_td ls; omega)]
  rfl
end K45

set_option Elab.async false
set_option linter.all false
set_option maxRecDepth 100000
set_option maxHeartbeats 4000000
namespace K45
open PySem PySem.Spec PyProof.Rows L2 StX RZ MyR SlX OwnR OwnF EnumT GxR
section
variable {P : Program} {w : World} {K : PySem.W.Frag} {mg : Str → Option Value} {base : Heap} {Ps : List Addr}
end
theorem Fo.sl {C a : Addr} {H : Hp} {ns : List Int} (h : Fo C H a ns) : Slt H a C h.slt.choose [some (.ref h.slt.choose_spec.choose)] := h.slt.choose_spec.choose_spec.1
end K45

set_option Elab.async false
set_option linter.all false
set_option maxRecDepth 100000
set_option maxHeartbeats 2000000
set_option exponentiation.threshold 10000
/-! plain: forms as functions; common divisors, up to factors -/
namespace K45
open LA
/-- a function that a row of n entries tells -/
def Fm (n : Nat) (φ : Int → Int → Int) : Prop := ∃ l : List Int, l.length = n ∧ ∀ x y, ev l x y = φ x y
theorem co_appz (l : List Int) (n j : Nat) : co (l ++ List.replicate n 0) j = co l j := by
  by_cases h : j < l.length
  · rw [co_get (by rw [List.length_append]; omega), co_get h, List.getElem_append_left h]
  · rw [co_far (l := l) (by omega)]
    by_cases g : j < (l ++ List.replicate n (0 : Int)).length
    · rw [co_get g, List.getElem_append_right (by omega), List.getElem_replicate]
    · exact co_far (by omega)
theorem ev_sx (l : List Int) (n : Nat) (x y : Int) : ev (l ++ List.replicate n 0) x y = x ^ n * ev l x y := by
  unfold ev
  rw [List.length_append, List.length_replicate, evF_congr _ fun i _ => co_appz l n i]
  exact evF_far x y (fun i hi => co_far hi) n
theorem ev_sy (l : List Int) (x y : Int) : ev (0 :: l) x y = y * ev l x y := by
  rw [ev_cons, Int.zero_mul, Int.zero_add]
theorem ev_ry (l : List Int) (x y : Int) : ∀ n, ev (List.replicate n 0 ++ l) x y = y ^ n * ev l x y
  | 0 => by rw [Int.pow_zero, Int.one_mul]; rfl
  | n + 1 => by
    rw [List.replicate_succ, List.cons_append, ev_sy, ev_ry l x y n, Int.pow_succ]
    grind
theorem ev_lead (l : List Int) : ev l 1 0 = co l 0 := by
  cases l with
  | nil => rfl
  | cons a l => rw [ev_cons, Int.one_pow, Int.mul_one, Int.zero_mul, Int.add_zero]; rfl
theorem Fm.of (l : List Int) : Fm l.length (ev l) := ⟨l, rfl, fun _ _ => rfl⟩
theorem Fm.congr {n : Nat} {φ ψ : Int → Int → Int} (h : Fm n φ) (e : ∀ x y, φ x y = ψ x y) : Fm n ψ := by
  obtain ⟨l, hl, q⟩ := h
  exact ⟨l, hl, fun x y => (q x y).trans (e x y)⟩
theorem Fm.cast {n m : Nat} {φ : Int → Int → Int} (h : Fm n φ) (e : n = m) : Fm m φ := e ▸ h
theorem Fm.zero (n : Nat) : Fm n fun _ _ => 0 := ⟨List.replicate n 0, List.length_replicate, fun x y => ev_zero (fun z hz => List.eq_of_mem_replicate hz) x y⟩
theorem Fm.none {φ : Int → Int → Int} (h : Fm 0 φ) (x y : Int) : φ x y = 0 := by
  obtain ⟨l, hl, q⟩ := h
  rw [← q, List.length_eq_zero_iff.mp hl]
  rfl
theorem Fm.one : Fm 1 fun _ _ => 1 := ⟨[1], rfl, ev_one⟩
theorem Fm.mulc {n : Nat} {φ : Int → Int → Int} (c : Int) (h : Fm n φ) : Fm n fun x y => c * φ x y := by
  obtain ⟨l, hl, q⟩ := h
  exact ⟨l.map (c * ·), by rw [List.length_map, hl], fun x y => by rw [ev_map, q]⟩
theorem Fm.add {n : Nat} {φ ψ : Int → Int → Int} (h : Fm n φ) (g : Fm n ψ) : Fm n fun x y => φ x y + ψ x y := by
  obtain ⟨l, hl, q⟩ := h
  obtain ⟨m, hm, r⟩ := g
  exact ⟨zs 1 l m, by unfold zs; rw [List.length_zipWith]; omega, fun x y => by rw [ev_zs 1 (by omega), q, r, Int.one_mul]⟩
theorem Fm.px {n : Nat} {φ : Int → Int → Int} (h : Fm n φ) (k : Nat) : Fm (n + k) fun x y => x ^ k * φ x y := by
  obtain ⟨l, hl, q⟩ := h
  exact ⟨l ++ List.replicate k 0, by rw [List.length_append, List.length_replicate, hl], fun x y => by rw [ev_sx l k, q]⟩
theorem Fm.py {n : Nat} {φ : Int → Int → Int} (h : Fm n φ) (k : Nat) : Fm (n + k) fun x y => y ^ k * φ x y := by
  obtain ⟨l, hl, q⟩ := h
  exact ⟨List.replicate k 0 ++ l, by rw [List.length_append, List.length_replicate, hl, Nat.add_comm], fun x y => by rw [ev_ry l x y k, q]⟩
theorem Fm.mul {n m k : Nat} {φ ψ : Int → Int → Int} (h : Fm n φ) (g : Fm m ψ) (e : n = 0 ∨ m = 0 ∨ n + m = k + 1) : Fm k fun x y => φ x y * ψ x y := by
  by_cases c1 : n = 0
  · subst c1
    exact (Fm.zero k).congr fun x y => by rw [h.none, Int.zero_mul]
  by_cases c2 : m = 0
  · subst c2
    exact (Fm.zero k).congr fun x y => by rw [g.none, Int.mul_zero]
  obtain ⟨l, hl, q⟩ := h
  obtain ⟨p, hp, r⟩ := g
  exact ⟨ml l p, by rw [ml_len]; omega, fun x y => by rw [ev_ml (fun z => c1 (by rw [← hl, z]; rfl)) (fun z => c2 (by rw [← hp, z]; rfl)), q, r]⟩
/-- the first entry, and the others -/
theorem Fm.split {n : Nat} {φ : Int → Int → Int} (h : Fm (n + 1) φ) : ∃ (a : Int) (ψ : Int → Int → Int), Fm n ψ ∧ ∀ x y, φ x y = a * x ^ n + y * ψ x y := by
  obtain ⟨l, hl, q⟩ := h
  cases l with
  | nil => exact absurd hl (by simp)
  | cons a l => exact ⟨a, ev l, ⟨l, by rw [List.length_cons] at hl; omega, fun _ _ => rfl⟩, fun x y => by rw [← q, ev_cons, show l.length = n by rw [List.length_cons] at hl; omega]⟩
theorem Fm.const {φ : Int → Int → Int} (h : Fm 1 φ) : ∃ a : Int, ∀ x y, φ x y = a := by
  obtain ⟨a, ψ, p, q⟩ := h.split
  exact ⟨a, fun x y => by rw [q, p.none, Int.pow_zero]; omega⟩
theorem Fm.cy {n : Nat} {φ ψ : Int → Int → Int} (h : Fm n φ) (g : Fm n ψ) (e : ∀ x y, y * φ x y = y * ψ x y) (x y : Int) : φ x y = ψ x y := by
  obtain ⟨l, hl, q⟩ := h
  obtain ⟨m, hm, r⟩ := g
  have : 0 :: l = 0 :: m := ev_inj (by rw [List.length_cons, List.length_cons, hl, hm]) fun x y => by rw [ev_sy, ev_sy, q, r, e]
  rw [← q, ← r, List.tail_eq_of_cons_eq this]
def Nz (φ : Int → Int → Int) : Prop := ∃ x y, φ x y ≠ 0
theorem ev0_all {l : List Int} (h : ∀ x y, ev l x y = 0) : ∀ z ∈ l, z = 0 := by
  have e : l = List.replicate l.length 0 := ev_inj (by rw [List.length_replicate]) fun x y => by
    rw [h, ev_zero fun z hz => List.eq_of_mem_replicate hz]
  intro z hz
  rw [e] at hz
  exact List.eq_of_mem_replicate hz
/-- a form other than 0 may be left out of a product -/
theorem Fm.can0 {n m : Nat} {φ α : Int → Int → Int} (hn : Fm n φ) (nz : Nz φ) (hm : Fm m α) (e : ∀ x y, φ x y * α x y = 0) (x y : Int) : α x y = 0 := by
  obtain ⟨l, hl, q⟩ := hn
  obtain ⟨p, hp, r⟩ := hm
  rw [← r]
  by_cases c1 : l = []
  · obtain ⟨x0, y0, h0⟩ := nz
    exact absurd (by rw [← q, c1]; rfl) h0
  by_cases c2 : p = []
  · rw [c2]; rfl
  have h0 : cont (ml l p) = 0 := Classical.byContradiction fun ne => ne (by
    have := ev0_all (l := ml l p) fun x y => by rw [ev_ml c1 c2, q, r, e]
    rw [gl_cont]
    exact gl0_of fun j => by
      by_cases c : j < (ml l p).length
      · exact this _ (co_memE c)
      · exact co_far (by omega))
  rw [cont_ml c1 c2] at h0
  rcases Nat.mul_eq_zero.mp h0 with z | z
  · obtain ⟨x0, y0, h1⟩ := nz
    exact absurd (by rw [← q]; exact ev_zero (cont_zero z) x0 y0) h1
  · exact ev_zero (cont_zero z) x y
theorem Fm.can {n m : Nat} {φ α β : Int → Int → Int} (hn : Fm n φ) (nz : Nz φ) (ha : Fm m α) (hb : Fm m β) (e : ∀ x y, φ x y * α x y = φ x y * β x y) (x y : Int) : α x y = β x y := by
  have := hn.can0 nz (ha.add (hb.mulc (-1))) (fun x y => by rw [Int.mul_add, e]; grind) x y
  omega
/-- h divides φ, up to a factor -/
def Dv (k n : Nat) (h φ : Int → Int → Int) : Prop := ∃ (c : Int) (A : Int → Int → Int), c ≠ 0 ∧ Fm (n + 1 - k) A ∧ ∀ x y, c * φ x y = h x y * A x y
theorem Dv.le {k n : Nat} {h φ : Int → Int → Int} (d : Dv k n h φ) (nz : Nz φ) : k ≤ n := by
  obtain ⟨c, A, hc, hA, e⟩ := d
  obtain ⟨x, y, h0⟩ := nz
  refine Classical.byContradiction fun c1 => ?_
  have := (hA.cast (show n + 1 - k = 0 by omega)).none x y
  have e1 := e x y
  rw [this, Int.mul_zero] at e1
  exact (Int.mul_eq_zero.mp e1).elim hc h0
theorem Dv.self {n : Nat} (h : Int → Int → Int) : Dv n n h h := ⟨1, fun _ _ => 1, by decide, Fm.one.cast (by omega), fun x y => by rw [Int.one_mul, Int.mul_one]⟩
theorem Dv.zero {k n : Nat} (h : Int → Int → Int) : Dv k n h fun _ _ => 0 := ⟨1, fun _ _ => 0, by decide, Fm.zero _, fun x y => by rw [Int.mul_zero, Int.mul_zero]⟩
theorem Dv.congr {k n : Nat} {h φ ψ : Int → Int → Int} (d : Dv k n h φ) {a b : Int} (ha : a ≠ 0) (e : ∀ x y, a * φ x y = b * ψ x y) (hb : b ≠ 0) : Dv k n h ψ := by
  obtain ⟨c, A, hc, hA, q⟩ := d
  exact ⟨c * b, _, Int.mul_ne_zero hc hb, hA.mulc a, fun x y => by
    have := q x y
    have := e x y
    grind⟩
theorem Dv.congrL {k n : Nat} {h h' φ : Int → Int → Int} (d : Dv k n h φ) {a b : Int} (ha : a ≠ 0) (e : ∀ x y, a * h x y = b * h' x y) : Dv k n h' φ := by
  obtain ⟨c, A, hc, hA, q⟩ := d
  exact ⟨a * c, _, Int.mul_ne_zero ha hc, hA.mulc b, fun x y => by
    have := q x y
    have := e x y
    grind⟩
theorem Dv.trans {k m n : Nat} {h φ ψ : Int → Int → Int} (d : Dv k m h φ) (g : Dv m n φ ψ) : Dv k n h ψ := by
  obtain ⟨c, A, hc, hA, q⟩ := d
  obtain ⟨c', B, hc', hB, q'⟩ := g
  exact ⟨c * c', _, Int.mul_ne_zero hc hc', (hA.mul hB (by omega) : Fm (n + 1 - k) _), fun x y => by
    have := q x y
    have := q' x y
    grind⟩
theorem Dv.mul {k n k' n' : Nat} {h φ h' φ' : Int → Int → Int} (d : Dv k n h φ) (g : Dv k' n' h' φ') (h1 : 1 ≤ k) (h2 : 1 ≤ k') (n1 : 1 ≤ n) (n2 : 1 ≤ n') : Dv (k + k' - 1) (n + n' - 1) (fun x y => h x y * h' x y) fun x y => φ x y * φ' x y := by
  obtain ⟨c, A, hc, hA, q⟩ := d
  obtain ⟨c', B, hc', hB, q'⟩ := g
  exact ⟨c * c', _, Int.mul_ne_zero hc hc', hA.mul hB (by omega), fun x y => by
    have := q x y
    have := q' x y
    grind⟩
/-- φ is made of F and G -/
def Idl (n m q : Nat) (F G φ : Int → Int → Int) : Prop := ∃ (c : Int) (U V : Int → Int → Int), c ≠ 0 ∧ Fm (q + 1 - n) U ∧ Fm (q + 1 - m) V ∧ ∀ x y, c * φ x y = U x y * F x y + V x y * G x y
theorem Idl.sw {n m q : Nat} {F G φ : Int → Int → Int} (h : Idl n m q F G φ) : Idl m n q G F φ := by
  obtain ⟨c, U, V, hc, hU, hV, e⟩ := h
  exact ⟨c, V, U, hc, hV, hU, fun x y => by rw [e, Int.add_comm]⟩
theorem Idl.dv {n m q d : Nat} {F G φ D : Int → Int → Int} (h : Idl n m q F G φ) (f : Dv d n D F) (g : Dv d m D G) : Dv d q D φ := by
  obtain ⟨c, U, V, hc, hU, hV, e⟩ := h
  obtain ⟨a, A, ha, hA, p⟩ := f
  obtain ⟨b, B, hb, hB, r⟩ := g
  refine ⟨c * a * b, _, Int.mul_ne_zero (Int.mul_ne_zero hc ha) hb, ((hU.mul hA (k := q + 1 - d) (by omega)).mulc b).add ((hV.mul hB (k := q + 1 - d) (by omega)).mulc a), fun x y => ?_⟩
  have := e x y
  have := p x y
  have := r x y
  grind
theorem Idl.dv2 {n m q k1 k2 : Nat} {F G φ D1 D2 : Int → Int → Int} (h : Idl n m q F G φ) (f : Dv k1 n D1 F) (g : Dv k2 m D2 G) : Idl k1 k2 q D1 D2 φ := by
  obtain ⟨c, U, V, hc, hU, hV, e⟩ := h
  obtain ⟨a, A, ha, hA, p⟩ := f
  obtain ⟨b, B, hb, hB, r⟩ := g
  refine ⟨c * a * b, _, _, Int.mul_ne_zero (Int.mul_ne_zero hc ha) hb, (hU.mul hA (k := q + 1 - k1) (by omega)).mulc b, (hV.mul hB (k := q + 1 - k2) (by omega)).mulc a, fun x y => ?_⟩
  have := e x y
  have := p x y
  have := r x y
  grind
/-- what divides x ^ N φ and y ^ N φ divides φ -/
theorem Dv.both {d k N : Nat} {D φ : Int → Int → Int} (hD : Fm d D) (nD : Nz D) (hφ : Fm k φ) (h1 : Dv d (k + N) D fun x y => x ^ N * φ x y) (h2 : Dv d (k + N) D fun x y => y ^ N * φ x y) : Dv d k D φ := by
  obtain ⟨c, A, hc, ⟨a, la, qa⟩, e1⟩ := h1
  obtain ⟨c', B, hc', ⟨b, lb, qb⟩, e2⟩ := h2
  have key : ∀ x y, ev (List.replicate N 0 ++ a.map (c' * ·)) x y = ev (b.map (c * ·) ++ List.replicate N 0) x y := fun x y => by
    rw [ev_ry, ev_sx, ev_map, ev_map]
    refine hD.can nD (m := (k + N + 1 - d) + N) (α := fun x y => y ^ N * (c' * ev a x y)) (β := fun x y => x ^ N * (c * ev b x y)) ((((Fm.of a).cast la).mulc c').py N) ((((Fm.of b).cast lb).mulc c).px N) (fun x y => ?_) x y
    have := e1 x y
    have := e2 x y
    rw [qa, qb]
    grind
  have keyL := ev_inj (by simp; omega) key
  have z : ∀ j, a.length ≤ j + N → co a j = 0 := fun j hj => by
    by_cases c0 : j < a.length
    · have t := congrArg (fun l => co l (N + j)) keyL
      rw [co_appz, co_far (l := b.map (c * ·)) (by rw [List.length_map]; omega), co_get (by simp; omega), List.getElem_append_right (by simp)] at t
      simp only [List.length_replicate, Nat.add_sub_cancel_left, List.getElem_map] at t
      rw [co_get c0]
      exact (Int.mul_eq_zero.mp t).resolve_left hc'
    · exact co_far (by omega)
  have eA : ∀ x y, A x y = x ^ N * ev (a.take (k + 1 - d)) x y := by
    by_cases cs : a.length < N
    · have zz : ∀ w ∈ a, w = 0 := fun w hw => by
        obtain ⟨j, hj, e⟩ := List.mem_iff_getElem.mp hw
        rw [← e, ← co_get hj]
        exact z j (by omega)
      intro x y
      rw [← qa, ev_zero (l := a) zz, ev_zero (l := a.take (k + 1 - d)) (fun w hw => zz w (List.mem_of_mem_take hw)), Int.mul_zero]
    · intro x y
      rw [← ev_sx, ← qa]
      congr 1
      refine co_inj (by simp; omega) fun j => ?_
      rw [co_appz]
      by_cases cj : j < k + 1 - d
      · by_cases cl : j < a.length
        · rw [co_get cl, co_get (by rw [List.length_take]; omega), List.getElem_take]
        · rw [co_far (by omega), co_far (by rw [List.length_take]; omega)]
      · rw [z j (by omega), co_far (by rw [List.length_take]; omega)]
  refine ⟨c, ev (a.take (k + 1 - d)), hc, ?_, fun x y => ?_⟩
  · by_cases cs : a.length < k + 1 - d
    · exact absurd cs (by omega)
    · exact ⟨_, by rw [List.length_take]; omega, fun _ _ => rfl⟩
  · have hx : Fm (1 + N) fun x y => x ^ N * 1 := Fm.one.px N
    have nx : Nz fun x y => x ^ N * 1 := ⟨1, 0, by show (1 : Int) ^ N * 1 ≠ 0; rw [Int.one_pow]; decide⟩
    by_cases cs : k + 1 ≤ d
    · have t0 : ∀ x y, ev (a.take (k + 1 - d)) x y = 0 := fun x y => by rw [show k + 1 - d = 0 by omega]; rfl
      have p0 : ∀ x y, φ x y = 0 := hx.can0 nx hφ fun x y => by
        have := e1 x y
        rw [eA, t0] at this
        have : c * (x ^ N * φ x y) = 0 := by grind
        rw [Int.mul_one]
        exact (Int.mul_eq_zero.mp this).resolve_left hc
      rw [p0, t0, Int.mul_zero, Int.mul_zero]
    · refine hx.can nx (m := k) (α := fun x y => c * φ x y) (β := fun x y => D x y * ev (a.take (k + 1 - d)) x y) (hφ.mulc c) (hD.mul ⟨_, rfl, fun _ _ => rfl⟩ ?_) (fun x y => ?_) x y
      · rw [List.length_take]
        omega
      · have := e1 x y
        rw [eA] at this
        grind
end K45

set_option Elab.async false
set_option linter.all false
set_option maxRecDepth 100000
set_option maxHeartbeats 2000000
set_option exponentiation.threshold 10000
/-! plain: steps of Euclid; common forms, told by what they divide and what they are made of -/
namespace K45
open LA
abbrev Bi : Type := Int → Int → Int
structure Mm (n m k : Nat) (f g h : Bi) : Prop where
  hh : Fm k h
  h0 : h 1 0 ≠ 0
  df : Dv k n h f
  dg : Dv k m h g
  st : ∀ E, Fm (n + m - 2 * k) E → ∃ (c : Int) (U V : Bi), c ≠ 0 ∧ Fm (m - k) U ∧ Fm (n - k) V ∧ ∀ x y, c * (E x y * h x y) = U x y * f x y + V x y * g x y
section
variable {n m k : Nat} {f g h : Bi}
theorem Mm.sw (M : Mm n m k f g h) : Mm m n k g f h := ⟨M.hh, M.h0, M.dg, M.df, fun E hE => by
  obtain ⟨c, U, V, hc, hU, hV, e⟩ := M.st E (hE.cast (by omega))
  exact ⟨c, V, U, hc, hV, hU, fun x y => by rw [e, Int.add_comm]⟩⟩
theorem Mm.zero (hg : Fm m g) (g0 : g 1 0 ≠ 0) (hf : ∀ x y, f x y = 0) : Mm n m m f g g :=
  ⟨hg, g0, (Dv.zero g).congr (a := 1) (b := 1) (by decide) (fun x y => by rw [hf]) (by decide), Dv.self g, fun E hE => ⟨1, fun _ _ => 0, E, by decide, (Fm.zero _).cast rfl, hE.cast (by omega), fun x y => by rw [hf]; simp⟩⟩
theorem Mm.scale {f' : Bi} {a b : Int} (M : Mm n m k f' g h) (ha : a ≠ 0) (hb : b ≠ 0) (e : ∀ x y, a * f' x y = b * f x y) : Mm n m k f g h :=
  ⟨M.hh, M.h0, M.df.congr ha e hb, M.dg, fun E hE => by
    obtain ⟨c, U, V, hc, hU, hV, q⟩ := M.st E hE
    exact ⟨a * c, _, _, Int.mul_ne_zero ha hc, hU.mulc b, hV.mulc a, fun x y => by
      have := q x y
      have := e x y
      grind⟩⟩
theorem Mm.scaleH {h' : Bi} {a b : Int} (M : Mm n m k f g h) (hh' : Fm k h') (ha : a ≠ 0) (hb : b ≠ 0) (e : ∀ x y, a * h x y = b * h' x y) : Mm n m k f g h' :=
  ⟨hh', fun z => by
    have := e 1 0
    rw [z, Int.mul_zero] at this
    exact (Int.mul_eq_zero.mp this).elim ha M.h0, M.df.congrL ha e, M.dg.congrL ha e, fun E hE => by
    obtain ⟨c, U, V, hc, hU, hV, q⟩ := M.st E hE
    exact ⟨c * b, _, _, Int.mul_ne_zero hc hb, hU.mulc a, hV.mulc a, fun x y => by
      have := q x y
      have := e x y
      grind⟩⟩
/-- one step: the first entries are taken away -/
theorem Mm.step {f' R : Bi} {γ : Int} (M : Mm n m k f' g h) (hf' : Fm n f') (hg : Fm m g) (g0 : g 1 0 ≠ 0) (hγ : γ ≠ 0) (hR : (∀ x y, R x y = 0) ∨ ∃ r, Fm r R ∧ r + m = n + 2)
    (hk : k ≤ n ∨ m ≤ n + 1) (e : ∀ x y, y * f' x y = γ * f x y - R x y * g x y) : Mm (n + 1) m k f g h := by
  have km : k ≤ m := M.dg.le ⟨1, 0, g0⟩
  have hRm : ∀ {p q : Nat} {U : Bi}, Fm p U → p + n + 1 = q + m → Fm q fun x y => R x y * U x y := fun {p q U} hU hp => by
    rcases hR with z | ⟨r, hr, er⟩
    · exact (Fm.zero q).congr fun x y => by rw [z, Int.zero_mul]
    · exact hr.mul hU (by omega)
  refine ⟨M.hh, M.h0, ?_, M.dg, fun E hE => ?_⟩
  · obtain ⟨c, A, hc, hA, p⟩ := M.df
    obtain ⟨d, B, hd, hB, q⟩ := M.dg
    refine ⟨c * d * γ, fun x y => d * (y ^ 1 * A x y) + c * (R x y * B x y), Int.mul_ne_zero (Int.mul_ne_zero hc hd) hγ, (((hA.py 1).cast (by omega)).mulc d).add ((hRm hB (by omega)).mulc c), fun x y => ?_⟩
    have := p x y
    have := q x y
    have := e x y
    dsimp only
    rw [Int.pow_one]
    grind
  · by_cases c0 : n + 1 + m - 2 * k = 0
    · rw [c0] at hE
      exact ⟨1, fun _ _ => 0, fun _ _ => 0, by decide, Fm.zero _, Fm.zero _, fun x y => by rw [hE.none]; simp⟩
    · obtain ⟨L, eL⟩ : ∃ L, n + 1 + m - 2 * k = L + 1 := ⟨n + 1 + m - 2 * k - 1, by omega⟩
      have kn : k ≤ n := by omega
      rw [eL] at hE
      obtain ⟨s, E', hE', eE⟩ := hE.split
      obtain ⟨d, B, hd, hB, q⟩ := M.dg
      obtain ⟨β, B', hB', eB⟩ := (hB.cast (show m + 1 - k = (m - k) + 1 by omega)).split
      have hβ : β ≠ 0 := fun z => by
        have t := q 1 0
        rw [eB, z] at t
        have : h 1 0 * (0 * 1 ^ (m - k) + 0 * B' 1 0) = 0 := by rw [Int.zero_mul, Int.zero_mul]; exact Int.mul_zero _
        rw [this] at t
        exact (Int.mul_eq_zero.mp t).elim hd g0
      obtain ⟨c, U, V, hc, hU, hV, r⟩ := M.st (fun x y => β * E' x y + -s * (x ^ (n - k) * B' x y)) (((hE'.mulc β).add (((hB'.px (n - k)).cast (by omega)).mulc (-s))).cast (by omega))
      refine ⟨c * β, fun x y => γ * U x y, fun x y => c * s * d * (x ^ (n - k) * 1) + (-1) * (R x y * U x y) + y ^ 1 * V x y, Int.mul_ne_zero hc hβ, hU.mulc γ, ((((Fm.one.px (n - k)).cast (by omega)).mulc _).add ((hRm hU (by omega)).mulc (-1))).add ((hV.py 1).cast (by omega)), fun x y => ?_⟩
      have t1 := r x y
      have t2 := e x y
      have t3 := eE x y
      have t4 := eB x y
      have t5 := q x y
      rw [t4] at t5
      dsimp only
      rw [Int.pow_one, t3]
      have t6 : x ^ L = x ^ (n - k) * x ^ (m - k) := by rw [← Int.pow_add, show n - k + (m - k) = L by omega]
      rw [t6]
      generalize x ^ (n - k) = X at *
      generalize x ^ (m - k) = Z at *
      clear t3 t4 t6 e q r eE eB
      generalize U x y = u at *
      generalize V x y = v at *
      generalize f x y = F at *
      generalize g x y = G at *
      generalize h x y = H at *
      generalize R x y = ρ at *
      generalize f' x y = F' at *
      generalize E' x y = e' at *
      generalize B' x y = b' at *
      have : c * ((β * e' + -s * (X * b')) * H) * y = y * F' * u + v * G * y := by grind
      rw [t2] at this
      grind
/-- zeros ahead of both -/
theorem lift (M : Mm n m k f g h) (z : Nat) : Dv (k + z) (n + z) (fun x y => y ^ z * h x y) (fun x y => y ^ z * f x y) ∧ Dv (k + z) (m + z) (fun x y => y ^ z * h x y) (fun x y => y ^ z * g x y) := by
  obtain ⟨c, A, hc, hA, p⟩ := M.df
  obtain ⟨d, B, hd, hB, q⟩ := M.dg
  exact ⟨⟨c, A, hc, hA.cast (by omega), fun x y => by have := p x y; grind⟩, ⟨d, B, hd, hB.cast (by omega), fun x y => by have := q x y; grind⟩⟩
end
/-- T is the common form of F and G, up to a factor -/
structure Com (n m k : Nat) (F G T : Bi) : Prop where
  hT : Fm k T
  nz : Nz T
  df : Dv k n T F
  dg : Dv k m T G
  id : ∃ N, Idl n m (k + N) F G (fun x y => x ^ N * T x y) ∧ Idl n m (k + N) F G fun x y => y ^ N * T x y
/-- all forms of a degree, times T, are made of F and G -/
def Full (n m k : Nat) (F G T : Bi) : Prop := ∀ t E, Fm (n + m - 2 * k + t) E → ∃ (c : Int) (U V : Bi), c ≠ 0 ∧ Fm (m - k + t) U ∧ Fm (n - k + t) V ∧ ∀ x y, c * (E x y * T x y) = U x y * F x y + V x y * G x y
section
variable {n m k : Nat} {F G T : Bi}
theorem Com.sw (h : Com n m k F G T) : Com m n k G F T := ⟨h.hT, h.nz, h.dg, h.df, h.id.imp fun N p => ⟨p.1.sw, p.2.sw⟩⟩
theorem full_of (hT : Fm k T) (nT : Nz T) (df : Dv k n T F) (dg : Dv k m T G) (nF : Nz F) (nG : Nz G)
    (st : ∀ E, Fm (n + m - 2 * k) E → ∃ (c : Int) (U V : Bi), c ≠ 0 ∧ Fm (m - k) U ∧ Fm (n - k) V ∧ ∀ x y, c * (E x y * T x y) = U x y * F x y + V x y * G x y) : Full n m k F G T := by
  have kn := df.le nF
  have km := dg.le nG
  by_cases c0 : n + m - 2 * k = 0
  · obtain ⟨d, A, hd, hA, p⟩ := df
    obtain ⟨a, ea⟩ := (hA.cast (show n + 1 - k = 1 by omega)).const
    have ha : a ≠ 0 := fun z => by
      obtain ⟨x, y, h0⟩ := nF
      have := p x y
      rw [ea, z, Int.mul_zero] at this
      exact (Int.mul_eq_zero.mp this).elim hd h0
    intro t E hE
    exact ⟨a, _, fun _ _ => 0, ha, (hE.cast (by omega)).mulc d, Fm.zero _, fun x y => by
      have := p x y
      rw [ea] at this
      grind⟩
  · intro t
    induction t with
    | zero => exact st
    | succ t ih =>
      intro E hE
      obtain ⟨s, E', hE', eE⟩ := (hE.cast (show n + m - 2 * k + (t + 1) = n + m - 2 * k + t + 1 by omega)).split
      obtain ⟨c, U, V, hc, hU, hV, e⟩ := ih E' hE'
      obtain ⟨c', U', V', hc', hU', hV', e'⟩ := ih (fun x y => x ^ (n + m - 2 * k + t - 1) * 1) ((Fm.one.px _).cast (by omega))
      refine ⟨c * c', fun x y => (s * c) * (x ^ 1 * U' x y) + c' * (y ^ 1 * U x y), fun x y => (s * c) * (x ^ 1 * V' x y) + c' * (y ^ 1 * V x y), Int.mul_ne_zero hc hc', (((hU'.px 1).mulc _).add ((hU.py 1).mulc _)).cast (by omega), (((hV'.px 1).mulc _).add ((hV.py 1).mulc _)).cast (by omega), fun x y => ?_⟩
      have t1 := e x y
      have t2 := e' x y
      dsimp only
      rw [eE, Int.pow_one, Int.pow_one, show n + m - 2 * k + t = n + m - 2 * k + t - 1 + 1 by omega, Int.pow_succ]
      generalize x ^ (n + m - 2 * k + t - 1) = X at *
      grind
theorem Full.com (h : Full n m k F G T) (hT : Fm k T) (nT : Nz T) (df : Dv k n T F) (dg : Dv k m T G) (nF : Nz F) (nG : Nz G) : Com n m k F G T := by
  have kn := df.le nF
  have km := dg.le nG
  refine ⟨hT, nT, df, dg, n + m - 2 * k, ?_, ?_⟩
  · obtain ⟨c, U, V, hc, hU, hV, e⟩ := h 1 (fun x y => x ^ (n + m - 2 * k) * 1) ((Fm.one.px _).cast (by omega))
    exact ⟨c, U, V, hc, hU.cast (by omega), hV.cast (by omega), fun x y => by rw [← e, Int.mul_one]⟩
  · obtain ⟨c, U, V, hc, hU, hV, e⟩ := h 1 (fun x y => y ^ (n + m - 2 * k) * 1) ((Fm.one.py _).cast (by omega))
    exact ⟨c, U, V, hc, hU.cast (by omega), hV.cast (by omega), fun x y => by rw [← e, Int.mul_one]⟩
/-- the common form divides all that divide both -/
theorem Com.most {d : Nat} {D : Bi} (h : Com n m k F G T) (hD : Fm d D) (nD : Nz D) (f : Dv d n D F) (g : Dv d m D G) : Dv d k D T := by
  obtain ⟨N, p, q⟩ := h.id
  exact Dv.both hD nD h.hT (p.dv f g) (q.dv f g)
theorem Com.uniq {k' : Nat} {T' : Bi} (h : Com n m k F G T) (h' : Com n m k' F G T') : k = k' ∧ ∃ a b : Int, a ≠ 0 ∧ b ≠ 0 ∧ ∀ x y, a * T x y = b * T' x y := by
  have d1 := h'.most h.hT h.nz h.df h.dg
  have d2 := h.most h'.hT h'.nz h'.df h'.dg
  have l1 := d1.le h'.nz
  have l2 := d2.le h.nz
  have e : k = k' := by omega
  subst e
  obtain ⟨c, A, hc, hA, p⟩ := d1
  obtain ⟨a, ea⟩ := (hA.cast (show k + 1 - k = 1 by omega)).const
  refine ⟨rfl, a, c, fun z => ?_, hc, fun x y => by rw [p, ea, Int.mul_comm]⟩
  obtain ⟨x, y, h0⟩ := h'.nz
  have := p x y
  rw [ea, z, Int.mul_zero] at this
  exact (Int.mul_eq_zero.mp this).elim hc h0
theorem Com.scale {F' : Bi} {a b : Int} (h : Com n m k F G T) (ha : a ≠ 0) (hb : b ≠ 0) (e : ∀ x y, a * F x y = b * F' x y) : Com n m k F' G T :=
  ⟨h.hT, h.nz, h.df.congr ha e hb, h.dg, h.id.imp fun N p => by
    have go : ∀ {φ : Bi}, Idl n m (k + N) F G φ → Idl n m (k + N) F' G φ := fun {φ} q => by
      obtain ⟨c, U, V, hc, hU, hV, q⟩ := q
      exact ⟨a * c, _, _, Int.mul_ne_zero ha hc, hU.mulc b, hV.mulc a, fun x y => by
        have := q x y
        have := e x y
        grind⟩
    exact ⟨go p.1, go p.2⟩⟩
theorem Com.scaleT {T' : Bi} {a b : Int} (h : Com n m k F G T) (hT' : Fm k T') (ha : a ≠ 0) (hb : b ≠ 0) (e : ∀ x y, a * T x y = b * T' x y) : Com n m k F G T' :=
  ⟨hT', by
    obtain ⟨x, y, h0⟩ := h.nz
    refine ⟨x, y, fun z => ?_⟩
    have := e x y
    rw [z, Int.mul_zero] at this
    exact (Int.mul_eq_zero.mp this).elim ha h0, h.df.congrL ha e, h.dg.congrL ha e, h.id.imp fun N p => by
    have go : ∀ {X : Int → Int → Int}, Idl n m (k + N) F G (fun x y => X x y * T x y) → Idl n m (k + N) F G fun x y => X x y * T' x y := fun {X} q => by
      obtain ⟨c, U, V, hc, hU, hV, q⟩ := q
      exact ⟨b * c, _, _, Int.mul_ne_zero hb hc, hU.mulc a, hV.mulc a, fun x y => by
        have := q x y
        have := e x y
        grind⟩
    exact ⟨go p.1, go p.2⟩⟩
/-- a divisor is the common form -/
theorem Com.divisor (hF : Fm n F) (nF : Nz F) (d : Dv n m F G) : Com n m n F G F :=
  ⟨hF, nF, Dv.self F, d, 0, ⟨1, fun _ _ => 1, fun _ _ => 0, by decide, Fm.one.cast (by omega), Fm.zero _, fun x y => by simp⟩, ⟨1, fun _ _ => 1, fun _ _ => 0, by decide, Fm.one.cast (by omega), Fm.zero _, fun x y => by simp⟩⟩
/-- apart: no common form but 1 -/
def Ap (n m : Nat) (F G : Bi) : Prop := Com n m 1 F G fun _ _ => 1
theorem Ap.sw (h : Ap n m F G) : Ap m n G F := Com.sw h
theorem dv1 (hF : Fm n F) : Dv 1 n (fun _ _ => 1) F := ⟨1, F, by decide, hF.cast (by omega), fun _ _ => rfl⟩
theorem nz1 : Nz fun _ _ => 1 := ⟨0, 0, by decide⟩
theorem Idl.mul {n n' z k k' N N' : Nat} {X Y Z D1 D2 φ ψ : Bi} (i : Idl n z (k + N) X Z (fun x y => φ x y * D1 x y)) (j : Idl n' z (k' + N') Y Z (fun x y => ψ x y * D2 x y)) (n1 : 1 ≤ n) (n2 : 1 ≤ n') (k1 : 1 ≤ k) (k2 : 1 ≤ k') (z1 : 1 ≤ z) (hX : Fm n X) (hY : Fm n' Y) (hZ : Fm z Z) :
    Idl (n + n' - 1) z ((k + k' - 1) + (N + N')) (fun x y => X x y * Y x y) Z fun x y => φ x y * ψ x y * (D1 x y * D2 x y) := by
  obtain ⟨c, U, V, hc, hU, hV, e⟩ := i
  obtain ⟨d, U', V', hd, hU', hV', e'⟩ := j
  refine ⟨c * d, fun x y => U x y * U' x y, fun x y => U x y * X x y * V' x y + V x y * U' x y * Y x y + V x y * V' x y * Z x y, Int.mul_ne_zero hc hd, hU.mul hU' (by omega), ?_, fun x y => ?_⟩
  · refine ((((hU.mul hX (k := k + N) (by omega)).mul hV' (by omega)).add ?_).add ?_)
    · refine ((hV.mul (hU'.mul hY (k := k' + N') (by omega)) (k := k + k' - 1 + (N + N') + 1 - z) (by omega)).congr fun x y => by rw [Int.mul_assoc])
    · refine ((hV.mul (hV'.mul hZ (k := k' + N') (by omega)) (k := k + k' - 1 + (N + N') + 1 - z) (by omega)).congr fun x y => by rw [Int.mul_assoc])
  · have := e x y
    have := e' x y
    grind
theorem Ap.mul {n' z : Nat} {X Y Z : Bi} (h1 : Ap n z X Z) (h2 : Ap n' z Y Z) (n1 : 1 ≤ n) (n2 : 1 ≤ n') (z1 : 1 ≤ z) (hX : Fm n X) (hY : Fm n' Y) (hZ : Fm z Z) : Ap (n + n' - 1) z (fun x y => X x y * Y x y) Z := by
  obtain ⟨N, i1, i2⟩ := h1.id
  obtain ⟨N', j1, j2⟩ := h2.id
  refine ⟨Fm.one, nz1, dv1 (hX.mul hY (by omega)), dv1 hZ, N + N', ?_, ?_⟩
  · obtain ⟨c, U, V, hc, hU, hV, e⟩ := i1.mul j1 n1 n2 (Nat.le_refl 1) (Nat.le_refl 1) z1 hX hY hZ
    exact ⟨c, U, V, hc, hU, hV, fun x y => by dsimp only; rw [Int.pow_add]; exact e x y⟩
  · obtain ⟨c, U, V, hc, hU, hV, e⟩ := i2.mul j2 n1 n2 (Nat.le_refl 1) (Nat.le_refl 1) z1 hX hY hZ
    exact ⟨c, U, V, hc, hU, hV, fun x y => by dsimp only; rw [Int.pow_add]; exact e x y⟩
/-- the common form of a product of two that are apart -/
theorem Com.mul {n' k' z : Nat} {X Y Z D1 D2 : Bi} (ap : Ap n n' X Y) (h1 : Com n z k X Z D1) (h2 : Com n' z k' Y Z D2) (n1 : 1 ≤ n) (n2 : 1 ≤ n') (k1 : 1 ≤ k) (k2 : 1 ≤ k') (z1 : 1 ≤ z) (nZ : Nz Z) (hX : Fm n X) (hY : Fm n' Y) (hZ : Fm z Z) :
    Com (n + n' - 1) z (k + k' - 1) (fun x y => X x y * Y x y) Z (fun x y => D1 x y * D2 x y) := by
  have hn : Nz fun x y => D1 x y * D2 x y := Classical.byContradiction fun c => by
    have := h1.hT.can0 h1.nz h2.hT fun x y => Classical.byContradiction fun ne => c ⟨x, y, ne⟩
    obtain ⟨x, y, h0⟩ := h2.nz
    exact h0 (this x y)
  have kz := h1.dg.le nZ
  have kz' := h2.dg.le nZ
  refine ⟨h1.hT.mul h2.hT (by omega), hn, h1.df.mul h2.df k1 k2 n1 n2, ?_, ?_⟩
  · obtain ⟨a, A, ha, hA, p⟩ := h1.dg
    obtain ⟨b, B, hb, hB, q⟩ := h2.dg
    obtain ⟨N, i1, i2⟩ := ap.id
    have go : ∀ {φ : Bi}, Idl n n' (1 + N) X Y (fun x y => φ x y * 1) → Dv k' ((z + 1 - k) + N) D2 fun x y => φ x y * A x y := fun {φ} i => by
      obtain ⟨c, U, V, hc, hU, hV, r⟩ := i.dv2 h1.df h2.df
      refine ⟨b * c, _, Int.mul_ne_zero hb hc, ((hU.mul hB (k := z + 1 - k + N + 1 - k') (by omega)).mulc a).add ((hV.mul hA (k := z + 1 - k + N + 1 - k') (by omega)).mulc b), fun x y => ?_⟩
      have := p x y
      have := q x y
      have := r x y
      grind
    obtain ⟨c, A3, hc, hA3, r⟩ := Dv.both h2.hT h2.nz hA (go i1) (go i2)
    exact ⟨a * c, A3, Int.mul_ne_zero ha hc, hA3.cast (by omega), fun x y => by
      have := p x y
      have := r x y
      grind⟩
  · obtain ⟨N, i1, i2⟩ := h1.id
    obtain ⟨N', j1, j2⟩ := h2.id
    refine ⟨N + N', ?_, ?_⟩
    · obtain ⟨c, U, V, hc, hU, hV, e⟩ := i1.mul j1 n1 n2 k1 k2 z1 hX hY hZ
      exact ⟨c, U, V, hc, hU, hV, fun x y => by dsimp only; rw [Int.pow_add]; exact e x y⟩
    · obtain ⟨c, U, V, hc, hU, hV, e⟩ := i2.mul j2 n1 n2 k1 k2 z1 hX hY hZ
      exact ⟨c, U, V, hc, hU, hV, fun x y => by dsimp only; rw [Int.pow_add]; exact e x y⟩
end
end K45

set_option Elab.async false
set_option linter.all false
/-! while, by a word and a measure of the state, where the test is read at once -/
namespace WhileD
open PySem PySem.Spec PyProof.Rows L2
/-- what stands behind a turn -/
def Nxt (Pv : L2.St → Hp → Prop) (μ : L2.St → Nat) (n : Nat) : L2.St → Hp → Prop := fun σ H => Pv σ H ∧ μ σ < n
theorem while_dir {c : TT} {tb : TS} {D : Ends} {σ : L2.St} {H : Hp} (Pv : L2.St → Hp → Prop) (μ : L2.St → Nat) (h0 : Pv σ H)
    (hs : ∀ σ H, Pv σ H → c σ H fun b H1 => if b = true then ∃ N : L2.St → Hp → Prop, (∀ σ' H', N σ' H' → ∃ m', m' < μ σ ∧ m' = μ σ' ∧ Pv σ' H') ∧ tb { D with nx := N, ct := N, bk := D.nx } σ H1 else D.nx σ H1) : tWhile c tb D σ H := by
  refine ⟨fun m σ H => m = μ σ ∧ Pv σ H, ⟨_, rfl, h0⟩, ?_⟩
  rintro m σ H ⟨rfl, p⟩
  exact hs σ H p
theorem turn {tb : TS} {D : Ends} {σ : L2.St} {H1 : Hp} {Pv : L2.St → Hp → Prop} {μ : L2.St → Nat} {n : Nat} (h : tb { D with nx := Nxt Pv μ n, ct := Nxt Pv μ n, bk := D.nx } σ H1) :
    ∃ N : L2.St → Hp → Prop, (∀ σ' H', N σ' H' → ∃ m', m' < n ∧ m' = μ σ' ∧ Pv σ' H') ∧ tb { D with nx := N, ct := N, bk := D.nx } σ H1 :=
  ⟨_, fun σ' H' p => ⟨_, p.2, rfl, p.1⟩, h⟩
end WhileD
namespace WhileD
open PySem PySem.Spec PyProof.Rows L2
def NxtM (Pv : Nat → L2.St → Hp → Prop) (n : Nat) : L2.St → Hp → Prop := fun σ H => ∃ m, m < n ∧ Pv m σ H
theorem while_m {c : TT} {tb : TS} {D : Ends} {σ : L2.St} {H : Hp} (Pv : Nat → L2.St → Hp → Prop) (h0 : ∃ m, Pv m σ H)
    (hs : ∀ m σ H, Pv m σ H → c σ H fun b H1 => if b = true then ∃ N : L2.St → Hp → Prop, (∀ σ' H', N σ' H' → ∃ m', m' < m ∧ Pv m' σ' H') ∧ tb { D with nx := N, ct := N, bk := D.nx } σ H1 else D.nx σ H1) : tWhile c tb D σ H := by
  refine ⟨Pv, h0, ?_⟩
  exact fun m σ H p => hs m σ H p
theorem turnM {tb : TS} {D : Ends} {σ : L2.St} {H1 : Hp} {Pv : Nat → L2.St → Hp → Prop} {n : Nat} (h : tb { D with nx := NxtM Pv n, ct := NxtM Pv n, bk := D.nx } σ H1) :
    ∃ N : L2.St → Hp → Prop, (∀ σ' H', N σ' H' → ∃ m', m' < n ∧ Pv m' σ' H') ∧ tb { D with nx := N, ct := N, bk := D.nx } σ H1 := ⟨_, fun _ _ p => p, h⟩
end WhileD

set_option Elab.async false
set_option linter.all false
set_option maxRecDepth 100000
set_option maxHeartbeats 4000000
set_option exponentiation.threshold 10000
/-! cut lines, rests -/
namespace K45
open PySem PySem.Spec PyProof.Rows L2 StX RZ MyR SlX OwnR OwnF EnumT SeqE GxR GenNx FDivQ
/-- without the zeros ahead -/
def cut (l : List Int) : List Int := l.dropWhile (· == 0)
def ah (l : List Int) : Nat := (l.takeWhile (· == 0)).length
theorem cut_z (l : List Int) : cut (0 :: l) = cut l := rfl
theorem ah_z (l : List Int) : ah (0 :: l) = ah l + 1 := rfl
theorem cut_n {a : Int} (h : a ≠ 0) (l : List Int) : cut (a :: l) = a :: l := by
  unfold cut
  rw [List.dropWhile_cons_of_neg (by simpa using h)]
theorem ah_n {a : Int} (h : a ≠ 0) (l : List Int) : ah (a :: l) = 0 := by
  unfold ah
  rw [List.takeWhile_cons_of_neg (by simpa using h)]
  rfl
theorem cut_drop : ∀ l : List Int, l.drop (ah l) = cut l
  | [] => rfl
  | a :: l => by
    by_cases h : a = 0
    · subst h
      rw [ah_z, cut_z, List.drop_succ_cons, cut_drop l]
    · rw [ah_n h, cut_n h]
      rfl
theorem ah_zero : ∀ {l : List Int} {j : Nat}, j < ah l → co l j = 0
  | [], j, h => absurd h (Nat.not_lt_zero _)
  | a :: l, j, h => by
    by_cases e : a = 0
    · subst e
      rw [ah_z] at h
      cases j with
      | zero => rfl
      | succ j => exact ah_zero (l := l) (by omega)
    · rw [ah_n e] at h
      exact absurd h (Nat.not_lt_zero _)
theorem ah_le : ∀ l : List Int, ah l ≤ l.length
  | [] => Nat.le_refl _
  | a :: l => by
    by_cases e : a = 0
    · subst e
      rw [ah_z, List.length_cons]
      exact Nat.succ_le_succ (ah_le l)
    · rw [ah_n e]
      exact Nat.zero_le _
theorem ah_lead : ∀ {l : List Int}, ah l < l.length → co l (ah l) ≠ 0
  | [], h => absurd h (Nat.not_lt_zero _)
  | a :: l, h => by
    by_cases e : a = 0
    · subst e
      rw [ah_z] at h ⊢
      exact ah_lead (l := l) (by rw [List.length_cons] at h; omega)
    · rw [ah_n e]
      exact e
section
variable {P : Program} {w : World} {K : PySem.W.Frag} {mg : Str → Option Value} {base : Heap} {Ps : List Addr}
theorem slice_from {H : Hp} {t : Addr} {l : List Int} {k : Nat} {R : VK} (ht : H t = some (tp l) ∨ H t = some (ls l)) (hk : k ≤ l.length) (q : ∀ p H', Same H H' → (H' p = some (tp (l.drop k)) ∨ H' p = some (ls (l.drop k))) → R (.ref p) H') :
    rSlL K (.ref t) (some (k : Int)) none H R ∨ rSlA K (.ref t) (some (k : Int)) none H R := by
  have ec : cutV (l.map V.int) (some (k : Int)) none = (l.drop k).map V.int := by
    unfold cutV
    rw [HT.sIx_none, HT.sIx_nat, List.length_map, Nat.min_eq_left hk, ← List.map_drop, ← List.map_take, List.take_of_length_le (by rw [List.length_drop]; omega)]
  rcases ht with e | e
  · refine .inr ⟨t, l.map V.int, rfl, SqT.of e, fun z => q t H (Same.rf H) (.inl ?_), fun _ p hp => q p _ (same_upd0 hp) (.inl ?_)⟩
    · have z1 := z.1
      rw [HT.sIx_nat, List.length_map, Nat.min_eq_left hk] at z1
      rw [z1]
      exact e
    · rw [upd_same, ec]
  · refine .inl ⟨t, l.map V.int, rfl, SqL.of e, fun p hp => q p _ (same_upd0 hp) (.inr ?_)⟩
    rw [upd_same, ec]
end
end K45

set_option Elab.async false
set_option linter.all false
set_option maxRecDepth 100000
set_option maxHeartbeats 4000000
set_option exponentiation.threshold 10000
/-! rests, shared parts -/
namespace K45
open PySem PySem.Spec PyProof.Rows L2 StX RZ MyR SlX OwnR OwnF EnumT SeqE GxR GenNx FDivQ
/-- one turn: the first entries are taken away -/
def lng (l g : List Int) : List Int := g ++ List.replicate (l.length - g.length) 0
def sub1 (l g : List Int) : List Int := tb l.length fun k => co l k * co g 0 - co l 0 * co (lng l g) k
def stp1 (l g : List Int) : List Int := (sub1 l g).drop 1
def rlN : Nat → List Int → List Int → List Int
  | 0, l, _ => l
  | n + 1, l, g => stp1 (rlN n l g) g
theorem lng_len {l g : List Int} (h : g.length ≤ l.length) : (lng l g).length = l.length := by
  unfold lng
  rw [List.length_append, List.length_replicate]
  omega
theorem sub1_len (l g : List Int) : (sub1 l g).length = l.length := tb_len _ _
theorem stp1_len (l g : List Int) : (stp1 l g).length = l.length - 1 := by
  unfold stp1
  rw [List.length_drop, sub1_len]
theorem rlN_len (f g : List Int) : ∀ n, (rlN n f g).length = f.length - n
  | 0 => rfl
  | n + 1 => by
    show (stp1 (rlN n f g) g).length = _
    rw [stp1_len, rlN_len f g n]
    omega
theorem co_lng (l g : List Int) (k : Nat) : co (lng l g) k = co g k := co_appz g _ k
def rlf (f g : List Int) : List Int := rlN (f.length + 1 - g.length) f g
def rst (f g : List Int) : List Int := primE (cut (rlf f g))
/-- the sizes of a turn -/
structure StOk (l g : List Int) : Prop where
  m1 : ∀ k, CMulW (co l k) (co g 0)
  m2 : ∀ k, CMulW (co l 0) (co g k)
def RsOk (f g : List Int) : Prop := (∀ n, n < f.length + 1 - g.length → StOk (rlN n f g) g) ∧ DivOk (cut (rlf f g))
section
variable {P : Program} {w : World} {K : PySem.W.Frag} {mg : Str → Option Value} {base : Heap} {Ps : List Addr}
theorem sz1 : 1 ≤ sizeLine := by decide
end
end K45

set_option Elab.async false
set_option linter.all false
set_option maxRecDepth 100000
set_option maxHeartbeats 4000000
set_option exponentiation.threshold 10000
/-! shared parts, common forms by entries -/
namespace K45
open PySem PySem.Spec PyProof.Rows L2 StX RZ MyR SlX OwnR OwnF EnumT SeqE GxR GenNx FDivQ
theorem cut_len (l : List Int) : (cut l).length ≤ l.length := by
  unfold cut
  exact (List.dropWhile_sublist _).length_le
theorem rlf_len (f g : List Int) : (rlf f g).length = min f.length (g.length - 1) ∨ g = [] := by
  unfold rlf
  rw [rlN_len]
  by_cases h : g = []
  · exact .inr h
  · have := List.length_pos_iff.mpr h
    exact .inl (by omega)
theorem rst_len {f g : List Int} (h : 1 ≤ g.length) : (rst f g).length ≤ f.length ∧ (rst f g).length ≤ g.length - 1 := by
  unfold rst
  rw [primE_len]
  have := cut_len (rlf f g)
  rcases rlf_len f g with e | e
  · omega
  · rw [e] at h
    exact absurd h (by decide)
/-- the last one of Euclid's rests -/
def shp : Nat → List Int → List Int → List Int
  | 0, f, _ => f
  | n + 1, f, g => if g = [] then f else shp n g (rst f g)
theorem shp_len : ∀ (n : Nat) (f g : List Int), (shp n f g).length ≤ max f.length g.length
  | 0, f, g => Nat.le_max_left _ _
  | n + 1, f, g => by
    show (if g = [] then f else shp n g (rst f g)).length ≤ _
    by_cases c : g = []
    · rw [if_pos c]
      exact Nat.le_max_left _ _
    · rw [if_neg c]
      have := shp_len n g (rst f g)
      have := rst_len (f := f) (List.length_pos_iff.mpr c)
      omega
def ShOk : Nat → List Int → List Int → Prop
  | 0, f, g => g = [] ∧ DivOk f
  | n + 1, f, g => (g = [] → DivOk f) ∧ (g ≠ [] → RsOk f g ∧ ShOk n g (rst f g))
section
variable {P : Program} {w : World} {K : PySem.W.Frag} {mg : Str → Option Value} {base : Heap} {Ps : List Addr}
theorem sz0 : 0 ≤ sizeLine := by decide
/-- the entries of the common form -/
def cmn (F G : List Int) : List Int := List.replicate (min (ah F) (ah G)) 0 ++ primE (shp (cut G).length (cut F) (cut G))
end
end K45

set_option Elab.async false
set_option linter.all false
set_option maxRecDepth 100000
set_option maxHeartbeats 4000000
set_option exponentiation.threshold 10000
/-! plain: the told entries are those of the common form -/
namespace K45
open PySem PySem.Spec PyProof.Rows L2 FDivQ LA
theorem sub1_0 (l g : List Int) (h : g.length ≤ l.length) (g1 : 1 ≤ g.length) : sub1 l g = 0 :: stp1 l g := by
  unfold stp1
  have e : co (sub1 l g) 0 = 0 := by
    unfold sub1
    rw [co_get (by rw [tb_len]; omega)]
    simp only [tb, List.getElem_map, List.getElem_range, co_lng]
    omega
  have n : (sub1 l g).length = l.length := sub1_len l g
  generalize sub1 l g = t at *
  cases t with
  | nil =>
    rw [List.length_nil] at n
    omega
  | cons a t =>
    have : a = 0 := e
    rw [this]
    rfl
theorem ev_stp {l g : List Int} (h : g.length ≤ l.length) (g1 : 1 ≤ g.length) (x y : Int) : y * ev (stp1 l g) x y = co g 0 * ev l x y - co l 0 * (x ^ (l.length - g.length) * ev g x y) := by
  rw [← ev_sy, ← sub1_0 l g h g1]
  unfold sub1
  rw [ev_tb, evF_congr _ (fun i _ => show _ = co g 0 * co l i + (-co l 0) * co (lng l g) i by rw [Int.mul_comm (co g 0)]; grind), evF_add, evF_mul, evF_mul]
  have e1 : evF l.length (co (lng l g)) x y = ev (lng l g) x y := by
    unfold ev
    rw [lng_len h]
  rw [e1, show ev (lng l g) x y = x ^ (l.length - g.length) * ev g x y from ev_sx g _ x y]
  show co g 0 * ev l x y + _ = _
  grind
theorem cut_lead {l : List Int} (h : cut l ≠ []) : co (cut l) 0 ≠ 0 := by
  have e := cut_drop l
  have hl : ah l < l.length := Classical.byContradiction fun n => h (by rw [← e]; exact List.drop_eq_nil_of_le (by omega))
  rw [← e, co_get (by rw [List.length_drop]; omega), List.getElem_drop, ← co_get (by omega), Nat.add_zero]
  exact ah_lead hl
theorem cut_rep (l : List Int) : l = List.replicate (ah l) 0 ++ cut l := by
  have ha := ah_le l
  refine co_inj (by rw [List.length_append, List.length_replicate, ← cut_drop, List.length_drop]; omega) fun j => ?_
  by_cases c : j < l.length
  · by_cases d : j < ah l
    · rw [ah_zero d, co_get (by rw [List.length_append, List.length_replicate]; omega), List.getElem_append_left (by rw [List.length_replicate]; exact d), List.getElem_replicate]
    · have e2 : (List.replicate (ah l) (0 : Int) ++ cut l).length = l.length := by rw [List.length_append, List.length_replicate, ← cut_drop, List.length_drop]; omega
      rw [co_get c, co_get (by omega), List.getElem_append_right (by rw [List.length_replicate]; omega)]
      simp only [← cut_drop, List.getElem_drop, List.length_replicate]
      congr 1
      omega
  · rw [co_far (by omega), co_far (by rw [List.length_append, List.length_replicate, ← cut_drop, List.length_drop]; omega)]
theorem ev_cut (l : List Int) (x y : Int) : ev l x y = y ^ ah l * ev (cut l) x y := by
  rw [← ev_ry, ← cut_rep]
theorem ev_pf (l : List Int) (x y : Int) : pf l * ev (primE l) x y = ev l x y := by
  rw [← ev_map]
  congr 1
  exact co_inj (by rw [List.length_map, primE_len]) fun j => by rw [co_scale, prim_ex]
theorem prim_lead {l : List Int} (h : co l 0 ≠ 0) : co (primE l) 0 ≠ 0 := fun z => by
  have := prim_ex l 0
  rw [z, Int.mul_zero] at this
  exact h this.symm
theorem prim_nil : primE [] = [] := List.length_eq_zero_iff.mp (primE_len [])
theorem rst_lead (f g : List Int) : rst f g = [] ∨ co (rst f g) 0 ≠ 0 := by
  unfold rst
  by_cases c : cut (rlf f g) = []
  · rw [c]
    exact .inl prim_nil
  · exact .inr (prim_lead (cut_lead c))
theorem shp_nil (n : Nat) (f : List Int) : shp n f [] = f := by
  cases n with
  | zero => rfl
  | succ n => exact if_pos rfl
theorem Nz.y {n : Nat} {f : Bi} (h : Fm n f) (nz : Nz f) : Nz fun x y => y ^ 1 * f x y := Classical.byContradiction fun c => by
  obtain ⟨x, y, h0⟩ := nz
  refine h0 (h.cy (Fm.zero n) (fun x y => ?_) x y)
  rw [Int.mul_zero]
  exact Classical.byContradiction fun ne => c ⟨x, y, by dsimp only; rw [Int.pow_one]; exact ne⟩
theorem Nz.yk {n : Nat} {f : Bi} (nz : Nz f) (h : Fm n f) : ∀ e : Nat, Nz fun x y => y ^ e * f x y
  | 0 => by
    obtain ⟨x, y, h0⟩ := nz
    exact ⟨x, y, by dsimp only; rw [Int.pow_zero, Int.one_mul]; exact h0⟩
  | e + 1 => by
    obtain ⟨x, y, h0⟩ := (nz.yk h e).y (h.py e)
    exact ⟨x, y, by dsimp only at h0 ⊢; rw [Int.pow_succ, Int.mul_comm (y ^ e) y, Int.mul_assoc]; rw [Int.pow_one] at h0; exact h0⟩
/-- zeros ahead of the first one -/
theorem zeros {m k : Nat} {f g h : Bi} (hg : Fm m g) (g0 : g 1 0 ≠ 0) : ∀ (z n : Nat) (f' : Bi), Fm n f' → Nz f' → (∀ x y, f x y = y ^ z * f' x y) → Mm n m k f' g h → Mm (n + z) m k f g h
  | 0, n, f', _, _, e, M => M.scale (a := 1) (b := 1) (by decide) (by decide) fun x y => by rw [e, Int.pow_zero, Int.one_mul, Int.one_mul]
  | z + 1, n, f', hf, nf, e, M => by
    rw [show n + (z + 1) = n + 1 + z by omega]
    refine zeros hg g0 z (n + 1) (fun x y => y ^ 1 * f' x y) (hf.py 1) (nf.y hf) (fun x y => ?_) (M.step (R := fun _ _ => 0) (γ := 1) hf hg g0 (by decide) (.inl fun _ _ => rfl) (.inl (M.df.le nf)) fun x y => by rw [Int.pow_one]; simp)
    rw [e, Int.pow_succ, Int.pow_one, Int.mul_assoc]
theorem nz_lead {f : Bi} (h : f 1 0 ≠ 0) : Nz f := ⟨1, 0, h⟩
theorem stps {f g : List Int} {k : Nat} {h : Bi} (g0 : co g 0 ≠ 0) (g1 : 1 ≤ g.length) : ∀ j, j ≤ f.length + 1 - g.length → Mm (rlN j f g).length g.length k (ev (rlN j f g)) (ev g) h → Mm f.length g.length k (ev f) (ev g) h
  | 0, _, M => M
  | j + 1, hj, M => by
    have ln := rlN_len f g j
    refine stps g0 g1 j (by omega) ?_
    have M' : Mm (stp1 (rlN j f g) g).length g.length k (ev (stp1 (rlN j f g) g)) (ev g) h := M
    have l1 := stp1_len (rlN j f g) g
    generalize rlN j f g = l at *
    have e : l.length = (stp1 l g).length + 1 := by omega
    rw [e]
    refine M'.step (R := fun x y => co l 0 * (x ^ (l.length - g.length) * 1)) (γ := co g 0) (Fm.of _) (Fm.of _) (by rw [ev_lead]; exact g0) g0 (.inr ⟨1 + (l.length - g.length), (Fm.one.px _).mulc _, by omega⟩) (.inr (by omega)) fun x y => ?_
    rw [ev_stp (by omega) g1]
    grind
/-- Euclid's steps tell the common form -/
theorem euc : ∀ (n : Nat) (f g : List Int), co f 0 ≠ 0 → (g = [] ∨ co g 0 ≠ 0) → g.length ≤ n → Mm f.length g.length (shp n f g).length (ev f) (ev g) (ev (shp n f g))
  | 0, f, g, hf, _, hn => by
    have : g = [] := List.length_eq_zero_iff.mp (by omega)
    subst this
    exact (Mm.zero (n := 0) (Fm.of f) (by rw [ev_lead]; exact hf) fun x y => rfl).sw
  | n + 1, f, g, hf, hg, hn => by
    by_cases c : g = []
    · subst c
      rw [shp_nil]
      exact (Mm.zero (n := 0) (Fm.of f) (by rw [ev_lead]; exact hf) fun x y => rfl).sw
    · have g0 := hg.resolve_left c
      have g1 := List.length_pos_iff.mpr c
      have g0' : ev g 1 0 ≠ 0 := by rw [ev_lead]; exact g0
      rw [show shp (n + 1) f g = shp n g (rst f g) from if_neg c]
      have lr := rst_len (f := f) g1
      have M1 := euc n g (rst f g) g0 (rst_lead f g) (by omega)
      refine stps g0 g1 (f.length + 1 - g.length) (Nat.le_refl _) ?_
      show Mm (rlf f g).length g.length _ (ev (rlf f g)) (ev g) _
      by_cases d : cut (rlf f g) = []
      · have e : rst f g = [] := by
          unfold rst
          rw [d]
          exact prim_nil
        rw [e, shp_nil]
        exact Mm.zero (Fm.of g) g0' fun x y => by
          rw [ev_cut, d, ev_nil, Int.mul_zero]
      · have M2 : Mm (cut (rlf f g)).length g.length (shp n g (rst f g)).length (ev (cut (rlf f g))) (ev g) (ev (shp n g (rst f g))) := by
          have := M1.sw
          have e : (rst f g).length = (cut (rlf f g)).length := primE_len _
          rw [e] at this
          exact this.scale (a := pf (cut (rlf f g))) (b := 1) (pf_ne _) (by decide) fun x y => by
            rw [Int.one_mul]
            exact ev_pf _ x y
        have lc : (rlf f g).length = (cut (rlf f g)).length + ah (rlf f g) := by
          have := congrArg List.length (cut_rep (rlf f g))
          rw [List.length_append, List.length_replicate] at this
          omega
        rw [lc]
        exact zeros (Fm.of g) g0' (ah (rlf f g)) _ _ (Fm.of _) (nz_lead (by rw [ev_lead]; exact cut_lead d)) (ev_cut _) M2
theorem cut_split (l : List Int) : l.length = (cut l).length + ah l := by
  have := congrArg List.length (cut_rep l)
  rw [List.length_append, List.length_replicate] at this
  omega
theorem cut_ne {l : List Int} (h : Nz (ev l)) : cut l ≠ [] := fun e => by
  obtain ⟨x, y, h0⟩ := h
  rw [ev_cut, e, ev_nil, Int.mul_zero] at h0
  exact h0 rfl
theorem cmn_len (F G : List Int) : (cmn F G).length = (shp (cut G).length (cut F) (cut G)).length + min (ah F) (ah G) := by
  unfold cmn
  rw [List.length_append, List.length_replicate, primE_len, Nat.add_comm]
theorem ev_cmn (F G : List Int) (x y : Int) : ev (cmn F G) x y = y ^ min (ah F) (ah G) * ev (primE (shp (cut G).length (cut F) (cut G))) x y := ev_ry _ x y _
/-- two forms and what is told of them -/
theorem cmn_full {F G : List Int} (nF : Nz (ev F)) (nG : Nz (ev G)) : Fm (cmn F G).length (ev (cmn F G)) ∧ Nz (ev (cmn F G)) ∧ Dv (cmn F G).length F.length (ev (cmn F G)) (ev F) ∧ Dv (cmn F G).length G.length (ev (cmn F G)) (ev G) ∧ Full F.length G.length (cmn F G).length (ev F) (ev G) (ev (cmn F G)) := by
  have cF := cut_lead (cut_ne nF)
  have cG := cut_lead (cut_ne nG)
  have eF := cut_split F
  have eG := cut_split G
  have M0 := euc (cut G).length (cut F) (cut G) cF (.inr cG) (Nat.le_refl _)
  have eT := cmn_len F G
  have vT := ev_cmn F G
  generalize cmn F G = T at *
  generalize hh : shp (cut G).length (cut F) (cut G) = h at *
  have M1 : Mm (cut F).length (cut G).length h.length (ev (cut F)) (ev (cut G)) (ev (primE h)) := M0.scaleH ((Fm.of _).cast (primE_len h)) (a := 1) (b := pf h) (by decide) (pf_ne h) fun x y => by rw [ev_pf, Int.one_mul]
  have lF : ev (cut F) 1 0 ≠ 0 := by rw [ev_lead]; exact cF
  have lG : ev (cut G) 1 0 ≠ 0 := by rw [ev_lead]; exact cG
  obtain ⟨e, he⟩ : ∃ e, e = min (ah F) (ah G) := ⟨_, rfl⟩
  rw [← he] at eT vT
  have M2 : Mm (F.length - e) (G.length - e) h.length (fun x y => y ^ (ah F - e) * ev (cut F) x y) (fun x y => y ^ (ah G - e) * ev (cut G) x y) (ev (primE h)) := by
    by_cases c : ah F ≤ ah G
    · have q := (zeros (f := fun x y => y ^ (ah G - e) * ev (cut G) x y) (Fm.of (cut F)) lF (ah G - e) _ _ (Fm.of (cut G)) (nz_lead lG) (fun _ _ => rfl) M1.sw).sw
      have q2 := q.scale (f := fun x y => y ^ (ah F - e) * ev (cut F) x y) (a := 1) (b := 1) (by decide) (by decide) fun x y => by
        rw [show ah F - e = 0 by omega, Int.pow_zero, Int.one_mul, Int.one_mul]
      rw [show F.length - e = (cut F).length by omega, show G.length - e = (cut G).length + (ah G - e) by omega]
      exact q2
    · have q := (zeros (f := fun x y => y ^ (ah F - e) * ev (cut F) x y) (Fm.of (cut G)) lG (ah F - e) _ _ (Fm.of (cut F)) (nz_lead lF) (fun _ _ => rfl) M1).sw
      have q2 := q.scale (f := fun x y => y ^ (ah G - e) * ev (cut G) x y) (a := 1) (b := 1) (by decide) (by decide) fun x y => by
        rw [show ah G - e = 0 by omega, Int.pow_zero, Int.one_mul, Int.one_mul]
      rw [show G.length - e = (cut G).length by omega, show F.length - e = (cut F).length + (ah F - e) by omega]
      exact q2.sw
  have vF : ∀ x y, ev F x y = y ^ e * (y ^ (ah F - e) * ev (cut F) x y) := fun x y => by
    rw [ev_cut, ← Int.mul_assoc, ← Int.pow_add, show e + (ah F - e) = ah F by omega]
  have vG : ∀ x y, ev G x y = y ^ e * (y ^ (ah G - e) * ev (cut G) x y) := fun x y => by
    rw [ev_cut, ← Int.mul_assoc, ← Int.pow_add, show e + (ah G - e) = ah G by omega]
  have nT : Nz (ev T) := by
    obtain ⟨x, y, h0⟩ := (nz_lead M1.h0).yk (Fm.of _) e
    exact ⟨x, y, by rw [vT]; exact h0⟩
  obtain ⟨d1, d2⟩ := lift M2 e
  have d1' : Dv T.length F.length (ev T) (ev F) := by
    rw [eT, show F.length = F.length - e + e by omega]
    exact (d1.congr (a := 1) (b := 1) (by decide) (fun x y => by rw [vF]) (by decide)).congrL (a := 1) (b := 1) (by decide) fun x y => by rw [vT]
  have d2' : Dv T.length G.length (ev T) (ev G) := by
    rw [eT, show G.length = G.length - e + e by omega]
    exact (d2.congr (a := 1) (b := 1) (by decide) (fun x y => by rw [vG]) (by decide)).congrL (a := 1) (b := 1) (by decide) fun x y => by rw [vT]
  refine ⟨Fm.of T, nT, d1', d2', full_of (Fm.of T) nT d1' d2' nF nG fun E hE => ?_⟩
  obtain ⟨c, U, V, hc, hU, hV, q⟩ := M2.st E (hE.cast (by omega))
  refine ⟨c, U, V, hc, hU.cast (by omega), hV.cast (by omega), fun x y => ?_⟩
  have := q x y
  rw [vF, vG, vT]
  grind
theorem cmn_com {F G : List Int} (nF : Nz (ev F)) (nG : Nz (ev G)) : Com F.length G.length (cmn F G).length (ev F) (ev G) (ev (cmn F G)) := by
  obtain ⟨a, b, c, d, e⟩ := cmn_full nF nG
  exact e.com a b c d nF nG
theorem primE_pr (z : List Int) : primE (primE z) = primE z :=
  prim_pq (w := (primE z).length) ⟨rfl, (primE_len z).symm, pf z, 1, pf_ne z, by decide, fun j => by rw [prim_ex, Int.one_mul]⟩
theorem primE_z (l : List Int) : primE (0 :: l) = 0 :: primE l := by
  have e1 : gl (0 :: l) = gl l := rfl
  have e2 : foE (0 :: l) = foE l := rfl
  unfold primE
  rw [e1, e2]
  split
  · rfl
  · unfold dv
    rw [List.map_cons, Int.zero_fdiv]
theorem primE_zs (l : List Int) : ∀ n, primE (List.replicate n 0 ++ l) = List.replicate n 0 ++ primE l
  | 0 => rfl
  | n + 1 => by
    rw [List.replicate_succ, List.cons_append, primE_z, primE_zs l n]
    rfl
theorem cmn_prim (F G : List Int) : primE (cmn F G) = cmn F G := by
  unfold cmn
  rw [primE_zs, primE_pr]
/-- proportional rows are alike when primitive -/
theorem prim_ev {l m : List Int} {a b : Int} (h : l.length = m.length) (ha : a ≠ 0) (hb : b ≠ 0) (e : ∀ x y, a * ev l x y = b * ev m x y) : primE l = primE m := by
  have q : l.map (a * ·) = m.map (b * ·) := ev_inj (by rw [List.length_map, List.length_map, h]) fun x y => by rw [ev_map, ev_map, e]
  exact prim_pq (w := l.length) ⟨rfl, h.symm, a, b, ha, hb, fun j => by rw [← co_scale, ← co_scale, q]⟩
end K45

set_option Elab.async false
set_option linter.all false
set_option maxRecDepth 100000
set_option maxHeartbeats 2000000
set_option exponentiation.threshold 10000
/-! levels: acting is a sum of products with the level entries -/
namespace K45
open PySem PySem.Spec PyProof.Rows L2 FDivQ LA
def dotn (r c : List Int) (i : Nat) : List Int := tb i fun k => co r k * co c k
def dot (r c : List Int) : Int := (dotn r c r.length).sum
def fc : Nat → Nat
  | 0 => 1
  | n + 1 => (n + 1) * fc n
/-- the level entries -/
def lev (l : List Int) : List Int := tb l.length fun i => (fc i : Int) * (fc (l.length - 1 - i) : Int) * co l i
theorem S_ext {f : Nat → Int} {n : Nat} : ∀ {N : Nat}, n ≤ N → (∀ i, n ≤ i → f i = 0) → S N f = S n f
  | 0, h, _ => by
    have : n = 0 := by omega
    rw [this]
  | N + 1, h, hz => by
    by_cases c : n = N + 1
    · rw [c]
    · show S N f + f N = _
      rw [hz N (by omega), Int.add_zero, S_ext (by omega) hz]
theorem S_head (f : Nat → Int) (n : Nat) : S (n + 1) f = f 0 + S n fun i => f (i + 1) := by
  rw [S_skip f 0 n (Nat.zero_le _)]
  rfl
theorem conv_aux {m : List Int} : ∀ (l : List Int) (g : Nat → Int) (N : Nat), l.length + m.length ≤ N + 1 → S N (fun c => cv l (co m) c * g c) = S l.length fun a => co l a * S m.length fun b => co m b * g (a + b)
  | [], g, N, _ => by
    rw [S_zero fun i _ => by rw [cv_nil, Int.zero_mul]]
    rfl
  | x :: xs, g, N, h => by
    have hm : m.length ≤ N := by rw [List.length_cons] at h; omega
    have e1 : S m.length (fun b => co m b * g (0 + b)) = S N fun b => co m b * g b := by
      rw [S_ext (f := fun b => co m b * g b) hm fun i hi => by rw [co_far hi, Int.zero_mul]]
      exact S_congr fun b _ => by rw [Nat.zero_add]
    rw [List.length_cons, S_head]
    show _ = x * _ + S xs.length fun i => co xs i * S m.length fun b => co m b * g (i + 1 + b)
    rw [e1, ← S_mul]
    have e2 : (S xs.length fun i => co xs i * S m.length fun b => co m b * g (i + 1 + b)) = S xs.length fun i => co xs i * S m.length fun b => co m b * (fun c => g (c + 1)) (i + b) := S_congr fun i _ => by
      congr 1
      exact S_congr fun b _ => by
        show co m b * g (i + 1 + b) = co m b * g (i + b + 1)
        congr 2
        omega
    rw [e2]
    cases N with
    | zero =>
      rw [List.length_cons] at h
      have hx : xs = [] := List.eq_nil_of_length_eq_zero (by omega)
      subst hx
      rfl
    | succ N =>
      rw [← conv_aux xs (fun c => g (c + 1)) N (by rw [List.length_cons] at h; omega), S_head, S_head, cv_zero]
      have e3 : (S N fun i => cv (x :: xs) (co m) (i + 1) * g (i + 1)) = S N (fun i => x * (co m (i + 1) * g (i + 1))) + S N fun c => cv xs (co m) c * (fun c => g (c + 1)) c := by
        rw [← S_add]
        exact S_congr fun i _ => by rw [cv_succ, Int.add_mul, Int.mul_assoc]
      rw [e3, ← Int.mul_assoc, Int.add_assoc]
theorem conv {l m : List Int} (hm : m ≠ []) (g : Nat → Int) : S (ml l m).length (fun c => co (ml l m) c * g c) = S l.length fun a => co l a * S m.length fun b => co m b * g (a + b) := by
  rw [← conv_aux l g (ml l m).length (by rw [ml_len]; omega)]
  exact S_congr fun c _ => by rw [co_ml hm]
/-- the rows of the level table -/
def lrow (l : List Int) (d at_ : Nat) : List Int := tb (d + 1) fun a => co (lev l) (at_ + a)
def lrows (l : List Int) (d : Nat) : List (List Int) := (List.range (l.length - d)).map (lrow l d)
end K45

set_option Elab.async false
set_option linter.all false
set_option maxRecDepth 100000
set_option maxHeartbeats 2000000
set_option exponentiation.threshold 10000
/-! killers: kernels of level tables -/
namespace K45
open PySem PySem.Spec PyProof.Rows L2 FDivQ LA
theorem gl_primE (l : List Int) : gl (primE l) ≤ 1 := by
  by_cases c : gl l = 0
  · unfold primE
    rw [if_pos c, c]
    exact Nat.zero_le _
  · have q : gl l * gl (primE l) ∣ gl l := dvd_glc fun k _ => by
      have e := prim_ex l k
      have hp : (pf l).natAbs = gl l := by
        unfold pf
        rw [if_neg c]
        split <;> omega
      rw [← e, Int.natAbs_mul, hp]
      exact Nat.mul_dvd_mul_left _ (gl_dvdc _ _)
    have h1 : gl (primE l) ∣ 1 := Nat.dvd_of_mul_dvd_mul_left (Nat.pos_of_ne_zero c) (by rw [Nat.mul_one]; exact q)
    exact Nat.le_of_eq (Nat.dvd_one.mp h1)
def kern (rows : List (List Int)) (n : Nat) : List (List Int) := ech less (kvs (ech less rows n) n) n
/-- all of a kernel -/
structure KA (rows : List (List Int)) (w : Nat) : Prop where
  e : EOk less rows w
  t : ∀ t ∈ ech less rows w, t.length = w ∧ ld t < w
  k : KOk (ech less rows w)
  e2 : EOk less (kvs (ech less rows w) w) w
  len : ∀ k ∈ kern rows w, k.length = w
  dot : ∀ k ∈ kern rows w, ∀ r ∈ rows, S w (fun j => co k j * co r j) = 0
  bd : ∀ k ∈ kern rows w, ∀ j, (co k j).natAbs < 2 ^ 1500
  cnt : (kern rows w).length ≤ w
  sh : w ≤ 4 → ∀ k ∈ kern rows w, ∀ j, (co k j).natAbs < 10 ^ 60
end K45

set_option Elab.async false
set_option linter.all false
set_option maxRecDepth 100000
set_option maxHeartbeats 2000000
/-! kernels without bounds; the ranks of level tables -/
namespace K45
open PySem PySem.Spec PyProof.Rows L2 FDivQ LA
structure KS (rows : List (List Int)) (w : Nat) : Prop where
  len : ∀ k ∈ kern rows w, k.length = w
  dot : ∀ k ∈ kern rows w, ∀ r ∈ rows, S w (fun j => co k j * co r j) = 0
  ind : Ind w (kern rows w).length (row (kern rows w))
  all : ∀ y : Nat → Int, (∀ r ∈ rows, S w (fun j => y j * co r j) = 0) → Sp w (kern rows w).length (row (kern rows w)) y
  cnt : (ech less rows w).length + (kern rows w).length = w
  nz : ∀ k ∈ kern rows w, co k (ld k) ≠ 0
  lt : ∀ k ∈ kern rows w, ld k < w
  gl : ∀ k ∈ kern rows w, gl k ≤ 1
  base : ∃ n E, Base w rows.length (row rows) (ech less rows w).length E ∧ n = (ech less rows w).length
theorem ks {rows : List (List Int)} {w : Nat} (hw : ∀ r ∈ rows, r.length = w) : KS rows w := by
  have hT := told lePP (M := nm rows.flatten) hw fun r hr x hx => nm_mem (List.mem_flatten.mpr ⟨r, hr, hx⟩)
  have hg := gl_primE
  have hb := hT.base
  unfold kern at *
  generalize hTl : ech less rows w = T at hT hb
  have kv1 := kv hT
  have cnt := frees_cnt hT.lt hT.nodup
  have kl : ∀ r ∈ kvs T w, r.length = w := fun r hr => by
    obtain ⟨f, _, rfl⟩ := List.mem_map.mp hr
    exact kone_len _ _ _
  have kc : (kvs T w).length = (frees T w).length := List.length_map ..
  have hK := told lePP (M := nm (kvs T w).flatten) kl fun r hr x hx => nm_mem (List.mem_flatten.mpr ⟨r, hr, hx⟩)
  have fg : ∀ i, i < (kvs T w).length → (frees T w).getD i 0 ∈ frees T w ∧ row (kvs T w) i = co (kone T w ((frees T w).getD i 0)) := fun i hi => by
    rw [kc] at hi
    refine ⟨by rw [List.getD_eq_getElem?_getD, List.getElem?_eq_getElem hi]; exact List.getElem_mem hi, ?_⟩
    unfold row kvs
    rw [List.getD_eq_getElem?_getD, List.getD_eq_getElem?_getD, List.getElem?_map, List.getElem?_eq_getElem hi]
    rfl
  have nd : (frees T w).Nodup := List.nodup_range.filter _
  have fne : ∀ i k, i < (kvs T w).length → k < (kvs T w).length → k ≠ i → (frees T w).getD i 0 ≠ (frees T w).getD k 0 := fun i k hi hk hne e => by
    rw [kc] at hi hk
    rw [List.getD_eq_getElem?_getD, List.getD_eq_getElem?_getD, List.getElem?_eq_getElem hi, List.getElem?_eq_getElem hk] at e
    exact hne ((List.getElem_inj nd).mp e).symm
  have ind : Ind w (kvs T w).length (row (kvs T w)) := by
    refine Ech.ind (lead := fun i => (frees T w).getD i 0) ⟨fun i hi => frees_lt (fg i hi).1, fun i hi => ?_, fun i k hi hk hne => ?_⟩
    · rw [(fg i hi).2, kv1.free _ (fg i hi).1 _ (fg i hi).1, if_pos rfl]
      exact kv1.nz
    · rw [(fg k hk).2, kv1.free _ (fg k hk).1 _ (fg i hi).1, if_neg (fne i k hi hk hne)]
  have kcount : (ech less (kvs T w) w).length = (kvs T w).length := hK.base.ind_all ind
  have perpT : ∀ k ∈ ech less (kvs T w) w, ∀ t ∈ T, S w (fun j => co t j * co k j) = 0 := fun k hk t ht => by
    obtain ⟨i, hi, ei⟩ := row_mem hk
    have s1 := hK.base.of i hi
    rw [ei] at s1
    refine s1.perp fun a ha => ?_
    rw [(fg a ha).2]
    have e2 : S w (fun j => co t j * co (kone T w ((frees T w).getD a 0)) j) = S w (fun j => co (kone T w ((frees T w).getD a 0)) j * co t j) := S_congr fun j _ => Int.mul_comm _ _
    rw [e2]
    exact kv1.dot _ (fg a ha).1 t ht
  have dots : ∀ k ∈ ech less (kvs T w) w, ∀ r ∈ rows, S w (fun j => co k j * co r j) = 0 := fun k hk r hr => by
    obtain ⟨b, hb, eb⟩ := row_mem hr
    have s2 := hT.base.to b hb
    rw [eb] at s2
    refine s2.perp fun c hc => ?_
    have := perpT k hk _ (mem_row hc)
    rw [← this]
    exact S_congr fun j _ => Int.mul_comm _ _
  have all : ∀ y : Nat → Int, (∀ r ∈ rows, S w (fun j => y j * co r j) = 0) → Sp w (ech less (kvs T w) w).length (row (ech less (kvs T w) w)) y := fun y hy => by
    have yT : ∀ t ∈ T, S w (fun j => y j * co t j) = 0 := fun t ht => by
      obtain ⟨i, hi, ei⟩ := row_mem ht
      have s1 := hT.base.of i hi
      rw [ei] at s1
      exact s1.perp fun a ha => hy _ (mem_row ha)
    have sv : Sp w (kvs T w).length (row (kvs T w)) y := by
      refine ⟨whl T, kv1.nz, fun i => y ((frees T w).getD i 0), fun j hj => ?_⟩
      have zf : ∀ g ∈ frees T w, whl T * y g - S (kvs T w).length (fun i => y ((frees T w).getD i 0) * row (kvs T w) i g) = 0 := fun g hg => by
        obtain ⟨b, hb, eb⟩ := List.mem_iff_getElem.mp hg
        have eb2 : (frees T w).getD b 0 = g := by rw [List.getD_eq_getElem?_getD, List.getElem?_eq_getElem hb, eb]; rfl
        rw [S_one (p := b) (by omega) fun i hi hne => ?_]
        · rw [(fg b (by omega)).2, eb2, kv1.free g hg g hg, if_pos rfl, Int.mul_comm, Int.sub_self]
        · rw [(fg i hi).2, kv1.free _ (fg i hi).1 g hg, if_neg fun e => ?_, Int.mul_zero]
          exact fne i b hi (by omega) (Ne.symm hne) (by rw [eb2]; exact e.symm)
      by_cases c : ∃ t ∈ T, ld t = j
      · obtain ⟨t, ht, et⟩ := c
        have tz : S w (fun j => (whl T * y j - S (kvs T w).length (fun i => y ((frees T w).getD i 0) * row (kvs T w) i j)) * co t j) = 0 := by
          have e : S w (fun j => (whl T * y j - S (kvs T w).length (fun i => y ((frees T w).getD i 0) * row (kvs T w) i j)) * co t j) = whl T * S w (fun j => y j * co t j) + (-1) * S w (fun j => S (kvs T w).length fun i => y ((frees T w).getD i 0) * (row (kvs T w) i j * co t j)) := by
            rw [← S_mul, ← S_mul, ← S_add]
            refine S_congr fun j _ => ?_
            have e3 : S (kvs T w).length (fun i => y ((frees T w).getD i 0) * (row (kvs T w) i j * co t j)) = S (kvs T w).length (fun i => y ((frees T w).getD i 0) * row (kvs T w) i j) * co t j := by
              rw [← S_mulr]
              exact S_congr fun i _ => by rw [Int.mul_assoc]
            rw [e3]
            grind
          rw [e, yT t ht, S_swap, S_zero fun i hi => ?_]
          · rw [Int.mul_zero, Int.mul_zero]
            rfl
          · rw [S_mul, (fg i hi).2, kv1.dot _ (fg i hi).1 t ht, Int.mul_zero]
        obtain ⟨A, C, es, hC, hz⟩ := hT.split ht
        rw [S_one (p := ld t) (hT.lt t ht) fun i hi hne => ?_] at tz
        · rw [et] at tz
          rcases Int.mul_eq_zero.mp tz with q | q
          · exact Int.sub_eq_zero.mp q
          · exact absurd (et ▸ q) (hT.nz t ht)
        · by_cases d : ∃ u ∈ T, ld u = i
          · obtain ⟨u, hu, eu⟩ := d
            rw [← eu, hz u hu fun z => hne (by rw [← eu, z]), Int.mul_zero]
          · rw [zf i (mem_frees.mpr ⟨hi, fun u hu e => d ⟨u, hu, e⟩⟩), Int.zero_mul]
      · exact Int.sub_eq_zero.mp (zf j (mem_frees.mpr ⟨hj, fun u hu e => c ⟨u, hu, e⟩⟩))
    exact sv.trans hK.base.to
  refine ⟨?_, ?_, ?_, ?_, ?_, ?_, ?_, ?_, ?_⟩ <;> (try unfold kern) <;> rw [hTl]
  · exact hK.len
  · exact dots
  · exact hK.base.ind
  · exact all
  · rw [kcount, kc]
    omega
  · exact hK.nz
  · exact hK.lt
  · intro k hk
    obtain ⟨z, _, rfl⟩ := List.mem_map.mp hk
    exact hg z
  · exact ⟨_, _, hb, rfl⟩
def kd (l : List Int) (d : Nat) : Nat := (kern (lrows l d) (d + 1)).length
/-- times x, times y -/
def tx (d : Nat) (f : Nat → Int) : Nat → Int := fun j => if j < d + 1 then f j else 0
def ty (f : Nat → Int) : Nat → Int
  | 0 => 0
  | j + 1 => f j
end K45

set_option Elab.async false
set_option linter.all false
set_option maxRecDepth 100000
set_option maxHeartbeats 2000000
/-! the ranks of all level tables -/
namespace K45
open PySem PySem.Spec PyProof.Rows L2 FDivQ LA
end K45

set_option Elab.async false
set_option linter.all false
set_option maxRecDepth 100000
set_option maxHeartbeats 2000000
set_option exponentiation.threshold 10000
/-! a span has one echelon only; sizes of the rows of a kernel -/
namespace K45
open PySem PySem.Spec PyProof.Rows L2 FDivQ LA
/-- an echelon as it is told: leads go up, each is alone in its column, no row has a common divisor -/
structure RE (w : Nat) (T : List (List Int)) : Prop where
  len : ∀ t ∈ T, t.length = w
  lt : ∀ t ∈ T, ld t < w
  nz : ∀ t ∈ T, co t (ld t) ≠ 0
  be : ∀ t ∈ T, ∀ j, j < ld t → co t j = 0
  z : ∀ i k, i < T.length → k < T.length → k ≠ i → row T k (ld (T.getD i [])) = 0
  so : (T.map ld).Pairwise (· < ·)
  pr : ∀ t ∈ T, primE t = t
theorem RE.at_lead {w : Nat} {T : List (List Int)} (h : RE w T) {c : Int} {v a : Nat → Int} (e : ∀ j, j < w → c * v j = S T.length (fun k => a k * row T k j)) {i : Nat} (hi : i < T.length) : c * v (ld (T.getD i [])) = a i * row T i (ld (T.getD i [])) := by
  rw [e _ (h.lt _ (mem_row hi)), S_one hi fun k hk hne => by rw [h.z i k hi hk hne, Int.mul_zero]]
theorem RE.lead {w : Nat} {T : List (List Int)} (h : RE w T) {t : List Int} (hl : ld t < w) (nz : co t (ld t) ≠ 0) (be : ∀ j, j < ld t → co t j = 0) (s : SpM w T t) : ld t ∈ T.map ld := by
  obtain ⟨c, hc, a, ha⟩ := s
  refine Classical.byContradiction fun no => ?_
  have e := ha (ld t) hl
  rw [S_zero fun k hk => ?_] at e
  · exact (Int.mul_eq_zero.mp e).elim hc nz
  · have ne : ld (T.getD k []) ≠ ld t := fun z => no (List.mem_map.mpr ⟨_, mem_row hk, z⟩)
    by_cases q : ld t < ld (T.getD k [])
    · rw [show row T k (ld t) = 0 from h.be _ (mem_row hk) _ q, Int.mul_zero]
    · have e1 := h.at_lead ha hk
      rw [be _ (by omega), Int.mul_zero] at e1
      rw [(Int.mul_eq_zero.mp e1.symm).resolve_right (h.nz _ (mem_row hk)), Int.zero_mul]
end K45

set_option Elab.async false
set_option linter.all false
set_option maxRecDepth 100000
set_option maxHeartbeats 2000000
set_option exponentiation.threshold 20000
/-! plain: the rank of the shifts of two forms, by their common form (the parts on rows are those of LBd) -/
namespace K45
open PySem PySem.Spec PyProof.Rows L2 FDivQ LA
theorem co_app (l m : List Int) (j : Nat) : co (l ++ m) j = if j < l.length then co l j else co m (j - l.length) := by
  by_cases c : j < l.length
  · rw [if_pos c, co_get (by rw [List.length_append]; omega), co_get c, List.getElem_append_left c]
  · rw [if_neg c]
    by_cases d : j < (l ++ m).length
    · rw [List.length_append] at d
      rw [co_get (by rw [List.length_append]; omega), co_get (show j - l.length < m.length by omega), List.getElem_append_right (by omega)]
    · rw [List.length_append] at d
      rw [co_far (by rw [List.length_append]; omega), co_far (by omega)]
theorem co_z (n k : Nat) : co (List.replicate n (0 : Int)) k = 0 := by
  by_cases c : k < (List.replicate n (0 : Int)).length
  · rw [co_get c, List.getElem_replicate]
  · exact co_far (by omega)
theorem Fm.list {n : Nat} {φ : Bi} (h : Fm n φ) : ∃ l : List Int, l.length = n ∧ ∀ x y, ev l x y = φ x y := h
end K45

set_option Elab.async false
set_option linter.all false
set_option maxRecDepth 100000
set_option maxHeartbeats 4000000
set_option exponentiation.threshold 10000
/-! plain: dividing leaves nothing; sizes of Euclid's rests -/
namespace K45
open PySem PySem.Spec PyProof.Rows L2 FDivQ LA
/-! ### sizes -/
def bt (L : Nat) (l : List Int) : Prop := ∀ k, (co l k).natAbs < 2 ^ L
theorem bt.mono {L M : Nat} {l : List Int} (h : bt L l) (e : L ≤ M) : bt M l := fun k => Nat.lt_of_lt_of_le (h k) (Nat.pow_le_pow_right (by decide) e)
theorem bt.stp {L M : Nat} {l g : List Int} (h : bt L l) (e : bt M g) : bt (L + (M + 1)) (stp1 l g) := fun k => by
  have hc : ∀ j, (co (sub1 l g) j).natAbs < 2 ^ (L + (M + 1)) := fun j => by
    unfold sub1
    rw [co_tb]
    split
    · have a1 : (co l j * co g 0).natAbs < 2 ^ (L + M) := by
        rw [Int.natAbs_mul, Nat.pow_add]
        exact Nat.mul_lt_mul'' (h j) (e 0)
      have a2 : (co l 0 * co (lng l g) j).natAbs < 2 ^ (L + M) := by
        rw [Int.natAbs_mul, Nat.pow_add, co_lng]
        exact Nat.mul_lt_mul'' (h 0) (e j)
      have e2 : 2 ^ (L + (M + 1)) = 2 ^ (L + M) * 2 := by rw [← Nat.add_assoc, Nat.pow_succ]
      generalize 2 ^ (L + M) = X at *
      generalize co l j * co g 0 = u at *
      generalize co l 0 * co (lng l g) j = v at *
      omega
    · exact Nat.two_pow_pos _
  unfold stp1
  by_cases c : k + 1 < (sub1 l g).length
  · rw [co_get (by rw [List.length_drop]; omega), List.getElem_drop, ← co_get (by omega)]
    exact hc _
  · rw [co_far (by rw [List.length_drop]; omega)]
    exact Nat.two_pow_pos _
theorem bt.rlN {L M : Nat} {f g : List Int} (h : bt L f) (e : bt M g) : ∀ n, bt (L + n * (M + 1)) (rlN n f g)
  | 0 => h.mono (by omega)
  | n + 1 => by
    have := (bt.rlN h e n).stp e
    exact this.mono (by rw [Nat.succ_mul]; omega)
theorem bt.cut {L : Nat} {l : List Int} (h : bt L l) : bt L (cut l) := fun k => by
  rw [← cut_drop]
  by_cases c : ah l + k < l.length
  · rw [co_get (by rw [List.length_drop]; omega), List.getElem_drop, ← co_get c]
    exact h _
  · rw [co_far (by rw [List.length_drop]; omega)]
    exact Nat.two_pow_pos _
theorem bt.prim {L : Nat} {l : List Int} (h : bt L l) : bt L (primE l) := fun k => Nat.lt_of_le_of_lt (prim_le l k) (h k)
theorem mem_bt {L : Nat} {l : List Int} (h : ∀ x ∈ l, x.natAbs < 2 ^ L) : bt L l := fun k => by
  by_cases c : k < l.length
  · exact h _ (co_memE c)
  · rw [co_far (by omega)]
    exact Nat.two_pow_pos _
theorem divOk_9 {l : List Int} (h : bt 9000 l) : DivOk l := fun h0 x hx => by
  refine ⟨by omega, .inl ?_⟩
  rw [Int.natAbs_natCast]
  have : ∃ y ∈ l, y ≠ 0 := Classical.byContradiction fun c => h0 (gl_all0 l fun y hy => Classical.byContradiction fun n => c ⟨y, hy, n⟩)
  obtain ⟨y, hy, ny⟩ := this
  obtain ⟨k, hk, ek⟩ := mem_co hy
  have h1 := Nat.le_of_dvd (by omega) (gl_dvd hy)
  have h2 := h k
  rw [ek] at h2
  exact log_lt (Nat.lt_of_le_of_lt h1 h2) (by decide)
theorem cmulw_of {a b : Int} {L : Nat} (hL : L ≤ 100000) (h1 : a.natAbs < 2 ^ L) (h2 : b.natAbs < 2 ^ L) : CMulW a b := by
  have l1 : a.natAbs.log2 ≤ 100000 := Nat.le_trans (Nat.le_of_lt_succ (log_lt (k := L + 1) (Nat.lt_trans h1 (Nat.pow_lt_pow_right (by decide) (Nat.lt_succ_self L))) (Nat.succ_pos L))) hL
  have l2 : b.natAbs.log2 ≤ 100000 := Nat.le_trans (Nat.le_of_lt_succ (log_lt (k := L + 1) (Nat.lt_trans h2 (Nat.pow_lt_pow_right (by decide) (Nat.lt_succ_self L))) (Nat.succ_pos L))) hL
  show _ < _
  omega
end K45

set_option Elab.async false
set_option linter.all false
set_option maxRecDepth 100000
set_option maxHeartbeats 2000000
set_option exponentiation.threshold 20000
/-! plain: sizes of divisors, exact quotients -/
namespace K45
open PySem PySem.Spec PyProof.Rows L2 FDivQ LA
/-! ### the quotient by x - k -/
def synA (k : Int) : Int → List Int → List Int
  | _, [] => []
  | a, b :: r => a :: synA k (b + k * a) r
def remA (k : Int) : Int → List Int → Int
  | a, [] => a
  | a, b :: r => remA k (b + k * a) r
theorem synA_len (k : Int) : ∀ (l : List Int) (a : Int), (synA k a l).length = l.length
  | [], _ => rfl
  | b :: r, a => by
    show (synA k (b + k * a) r).length + 1 = r.length + 1
    rw [synA_len k r]
theorem ev_syn (k x : Int) : ∀ (l : List Int) (a : Int), ev (a :: l) x 1 = (x - k) * ev (synA k a l) x 1 + remA k a l
  | [], a => by
    show ev [a] x 1 = (x - k) * ev [] x 1 + a
    rw [ev_cons, show ev [] x 1 = 0 from rfl, List.length_nil, Int.pow_zero]
    grind
  | b :: r, a => by
    show ev (a :: b :: r) x 1 = (x - k) * ev (a :: synA k (b + k * a) r) x 1 + remA k (b + k * a) r
    have h := ev_syn k x r (b + k * a)
    rw [ev_cons] at h
    rw [ev_cons, ev_cons, ev_cons, synA_len, List.length_cons, Int.pow_succ]
    generalize ev (synA k (b + k * a) r) x 1 = s at *
    generalize ev r x 1 = t at *
    generalize remA k (b + k * a) r = u at *
    generalize x ^ r.length = y at *
    grind
theorem syn_bd {k : Int} {E V : Nat} (hk : k.natAbs ≤ 12) : ∀ (l : List Int) (a : Int), (∀ i, (co (synA k a l) i).natAbs ≤ E) → (remA k a l).natAbs ≤ V → a.natAbs ≤ E + V ∧ ∀ j, (co l j).natAbs ≤ 13 * E + V
  | [], a, _, hV => ⟨Nat.le_trans hV (Nat.le_add_left _ _), fun j => Nat.zero_le _⟩
  | b :: r, a, hE, hV => by
    obtain ⟨h1, h2⟩ := syn_bd hk r (b + k * a) (fun i => hE (i + 1)) hV
    have ha : a.natAbs ≤ E := hE 0
    have hka : (k * a).natAbs ≤ 12 * E := by
      rw [Int.natAbs_mul]
      exact Nat.mul_le_mul hk ha
    refine ⟨by omega, fun j => ?_⟩
    cases j with
    | zero =>
      show b.natAbs ≤ _
      omega
    | succ j => exact h2 j
theorem pts_bd {V : Nat} : ∀ (e : Nat) (D ks : List Int) (V : Nat), D.length = e + 1 → e + 1 ≤ ks.length → ks.Nodup → (∀ k ∈ ks, k.natAbs ≤ 12 ∧ (ev D k 1).natAbs ≤ V) → ∀ j, (co D j).natAbs ≤ 27 ^ e * V
  | 0, D, ks, V, hD, hk, _, h, j => by
    match D, hD, ks, hk with
    | [a], _, k :: ks, _ =>
      have := (h k (.head _)).2
      rw [ev_cons, List.length_nil, Int.pow_zero, show ev [] k 1 = 0 from rfl] at this
      rw [Nat.pow_zero, Nat.one_mul]
      cases j with
      | zero =>
        show a.natAbs ≤ V
        omega
      | succ j => exact Nat.zero_le _
  | e + 1, D, ks, V, hD, hk, nd, h, j => by
    match D, hD, ks, hk, nd with
    | a :: l, hD, k :: ks, hk, nd =>
      rw [List.length_cons] at hD hk
      obtain ⟨nk, nd⟩ := List.nodup_cons.mp nd
      have hr : remA k a l = ev (a :: l) k 1 := by rw [ev_syn k k, Int.sub_self, Int.zero_mul, Int.zero_add]
      have h0 := h k (.head _)
      have ih := pts_bd (V := V) e (synA k a l) ks (2 * V) (by rw [synA_len]; omega) (by omega) nd fun q hq => ⟨(h q (.tail _ hq)).1, by
        have hq2 := (h q (.tail _ hq)).2
        have eq := ev_syn k q l a
        rw [hr] at eq
        have ne : q - k ≠ 0 := fun z => nk (by rw [show k = q by omega]; exact hq)
        have : ((q - k) * ev (synA k a l) q 1).natAbs ≤ 2 * V := by omega
        rw [Int.natAbs_mul] at this
        exact Nat.le_trans (Nat.le_mul_of_pos_left _ (Int.natAbs_pos.mpr ne)) this⟩
      obtain ⟨h1, h2⟩ := syn_bd h0.1 l a ih (by rw [hr]; exact h0.2)
      have key : 13 * (27 ^ e * (2 * V)) + V ≤ 27 ^ (e + 1) * V := by
        rw [Nat.pow_succ]
        have p : 1 ≤ 27 ^ e := Nat.one_le_pow _ _ (by decide)
        have e1 : 13 * (27 ^ e * (2 * V)) = 26 * (27 ^ e * V) := by rw [Nat.mul_left_comm (27 ^ e)]; omega
        have e2 : 27 ^ e * 27 * V = 27 * (27 ^ e * V) := by rw [Nat.mul_comm (27 ^ e) 27, Nat.mul_assoc]
        have e3 : V ≤ 27 ^ e * V := Nat.le_mul_of_pos_left _ p
        omega
      cases j with
      | zero =>
        show a.natAbs ≤ _
        omega
      | succ j =>
        have := h2 j
        show (co l j).natAbs ≤ _
        omega
def ptsW : List Int := (List.range 25).map fun i => ((i : Nat) : Int) - 12
theorem ptsW_nd : ptsW.Nodup := by decide
theorem ptsW_12 : ∀ k ∈ ptsW, k.natAbs ≤ 12 := by decide
theorem filter_two (p : Int → Bool) : ∀ l : List Int, (l.filter p).length + (l.filter fun x => !p x).length = l.length
  | [] => rfl
  | x :: l => by
    have := filter_two p l
    rw [List.filter_cons, List.filter_cons]
    cases p x
    · show (l.filter p).length + ((l.filter fun x => !p x).length + 1) = l.length + 1
      omega
    · show (l.filter p).length + 1 + (l.filter fun x => !p x).length = l.length + 1
      omega
/-- places where a form is not 0 -/
theorem ptsW_live {W : List Int} (hW : W.length ≤ 11) (nz : co W 0 ≠ 0) : 11 ≤ (ptsW.filter fun k => !decide (ev W k 1 = 0)).length := by
  have h := filter_two (fun k => decide (ev W k 1 = 0)) ptsW
  have hp : ptsW.length = 25 := rfl
  refine Classical.byContradiction fun c => nz ?_
  have h1 : 1 ≤ W.length := Classical.byContradiction fun d => nz (co_far (by omega))
  have := pts_bd (V := 0) (W.length - 1) W (ptsW.filter fun k => decide (ev W k 1 = 0)) 0 (by omega) (by omega) (ptsW_nd.sublist List.filter_sublist) (fun k hk => by
    obtain ⟨a, b⟩ := List.mem_filter.mp hk
    exact ⟨ptsW_12 k a, by rw [of_decide_eq_true b]; exact Nat.le_refl _⟩) 0
  omega
theorem evW_bd {W : List Int} {b : Nat} (hW : W.length ≤ 11) (hb : nm W ≤ b) (h1 : b ≤ 2 ^ 1000) {k : Int} (hk : k.natAbs ≤ 12) : (ev W k 1).natAbs ≤ b * 12 ^ 11 := by
  have vb : Vb W k 1 12 := ⟨hk, by decide, by decide, Nat.lt_of_le_of_lt (Nat.mul_le_mul (Nat.le_trans hb h1) (Nat.pow_le_pow_right (by decide) hW)) (by decide +kernel), Nat.lt_of_le_of_lt (Nat.pow_le_pow_right (by decide) (show W.length + 1 ≤ 12 by omega)) (by decide +kernel)⟩
  have h := (vfs_bd vb W.length (Nat.le_refl _)).1
  rw [vfs_ev, List.take_length] at h
  exact Nat.le_trans h (Nat.mul_le_mul hb (Nat.pow_le_pow_right (by decide) hW))
/-- a divisor is small -/
theorem divW_bd {D Q W : List Int} {L : Nat} (e : ml D Q = W) (nD : D ≠ []) (nQ : Q ≠ []) (hW : W.length ≤ 11) (nz : co W 0 ≠ 0) (hb : nm W ≤ 2 ^ L) (hL : L ≤ 1000) : bt (L + 90) D := fun j => by
  have lD := List.length_pos_iff.mpr nD
  have lQ := List.length_pos_iff.mpr nQ
  have lW : W.length = D.length + Q.length - 1 := by rw [← e, ml_len]
  have h := pts_bd (V := 0) (D.length - 1) D (ptsW.filter fun k => !decide (ev W k 1 = 0)) (2 ^ L * 12 ^ 11) (by omega) (by have := ptsW_live hW nz; omega) (ptsW_nd.sublist List.filter_sublist) (fun k hk => by
    obtain ⟨a, b⟩ := List.mem_filter.mp hk
    have ne : ev W k 1 ≠ 0 := fun z => by simp [z] at b
    refine ⟨ptsW_12 k a, Nat.le_trans ?_ (evW_bd hW hb (Nat.pow_le_pow_right (by decide) hL) (ptsW_12 k a))⟩
    rw [← e, ev_ml nD nQ] at ne ⊢
    rw [Int.natAbs_mul]
    exact Nat.le_mul_of_pos_right _ (Int.natAbs_pos.mpr fun z => ne (by rw [z, Int.mul_zero]))) j
  refine Nat.lt_of_le_of_lt h ?_
  rw [Nat.pow_add, Nat.mul_left_comm]
  exact Nat.mul_lt_mul_of_pos_left (Nat.lt_of_le_of_lt (Nat.mul_le_mul_right _ (Nat.pow_le_pow_right (by decide) (show D.length - 1 ≤ 10 by omega))) (by decide +kernel)) (Nat.two_pow_pos L)
/-! ### quotients without fractions -/
theorem prim_cont {z : List Int} (h : ∃ j, co (primE z) j ≠ 0) : cont (primE z) = 1 := by
  have h1 := gl_primE z
  rw [← gl_cont] at h1
  have h0 : cont (primE z) ≠ 0 := fun c => by
    obtain ⟨j, hj⟩ := h
    by_cases d : j < (primE z).length
    · exact hj (cont_zero c _ (co_memE d))
    · exact hj (co_far (by omega))
  omega
theorem gauss_q {c : Int} {F D A : List Int} (hc : c ≠ 0) (hD : cont D = 1) (nD : D ≠ []) (nA : A ≠ []) (e : F.map (c * ·) = ml D A) : ∃ Q, ml D Q = F ∧ Q.length = A.length := by
  have h := congrArg cont e
  rw [cont_scale, cont_ml nD nA, hD, Nat.one_mul] at h
  have hd : ∀ x ∈ A, c ∣ x := fun x hx => by
    have := cont_dvd A x hx
    rw [← h] at this
    refine Int.dvd_trans ?_ this
    rw [Int.natCast_mul]
    exact Int.dvd_trans (Int.dvd_natAbs.mpr (Int.dvd_refl c)) ⟨_, rfl⟩
  refine ⟨A.map fun x => x / c, ?_, by rw [List.length_map]⟩
  have eA : A = (A.map fun x => x / c).map (c * ·) := by
    rw [List.map_map]
    conv => lhs; rw [← List.map_id A]
    exact List.map_congr_left fun x hx => (Int.mul_ediv_cancel' (hd x hx)).symm
  have nQ : (A.map fun x => x / c) ≠ [] := fun z => nA (List.map_eq_nil_iff.mp z)
  have lF := congrArg List.length e
  rw [List.length_map, ml_len] at lF
  refine ev_inj (by rw [ml_len, List.length_map, lF]) fun x y => ?_
  have h2 : ev (F.map (c * ·)) x y = ev (ml D A) x y := by rw [e]
  rw [ev_map, ev_ml nD nA, eA, ev_map] at h2
  rw [ev_ml nD nQ]
  refine Int.eq_of_mul_eq_mul_left hc ?_
  rw [h2]
  grind
theorem nz_co {l : List Int} (h : co l 0 ≠ 0) : Nz (ev l) := ⟨1, 0, by rw [ev_lead]; exact h⟩
theorem cut_same {l : List Int} (h : co l 0 ≠ 0) : cut l = l ∧ ah l = 0 := by
  match l, h with
  | a :: r, h =>
    have h : a ≠ 0 := h
    refine ⟨cut_n h r, ?_⟩
    unfold ah
    rw [List.takeWhile_cons_of_neg (by simpa using h)]
    rfl
theorem nz_len {l : List Int} (h : Nz (ev l)) : 1 ≤ l.length := Classical.byContradiction fun c => by
  obtain ⟨x, y, h0⟩ := h
  rw [List.length_eq_zero_iff.mp (show l.length = 0 by omega)] at h0
  exact h0 rfl
end K45

set_option Elab.async false
set_option linter.all false
set_option maxRecDepth 100000
set_option maxHeartbeats 2000000
set_option exponentiation.threshold 20000
/-! plain: Euclid's rests without a common divisor of their entries are small -/
namespace K45
open PySem PySem.Spec PyProof.Rows L2 FDivQ LA
/-! ### functions of one letter -/
theorem pow_nz1 {x : Int} (h : x ≠ 0) : ∀ n : Nat, x ^ n ≠ 0
  | 0 => by rw [Int.pow_zero]; decide
  | n + 1 => by rw [Int.pow_succ]; exact Int.mul_ne_zero (pow_nz1 h n) h
theorem ev1_zero {l : List Int} (h : ∀ x, ev l x 1 = 0) (i : Nat) : co l i = 0 := by
  by_cases c : i < l.length
  · have h1 := h ((nm l : Int) + 1)
    unfold ev at h1
    refine evF_inj l.length (fun j hj => ?_) h1 i c
    have := nm_mem (co_memE hj)
    omega
  · exact co_far (by omega)
theorem ev1_inj {l m : List Int} (hl : l.length = m.length) (h : ∀ x, ev l x 1 = ev m x 1) : l = m := by
  refine co_inj hl fun i => ?_
  have := ev1_zero (l := zs (-1) l m) (fun x => by rw [ev_zs (-1) hl, h]; omega) i
  rw [co_zs' (-1) hl] at this
  omega
def Pl (n : Nat) (p : Int → Int) : Prop := ∃ φ : Bi, Fm n φ ∧ ∀ x, φ x 1 = p x
theorem Pl.of {n : Nat} {φ : Bi} (h : Fm n φ) : Pl n fun x => φ x 1 := ⟨φ, h, fun _ => rfl⟩
theorem Pl.congr {n : Nat} {p q : Int → Int} (h : Pl n p) (e : ∀ x, p x = q x) : Pl n q := by
  obtain ⟨φ, a, b⟩ := h
  exact ⟨φ, a, fun x => (b x).trans (e x)⟩
theorem Pl.mono {n m : Nat} {p : Int → Int} (h : Pl n p) (e : n ≤ m) : Pl m p := by
  obtain ⟨φ, a, b⟩ := h
  exact ⟨fun x y => y ^ (m - n) * φ x y, (a.py (m - n)).cast (by omega), fun x => by show (1 : Int) ^ (m - n) * φ x 1 = _; rw [Int.one_pow, Int.one_mul, b]⟩
theorem Pl.add {n : Nat} {p q : Int → Int} (h : Pl n p) (g : Pl n q) : Pl n fun x => p x + q x := by
  obtain ⟨φ, a, b⟩ := h
  obtain ⟨ψ, c, d⟩ := g
  exact ⟨_, a.add c, fun x => by dsimp only; rw [b, d]⟩
theorem Pl.mulc {n : Nat} {p : Int → Int} (k : Int) (h : Pl n p) : Pl n fun x => k * p x := by
  obtain ⟨φ, a, b⟩ := h
  exact ⟨_, a.mulc k, fun x => by dsimp only; rw [b]⟩
theorem Pl.mul {n m k : Nat} {p q : Int → Int} (h : Pl n p) (g : Pl m q) (e : n + m ≤ k + 1) : Pl k fun x => p x * q x := by
  obtain ⟨φ, a, b⟩ := h
  obtain ⟨ψ, c, d⟩ := g
  by_cases z : n = 0 ∨ m = 0
  · exact ⟨_, a.mul c (k := k) (z.elim .inl fun z => .inr (.inl z)), fun x => by dsimp only; rw [b, d]⟩
  · have := a.mul c (k := n + m - 1) (.inr (.inr (by omega)))
    exact Pl.mono ⟨_, this, fun x => by dsimp only; rw [b, d]⟩ (by omega)
theorem Pl.list {n : Nat} {p : Int → Int} (h : Pl n p) : ∃ l : List Int, l.length = n ∧ ∀ x, ev l x 1 = p x := by
  obtain ⟨φ, a, b⟩ := h
  obtain ⟨l, h1, h2⟩ := a.list
  exact ⟨l, h1, fun x => (h2 x 1).trans (b x)⟩
/-- what a form of its full length leads to in a shorter one is 0, in one of its own length a number -/
theorem pl_div {f : List Int} (f0 : co f 0 ≠ 0) {k t : Nat} {w z : Int → Int} (hw : Pl k w) (hz : Pl (f.length - 1 + t) z) (ht : t ≤ 1) (e : ∀ x, ev f x 1 * w x = z x) : ∃ c, (∀ x, w x = c) ∧ (t = 0 → c = 0) := by
  have nf : f ≠ [] := fun q => f0 (by rw [q]; rfl)
  have lf := List.length_pos_iff.mpr nf
  obtain ⟨W, lW, eW⟩ := hw.list
  obtain ⟨Z, lZ, eZ⟩ := hz.list
  by_cases c : cut W = []
  · exact ⟨0, fun x => by rw [← eW, ev_cut, c, ev_nil, Int.mul_zero], fun _ => rfl⟩
  · have w0 := cut_lead c
    have lc := List.length_pos_iff.mpr c
    have ew : ∀ x, ev (cut W) x 1 = w x := fun x => by rw [← eW, ev_cut W x 1, Int.one_pow, Int.one_mul]
    have key : (cut W).length ≤ t := Classical.byContradiction fun q => by
      have lp : (ml f (cut W)).length = f.length + (cut W).length - 1 := ml_len _ _
      have := ev1_inj (l := ml f (cut W)) (m := List.replicate ((cut W).length - t) 0 ++ Z) (by rw [lp, List.length_append, List.length_replicate, lZ]; omega) fun x => by
        rw [ev_ml nf c, ev_ry, Int.one_pow, Int.one_mul, eZ, ← e, ew]
      have h0 : co (ml f (cut W)) 0 = co (List.replicate ((cut W).length - t) 0 ++ Z) 0 := by rw [this]
      rw [co_app, if_pos (by rw [List.length_replicate]; omega), co_z, co_ml c] at h0
      have h1 : cv f (co (cut W)) 0 = co f 0 * co (cut W) 0 := by
        match f, nf with
        | a :: r, _ => rw [cv_zero]; rfl
      rw [h1] at h0
      exact Int.mul_ne_zero f0 w0 h0
    obtain ⟨a, ha⟩ : ∃ a, cut W = [a] := by
      match cut W, key, lc with
      | [a], _, _ => exact ⟨a, rfl⟩
      | _ :: _ :: _, k, _ => rw [List.length_cons, List.length_cons] at k; omega
    refine ⟨a, fun x => ?_, fun z => ?_⟩
    · rw [← ew, ha, ev_cons, List.length_nil, Int.pow_zero, ev_nil]
      omega
    · rw [z] at key
      omega
/-! ### what the rests are made of -/
structure Cf (f0 g0 f g : List Int) : Prop where
  ex : ∃ (U0 V0 U1 : Int → Int) (V1 : Bi) (a b δ : Int), a ≠ 0 ∧ b ≠ 0 ∧ δ ≠ 0 ∧ Pl (g0.length + 1 - g.length) U0 ∧ Pl (f0.length - g.length) V0 ∧ Pl (g0.length + 1 - f.length) U1 ∧ Fm (f0.length + 1 - f.length) V1 ∧ V1 1 0 ≠ 0 ∧
    (∀ x, a * ev f x 1 = U0 x * ev f0 x 1 + V0 x * ev g0 x 1) ∧ (∀ x, b * ev g x 1 = U1 x * ev f0 x 1 + V1 x 1 * ev g0 x 1) ∧ ∀ x, U0 x * V1 x 1 - U1 x * V0 x = δ
theorem Cf.start (f0 g0 : List Int) : Cf f0 g0 f0 g0 := ⟨fun _ => 1, fun _ => 0, fun _ => 0, fun _ _ => 1, 1, 1, 1, by decide, by decide, by decide, (Pl.of Fm.one).mono (by omega), (Pl.of (Fm.zero 0)).mono (Nat.zero_le _), (Pl.of (Fm.zero 0)).mono (Nat.zero_le _), Fm.one.cast (by omega), by decide, fun x => by show (1 : Int) * ev f0 x 1 = 1 * ev f0 x 1 + 0 * ev g0 x 1; omega, fun x => by show (1 : Int) * ev g0 x 1 = 0 * ev f0 x 1 + 1 * ev g0 x 1; omega, fun x => by show (1 : Int) * 1 - 0 * 0 = 1; decide⟩
/-- many turns: the rest by a quotient -/
theorem rlN_quot {f g : List Int} (g0 : co g 0 ≠ 0) (g1 : 1 ≤ g.length) (h : g.length ≤ f.length) : ∀ j, j ≤ f.length - g.length → ∃ Q : Bi, Fm (f.length + 1 - g.length) Q ∧ Q 1 0 = co g 0 ^ j * co f 0 ∧ ∀ x, ev (rlN (j + 1) f g) x 1 = co g 0 ^ (j + 1) * ev f x 1 - Q x 1 * ev g x 1
  | 0, _ => by
    refine ⟨fun x y => co f 0 * (x ^ (f.length - g.length) * 1), ((Fm.one.px (f.length - g.length)).mulc _).cast (by omega), ?_, fun x => ?_⟩
    · dsimp only
      rw [Int.one_pow, Int.pow_zero]
      omega
    · have := ev_stp h g1 x 1
      rw [Int.one_mul] at this
      show ev (stp1 f g) x 1 = _
      rw [this, Int.pow_succ, Int.pow_zero]
      grind
  | j + 1, hj => by
    obtain ⟨Q, hQ, q0, e⟩ := rlN_quot g0 g1 h j (by omega)
    have lr := rlN_len f g (j + 1)
    obtain ⟨l, hl⟩ : ∃ l, l = rlN (j + 1) f g := ⟨_, rfl⟩
    rw [← hl] at e lr
    have hp : Fm (f.length + 1 - g.length) fun x y => co l 0 * (y ^ (j + 1) * (x ^ (f.length - g.length - (j + 1)) * 1)) := ((((Fm.one.px (f.length - g.length - (j + 1))).py (j + 1)).mulc (co l 0))).cast (by omega)
    refine ⟨fun x y => co g 0 * Q x y + co l 0 * (y ^ (j + 1) * (x ^ (f.length - g.length - (j + 1)) * 1)), (hQ.mulc _).add hp, ?_, fun x => ?_⟩
    · dsimp only
      rw [q0, Int.zero_pow (by omega), Int.zero_mul, Int.mul_zero, Int.add_zero, Int.pow_succ]
      grind
    · have := ev_stp (l := l) (g := g) (by omega) g1 x 1
      rw [Int.one_mul, e, lr] at this
      show ev (stp1 (rlN (j + 1) f g) g) x 1 = _
      rw [← hl, this]
      dsimp only
      rw [Int.one_pow, show f.length - (j + 1) - g.length = f.length - g.length - (j + 1) by omega, Int.pow_succ (co g 0) (j + 1)]
      grind
theorem Cf.next {f0 g0 f g : List Int} (C : Cf f0 g0 f g) (n0 : co f 0 ≠ 0) (m0 : co g 0 ≠ 0) (h : g.length ≤ f.length) (hf : f.length ≤ f0.length) (nr : rst f g ≠ []) : Cf f0 g0 g (rst f g) := by
  have g1 : 1 ≤ g.length := List.length_pos_iff.mpr fun z => m0 (by rw [z]; rfl)
  obtain ⟨U0, V0, U1, V1, a, b, δ, ha, hb, hδ, hU0, hV0, hU1, hV1, v0, e1, e2, e3⟩ := C.ex
  obtain ⟨Q, hQ, q0, eQ⟩ := rlN_quot m0 g1 h (f.length - g.length) (Nat.le_refl _)
  rw [show f.length - g.length + 1 = f.length + 1 - g.length by omega] at eQ
  have eR : ∀ x, pf (cut (rlf f g)) * ev (rst f g) x 1 = ev (rlf f g) x 1 := fun x => by
    unfold rst
    rw [ev_pf, ev_cut (rlf f g), Int.one_pow, Int.one_mul]
  have lr := (rst_len (f := f) g1).2
  have lr1 := List.length_pos_iff.mpr nr
  obtain ⟨c, hc⟩ : ∃ c, c = co g 0 ^ (f.length + 1 - g.length) := ⟨_, rfl⟩
  have c0 : c ≠ 0 := by rw [hc]; exact pow_nz1 m0 _
  obtain ⟨d, hd⟩ : ∃ d, d = pf (cut (rlf f g)) := ⟨_, rfl⟩
  have d0 : d ≠ 0 := by rw [hd]; exact pf_ne _
  have q1 : Q 1 0 ≠ 0 := by rw [q0]; exact Int.mul_ne_zero (pow_nz1 m0 _) n0
  obtain ⟨φ0, hφ0, eφ0⟩ := hV0
  have hQp : Pl (f.length + 1 - g.length) fun x => Q x 1 := Pl.of hQ
  refine ⟨U1, fun x => V1 x 1, fun x => c * b * U0 x + -a * (Q x 1 * U1 x), fun x y => c * b * (y ^ 1 * φ0 x y) + -a * (Q x y * V1 x y), b, a * b * d, -(c * b * δ), hb, Int.mul_ne_zero (Int.mul_ne_zero ha hb) d0, ?_, hU1.mono (by omega), (Pl.of hV1).mono (by omega), ?_, ?_, ?_, e2, fun x => ?_, fun x => ?_⟩
  · have := Int.mul_ne_zero (Int.mul_ne_zero c0 hb) hδ
    omega
  · refine (hU0.mulc (c * b)).add (Pl.mulc (-a) ?_)
    by_cases z : g0.length + 1 - f.length = 0
    · rw [z] at hU1
      have := hQp.mul (hU1.mono (m := g0.length + 1 - f.length) (by omega)) (k := f.length - g.length) (by omega)
      have u0 : ∀ x, U1 x = 0 := fun x => by
        obtain ⟨φ, h1, h2⟩ := hU1
        rw [← h2, h1.none]
      exact ((Pl.of (Fm.zero 0)).mono (Nat.zero_le _)).congr fun x => by rw [u0, Int.mul_zero]
    · exact hQp.mul hU1 (by omega)
  · exact (((hφ0.py 1).mulc (c * b)).cast (by omega)).add ((hQ.mul hV1 (k := f0.length + 1 - g.length) (.inr (.inr (by omega)))).mulc (-a))
  · dsimp only
    rw [Int.zero_pow (by decide), Int.zero_mul, Int.mul_zero, Int.zero_add]
    exact Int.mul_ne_zero (by omega) (Int.mul_ne_zero q1 v0)
  · dsimp only
    rw [Int.one_pow, Int.one_mul, eφ0]
    have h1 := e1 x
    have h2 := e2 x
    have h3 := eQ x
    have h4 := eR x
    rw [← hd] at h4
    rw [← hc] at h3
    have h3 : ev (rlf f g) x 1 = c * ev f x 1 - Q x 1 * ev g x 1 := h3
    rw [h3] at h4
    clear e1 e2 e3 eQ eR h3 hc hd q0
    grind
  · dsimp only
    rw [Int.one_pow, Int.one_mul, eφ0]
    have h3 := e3 x
    clear e1 e2 e3 eQ eR hc hd q0
    grind
/-! ### small ones -/
theorem S_hd (f : Nat → Int) : ∀ n, S (n + 1) f = f 0 + S n fun i => f (i + 1)
  | 0 => by
    show 0 + f 0 = f 0 + 0
    omega
  | n + 1 => by
    show S (n + 1) f + f (n + 1) = f 0 + (S n (fun i => f (i + 1)) + f (n + 1))
    rw [S_hd f n]
    omega
theorem cv_sum (m : List Int) : ∀ (l : List Int) (k : Nat), cv l (co m) k = S l.length fun i => co l i * (if i ≤ k then co m (k - i) else 0)
  | [], k => rfl
  | x :: xs, k => by
    rw [cv_cons, List.length_cons, S_hd]
    have h0 : co (x :: xs) 0 = x := rfl
    rw [h0, if_pos (Nat.zero_le k), Nat.sub_zero]
    congr 1
    cases k with
    | zero =>
      show 0 = _
      exact (S_zero fun i hi => by rw [if_neg (by omega), Int.mul_zero]).symm
    | succ k =>
      show cv xs (co m) k = _
      rw [cv_sum m xs k]
      refine S_congr fun i hi => ?_
      rw [show co (x :: xs) (i + 1) = co xs i from rfl]
      by_cases c : i ≤ k
      · rw [if_pos c, if_pos (by omega), Nat.add_sub_add_right]
      · rw [if_neg c, if_neg (by omega)]
theorem S_tw (a : Nat) (f : Nat → Int) : ∀ b, S (a + b) f = S a f + S b fun i => f (a + i)
  | 0 => by
    show S a f = S a f + 0
    omega
  | b + 1 => by
    show S (a + b) f + f (a + b) = S a f + (S b (fun i => f (a + i)) + f (a + b))
    rw [S_tw a f b]
    omega
/-- two functions that lead f0 and g0 to little are those of the rest -/
theorem Cf.uniq {f0 g0 f g : List Int} (C : Cf f0 g0 f g) (n0 : co f0 0 ≠ 0) (hqp : g.length < f.length) (hf : f.length ≤ f0.length) {U V ρ : Int → Int} (hU : Pl (g0.length + 1 - f.length) U) (hV : Pl (f0.length + 1 - f.length) V) (hm : f.length ≤ g0.length) (hρ : Pl (f.length - 1) ρ) (e : ∀ x, U x * ev f0 x 1 + V x * ev g0 x 1 = ρ x) :
    ∃ δ τ : Int, δ ≠ 0 ∧ (τ = 0 → ∀ x, U x = 0 ∧ V x = 0) ∧ ∀ x, δ * ρ x = τ * ev g x 1 := by
  obtain ⟨U0, V0, U1, V1, a, b, δ, ha, hb, hδ, hU0, hV0, hU1, hV1, v0, e1, e2, e3⟩ := C.ex
  have hV1p : Pl (f0.length + 1 - f.length) fun x => V1 x 1 := Pl.of hV1
  have hgp : Pl g.length fun x => ev g x 1 := Pl.of (Fm.of g)
  -- U V1 = V U1
  have w0 : ∀ x, U x * V1 x 1 + -1 * (V x * U1 x) = 0 := by
    have h1 : Pl (g0.length + f0.length) fun x => U x * V1 x 1 + -1 * (V x * U1 x) := (hU.mul hV1p (by omega)).add ((hV.mul hU1 (by omega)).mulc (-1))
    have h2 : Pl (f0.length - 1 + 0) fun x => ρ x * V1 x 1 + -b * (V x * ev g x 1) := (hρ.mul hV1p (by omega)).add ((hV.mul hgp (by omega)).mulc (-b))
    obtain ⟨c, hc, z⟩ := pl_div n0 h1 h2 (by decide) fun x => by
      have h3 := e x
      have h4 := e2 x
      clear e e1 e2 e3
      grind
    intro x
    rw [hc, z rfl]
  obtain ⟨L, lL, eL⟩ := hV1.list
  have L0 : co L 0 ≠ 0 := by
    rw [← ev_lead, eL]
    exact v0
  have hs : Pl (g0.length + f0.length + g0.length) fun x => U0 x * V x + -1 * (V0 x * U x) := (hU0.mul hV (by omega)).add ((hV0.mul hU (by omega)).mulc (-1))
  obtain ⟨σ, hσ, _⟩ := pl_div (f := L) L0 hs (t := 1) (z := fun x => δ * V x) ((hV.mulc δ).mono (by omega)) (Nat.le_refl _) fun x => by
    rw [eL]
    have h1 := w0 x
    have h2 := e3 x
    clear w0 e1 e2 e3 e hs
    grind
  have kV : ∀ x, δ * V x = σ * V1 x 1 := fun x => by
    have h1 := w0 x
    have h2 := e3 x
    have h3 := hσ x
    clear w0 e1 e2 e3 e hs hσ
    grind
  have kU : ∀ x, δ * U x = σ * U1 x := fun x => by
    have h1 := w0 x
    have h2 := e3 x
    have h3 := hσ x
    clear w0 e1 e2 e3 e hs hσ kV
    grind
  refine ⟨δ, σ * b, hδ, fun z x => ?_, fun x => ?_⟩
  · have s0 := (Int.mul_eq_zero.mp z).resolve_right hb
    have h1 := kU x
    have h2 := kV x
    rw [s0, Int.zero_mul] at h1 h2
    exact ⟨(Int.mul_eq_zero.mp h1).resolve_left hδ, (Int.mul_eq_zero.mp h2).resolve_left hδ⟩
  · have h1 := kU x
    have h2 := kV x
    have h3 := e x
    have h4 := e2 x
    clear w0 e1 e2 e3 e hs hσ kV kU
    grind
theorem sieg_bd {R L : Nat} (h : R ≤ 18) : R * ((2 * R * 2 ^ L + 1) ^ (R - 1) * 2 ^ L) < 2 ^ (18 * L + 108) := by
  have p1 : 1 ≤ 2 ^ L := Nat.one_le_two_pow
  have h1 : 2 * R * 2 ^ L + 1 ≤ 2 ^ (L + 6) := by
    rw [Nat.pow_add]
    have : 2 * R * 2 ^ L ≤ 36 * 2 ^ L := Nat.mul_le_mul_right _ (by omega)
    omega
  have h2 : (2 * R * 2 ^ L + 1) ^ (R - 1) ≤ 2 ^ ((L + 6) * 17) := by
    rw [Nat.pow_mul]
    exact Nat.le_trans (Nat.pow_le_pow_left h1 _) (Nat.pow_le_pow_right Nat.one_le_two_pow (by omega))
  have h3 : R < 2 ^ 5 := by omega
  refine Nat.lt_of_lt_of_le (Nat.mul_lt_mul_of_lt_of_le h3 (Nat.mul_le_mul_right _ h2) (Nat.mul_pos (Nat.two_pow_pos _) (Nat.two_pow_pos _))) ?_
  rw [← Nat.pow_add, ← Nat.pow_add]
  exact Nat.pow_le_pow_right (by decide) (by omega)
theorem rest_bd {f0 g0 f g : List Int} (C : Cf f0 g0 f g) (n0 : co f0 0 ≠ 0) (hqp : g.length < f.length) (hm : f.length ≤ g0.length) (hn : g0.length ≤ f0.length) (hl : f0.length ≤ 10) (ng : g ≠ []) {L : Nat} (bf : bt L f0) (bg : bt L g0) : bt (18 * L + 108) (primE g) := by
  have lg := List.length_pos_iff.mpr ng
  obtain ⟨a, ha⟩ : ∃ a, a = g0.length + 1 - f.length := ⟨_, rfl⟩
  obtain ⟨b, hb⟩ : ∃ b, b = f0.length + 1 - f.length := ⟨_, rfl⟩
  obtain ⟨R, hR⟩ : ∃ R, a + b = R + 1 := ⟨a + b - 1, by omega⟩
  let x : Nat → Nat → Int := fun i j => if i < a then (if i ≤ j then co f0 (j - i) else 0) else (if i - a ≤ j then co g0 (j - (i - a)) else 0)
  have xb : ∀ i j, (x i j).natAbs ≤ 2 ^ L := fun i j => by
    show (if i < a then (if i ≤ j then co f0 (j - i) else 0) else (if i - a ≤ j then co g0 (j - (i - a)) else 0) : Int).natAbs ≤ _
    split <;> split
    · exact Nat.le_of_lt (bf _)
    · exact Nat.zero_le _
    · exact Nat.le_of_lt (bg _)
    · exact Nat.zero_le _
  obtain ⟨y, ⟨i0, hi0, yi0⟩, yb, ye⟩ := siegel R (2 ^ L) x fun i _ j _ => xb i j
  have nf0 : f0 ≠ [] := fun z => n0 (by rw [z]; rfl)
  have ng0 : g0 ≠ [] := fun z => by rw [z, List.length_nil] at hm; omega
  obtain ⟨U, hU⟩ : ∃ U, U = tb a y := ⟨_, rfl⟩
  obtain ⟨V, hV⟩ : ∃ V, V = tb b (fun i => y (a + i)) := ⟨_, rfl⟩
  have lU : U.length = a := by rw [hU, tb_len]
  have lV : V.length = b := by rw [hV, tb_len]
  have nU : U ≠ [] := fun z => by rw [z, List.length_nil] at lU; omega
  have nV : V ≠ [] := fun z => by rw [z, List.length_nil] at lV; omega
  have l1 : (ml U f0).length = (ml V g0).length := by rw [ml_len, ml_len]; omega
  obtain ⟨P, hP⟩ : ∃ P, P = zs 1 (ml U f0) (ml V g0) := ⟨_, rfl⟩
  have lP : P.length = R + (f.length - 1) := by rw [hP, zs_len l1, ml_len]; omega
  have cP : ∀ k, co P k = S (R + 1) fun i => y i * x i k := fun k => by
    rw [hP, co_zs' 1 l1, co_ml nf0, co_ml ng0, cv_sum, cv_sum, lU, lV, Int.one_mul, ← hR, S_tw]
    congr 1
    · refine S_congr fun i hi => ?_
      show co U i * _ = y i * (if i < a then _ else _)
      rw [hU, co_tb, if_pos hi, if_pos hi]
    · refine S_congr fun i hi => ?_
      show co V i * _ = y (a + i) * (if a + i < a then _ else _)
      rw [hV, co_tb, if_pos hi, if_neg (show ¬ a + i < a by omega), Nat.add_sub_cancel_left]
  have zP : P = List.replicate R 0 ++ P.drop R := by
    refine co_inj (by rw [List.length_append, List.length_replicate, List.length_drop]; omega) fun k => ?_
    rw [co_app, List.length_replicate]
    by_cases c : k < R
    · rw [if_pos c, co_z, cP]
      exact ye k c
    · rw [if_neg c]
      by_cases d : k < P.length
      · rw [co_get (l := P.drop R) (by rw [List.length_drop]; omega), List.getElem_drop, ← co_get (by omega)]
        congr 1
        omega
      · rw [co_far (by omega), co_far (by rw [List.length_drop]; omega)]
  have lρ : (P.drop R).length = f.length - 1 := by rw [List.length_drop]; omega
  have eρ : ∀ x, ev U x 1 * ev f0 x 1 + ev V x 1 * ev g0 x 1 = ev (P.drop R) x 1 := fun x => by
    have : ev P x 1 = ev (P.drop R) x 1 := by
      conv => lhs; rw [zP]
      rw [ev_ry, Int.one_pow, Int.one_mul]
    rw [← this, hP, ev_zs 1 l1, ev_ml nU nf0, ev_ml nV ng0, Int.one_mul]
  obtain ⟨δ, τ, hδ, hτ, eq⟩ := C.uniq n0 hqp (by omega) (U := fun x => ev U x 1) (V := fun x => ev V x 1) (ρ := fun x => ev (P.drop R) x 1) ((Pl.of (Fm.of U)).mono (by omega)) ((Pl.of (Fm.of V)).mono (by omega)) hm ((Pl.of (Fm.of (P.drop R))).mono (by omega)) eρ
  have t0 : τ ≠ 0 := fun z => yi0 (by
    have h := hτ z
    by_cases c : i0 < a
    · have := ev1_zero (fun x => (h x).1) i0
      rw [hU, co_tb, if_pos c] at this
      exact this
    · have := ev1_zero (fun x => (h x).2) (i0 - a)
      rw [hV, co_tb, if_pos (by omega), show a + (i0 - a) = i0 by omega] at this
      exact this)
  have el : (P.drop R).map (δ * ·) = (List.replicate (f.length - 1 - g.length) 0 ++ g).map (τ * ·) := ev1_inj (by rw [List.length_map, List.length_map, List.length_append, List.length_replicate]; omega) fun x => by
    rw [ev_map, ev_map, ev_ry, Int.one_pow, Int.one_mul]
    exact eq x
  have ep : primE (P.drop R) = List.replicate (f.length - 1 - g.length) 0 ++ primE g := by
    rw [← primE_zs]
    refine prim_pq (w := f.length - 1) ⟨lρ, by rw [List.length_append, List.length_replicate]; omega, δ, τ, hδ, t0, fun j => ?_⟩
    rw [← co_scale, ← co_scale, el]
  intro j
  have h1 : co (primE g) j = co (primE (P.drop R)) (f.length - 1 - g.length + j) := by
    rw [ep, co_app, List.length_replicate, if_neg (by omega), Nat.add_sub_cancel_left]
  rw [h1]
  refine Nat.lt_of_le_of_lt (prim_le _ _) ?_
  have h2 : ∃ k, co (P.drop R) (f.length - 1 - g.length + j) = co P k := by
    generalize f.length - 1 - g.length + j = k
    refine ⟨R + k, ?_⟩
    conv => rhs; rw [zP]
    rw [co_app, List.length_replicate, if_neg (by omega), Nat.add_sub_cancel_left]
  obtain ⟨k, hk⟩ := h2
  rw [hk, cP]
  refine Nat.lt_of_le_of_lt (S_abs (B := (2 * (R + 1) * 2 ^ L + 1) ^ R * 2 ^ L) fun i _ => ?_) ?_
  · rw [Int.natAbs_mul]
    exact Nat.mul_le_mul (yb i) (xb i k)
  · exact sieg_bd (R := R + 1) (by omega)
end K45

set_option Elab.async false
set_option linter.all false
set_option maxRecDepth 100000
set_option maxHeartbeats 2000000
set_option exponentiation.threshold 20000
/-! plain: Euclid's steps are small enough; the same with any sign -/
namespace K45
open PySem PySem.Spec PyProof.Rows L2 FDivQ LA
theorem divOk_prim {l : List Int} (h : bt 4400 (primE l)) : DivOk l := fun h0 x hx => by
  obtain ⟨k, hk, ek⟩ := mem_co hx
  have e := prim_ex l k
  rw [ek] at e
  have hp : pf l = (gl l : Int) ∨ pf l = -(gl l : Int) := by
    unfold pf
    rw [if_neg h0]
    split
    · exact .inl rfl
    · exact .inr rfl
  rcases hp with p | p
  · exact CDivQ.exact (by omega) (q := co (primE l) k) (by rw [← e, p, Int.mul_comm]) (Nat.lt_of_lt_of_le (h k) (Nat.pow_le_pow_right (by decide) (by decide)))
  · exact CDivQ.exact (by omega) (q := -co (primE l) k) (by rw [← e, p, Int.neg_mul, Int.neg_mul, Int.mul_comm]) (by rw [Int.natAbs_neg]; exact Nat.lt_of_lt_of_le (h k) (Nat.pow_le_pow_right (by decide) (by decide)))
theorem stOk_of {f g : List Int} {L : Nat} (bf : bt L f) (bg : bt L g) (hL : L ≤ 4400) (j : Nat) (hj : j ≤ 11) : StOk (rlN j f g) g := by
  have b1 : bt 100000 (rlN j f g) := (bf.rlN bg j).mono (Nat.le_trans (Nat.add_le_add_left (Nat.mul_le_mul hj (Nat.succ_le_succ hL)) L) (by omega))
  have b2 : bt 100000 g := bg.mono (by omega)
  exact ⟨fun k => cmulw_of (Nat.le_refl _) (b1 k) (b2 0), fun k => cmulw_of (Nat.le_refl _) (b1 0) (b2 k)⟩
theorem rsOk_of {f g : List Int} {L : Nat} (hf : f.length ≤ 10) (bf : bt L f) (bg : bt L g) (hL : L ≤ 4400) (br : bt 4400 (rst f g)) : RsOk f g := ⟨fun j hj => stOk_of bf bg hL j (by omega), divOk_prim br⟩
theorem bt_nilL (L : Nat) : bt L [] := fun k => Nat.two_pow_pos L
/-- later states -/
theorem sh_later {f0 g0 : List Int} (n0 : co f0 0 ≠ 0) (hn : g0.length ≤ f0.length) (hl : f0.length ≤ 10) {L : Nat} (bf0 : bt L f0) (bg0 : bt L g0) (hL : 18 * L + 108 ≤ 4400) : ∀ (N : Nat) (f g : List Int), Cf f0 g0 f g → co f 0 ≠ 0 → (g = [] ∨ co g 0 ≠ 0) → g.length < f.length → f.length ≤ g0.length → bt 4400 f → bt 4400 g → g.length ≤ N → ShOk N f g
  | 0, f, g, _, _, _, _, _, bf, _, hN => ⟨List.length_eq_zero_iff.mp (by omega), divOk_9 (bf.mono (by decide))⟩
  | N + 1, f, g, C, f1, g1, hq, hp, bf, bg, hN => by
    refine ⟨fun _ => divOk_9 (bf.mono (by decide)), fun ng => ?_⟩
    have g1 := g1.resolve_left ng
    have lg := List.length_pos_iff.mpr ng
    have lr := (rst_len (f := f) lg).2
    by_cases c : rst f g = []
    · have b0 : bt 4400 (rst f g) := by rw [c]; exact bt_nilL _
      refine ⟨rsOk_of (by omega) bf bg (Nat.le_refl _) b0, ?_⟩
      rw [c]
      cases N with
      | zero => exact ⟨rfl, divOk_9 (bg.mono (by decide))⟩
      | succ N => exact ⟨fun _ => divOk_9 (bg.mono (by decide)), fun z => absurd rfl z⟩
    · have C' := C.next f1 g1 (by omega) (by omega) c
      have b := rest_bd C' n0 (by omega) (by omega) hn hl c bf0 bg0
      have e : primE (rst f g) = rst f g := by unfold rst; rw [primE_pr]
      rw [e] at b
      exact ⟨rsOk_of (by omega) bf bg (Nat.le_refl _) (b.mono hL), sh_later n0 hn hl bf0 bg0 hL N g (rst f g) C' g1 (rst_lead f g) (by omega) (by omega) bg (b.mono hL) (by omega)⟩
theorem sh_first {f0 g0 : List Int} (n0 : co f0 0 ≠ 0) (m0 : co g0 0 ≠ 0) (hn : g0.length ≤ f0.length) (hl : f0.length ≤ 10) {L : Nat} (bf0 : bt L f0) (bg0 : bt L g0) (hL : 18 * L + 108 ≤ 4400) {N : Nat} (hN : g0.length ≤ N) : ShOk N f0 g0 := by
  have ng : g0 ≠ [] := fun z => m0 (by rw [z]; rfl)
  have lg := List.length_pos_iff.mpr ng
  have lr := (rst_len (f := f0) lg).2
  cases N with
  | zero => omega
  | succ N =>
    refine ⟨fun z => absurd z ng, fun _ => ?_⟩
    by_cases c : rst f0 g0 = []
    · have b0 : bt 4400 (rst f0 g0) := by rw [c]; exact bt_nilL _
      refine ⟨rsOk_of (by omega) bf0 bg0 (by omega) b0, ?_⟩
      rw [c]
      cases N with
      | zero => exact ⟨rfl, divOk_9 (bg0.mono (by omega))⟩
      | succ N => exact ⟨fun _ => divOk_9 (bg0.mono (by omega)), fun z => absurd rfl z⟩
    · have C' := (Cf.start f0 g0).next n0 m0 hn (Nat.le_refl _) c
      have b := rest_bd C' n0 (by omega) (by omega) hn hl c bf0 bg0
      have e : primE (rst f0 g0) = rst f0 g0 := by unfold rst; rw [primE_pr]
      rw [e] at b
      exact ⟨rsOk_of (by omega) bf0 bg0 (by omega) (b.mono hL), sh_later n0 hn hl bf0 bg0 hL N g0 (rst f0 g0) C' m0 (rst_lead f0 g0) (by omega) (Nat.le_refl _) (bg0.mono (by omega)) (b.mono hL) (by omega)⟩
/-- all is small enough -/
theorem sh_all {f g : List Int} (n0 : co f 0 ≠ 0) (m0 : co g 0 ≠ 0) (hf : f.length ≤ 10) (hg : g.length ≤ 10) {L : Nat} (bf : bt L f) (bg : bt L g) (hL : 18 * L + 108 ≤ 4400) : ShOk g.length f g := by
  by_cases hn : g.length ≤ f.length
  · exact sh_first n0 m0 hn hf bf bg hL (Nat.le_refl _)
  · obtain ⟨N, hN⟩ : ∃ N, g.length = N + 1 := ⟨g.length - 1, by omega⟩
    rw [hN]
    have ng : g ≠ [] := fun z => m0 (by rw [z]; rfl)
    have e0 : rlf f g = f := by
      unfold rlf
      rw [show f.length + 1 - g.length = 0 by omega]
      rfl
    have e1 : rst f g = primE f := by
      unfold rst
      rw [e0, (cut_same n0).1]
    refine ⟨fun z => absurd z ng, fun _ => ⟨rsOk_of hf bf bg (by omega) (by rw [e1]; exact bf.prim.mono (by omega)), ?_⟩⟩
    rw [e1]
    exact sh_first m0 (prim_lead n0) (by rw [primE_len]; omega) hg bg bf.prim hL (by rw [primE_len]; omega)
end K45

set_option Elab.async false
set_option linter.all false
set_option maxRecDepth 100000
set_option maxHeartbeats 2000000
set_option exponentiation.threshold 20000
/-! plain: Euclid's steps with any sign -/
namespace K45
open PySem PySem.Spec PyProof.Rows L2 FDivQ LA
def sgO (x : Int) : Int := if 0 < x then 1 else -1
def stpS (l g : List Int) : List Int := (tb l.length fun k => ((co g 0).natAbs : Int) * co l k - sgO (co g 0) * co l 0 * co (lng l g) k).drop 1
def rlS : Nat → List Int → List Int → List Int
  | 0, l, _ => l
  | n + 1, l, g => stpS (rlS n l g) g
def sml (l : List Int) : List Int := if 1 < gl l then dv l (gl l) else l
def rstS (f g : List Int) : List Int := sml (cut (rlS (f.length + 1 - g.length) f g))
/-- alike up to the sign -/
def Sg (l m : List Int) : Prop := ∃ e : Int, (e = 1 ∨ e = -1) ∧ l = m.map (e * ·)
theorem sg_abs {e : Int} (h : e = 1 ∨ e = -1) (x : Int) : (e * x).natAbs = x.natAbs := by rcases h with rfl | rfl <;> omega
theorem sg_mul {e d : Int} (h : e = 1 ∨ e = -1) (g : d = 1 ∨ d = -1) : e * d = 1 ∨ e * d = -1 := by rcases h with rfl | rfl <;> rcases g with rfl | rfl <;> omega
theorem sgO_or (x : Int) : sgO x = 1 ∨ sgO x = -1 := by
  unfold sgO
  split
  · exact .inl rfl
  · exact .inr rfl
theorem sgO_abs {x : Int} (h : x ≠ 0) : (x.natAbs : Int) = sgO x * x := by
  unfold sgO
  split <;> omega
theorem Sg.rf (l : List Int) : Sg l l := ⟨1, .inl rfl, by simp⟩
theorem Sg.len {l m : List Int} (h : Sg l m) : l.length = m.length := by
  obtain ⟨e, _, rfl⟩ := h
  exact List.length_map _
theorem Sg.nil {l m : List Int} (h : Sg l m) : l = [] ↔ m = [] := by
  rw [← List.length_eq_zero_iff, ← List.length_eq_zero_iff, h.len]
theorem Sg.co {l m : List Int} (h : Sg l m) : ∃ e : Int, (e = 1 ∨ e = -1) ∧ ∀ k, co l k = e * co m k := by
  obtain ⟨e, he, rfl⟩ := h
  exact ⟨e, he, fun k => co_scale e m k⟩
theorem Sg.of {l m : List Int} {e : Int} (he : e = 1 ∨ e = -1) (hl : l.length = m.length) (h : ∀ k, K45.co l k = e * K45.co m k) : Sg l m := ⟨e, he, co_inj (by rw [List.length_map, hl]) fun k => by rw [h, co_scale]⟩
theorem Sg.abs {l m : List Int} (h : Sg l m) (k : Nat) : (K45.co l k).natAbs = (K45.co m k).natAbs := by
  obtain ⟨e, he, q⟩ := h.co
  rw [q, sg_abs he]
theorem Sg.lead {l m : List Int} (h : Sg l m) : K45.co l 0 = 0 ↔ K45.co m 0 = 0 := by
  have := h.abs 0
  omega
theorem co_dropN1 (l : List Int) (k : Nat) : co (l.drop 1) k = co l (k + 1) := by
  unfold co
  rw [List.getD_eq_getElem?_getD, List.getD_eq_getElem?_getD, List.getElem?_drop, Nat.add_comm]
theorem stp1_co (l g : List Int) (k : Nat) : co (stp1 l g) k = if k + 1 < l.length then co l (k + 1) * co g 0 - co l 0 * co (lng l g) (k + 1) else 0 := by
  unfold stp1 sub1
  rw [co_dropN1, co_tb]
theorem stpS_co (l g : List Int) (k : Nat) : co (stpS l g) k = if k + 1 < l.length then ((co g 0).natAbs : Int) * co l (k + 1) - sgO (co g 0) * co l 0 * co (lng l g) (k + 1) else 0 := by
  unfold stpS
  rw [co_dropN1, co_tb]
theorem stpS_len (l g : List Int) : (stpS l g).length = l.length - 1 := by
  unfold stpS
  rw [List.length_drop, tb_len]
theorem Sg.stp {l l' g g' : List Int} (h : Sg l l') (d : Sg g g') (g0 : K45.co g 0 ≠ 0) : Sg (stpS l g) (stp1 l' g') := by
  obtain ⟨e, he, q⟩ := h.co
  obtain ⟨t, ht, r⟩ := d.co
  have hs := sgO_or (K45.co g 0)
  refine Sg.of (sg_mul hs (sg_mul he ht)) (by rw [stpS_len, stp1_len, h.len]) fun k => ?_
  rw [stpS_co, stp1_co, h.len]
  split
  · rw [co_lng, co_lng, sgO_abs g0, q, q, r, r]
    have := r 0
    grind
  · rw [Int.mul_zero]
theorem rlS_len (f g : List Int) : ∀ n, (rlS n f g).length = f.length - n
  | 0 => rfl
  | n + 1 => by
    show (stpS (rlS n f g) g).length = _
    rw [stpS_len, rlS_len f g n]
    omega
theorem Sg.rl {f f' g g' : List Int} (h : Sg f f') (d : Sg g g') (g0 : K45.co g 0 ≠ 0) : ∀ n, Sg (rlS n f g) (rlN n f' g')
  | 0 => h
  | n + 1 => (Sg.rl h d g0 n).stp d g0
theorem cut_neg {e : Int} (he : e ≠ 0) : ∀ l : List Int, cut (l.map (e * ·)) = (cut l).map (e * ·)
  | [] => rfl
  | a :: l => by
    by_cases c : a = 0
    · subst c
      show cut (e * 0 :: l.map (e * ·)) = _
      rw [Int.mul_zero, cut_z, cut_z, cut_neg he l]
    · show cut (e * a :: l.map (e * ·)) = _
      rw [cut_n (Int.mul_ne_zero he c), cut_n c]
      rfl
theorem Sg.cut {l m : List Int} (h : Sg l m) : Sg (K45.cut l) (K45.cut m) := by
  obtain ⟨e, he, rfl⟩ := h
  exact ⟨e, he, cut_neg (by rcases he with rfl | rfl <;> decide) m⟩
theorem Sg.prim {l m : List Int} (h : Sg l m) : primE l = primE m := by
  obtain ⟨e, he, q⟩ := h.co
  exact prim_pq (w := m.length) ⟨h.len, rfl, 1, e, by decide, by rcases he with rfl | rfl <;> decide, fun j => by rw [q, Int.one_mul]⟩
theorem sml_prim (l : List Int) : Sg (sml l) (primE l) := by
  unfold sml
  by_cases c : 1 < gl l
  · rw [if_pos c]
    unfold primE
    rw [if_neg (by omega)]
    split
    · exact Sg.rf _
    · refine ⟨-1, .inr rfl, ?_⟩
      unfold dv
      rw [List.map_map]
      refine List.map_congr_left fun x hx => ?_
      show x.fdiv (gl l : Nat) = -1 * x.fdiv (-(gl l : Nat) : Int)
      obtain ⟨y, hy⟩ : (gl l : Int) ∣ x := Int.ofNat_dvd_left.mpr (gl_dvd hx)
      have g0 : (gl l : Int) ≠ 0 := by omega
      rw [hy, Int.mul_comm (gl l : Int) y, Int.mul_fdiv_cancel _ g0, show y * (gl l : Int) = (-y) * (-(gl l : Int)) by rw [Int.neg_mul_neg], Int.mul_fdiv_cancel _ (by omega)]
      omega
  · rw [if_neg c]
    have hp := prim_ex l
    have : pf l = 1 ∨ pf l = -1 := by
      unfold pf
      split
      · exact .inl rfl
      · split <;> omega
    exact Sg.of this (primE_len l).symm fun k => (hp k).symm
theorem Sg.trans {l m n : List Int} (h : Sg l m) (g : Sg m n) : Sg l n := by
  obtain ⟨e, he, q⟩ := h.co
  obtain ⟨d, hd, r⟩ := g.co
  exact Sg.of (sg_mul he hd) (h.len.trans g.len) fun k => by rw [q, r, Int.mul_assoc]
theorem Sg.rst {f f' g g' : List Int} (h : Sg f f') (d : Sg g g') (g0 : K45.co g 0 ≠ 0) : Sg (rstS f g) (K45.rst f' g') := by
  unfold rstS K45.rst rlf
  have := (h.rl d g0 (f.length + 1 - g.length)).cut
  rw [← h.len, ← d.len]
  exact (sml_prim _).trans (by rw [this.prim]; exact Sg.rf _)
theorem gl_sg {l m : List Int} (h : Sg l m) : gl l = gl m := by
  obtain ⟨e, he, rfl⟩ := h
  unfold gl
  have : ∀ (l : List Int) (a : Nat), (l.map (e * ·)).foldl (fun a x => Nat.gcd a x.natAbs) a = l.foldl (fun a x => Nat.gcd a x.natAbs) a := by
    intro l
    induction l with
    | nil => exact fun _ => rfl
    | cons x l ih =>
      intro a
      rw [List.map_cons, List.foldl_cons, List.foldl_cons, sg_abs he, ih]
  exact this m 0
theorem cmulw_abs {a b c d : Int} (h : CMulW a b) (e1 : a.natAbs = c.natAbs) (e2 : b.natAbs = d.natAbs) : CMulW c d := by
  unfold CMulW at *
  rw [← e1, ← e2]
  exact h
theorem Sg.divOk {l m : List Int} (h : Sg l m) (d : DivOk m) : DivOk l := fun h0 x hx => by
  have eg := gl_sg h
  rw [eg] at h0 ⊢
  obtain ⟨k, hk, ek⟩ := mem_co hx
  have := d h0 _ (co_memE (l := m) (k := k) (by rw [← h.len]; exact hk))
  have ea := h.abs k
  rw [ek] at ea
  refine ⟨this.1, ?_⟩
  rw [ea]
  exact this.2
/-- what a turn asks -/
structure LfOk (f g : List Int) : Prop where
  m0 : ∀ j, j < f.length + 1 - g.length → CMulW (sgO (co g 0)) (co (rlS j f g) 0)
  m1 : ∀ j, j < f.length + 1 - g.length → ∀ k, CMulW ((co g 0).natAbs : Int) (co (rlS j f g) k)
  m2 : ∀ j, j < f.length + 1 - g.length → ∀ k, CMulW (sgO (co g 0) * co (rlS j f g) 0) (co g k)
  d : DivOk (cut (rlS (f.length + 1 - g.length) f g))
theorem cmulw_sw {a b : Int} (h : CMulW a b) : CMulW b a := by
  unfold CMulW at *
  omega
theorem lfOk_of {f f' g g' : List Int} (h : Sg f f') (d : Sg g g') (g0 : co g 0 ≠ 0) (ok : RsOk f' g') : LfOk f g := by
  have hl := h.len
  have dl := d.len
  have hs := sgO_or (co g 0)
  refine ⟨fun j hj => ?_, fun j hj k => ?_, fun j hj k => ?_, ?_⟩
  · have a := (ok.1 j (by omega)).m1 0
    have e := (h.rl d g0 j).abs 0
    have e1 : (sgO (co g 0)).natAbs.log2 = 0 := by rcases hs with e | e <;> rw [e] <;> rfl
    unfold CMulW at *
    rw [e1, e]
    omega
  · exact cmulw_abs (cmulw_sw ((ok.1 j (by omega)).m1 k)) (by rw [Int.natAbs_natCast, d.abs]) ((h.rl d g0 j).abs k).symm
  · exact cmulw_abs ((ok.1 j (by omega)).m2 k) (by rw [sg_abs hs, (h.rl d g0 j).abs]) (d.abs k).symm
  · have := (h.rl d g0 (f.length + 1 - g.length)).cut
    refine this.divOk ?_
    have := ok.2
    unfold rlf at this
    rw [hl, dl]
    exact this
end K45

set_option Elab.async false
set_option linter.all false
set_option maxRecDepth 100000
set_option maxHeartbeats 2000000
set_option exponentiation.threshold 20000
/-! plain: how often the greatest factor of a form stands, by common forms of both derivatives -/
namespace K45
open PySem PySem.Spec PyProof.Rows L2 FDivQ LA
theorem Dv.mulr {k n m : Nat} {h φ ψ : Bi} (d : Dv k n h φ) (hψ : Fm m ψ) : Dv k (n + m - 1) h fun x y => φ x y * ψ x y := by
  obtain ⟨c, A, hc, hA, e⟩ := d
  refine ⟨c, _, hc, hA.mul hψ (k := n + m - 1 + 1 - k) (by omega), fun x y => ?_⟩
  have := e x y
  grind
theorem Dv.lin {k n : Nat} {h φ ψ : Bi} (d : Dv k n h φ) (g : Dv k n h ψ) (u v : Int) : Dv k n h fun x y => u * φ x y + v * ψ x y := by
  obtain ⟨c, A, hc, hA, e⟩ := d
  obtain ⟨c', B, hc', hB, e'⟩ := g
  refine ⟨c * c', _, Int.mul_ne_zero hc hc', (hA.mulc (u * c')).add (hB.mulc (v * c)), fun x y => ?_⟩
  have := e x y
  have := e' x y
  grind
theorem Dv.cast {k n m : Nat} {h φ : Bi} (d : Dv k n h φ) (e : n = m) : Dv k m h φ := e ▸ d
theorem Dv.ext {k n : Nat} {h φ ψ : Bi} (d : Dv k n h φ) (e : ∀ x y, φ x y = ψ x y) : Dv k n h ψ := d.congr (a := 1) (b := 1) (by decide) (fun x y => by rw [e]) (by decide)
theorem Ap.dvl {n m k : Nat} {F G D : Bi} (h : Ap n m F G) (hD : Fm k D) (d : Dv k n D F) (hG : Fm m G) : Ap k m D G := by
  refine ⟨Fm.one, nz1, dv1 hD, dv1 hG, ?_⟩
  obtain ⟨N, i, j⟩ := h.id
  exact ⟨N, i.dv2 d (Dv.self G), j.dv2 d (Dv.self G)⟩
/-- what divides a product and is apart from one factor divides the other -/
theorem Ap.cancel {n m q : Nat} {F G φ : Bi} (h : Ap n m F G) (hF : Fm n F) (nF : Nz F) (hφ : Fm q φ) (n1 : 1 ≤ n) (m1 : 1 ≤ m) (d : Dv n (m + q - 1) F fun x y => G x y * φ x y) : Dv n q F φ := by
  obtain ⟨N, i, j⟩ := h.id
  obtain ⟨c', A, hc', hA, e'⟩ := d
  have half : ∀ {E : Bi}, Idl n m (1 + N) F G (fun x y => E x y * 1) → Dv n (q + N) F fun x y => E x y * φ x y := by
    intro E i
    obtain ⟨c, U, V, hc, hU, hV, e⟩ := i
    refine ⟨c * c', _, Int.mul_ne_zero hc hc', ((hU.mul hφ (k := q + N + 1 - n) (by omega)).mulc c').add (hV.mul hA (k := q + N + 1 - n) (by omega)), fun x y => ?_⟩
    have h1 := e x y
    have h2 := e' x y
    dsimp only at h1 h2 ⊢
    generalize E x y = a at *
    generalize F x y = f at *
    generalize G x y = g at *
    generalize φ x y = p at *
    generalize U x y = u at *
    generalize V x y = v at *
    generalize A x y = b at *
    grind
  exact Dv.both hF nF hφ (half i) (half j)
/-- a common form of any two forms of one degree -/
theorem com_ex {n : Nat} {A B : Bi} (hA : Fm n A) (hB : Fm n B) (h : Nz A ∨ Nz B) : ∃ T : List Int, 1 ≤ T.length ∧ T.length ≤ n ∧ primE T = T ∧ Com n n T.length A B (ev T) := by
  obtain ⟨a, la, ea⟩ := hA.list
  obtain ⟨b, lb, eb⟩ := hB.list
  have fa : ev a = A := funext fun x => funext fun y => ea x y
  have fb : ev b = B := funext fun x => funext fun y => eb x y
  subst fa fb
  have key : ∀ {T : List Int}, Com n n T.length (ev a) (ev b) (ev T) → 1 ≤ T.length ∧ T.length ≤ n := fun {T} C => ⟨nz_len C.nz, h.elim (fun z => C.df.le z) fun z => C.dg.le z⟩
  have one : ∀ {T : List Int}, Com n n T.length (ev a) (ev b) (ev T) → Com n n (primE T).length (ev a) (ev b) (ev (primE T)) := fun {T} C => by
    rw [primE_len]
    exact C.scaleT ((Fm.of (primE T)).cast (primE_len T)) (a := 1) (b := pf T) (by decide) (pf_ne T) fun x y => by rw [ev_pf, Int.one_mul]
  have res : ∀ {T : List Int}, Com n n T.length (ev a) (ev b) (ev T) → ∃ T : List Int, 1 ≤ T.length ∧ T.length ≤ n ∧ primE T = T ∧ Com n n T.length (ev a) (ev b) (ev T) := fun {T} C => ⟨primE T, (key (one C)).1, (key (one C)).2, primE_pr T, one C⟩
  by_cases na : Nz (ev a)
  · by_cases nb : Nz (ev b)
    · have C := cmn_com na nb
      rw [la, lb] at C
      exact res C
    · have z : ∀ x y, ev b x y = 0 := fun x y => Classical.byContradiction fun q => nb ⟨x, y, q⟩
      have C : Com n n a.length (ev a) (ev b) (ev a) := by
        rw [la]
        refine ⟨hA, na, Dv.self _, (Dv.zero _).ext fun x y => (z x y).symm, 0, ⟨1, fun _ _ => 1, fun _ _ => 0, by decide, Fm.one.cast (by omega), (Fm.zero _), fun x y => ?_⟩, ⟨1, fun _ _ => 1, fun _ _ => 0, by decide, Fm.one.cast (by omega), (Fm.zero _), fun x y => ?_⟩⟩
        · show (1 : Int) * (x ^ 0 * ev a x y) = 1 * ev a x y + 0 * ev b x y
          rw [Int.pow_zero]; omega
        · show (1 : Int) * (y ^ 0 * ev a x y) = 1 * ev a x y + 0 * ev b x y
          rw [Int.pow_zero]; omega
      exact res C
  · have z : ∀ x y, ev a x y = 0 := fun x y => Classical.byContradiction fun q => na ⟨x, y, q⟩
    have nb := h.resolve_left na
    have C : Com n n b.length (ev a) (ev b) (ev b) := by
      rw [lb]
      refine ⟨hB, nb, (Dv.zero _).ext fun x y => (z x y).symm, Dv.self _, 0, ⟨1, fun _ _ => 0, fun _ _ => 1, by decide, (Fm.zero _), Fm.one.cast (by omega), fun x y => ?_⟩, ⟨1, fun _ _ => 0, fun _ _ => 1, by decide, (Fm.zero _), Fm.one.cast (by omega), fun x y => ?_⟩⟩
      · show (1 : Int) * (x ^ 0 * ev b x y) = 0 * ev a x y + 1 * ev b x y
        rw [Int.pow_zero]; omega
      · show (1 : Int) * (y ^ 0 * ev b x y) = 0 * ev a x y + 1 * ev b x y
        rw [Int.pow_zero]; omega
    exact res C
/-- times a form -/
theorem Com.mulf {n k w : Nat} {A B T W : Bi} (C : Com n n k A B T) (hW : Fm w W) (nW : Nz W) (w1 : 1 ≤ w) (k1 : 1 ≤ k) (n1 : 1 ≤ n) (nT : Nz fun x y => W x y * T x y) : Com (w + n - 1) (w + n - 1) (w + k - 1) (fun x y => W x y * A x y) (fun x y => W x y * B x y) fun x y => W x y * T x y := by
  refine ⟨hW.mul C.hT (by omega), nT, (Dv.self W).mul C.df w1 k1 w1 n1, (Dv.self W).mul C.dg w1 k1 w1 n1, ?_⟩
  obtain ⟨N, i, j⟩ := C.id
  have half : ∀ {E : Bi}, Idl n n (k + N) A B (fun x y => E x y * T x y) → Idl (w + n - 1) (w + n - 1) (w + k - 1 + N) (fun x y => W x y * A x y) (fun x y => W x y * B x y) fun x y => E x y * (W x y * T x y) := by
    intro E i
    obtain ⟨c, U, V, hc, hU, hV, e⟩ := i
    refine ⟨c, U, V, hc, hU.cast (by omega), hV.cast (by omega), fun x y => ?_⟩
    have h1 := e x y
    dsimp only at h1 ⊢
    generalize E x y = a at *
    generalize W x y = b at *
    grind
  exact ⟨N, half i, half j⟩
/-! ### derivatives of products -/
theorem der_ml (u v : Int) {F G : List Int} (nF : F ≠ []) (nG : G ≠ []) (x y : Int) : u * ev (dX (ml F G)) x y + v * ev (dY (ml F G)) x y = (u * ev (dX F) x y + v * ev (dY F) x y) * ev G x y + ev F x y * (u * ev (dX G) x y + v * ev (dY G) x y) := step_eq fun k => by
  obtain ⟨R, e1⟩ := ev_step x y u v k (ml F G)
  obtain ⟨A, e2⟩ := ev_step x y u v k F
  obtain ⟨B, e3⟩ := ev_step x y u v k G
  rw [ev_ml nF nG, ev_ml nF nG, e2, e3] at e1
  generalize u * ev (dX (ml F G)) x y + v * ev (dY (ml F G)) x y = p at *
  generalize u * ev (dX F) x y + v * ev (dY F) x y = q at *
  generalize u * ev (dX G) x y + v * ev (dY G) x y = r at *
  generalize ev F x y = f at *
  generalize ev G x y = g at *
  refine ⟨q * r + A * g + f * B - R + k * (q * B + A * r) + k * k * A * B, ?_⟩
  grind
theorem der_pow (u v : Int) {P : List Int} (nP : P ≠ []) (x y : Int) : ∀ s : Nat, u * ev (dX (pow P (s + 1))) x y + v * ev (dY (pow P (s + 1))) x y = ((s : Int) + 1) * (ev P x y ^ s * (u * ev (dX P) x y + v * ev (dY P) x y))
  | 0 => by
    show u * ev (dX (ml [1] P)) x y + v * ev (dY (ml [1] P)) x y = _
    rw [ml_comm, ml_one, Int.pow_zero]
    show _ = (0 + 1) * (1 * _)
    omega
  | s + 1 => by
    show u * ev (dX (ml (pow P (s + 1)) P)) x y + v * ev (dY (ml (pow P (s + 1)) P)) x y = _
    rw [der_ml u v (pow_ne nP _) nP, der_pow u v nP x y s, ev_pow nP, show ((s + 1 : Nat) : Int) = (s : Int) + 1 from rfl, Int.pow_succ]
    grind
theorem der_pr (u v : Int) {P R : List Int} (nP : P ≠ []) (nR : R ≠ []) (s : Nat) (x y : Int) : u * ev (dX (ml (pow P (s + 1)) R)) x y + v * ev (dY (ml (pow P (s + 1)) R)) x y = ev P x y ^ s * (((s : Int) + 1) * ((u * ev (dX P) x y + v * ev (dY P) x y) * ev R x y) + ev P x y * (u * ev (dX R) x y + v * ev (dY R) x y)) := by
  rw [der_ml u v (pow_ne nP _) nR, der_pow u v nP, ev_pow nP, Int.pow_succ]
  grind
theorem ev_eulerA {F : List Int} (nF : F ≠ []) (x y : Int) : x * ev (dX F) x y + y * ev (dY F) x y = ((F.length : Int) - 1) * ev F x y := by
  by_cases c : 2 ≤ F.length
  · have h := congrArg (fun l => ev l x y) (euler (l := F) c)
    have l1 : (ml [1, 0] (dX F)).length = (ml [0, 1] (dY F)).length := by rw [ml_len, ml_len, dX_len, dY_len]; rfl
    have h : ev (zs 1 (ml [1, 0] (dX F)) (ml [0, 1] (dY F))) x y = ev (F.map fun x => x * ((F.length : Int) - 1)) x y := h
    rw [ev_zs 1 l1, ev_ml (by simp) (dX_ne c), ev_ml (by simp) (dY_ne c), show (F.map fun x => x * ((F.length : Int) - 1)) = F.map (((F.length : Int) - 1) * ·) from List.map_congr_left fun a _ => Int.mul_comm _ _, ev_map] at h
    rw [show ev [1, 0] x y = x by rw [ev_cons, ev_cons, ev_nil]; show 1 * x ^ 1 + y * (0 * x ^ 0 + y * 0) = x; rw [Int.pow_one]; grind, show ev [0, 1] x y = y by rw [ev_cons, ev_cons, ev_nil]; show 0 * x ^ 1 + y * (1 * x ^ 0 + y * 0) = y; rw [Int.pow_zero]; grind] at h
    grind
  · match F, nF, c with
    | [a], _, _ =>
      show x * 0 + y * 0 = (1 - 1) * _
      omega
    | _ :: _ :: _, _, c => exact absurd (by rw [List.length_cons, List.length_cons]; omega) c
theorem fmx : Fm 2 fun x _ => x := ((Fm.one.px 1).congr fun x y => by rw [Int.pow_one, Int.mul_one]).cast rfl
theorem fmy : Fm 2 fun _ y => y := ((Fm.one.py 1).congr fun x y => by rw [Int.pow_one, Int.mul_one]).cast rfl
theorem Com.up {n k k' : Nat} {A B g T : Bi} (C : Com n n k A B g) (d : Dv k k' g T) (hT : Fm k' T) (nT : Nz T) (df : Dv k' n T A) (dg : Dv k' n T B) : Com n n k' A B T := by
  have kk := d.le nT
  refine ⟨hT, nT, df, dg, ?_⟩
  obtain ⟨N, i, j⟩ := C.id
  obtain ⟨c, Q, hc, hQ, q⟩ := d
  have half : ∀ {E : Bi}, Idl n n (k + N) A B (fun x y => E x y * g x y) → Idl n n (k' + N) A B fun x y => E x y * T x y := by
    intro E i
    obtain ⟨c', U, V, hc', hU, hV, e⟩ := i
    refine ⟨c * c', fun x y => U x y * Q x y, fun x y => V x y * Q x y, Int.mul_ne_zero hc hc', hU.mul hQ (by omega), hV.mul hQ (by omega), fun x y => ?_⟩
    have h1 := e x y
    have h2 := q x y
    dsimp only at h1 ⊢
    generalize E x y = a at *
    grind
  exact ⟨N, half i, half j⟩
theorem nz_mul {n m : Nat} {φ ψ : Bi} (hφ : Fm n φ) (n1 : Nz φ) (hψ : Fm m ψ) (n2 : Nz ψ) : Nz fun x y => φ x y * ψ x y := Classical.byContradiction fun c => by
  obtain ⟨x, y, h0⟩ := n2
  exact h0 (hφ.can0 n1 hψ (fun a b => Classical.byContradiction fun z => c ⟨a, b, z⟩) x y)
/-- no factor twice -/
structure Sqf (P : List Int) : Prop where
  len2 : 2 ≤ P.length
  com : Com (P.length - 1) (P.length - 1) 1 (ev (dX P)) (ev (dY P)) fun _ _ => 1
theorem Sqf.nz {P : List Int} (h : Sqf P) : Nz (ev P) := Classical.byContradiction fun c => by
  have z : ∀ x y, ev P x y = 0 := fun x y => Classical.byContradiction fun q => c ⟨x, y, q⟩
  have z2 := ev0_all z
  have hX : ∀ x y, ev (dX P) x y = 0 := ev_zero fun w hw => by
    obtain ⟨k, _, ek⟩ := mem_co hw
    rw [← ek]
    show co (tb _ _) k = 0
    rw [co_tb]
    split
    · rw [z2 _ (co_memE (by omega)), Int.zero_mul]
    · rfl
  have hY : ∀ x y, ev (dY P) x y = 0 := ev_zero fun w hw => by
    obtain ⟨k, _, ek⟩ := mem_co hw
    rw [← ek]
    show co (tb _ _) k = 0
    rw [co_tb]
    split
    · rw [z2 _ (co_memE (by omega)), Int.zero_mul]
    · rfl
  obtain ⟨N, i, _⟩ := h.com.id
  obtain ⟨c, U, V, hc, _, _, e⟩ := i
  have := e 1 0
  dsimp only at this
  rw [hX, hY, Int.one_pow, Int.mul_zero, Int.mul_zero] at this
  omega
/-- the common form of both derivatives of a product -/
theorem lss_main {P R T : List Int} (hP : Sqf P) (nR : Nz (ev R)) (ap : Ap P.length R.length (ev P) (ev R)) (s : Nat) (hT : (2 ≤ R.length ∧ Com (R.length - 1) (R.length - 1) T.length (ev (dX R)) (ev (dY R)) (ev T)) ∨ (R.length = 1 ∧ T = [1])) :
    Com ((ml (pow P (s + 1)) R).length - 1) ((ml (pow P (s + 1)) R).length - 1) (ml (pow P s) T).length (ev (dX (ml (pow P (s + 1)) R))) (ev (dY (ml (pow P (s + 1)) R))) (ev (ml (pow P s) T)) := by
  have nP := hP.nz
  have P2 := hP.len2
  have nPl : P ≠ [] := fun z => by rw [z] at P2; exact absurd P2 (by decide)
  have R1 := nz_len nR
  have nRl : R ≠ [] := fun z => by rw [z] at R1; exact absurd R1 (by decide)
  obtain ⟨a, ha⟩ : ∃ a, P.length = a + 1 := ⟨P.length - 1, by omega⟩
  obtain ⟨b, hb⟩ : ∃ b, R.length = b + 1 := ⟨R.length - 1, by omega⟩
  have a1 : 1 ≤ a := by omega
  have hPx : Fm a (ev (dX P)) := (Fm.of _).cast (by rw [dX_len]; omega)
  have hPy : Fm a (ev (dY P)) := (Fm.of _).cast (by rw [dY_len]; omega)
  have hRx : Fm b (ev (dX R)) := (Fm.of _).cast (by rw [dX_len]; omega)
  have hRy : Fm b (ev (dY R)) := (Fm.of _).cast (by rw [dY_len]; omega)
  have hPf : Fm (a + 1) (ev P) := (Fm.of P).cast ha
  have hRf : Fm (b + 1) (ev R) := (Fm.of R).cast hb
  have cP := hP.com
  rw [ha, Nat.add_sub_cancel] at cP
  rw [ha, hb] at ap
  -- both derivatives without the power
  let A : Bi := fun x y => ((s : Int) + 1) * (ev R x y * ev (dX P) x y) + 1 * (ev (dX R) x y * ev P x y)
  let B : Bi := fun x y => ((s : Int) + 1) * (ev R x y * ev (dY P) x y) + 1 * (ev (dY R) x y * ev P x y)
  have hA : Fm (a + b) A := ((hRf.mul hPx (k := a + b) (by omega)).mulc _).add ((hRx.mul hPf (k := a + b) (by omega)).mulc 1)
  have hB : Fm (a + b) B := ((hRf.mul hPy (k := a + b) (by omega)).mulc _).add ((hRy.mul hPf (k := a + b) (by omega)).mulc 1)
  have eu : ∀ x y, 1 * (A x y * x) + 1 * (B x y * y) = (((s : Int) + 1) * a + b) * (ev P x y * ev R x y) := fun x y => by
    have h1 := ev_eulerA nPl x y
    have h2 := ev_eulerA nRl x y
    rw [ha] at h1
    rw [hb] at h2
    rw [show ((a + 1 : Nat) : Int) - 1 = a by omega] at h1
    rw [show ((b + 1 : Nat) : Int) - 1 = b by omega] at h2
    show 1 * ((((s : Int) + 1) * (ev R x y * ev (dX P) x y) + 1 * (ev (dX R) x y * ev P x y)) * x) + 1 * ((((s : Int) + 1) * (ev R x y * ev (dY P) x y) + 1 * (ev (dY R) x y * ev P x y)) * y) = _
    generalize ev (dX P) x y = px at *
    generalize ev (dY P) x y = py at *
    generalize ev (dX R) x y = rx at *
    generalize ev (dY R) x y = ry at *
    generalize ev P x y = p at *
    generalize ev R x y = r at *
    clear hA hB A B
    grind
  have N0 : ((s : Int) + 1) * a + b ≠ 0 := by
    have : (0 : Int) < ((s : Int) + 1) * a := Int.mul_pos (by omega) (by omega)
    omega
  have nPR : Nz fun x y => ev P x y * ev R x y := nz_mul hPf nP hRf nR
  have nAB : Nz A ∨ Nz B := Classical.byContradiction fun c => by
    obtain ⟨x, y, h0⟩ := nPR
    have zA : A x y = 0 := Classical.byContradiction fun z => c (.inl ⟨x, y, z⟩)
    have zB : B x y = 0 := Classical.byContradiction fun z => c (.inr ⟨x, y, z⟩)
    have := eu x y
    rw [zA, zB, Int.zero_mul, Int.zero_mul, Int.mul_zero] at this
    exact Int.mul_ne_zero N0 h0 this.symm
  obtain ⟨g, g1, gn, _, Cg⟩ := com_ex hA hB nAB
  -- T
  have tT : Dv T.length (b + 1) (ev T) (ev R) ∧ Dv T.length b (ev T) (ev (dX R)) ∧ Dv T.length b (ev T) (ev (dY R)) ∧ Nz (ev T) := by
    rcases hT with ⟨h2, C⟩ | ⟨h1, rfl⟩
    · rw [hb, Nat.add_sub_cancel] at C
      have b0 : (b : Int) ≠ 0 := by omega
      have d := ((C.df.mulr fmx).lin (C.dg.mulr fmy) 1 1)
      refine ⟨(d.congr (a := 1) (b := b) (by decide) (fun x y => ?_) b0).cast (by omega), C.df, C.dg, C.nz⟩
      have := ev_eulerA nRl x y
      rw [hb, show ((b + 1 : Nat) : Int) - 1 = b by omega] at this
      rw [← this]
      grind
    · have hb0 : b = 0 := by omega
      subst hb0
      have z1 : ∀ x y, ev (dX R) x y = 0 := fun x y => hRx.none x y
      have z2 : ∀ x y, ev (dY R) x y = 0 := fun x y => hRy.none x y
      have e1 : ev [1] = fun _ _ => 1 := funext fun x => funext fun y => ev_one x y
      rw [e1]
      exact ⟨dv1 hRf, (Dv.zero _).ext fun x y => (z1 x y).symm, (Dv.zero _).ext fun x y => (z2 x y).symm, nz1⟩
  obtain ⟨dR, dRx, dRy, nT⟩ := tT
  have T1 := nz_len nT
  have dA : Dv T.length (a + b) (ev T) A := ((dR.mulr hPx).cast (by omega)).lin ((dRx.mulr hPf).cast (by omega)) _ _
  have dB : Dv T.length (a + b) (ev T) B := ((dR.mulr hPy).cast (by omega)).lin ((dRy.mulr hPf).cast (by omega)) _ _
  -- g is apart from P
  have apg : Ap g.length (a + 1) (ev g) (ev P) := by
    have Ct := cmn_com Cg.nz nP
    generalize cmn g P = t at Ct
    rw [ha] at Ct
    have t1 := nz_len Ct.nz
    have apt : Ap t.length (b + 1) (ev t) (ev R) := ap.dvl (Fm.of t) Ct.dg hRf
    have one : ∀ {φ ψ : Bi}, Fm a φ → Fm b ψ → Dv t.length (a + b) (ev t) (fun x y => ((s : Int) + 1) * (ev R x y * φ x y) + 1 * (ψ x y * ev P x y)) → Dv t.length a (ev t) φ := fun {φ ψ} hφ hψ d => by
      have d2 : Dv t.length (a + b) (ev t) fun x y => ev P x y * ψ x y := (Ct.dg.mulr hψ).cast (by omega)
      have d3 := d.lin d2 1 (-1)
      have d4 : Dv t.length (b + 1 + a - 1) (ev t) fun x y => ev R x y * φ x y := (d3.congr (a := 1) (b := (s : Int) + 1) (by decide) (fun x y => by
        generalize ev R x y * φ x y = u
        generalize hv : ψ x y * ev P x y = v
        rw [Int.mul_comm (ev P x y), hv]
        grind) (by omega)).cast (by omega)
      exact apt.cancel (Fm.of t) Ct.nz hφ t1 (by omega) d4
    have dx := one hPx hRx (Ct.df.trans Cg.df)
    have dy := one hPy hRy (Ct.df.trans Cg.dg)
    have tl := (cP.most (Fm.of t) Ct.nz dx dy).le nz1
    obtain ⟨c, hc⟩ : ∃ c, t = [c] := by
      match t, t1, tl with
      | [c], _, _ => exact ⟨c, rfl⟩
      | _ :: _ :: _, _, h => exact absurd h (by simp)
    have ec : ∀ x y, ev t x y = c := fun x y => by rw [hc, ev_cons, ev_nil, List.length_nil, Int.pow_zero]; omega
    have c0 : c ≠ 0 := fun z => by
      obtain ⟨x, y, h0⟩ := Ct.nz
      exact h0 (by rw [ec, z])
    have lt : t.length = 1 := by rw [hc]; rfl
    rw [lt] at Ct
    exact Ct.scaleT Fm.one (a := 1) (b := c) (by decide) c0 fun x y => by rw [ec]; omega
  have gR : Dv g.length (b + 1) (ev g) (ev R) := by
    have d := (Cg.df.mulr fmx).lin (Cg.dg.mulr fmy) 1 1
    have d2 : Dv g.length (a + 1 + (b + 1) - 1) (ev g) fun x y => ev P x y * ev R x y := (d.congr (a := 1) (b := ((s : Int) + 1) * a + b) (by decide) (fun x y => by rw [eu, Int.one_mul]) N0).cast (by omega)
    exact apg.cancel (Fm.of g) Cg.nz hRf g1 (by omega) d2
  have gRx : ∀ {φ ψ : Bi}, Fm a φ → Fm b ψ → Dv g.length (a + b) (ev g) (fun x y => ((s : Int) + 1) * (ev R x y * φ x y) + 1 * (ψ x y * ev P x y)) → Dv g.length b (ev g) ψ := fun {φ ψ} hφ hψ d => by
    have d2 : Dv g.length (a + b) (ev g) fun x y => ev R x y * φ x y := (gR.mulr hφ).cast (by omega)
    have d3 := d.lin d2 1 (-((s : Int) + 1))
    have d4 : Dv g.length (a + 1 + b - 1) (ev g) fun x y => ev P x y * ψ x y := (d3.ext fun x y => by
      generalize ev R x y * φ x y = u
      rw [Int.mul_comm (ψ x y)]
      grind).cast (by omega)
    exact apg.cancel (Fm.of g) Cg.nz hψ g1 (by omega) d4
  have gT : Dv g.length T.length (ev g) (ev T) := by
    rcases hT with ⟨h2, C⟩ | ⟨h1, rfl⟩
    · rw [hb, Nat.add_sub_cancel] at C
      exact C.most (Fm.of g) Cg.nz (gRx hPx hRx Cg.df) (gRx hPy hRy Cg.dg)
    · have hb0 : b = 0 := by omega
      subst hb0
      obtain ⟨r, er⟩ := (hRf.cast (show 0 + 1 = 1 from rfl)).const
      have r0 : r ≠ 0 := fun z => by
        obtain ⟨x, y, h0⟩ := nR
        exact h0 (by rw [er, z])
      exact gR.congr (a := 1) (b := r) (by decide) (fun x y => by rw [er, ev_one]; omega) r0
  have CT := Cg.up gT (Fm.of T) nT dA dB
  have nW : Nz (ev (pow P s)) := by
    have : ∀ k, Nz (ev (pow P k)) := fun k => by
      induction k with
      | zero => exact ⟨0, 0, by rw [show pow P 0 = [1] from rfl, ev_one]; decide⟩
      | succ k ih =>
        obtain ⟨x, y, h0⟩ := nz_mul (Fm.of (pow P k)) ih hPf nP
        exact ⟨x, y, by rw [show pow P (k + 1) = ml (pow P k) P from rfl, ev_ml (pow_ne nPl k) nPl]; exact h0⟩
    exact this s
  have nTl : T ≠ [] := fun z => by rw [z] at T1; exact absurd T1 (by decide)
  have M := CT.mulf (Fm.of (pow P s)) nW (nz_len nW) T1 (by omega) (nz_mul (Fm.of _) nW (Fm.of T) nT)
  have el : (ml (pow P (s + 1)) R).length - 1 = (pow P s).length + (a + b) - 1 := by
    rw [ml_len, show pow P (s + 1) = ml (pow P s) P from rfl, ml_len]
    omega
  have eX : ev (dX (ml (pow P (s + 1)) R)) = fun x y => ev (pow P s) x y * A x y := funext fun x => funext fun y => by
    have := der_pr 1 0 nPl nRl s x y
    rw [Int.zero_mul, Int.zero_mul, Int.zero_mul, Int.one_mul, Int.one_mul, Int.one_mul, Int.add_zero, Int.add_zero, Int.add_zero] at this
    rw [this, ev_pow nPl]
    show _ = _ * (((s : Int) + 1) * (ev R x y * ev (dX P) x y) + 1 * (ev (dX R) x y * ev P x y))
    rw [Int.mul_comm (ev R x y), Int.one_mul, Int.mul_comm (ev (dX R) x y)]
  have eY : ev (dY (ml (pow P (s + 1)) R)) = fun x y => ev (pow P s) x y * B x y := funext fun x => funext fun y => by
    have := der_pr 0 1 nPl nRl s x y
    rw [Int.zero_mul, Int.zero_mul, Int.zero_mul, Int.one_mul, Int.one_mul, Int.one_mul, Int.zero_add, Int.zero_add, Int.zero_add] at this
    rw [this, ev_pow nPl]
    show _ = _ * (((s : Int) + 1) * (ev R x y * ev (dY P) x y) + 1 * (ev (dY R) x y * ev P x y))
    rw [Int.mul_comm (ev R x y), Int.one_mul, Int.mul_comm (ev (dY R) x y)]
  have eT : ev (ml (pow P s) T) = fun x y => ev (pow P s) x y * ev T x y := funext fun x => funext fun y => ev_ml (pow_ne nPl s) nTl x y
  rw [el, eX, eY, eT, ml_len]
  exact M
end K45

set_option Elab.async false
set_option linter.all false
set_option maxRecDepth 100000
set_option maxHeartbeats 2000000
set_option exponentiation.threshold 20000
/-! plain: how often the greatest factor stands: the told number -/
namespace K45
open PySem PySem.Spec PyProof.Rows L2 FDivQ LA
theorem pow_nzB {x : Int} (h : x ≠ 0) : ∀ n : Nat, x ^ n ≠ 0
  | 0 => by rw [Int.pow_zero]; decide
  | n + 1 => by rw [Int.pow_succ]; exact Int.mul_ne_zero (pow_nzB h n) h
/-- the common form of both derivatives, as it is told -/
def lss (F : List Int) : List Int := if cut (dX F) = [] then primE (dY F) else if cut (dY F) = [] then primE (dX F) else cmn (dX F) (dY F)
theorem cut_nil {l : List Int} (h : cut l = []) (x y : Int) : ev l x y = 0 := by rw [ev_cut, h, ev_nil, Int.mul_zero]
theorem cut_live {l : List Int} (h : cut l ≠ []) : Nz (ev l) := by
  obtain ⟨x, y, h0⟩ := (nz_co (cut_lead h)).yk (Fm.of (cut l)) (ah l)
  exact ⟨x, y, by rw [ev_cut]; exact h0⟩
theorem lss_com {F : List Int} (h2 : 2 ≤ F.length) (nF : Nz (ev F)) : Com (F.length - 1) (F.length - 1) (lss F).length (ev (dX F)) (ev (dY F)) (ev (lss F)) ∧ primE (lss F) = lss F := by
  have hX : Fm (F.length - 1) (ev (dX F)) := (Fm.of _).cast (dX_len F)
  have hY : Fm (F.length - 1) (ev (dY F)) := (Fm.of _).cast (dY_len F)
  have one : ∀ {T : List Int}, Com (F.length - 1) (F.length - 1) T.length (ev (dX F)) (ev (dY F)) (ev T) → Com (F.length - 1) (F.length - 1) (primE T).length (ev (dX F)) (ev (dY F)) (ev (primE T)) := fun {T} C => by
    rw [primE_len]
    exact C.scaleT ((Fm.of (primE T)).cast (primE_len T)) (a := 1) (b := pf T) (by decide) (pf_ne T) fun x y => by rw [ev_pf, Int.one_mul]
  unfold lss
  by_cases c : cut (dX F) = []
  · rw [if_pos c]
    refine ⟨one ?_, primE_pr _⟩
    have z := cut_nil c
    have nY : Nz (ev (dY F)) := Classical.byContradiction fun q => by
      obtain ⟨x, y, h0⟩ := nF
      have e := ev_eulerA (F := F) (fun z => by rw [z] at h2; exact absurd h2 (by decide)) x y
      rw [z, Classical.byContradiction fun r => q ⟨x, y, r⟩, Int.mul_zero, Int.mul_zero, Int.add_zero] at e
      exact Int.mul_ne_zero (by omega) h0 e.symm
    rw [dY_len]
    refine ⟨hY, nY, (Dv.zero _).ext fun x y => (z x y).symm, Dv.self _, 0, ⟨1, fun _ _ => 0, fun _ _ => 1, by decide, (Fm.zero _), Fm.one.cast (by omega), fun x y => ?_⟩, ⟨1, fun _ _ => 0, fun _ _ => 1, by decide, (Fm.zero _), Fm.one.cast (by omega), fun x y => ?_⟩⟩
    · show (1 : Int) * (x ^ 0 * ev (dY F) x y) = 0 * ev (dX F) x y + 1 * ev (dY F) x y
      rw [Int.pow_zero]; omega
    · show (1 : Int) * (y ^ 0 * ev (dY F) x y) = 0 * ev (dX F) x y + 1 * ev (dY F) x y
      rw [Int.pow_zero]; omega
  · rw [if_neg c]
    have nX := cut_live c
    by_cases d : cut (dY F) = []
    · rw [if_pos d]
      refine ⟨one ?_, primE_pr _⟩
      have z := cut_nil d
      rw [dX_len]
      refine ⟨hX, nX, Dv.self _, (Dv.zero _).ext fun x y => (z x y).symm, 0, ⟨1, fun _ _ => 1, fun _ _ => 0, by decide, Fm.one.cast (by omega), (Fm.zero _), fun x y => ?_⟩, ⟨1, fun _ _ => 1, fun _ _ => 0, by decide, Fm.one.cast (by omega), (Fm.zero _), fun x y => ?_⟩⟩
      · show (1 : Int) * (x ^ 0 * ev (dX F) x y) = 1 * ev (dX F) x y + 0 * ev (dY F) x y
        rw [Int.pow_zero]; omega
      · show (1 : Int) * (y ^ 0 * ev (dX F) x y) = 1 * ev (dX F) x y + 0 * ev (dY F) x y
        rw [Int.pow_zero]; omega
    · rw [if_neg d]
      have C := cmn_com nX (cut_live d)
      rw [dX_len, dY_len] at C
      exact ⟨C, cmn_prim _ _⟩
theorem lss_of {F T : List Int} (h2 : 2 ≤ F.length) (nF : Nz (ev F)) (C : Com (F.length - 1) (F.length - 1) T.length (ev (dX F)) (ev (dY F)) (ev T)) : lss F = primE T := by
  obtain ⟨C', e'⟩ := lss_com h2 nF
  obtain ⟨e, a, b, ha, hb, q⟩ := C'.uniq C
  rw [← e']
  exact prim_ev e ha hb q
theorem lss_nz {F : List Int} (h2 : 2 ≤ F.length) (nF : Nz (ev F)) : Nz (ev (lss F)) := (lss_com h2 nF).1.nz
theorem lss_len {F : List Int} (h2 : 2 ≤ F.length) (nF : Nz (ev F)) : 1 ≤ (lss F).length ∧ (lss F).length ≤ F.length - 1 := by
  obtain ⟨C, _⟩ := lss_com h2 nF
  refine ⟨nz_len C.nz, ?_⟩
  by_cases c : Nz (ev (dX F))
  · exact C.df.le c
  · by_cases d : Nz (ev (dY F))
    · exact C.dg.le d
    · obtain ⟨x, y, h0⟩ := nF
      have e := ev_eulerA (F := F) (fun z => by rw [z] at h2; exact absurd h2 (by decide)) x y
      rw [Classical.byContradiction fun r => c ⟨x, y, r⟩, Classical.byContradiction fun r => d ⟨x, y, r⟩, Int.mul_zero, Int.mul_zero, Int.add_zero] at e
      exact absurd e.symm (Int.mul_ne_zero (by omega) h0)
/-- it divides the form -/
theorem com_dv {F : List Int} {T : Bi} {k : Nat} (h2 : 2 ≤ F.length) (C : Com (F.length - 1) (F.length - 1) k (ev (dX F)) (ev (dY F)) T) : Dv k F.length T (ev F) := by
  have d := ((C.df.mulr fmx).lin (C.dg.mulr fmy) 1 1)
  refine (d.congr (a := 1) (b := (F.length : Int) - 1) (by decide) (fun x y => ?_) (by omega)).cast (by omega)
  rw [← ev_eulerA (F := F) (fun z => by rw [z] at h2; exact absurd h2 (by decide))]
  grind
/-! ### the told number -/
def gtN : Nat → List Int → Nat
  | 0, _ => 0
  | N + 1, F => if F.length ≤ 1 then 0 else gtN N (lss F) + 1
def gtm (F : List Int) : Nat := gtN F.length F
theorem gtN_fuel : ∀ (N M : Nat) (F : List Int), Nz (ev F) → F.length ≤ N → F.length ≤ M → gtN N F = gtN M F
  | 0, M, F, nF, h, _ => absurd (nz_len nF) (by omega)
  | N + 1, 0, F, nF, _, h => absurd (nz_len nF) (by omega)
  | N + 1, M + 1, F, nF, h1, h2 => by
    show (if F.length ≤ 1 then 0 else gtN N (lss F) + 1) = if F.length ≤ 1 then 0 else gtN M (lss F) + 1
    by_cases c : F.length ≤ 1
    · rw [if_pos c, if_pos c]
    · rw [if_neg c, if_neg c]
      have := lss_len (by omega) nF
      rw [gtN_fuel N M (lss F) (lss_nz (by omega) nF) (by omega) (by omega)]
theorem gtm_one {F : List Int} (h : F.length ≤ 1) : gtm F = 0 := by
  unfold gtm
  cases e : F.length with
  | zero => rfl
  | succ n => exact if_pos (by omega)
theorem gtm_step {F : List Int} (h2 : 2 ≤ F.length) (nF : Nz (ev F)) : gtm F = gtm (lss F) + 1 := by
  obtain ⟨n, hn⟩ : ∃ n, F.length = n + 1 := ⟨F.length - 1, by omega⟩
  have hl := lss_len h2 nF
  unfold gtm
  rw [hn]
  show (if F.length ≤ 1 then 0 else gtN n (lss F) + 1) = _
  rw [if_neg (by omega), gtN_fuel n (lss F).length (lss F) (lss_nz h2 nF) (by omega) (Nat.le_refl _)]
theorem gtm_le : ∀ (N : Nat) (F : List Int), F.length ≤ N → Nz (ev F) → gtm F ≤ F.length - 1
  | 0, F, h, nF => absurd (nz_len nF) (by omega)
  | N + 1, F, h, nF => by
    by_cases c : F.length ≤ 1
    · rw [gtm_one c]
      exact Nat.zero_le _
    · have hl := lss_len (by omega) nF
      have := gtm_le N (lss F) (by omega) (lss_nz (by omega) nF)
      rw [gtm_step (by omega) nF]
      omega
theorem gtm_scale {F G : List Int} {α β : Int} (hl : F.length = G.length) (nF : Nz (ev F)) (ha : α ≠ 0) (hb : β ≠ 0) (e : ∀ x y, α * ev F x y = β * ev G x y) : gtm F = gtm G := by
  have nG : Nz (ev G) := by
    obtain ⟨x, y, h0⟩ := nF
    exact ⟨x, y, fun z => Int.mul_ne_zero ha h0 (by rw [e, z, Int.mul_zero])⟩
  by_cases c : F.length ≤ 1
  · rw [gtm_one c, gtm_one (by omega)]
  · have q : F.map (α * ·) = G.map (β * ·) := ev_inj (by rw [List.length_map, List.length_map, hl]) fun x y => by rw [ev_map, ev_map, e]
    have qX : ∀ x y, α * ev (dX F) x y = β * ev (dX G) x y := fun x y => by rw [← ev_map, ← ev_map, ← dX_map, ← dX_map, q]
    have qY : ∀ x y, α * ev (dY F) x y = β * ev (dY G) x y := fun x y => by rw [← ev_map, ← ev_map, ← dY_map, ← dY_map, q]
    obtain ⟨C, e'⟩ := lss_com (by omega) nF
    have C2 := ((C.scale ha hb qX).sw.scale ha hb qY).sw
    rw [hl] at C2
    have := lss_of (by omega) nG C2
    rw [gtm_step (by omega) nF, gtm_step (by omega) nG, this, e']
theorem gtm_prim {F : List Int} (nF : Nz (ev F)) : gtm (primE F) = gtm F := (gtm_scale (primE_len F).symm nF (α := 1) (β := pf F) (by decide) (pf_ne F) fun x y => by rw [ev_pf, Int.one_mul]).symm
theorem nz_pow {P : List Int} (nP : Nz (ev P)) : ∀ s, Nz (ev (pow P s))
  | 0 => ⟨0, 0, by rw [show pow P 0 = [1] from rfl, ev_one]; decide⟩
  | s + 1 => by
    have nPl : P ≠ [] := fun z => by have := nz_len nP; rw [z] at this; exact absurd this (by decide)
    obtain ⟨x, y, h0⟩ := nz_mul (Fm.of (pow P s)) (nz_pow nP s) (Fm.of P) nP
    exact ⟨x, y, by rw [show pow P (s + 1) = ml (pow P s) P from rfl, ev_ml (pow_ne nPl s) nPl]; exact h0⟩
theorem ne_nz {P : List Int} (nP : Nz (ev P)) : P ≠ [] := fun z => by have := nz_len nP; rw [z] at this; exact absurd this (by decide)
theorem nz_ml {P R : List Int} (nP : Nz (ev P)) (nR : Nz (ev R)) : Nz (ev (ml P R)) := by
  obtain ⟨x, y, h0⟩ := nz_mul (Fm.of P) nP (Fm.of R) nR
  exact ⟨x, y, by rw [ev_ml (ne_nz nP) (ne_nz nR)]; exact h0⟩
/-- a factor that stands s times, and the rest -/
theorem gtm_pow {P : List Int} (hP : Sqf P) : ∀ (s : Nat) (R : List Int), Nz (ev R) → Ap P.length R.length (ev P) (ev R) → gtm (ml (pow P s) R) = max s (gtm R)
  | 0, R, nR, ap => by
    rw [show pow P 0 = [1] from rfl, ml_comm, ml_one, Nat.zero_max]
  | s + 1, R, nR, ap => by
    have nP := hP.nz
    have P2 := hP.len2
    have R1 := nz_len nR
    have nF := nz_ml (nz_pow nP (s + 1)) nR
    have lF : 2 ≤ (ml (pow P (s + 1)) R).length := by
      rw [ml_len, show pow P (s + 1) = ml (pow P s) P from rfl, ml_len]
      have := nz_len (nz_pow nP s)
      omega
    rw [gtm_step lF nF]
    by_cases c : 2 ≤ R.length
    · obtain ⟨C, e'⟩ := lss_com c nR
      have nT := lss_nz c nR
      have apT : Ap P.length (lss R).length (ev P) (ev (lss R)) := (ap.sw.dvl (Fm.of _) (com_dv c C) (Fm.of P)).sw
      rw [lss_of lF nF (lss_main hP nR ap s (.inl ⟨c, C⟩)), gtm_prim (nz_ml (nz_pow nP s) nT), gtm_pow hP s (lss R) nT apT, gtm_step c nR]
      omega
    · have c1 : R.length = 1 := by omega
      have n1 : Nz (ev [1]) := ⟨0, 0, by rw [ev_one]; decide⟩
      have e1 : ev [1] = fun _ _ => 1 := funext fun x => funext fun y => ev_one x y
      have apT : Ap P.length [1].length (ev P) (ev [1]) := by
        rw [e1]
        exact (Com.divisor Fm.one nz1 (dv1 (Fm.of P))).sw
      rw [lss_of lF nF (lss_main hP nR ap s (.inr ⟨c1, rfl⟩)), gtm_prim (nz_ml (nz_pow nP s) n1), gtm_pow hP s [1] n1 apT, gtm_one (F := R) (by omega), gtm_one (F := [1]) (Nat.le_refl 1)]
      omega
end K45

set_option Elab.async false
set_option linter.all false
set_option maxRecDepth 100000
set_option maxHeartbeats 2000000
set_option exponentiation.threshold 20000
/-! plain: all common forms of derivatives are small -/
namespace K45
open PySem PySem.Spec PyProof.Rows L2 FDivQ LA
structure ClOk (A B : List Int) : Prop where
  a0 : cut A = [] → DivOk B
  b0 : cut A ≠ [] → cut B = [] → DivOk A
  sh : cut A ≠ [] → cut B ≠ [] → ShOk (cut B).length (cut A) (cut B)
theorem clOk_of {A B : List Int} (hA : A.length ≤ 10) (hB : B.length ≤ 10) {L : Nat} (bA : bt L A) (bB : bt L B) (hL : 18 * L + 108 ≤ 4400) : ClOk A B :=
  ⟨fun _ => divOk_9 (bB.mono (by omega)), fun _ _ => divOk_9 (bA.mono (by omega)), fun a b => sh_all (cut_lead a) (cut_lead b) (Nat.le_trans (cut_len A) hA) (Nat.le_trans (cut_len B) hB) bA.cut bB.cut hL⟩
theorem dX_co (F : List Int) (k : Nat) : co (dX F) k = if k < F.length - 1 then co F k * ((F.length : Int) - 1 - k) else 0 := co_tb k
theorem dY_co (F : List Int) (k : Nat) : co (dY F) k = if k < F.length - 1 then co F (k + 1) * ((k : Int) + 1) else 0 := co_tb k
theorem bt_dX {F : List Int} {L : Nat} (hl : F.length ≤ 11) (h : bt L F) : bt (L + 4) (dX F) := fun k => by
  rw [dX_co]
  split
  · rw [Int.natAbs_mul, Nat.pow_add]
    exact Nat.mul_lt_mul'' (h k) (show ((F.length : Int) - 1 - k).natAbs < 16 by omega)
  · exact Nat.two_pow_pos _
theorem bt_dY {F : List Int} {L : Nat} (hl : F.length ≤ 11) (h : bt L F) : bt (L + 4) (dY F) := fun k => by
  rw [dY_co]
  split
  · rw [Int.natAbs_mul, Nat.pow_add]
    exact Nat.mul_lt_mul'' (h (k + 1)) (show ((k : Int) + 1).natAbs < 16 by omega)
  · exact Nat.two_pow_pos _
theorem cut_rz {l : List Int} (h : co l 0 ≠ 0) : ∀ n, cut (List.replicate n 0 ++ l) = l
  | 0 => (cut_same h).1
  | n + 1 => by
    rw [List.replicate_succ, List.cons_append, cut_z, cut_rz h n]
theorem cut_ml {a b : List Int} (na : cut a ≠ []) (nb : cut b ≠ []) : cut (ml a b) = ml (cut a) (cut b) := by
  have la := cut_split a
  have lb := cut_split b
  have ca := List.length_pos_iff.mpr na
  have cb := List.length_pos_iff.mpr nb
  have na' : a ≠ [] := fun z => na (by rw [z]; rfl)
  have nb' : b ≠ [] := fun z => nb (by rw [z]; rfl)
  have e : ml a b = List.replicate (ah a + ah b) 0 ++ ml (cut a) (cut b) := ev_inj (by rw [ml_len, List.length_append, List.length_replicate, ml_len]; omega) fun x y => by
    rw [ev_ml na' nb', ev_ry, ev_ml na nb, ev_cut a, ev_cut b, Int.pow_add]
    grind
  rw [e]
  refine cut_rz ?_ _
  rw [co_ml nb]
  have h0 : cv (cut a) (co (cut b)) 0 = co (cut a) 0 * co (cut b) 0 := by
    match cut a, na with
    | x :: r, _ => rw [cv_zero]; rfl
  rw [h0]
  exact Int.mul_ne_zero (cut_lead na) (cut_lead nb)
theorem nm_cutA (l : List Int) : nm (cut l) ≤ nm l := by
  conv => rhs; rw [cut_rep l]
  unfold nm
  rw [List.map_append, List.sum_append]
  omega
/-- what divides a form and has no common divisor of its entries is small -/
theorem dv_bt {F T : List Int} {L : Nat} (hF : F.length ≤ 11) (nF : Nz (ev F)) (hb : nm F ≤ 2 ^ L) (hL : L ≤ 1000) (nT : Nz (ev T)) (pT : primE T = T) (d : Dv T.length F.length (ev T) (ev F)) : bt (L + 90) T := by
  have cT : cont T = 1 := by
    rw [← pT]
    refine prim_cont ?_
    rw [pT]
    exact Classical.byContradiction fun c => by
      obtain ⟨x, y, h0⟩ := nT
      refine h0 (ev_zero (fun z hz => ?_) x y)
      obtain ⟨k, _, ek⟩ := mem_co hz
      exact Classical.byContradiction fun q => c ⟨k, by rw [ek]; exact q⟩
  have hle := d.le nF
  obtain ⟨c, A, hc, hA, e⟩ := d
  obtain ⟨M, lM, eM⟩ := hA.list
  have nTl := ne_nz nT
  have nM : M ≠ [] := fun z => by rw [z, List.length_nil] at lM; omega
  have lT := List.length_pos_iff.mpr nTl
  have eq : F.map (c * ·) = ml T M := ev_inj (by rw [List.length_map, ml_len, lM]; omega) fun x y => by rw [ev_map, ev_ml nTl nM, eM, e]
  obtain ⟨Q, h1, h2⟩ := gauss_q hc cT nTl nM eq
  have nQ : Q ≠ [] := fun z => nM (List.length_eq_zero_iff.mp (by rw [← h2, z]; rfl))
  have cTn := cut_ne nT
  have cQn : cut Q ≠ [] := fun z => by
    obtain ⟨x, y, h0⟩ := nF
    apply h0
    rw [← h1, ev_ml nTl nQ, ev_cut Q, z, ev_nil, Int.mul_zero, Int.mul_zero]
  have e2 : ml (cut T) (cut Q) = cut F := by rw [← cut_ml cTn cQn, h1]
  have b := divW_bd e2 cTn cQn (Nat.le_trans (cut_len F) hF) (cut_lead (cut_ne nF)) (Nat.le_trans (nm_cutA F) hb) hL
  intro k
  rw [cut_rep T, co_app, List.length_replicate]
  split
  · rw [co_z]
    exact Nat.two_pow_pos _
  · exact b _
/-- what stands in the loop that counts -/
structure Gd (F l : List Int) : Prop where
  nz : Nz (ev l)
  len : l.length ≤ 11
  bt_ : bt 190 l
  dv : Dv l.length F.length (ev l) (ev F)
theorem bt_of_nm {l : List Int} {L : Nat} (h : nm l ≤ 2 ^ L) : bt (L + 1) l := mem_bt fun x hx => Nat.lt_of_le_of_lt (Nat.le_trans (nm_mem hx) h) (Nat.pow_lt_pow_right (by decide) (Nat.lt_succ_self L))
theorem Gd.start {F : List Int} (hF : F.length ≤ 11) (nF : Nz (ev F)) (hb : nm F ≤ 2 ^ 92) : Gd F F := ⟨nF, hF, (bt_of_nm hb).mono (by decide), Dv.self _⟩
theorem Gd.next {F l : List Int} (g : Gd F l) (hF : F.length ≤ 11) (nF : Nz (ev F)) (hb : nm F ≤ 2 ^ 92) (h2 : 2 ≤ l.length) : Gd F (lss l) := by
  obtain ⟨C, p⟩ := lss_com h2 g.nz
  have hl := lss_len h2 g.nz
  have nT := lss_nz h2 g.nz
  have d := (com_dv h2 C).trans g.dv
  have hl' := g.len
  exact ⟨nT, by omega, (dv_bt hF nF hb (by decide) nT p d).mono (by decide), d⟩
theorem Gd.cl {F l : List Int} (g : Gd F l) : ClOk (dX l) (dY l) := by
  have := g.len
  exact clOk_of (by rw [dX_len]; omega) (by rw [dY_len]; omega) (bt_dX g.len g.bt_) (bt_dY g.len g.bt_) (by decide)
theorem Gd.sm {F l : List Int} (g : Gd F l) : ∀ x ∈ l, sm x := fun x hx => by
  obtain ⟨k, _, ek⟩ := mem_co hx
  rw [← ek]
  exact Nat.lt_of_lt_of_le (g.bt_ k) (Nat.pow_le_pow_right (by decide) (by decide))
end K45

set_option Elab.async false
set_option linter.all false
set_option maxRecDepth 100000
set_option maxHeartbeats 2000000
set_option exponentiation.threshold 20000
/-! plain: products of lines and quadratic forms that are apart -/
namespace K45
open PySem PySem.Spec PyProof.Rows L2 FDivQ LA
def UQ : List (List Int) := [[1, 0, 1], [1, 0, -2], [1, 1, 1], [1, 0, -3], [1, 1, -1]]
def UP : List (List Int) := [[1, 0], [0, 1], [1, 1], [1, -1], [2, 1], [1, 3], [3, -2]]
def UL : List (List Int) := UP.map fun p => [co p 1, 0 - co p 0]
def UU : List (List Int) := UQ ++ UL
theorem apU : ∀ P ∈ UU, ∀ Q ∈ UU, P ≠ Q → cmn P Q = [1] := by decide +kernel
theorem lvU : ∀ P ∈ UU, P.any (· != 0) = true ∧ 2 ≤ P.length ∧ P.length ≤ 3 ∧ nm P ≤ 5 ∧ (lss P).length = 1 := by decide +kernel
theorem any_nz {l : List Int} (h : l.any (· != 0) = true) : Nz (ev l) := Classical.byContradiction fun c => by
  obtain ⟨x, hx, nx⟩ := List.any_eq_true.mp h
  have := ev0_all (fun a b => Classical.byContradiction fun z => c ⟨a, b, z⟩) x hx
  rw [this] at nx
  exact absurd nx (by decide)
theorem len1 {t : List Int} (h : t.length = 1) (nt : Nz (ev t)) : ∃ c, c ≠ 0 ∧ ∀ x y, ev t x y = c := by
  match t, h with
  | [c], _ =>
    have ec : ∀ x y, ev [c] x y = c := fun x y => by rw [ev_cons, ev_nil, List.length_nil, Int.pow_zero]; omega
    refine ⟨c, fun z => ?_, ec⟩
    obtain ⟨x, y, h0⟩ := nt
    exact h0 (by rw [ec, z])
theorem sqf_of {P : List Int} (h2 : 2 ≤ P.length) (nP : Nz (ev P)) (h : (lss P).length = 1) : Sqf P := by
  obtain ⟨C, _⟩ := lss_com h2 nP
  obtain ⟨c, c0, ec⟩ := len1 h C.nz
  rw [h] at C
  exact ⟨h2, C.scaleT Fm.one (a := 1) (b := c) (by decide) c0 fun x y => by rw [ec]; omega⟩
theorem sqfU {P : List Int} (h : P ∈ UU) : Sqf P := by
  obtain ⟨a, b, _, _, e⟩ := lvU P h
  exact sqf_of b (any_nz a) e
theorem ap_of {P Q : List Int} (nP : Nz (ev P)) (nQ : Nz (ev Q)) (h : cmn P Q = [1]) : Ap P.length Q.length (ev P) (ev Q) := by
  have C := cmn_com nP nQ
  rw [h] at C
  exact C.scaleT Fm.one (a := 1) (b := 1) (by decide) (by decide) fun x y => by rw [ev_one]
theorem ap_one (Z : List Int) : Ap [1].length Z.length (ev [1]) (ev Z) := by
  have e1 : ev [1] = fun _ _ => 1 := funext fun x => funext fun y => ev_one x y
  rw [e1]
  exact Com.divisor Fm.one nz1 (dv1 (Fm.of Z))
theorem ap_ml {X Y Z : List Int} (nX : Nz (ev X)) (nY : Nz (ev Y)) (nZ : Nz (ev Z)) (h1 : Ap X.length Z.length (ev X) (ev Z)) (h2 : Ap Y.length Z.length (ev Y) (ev Z)) : Ap (ml X Y).length Z.length (ev (ml X Y)) (ev Z) := by
  have e : ev (ml X Y) = fun x y => ev X x y * ev Y x y := funext fun x => funext fun y => ev_ml (ne_nz nX) (ne_nz nY) x y
  rw [e, ml_len]
  exact h1.mul h2 (nz_len nX) (nz_len nY) (nz_len nZ) (Fm.of X) (Fm.of Y) (Fm.of Z)
theorem ap_pow {P Z : List Int} (nP : Nz (ev P)) (nZ : Nz (ev Z)) (h : Ap P.length Z.length (ev P) (ev Z)) : ∀ e, Ap (pow P e).length Z.length (ev (pow P e)) (ev Z)
  | 0 => ap_one Z
  | e + 1 => ap_ml (nz_pow nP e) nP nZ (ap_pow nP nZ h e) h
theorem nm_pow {P : List Int} {b : Nat} (h : nm P ≤ b) : ∀ e, nm (pow P e) ≤ b ^ e
  | 0 => Nat.le_refl _
  | e + 1 => by
    rw [Nat.pow_succ]
    exact Nat.le_trans (nm_ml (pow P e) P) (Nat.mul_le_mul (nm_pow h e) h)
theorem pow_lenU {P : List Int} (nP : P ≠ []) : ∀ e, (pow P e).length = (P.length - 1) * e + 1
  | 0 => by
    show 1 = (P.length - 1) * 0 + 1
    omega
  | e + 1 => by
    show (ml (pow P e) P).length = _
    have := List.length_pos_iff.mpr nP
    rw [ml_len, pow_lenU nP e, Nat.mul_succ]
    omega
/-- a product of powers, and what is left to be taken -/
structure Fz (n left most : Nat) (G : List Int) (R : List (List Int)) : Prop where
  nz : Nz (ev G)
  len : G.length + left = n + 1
  most : gtm G = most
  nm : nm G * 5 ^ left ≤ 3 * 5 ^ n
  rU : ∀ Q ∈ R, Q ∈ UU
  rN : R.Nodup
  ap : ∀ Q ∈ R, Ap Q.length G.length (ev Q) (ev G)
theorem Fz.start {n : Nat} {c : Int} (c0 : c ≠ 0) (c3 : c.natAbs ≤ 3) {R : List (List Int)} (rU : ∀ Q ∈ R, Q ∈ UU) (rN : R.Nodup) : Fz n n 0 [c] R := by
  have ec : ∀ x y, ev [c] x y = c := fun x y => by rw [ev_cons, ev_nil, List.length_nil, Int.pow_zero]; omega
  refine ⟨⟨0, 0, by rw [ec]; exact c0⟩, by show 1 + n = n + 1; omega, gtm_one (Nat.le_refl 1), Nat.mul_le_mul_right _ (show c.natAbs + 0 ≤ 3 by omega), rU, rN, fun Q hQ => ?_⟩
  have d : Dv [c].length [1].length (ev [c]) (ev [1]) := ⟨c, fun _ _ => 1, c0, Fm.one.cast rfl, fun x y => by
    show c * ev [1] x y = ev [c] x y * 1
    rw [ec, ev_one]⟩
  exact ((ap_one Q).dvl (Fm.of [c]) d (Fm.of Q)).sw
theorem Fz.next {n left most : Nat} {G P : List Int} {R R' : List (List Int)} (h : Fz n left most G R) (hp : R.Perm (P :: R')) {e : Nat} (he : (P.length - 1) * e ≤ left) : Fz n (left - (P.length - 1) * e) (max most e) (ml G (pow P e)) R' := by
  have mP : P ∈ R := hp.mem_iff.mpr (.head _)
  have hU := h.rU P mP
  obtain ⟨a, b, b3, c, d⟩ := lvU P hU
  have nP := any_nz a
  have nG := h.nz
  have nPe := nz_pow nP e
  have nd : (P :: R').Nodup := hp.nodup_iff.mp h.rN
  obtain ⟨nPR, nR⟩ := List.nodup_cons.mp nd
  have lG := h.len
  have lp := pow_lenU (ne_nz nP) e
  have e1 : e ≤ (P.length - 1) * e := Nat.le_mul_of_pos_left _ (by omega)
  refine ⟨nz_ml nG nPe, ?_, ?_, ?_, fun Q hQ => h.rU Q (hp.mem_iff.mpr (.tail _ hQ)), nR, fun Q hQ => ?_⟩
  · rw [ml_len, lp]
    omega
  · rw [ml_comm, gtm_pow (sqfU hU) e G nG (h.ap P mP), h.most, Nat.max_comm]
  · refine Nat.le_trans ?_ h.nm
    refine Nat.le_trans (Nat.mul_le_mul_right _ (Nat.le_trans (nm_ml G (pow P e)) (Nat.mul_le_mul_left _ (nm_pow c e)))) ?_
    rw [Nat.mul_assoc, ← Nat.pow_add]
    exact Nat.mul_le_mul_left _ (Nat.pow_le_pow_right (by decide) (by omega))
  · have mQ : Q ∈ R := hp.mem_iff.mpr (.tail _ hQ)
    have hQU := h.rU Q mQ
    have nQ := any_nz (lvU Q hQU).1
    have ne : P ≠ Q := fun z => nPR (by rw [z]; exact hQ)
    exact (ap_ml nG nPe nQ (h.ap Q mQ).sw (ap_pow nP nQ (ap_of nP nQ (apU P hU Q hQU ne)) e)).sw
end K45

set_option Elab.async false
set_option linter.all false
set_option maxRecDepth 100000
set_option maxHeartbeats 4000000
/-! lines that divide forms: the plain law -/
namespace K45
theorem ev_line (u v x y : Int) : ev [v, -u] x y = v * x - u * y := by
  rw [ev2]
  grind
/-- l is the line of (u, v), k times, and a form that is not 0 there -/
structure Fac (l : List Int) (u v : Int) (k : Nat) (r : List Int) : Prop where
  eq : l = ml (pow [v, -u] k) r
  nz : ev r u v ≠ 0
  ne : r ≠ []
theorem line_ne (u v : Int) : ([v, -u] : List Int) ≠ [] := by simp
theorem pow_line_ne (u v : Int) (k : Nat) : pow [v, -u] k ≠ [] := pow_ne (line_ne u v) k
theorem Fac.len {l r : List Int} {u v : Int} {k : Nat} (F : Fac l u v k r) : l.length = k + r.length := by
  rw [F.eq, ml_len, pow_len rfl]
  omega
theorem Fac.ln {l r : List Int} {u v : Int} {k : Nat} (F : Fac l u v k r) : l ≠ [] := by
  rw [F.eq]
  exact ml_ne (pow_line_ne u v k) F.ne
theorem Fac.ev {l r : List Int} {u v : Int} {k : Nat} (F : Fac l u v k r) (x y : Int) : ev l x y = (v * x - u * y) ^ k * ev r x y := by
  rw [F.eq, ev_ml (pow_line_ne u v k) F.ne, ev_pow (line_ne u v), ev_line]
theorem Fac.ml {l m r s : List Int} {u v : Int} {k j : Nat} (F : Fac l u v k r) (G : Fac m u v j s) : Fac (ml l m) u v (k + j) (ml r s) := by
  refine ⟨ev_inj ?_ fun x y => ?_, ?_, ml_ne F.ne G.ne⟩
  · have l1 := F.len
    have l2 := G.len
    have := List.length_pos_iff.mpr F.ne
    have := List.length_pos_iff.mpr G.ne
    rw [ml_len, ml_len, pow_len rfl, ml_len]
    omega
  · rw [ev_ml F.ln G.ln, F.ev, G.ev, ev_ml (pow_line_ne u v _) (ml_ne F.ne G.ne), ev_ml F.ne G.ne, ev_pow (line_ne u v), ev_line, Int.pow_add]
    grind
  · rw [ev_ml F.ne G.ne]
    exact Int.mul_ne_zero F.nz G.nz
end K45

set_option Elab.async false
set_option linter.all false
set_option maxRecDepth 100000
set_option maxHeartbeats 2000000
set_option exponentiation.threshold 20000
/-! plain: forms with one line that stands more often than half the degree -/
namespace K45
open PySem PySem.Spec PyProof.Rows L2 FDivQ LA
/-- a form that is changed so that the line becomes y -/
theorem fac_entries {u v b d c : Int} {F r : List Int} {m : Nat} (hF : Fac F u v m r) (hc : c ≠ 0) (e : ∀ x y : Int, v * (u * x + b * y) - u * (v * x + d * y) = c * y) :
    ∃ G : List Int, changed [u, b] [v, d] F = List.replicate m 0 ++ G ∧ co G 0 ≠ 0 ∧ 1 ≤ G.length := by
  have l1 := List.length_pos_iff.mpr hF.ne
  have lc := changed_len (X := [u, b]) (Y := [v, d]) rfl rfl hF.ne
  have e2 : ∀ (p q x y : Int), ev [p, q] x y = p * x + q * y := fun p q x y => by rw [ev2]
  have e3 : ∀ x y, ev (changed [u, b] [v, d] r) x y = ev r (u * x + b * y) (v * x + d * y) := fun x y => by rw [ev_changed rfl rfl hF.ne, e2, e2]
  refine ⟨(changed [u, b] [v, d] r).map (c ^ m * ·), ev_inj ?_ fun x y => ?_, ?_, by rw [List.length_map, lc]; exact l1⟩
  · rw [changed_len rfl rfl hF.ln, List.length_append, List.length_replicate, List.length_map, lc, hF.len]
  · rw [ev_changed rfl rfl hF.ln, ev_ry, ev_map, e3, e2, e2, hF.ev, e, Int.mul_pow]
    grind
  · rw [← ev_lead, ev_map, e3]
    refine Int.mul_ne_zero (pow_nzB hc m) ?_
    rw [Int.mul_one, Int.mul_zero, Int.add_zero, Int.mul_one, Int.mul_zero, Int.add_zero]
    exact hF.nz
end K45

set_option Elab.async false
set_option linter.all false
set_option maxRecDepth 100000
set_option maxHeartbeats 2000000
set_option exponentiation.threshold 20000
/-! plain: what layings of a form with itself tell, when the form is changed -/
namespace K45
open PySem PySem.Spec PyProof.Rows L2 FDivQ LA
/-- made of layings alone: of the degree m, the order s, the weight k -/
structure Iv (n : Nat) (G : List Int → List Int) (m s k c : Nat) : Prop where
  wt : m + 2 * k = n * s
  len : ∀ F, F.length = n + 1 → (G F).length = m + 1
  cov : ∀ (a b u v : Int) (F : List Int), F.length = n + 1 → G (changed [a, b] [u, v] F) = (changed [a, b] [u, v] (G F)).map ((a * v - b * u) ^ k * ·)
  bd : ∀ (F : List Int) (A : Nat), Bd F n A → Bd (G F) m (2 ^ c * A ^ s)
theorem Iv.base (n : Nat) : Iv n (fun F => F) n 1 0 0 := ⟨by omega, fun F h => h, fun a b u v F h => by
  have : (fun x : Int => (a * v - b * u) ^ 0 * x) = fun x => x := funext fun x => by rw [Int.pow_zero, Int.one_mul]
  rw [this, List.map_id'], fun F A h => by rw [Nat.pow_zero, Nat.one_mul, Nat.pow_one]; exact h⟩
theorem Iv.lay {n m s k c m' s' k' c' : Nat} {G G' : List Int → List Int} (h : Iv n G m s k c) (h' : Iv n G' m' s' k' c') {t : Nat} (t1 : t ≤ m) (t2 : t ≤ m') (m7 : m ≤ 7) (m7' : m' ≤ 7) :
    Iv n (fun F => L t (G F) (G' F)) (m + m' - 2 * t) (s + s') (k + k' + t) (7 * t + (c + c')) := by
  have ln : ∀ F, F.length = n + 1 → (L t (G F) (G' F)).length = m + m' - 2 * t + 1 := fun F e => by
    have l1 := h.len F e
    have l2 := h'.len F e
    rw [L_len t _ _ (by omega) (by omega)]
    omega
  refine ⟨?_, ln, fun a b u v F e => ?_, fun F A hA => ?_⟩
  · have h1 := h.wt
    have h2 := h'.wt
    rw [Nat.mul_add n, ← h1, ← h2]
    omega
  · have l1 := h.len F e
    have l2 := h'.len F e
    have n1 : G F ≠ [] := fun z => by rw [z] at l1; cases l1
    have n2 : G' F ≠ [] := fun z => by rw [z] at l2; cases l2
    have c1 := changed_len (X := [a, b]) (Y := [u, v]) rfl rfl n1
    have c2 := changed_len (X := [a, b]) (Y := [u, v]) rfl rfl n2
    have lL := ln F e
    have nL : L t (G F) (G' F) ≠ [] := fun z => by rw [z] at lL; cases lL
    have c3 := changed_len (X := [a, b]) (Y := [u, v]) rfl rfl nL
    have cl := L_changed_list (a := a) (b := b) (c := u) (e := v) (t := t) (f := G F) (g := G' F) (by omega) (by omega)
    rw [map_mul_comm] at cl
    rw [h.cov a b u v F e, h'.cov a b u v F e]
    refine ev_inj ?_ fun x y => ?_
    · rw [L_len t _ _ (by rw [map_len]; omega) (by rw [map_len]; omega), map_len, map_len, map_len, c1, c2, c3, lL]
      omega
    · rw [L_mapl _ x y t _ _ (by omega) (by rw [map_len]; omega), L_mapr _ x y t _ _ (by omega) (by omega), cl, ev_map, ev_map, Int.pow_add, Int.pow_add]
      grind
  · have b1 := h.bd F A hA
    have b2 := h'.bd F A hA
    refine (L_bd t b1 b2 m7 m7' t1 t2).mono (Nat.le_of_eq ?_)
    rw [Nat.pow_add 2 (7 * t), Nat.pow_add 2 c, Nat.pow_add A]
    generalize 2 ^ (7 * t) = p
    generalize 2 ^ c = q
    generalize 2 ^ c' = r
    generalize A ^ s = x
    generalize A ^ s' = y
    grind
/-- the number that is told -/
theorem Iv.one {n s k c : Nat} {G : List Int → List Int} (h : Iv n G 0 s k c) {F : List Int} (l : F.length = n + 1) : G F = [co (G F) 0] := by
  have := h.len F l
  match G F, this with
  | [x], _ => rfl
theorem changed_one (X Y : List Int) (x : Int) : changed X Y [x] = [x] := rfl
theorem Iv.num {n s k c : Nat} {G : List Int → List Int} (h : Iv n G 0 s k c) {F : List Int} (l : F.length = n + 1) (a b u v : Int) : co (G (changed [a, b] [u, v] F)) 0 = (a * v - b * u) ^ k * co (G F) 0 := by
  rw [h.cov a b u v F l, h.one l, changed_one]
  rfl
theorem Iv.abs {n s k c : Nat} {G : List Int → List Int} (h : Iv n G 0 s k c) {F : List Int} (l : F.length = n + 1) : (co (G F) 0).natAbs ≤ 2 ^ c * nm F ^ s := by
  have b := (h.bd F (nm F) ⟨l, Nat.le_refl _⟩).nm
  rw [h.one l] at b
  have : nm [co (G F) 0] = (co (G F) 0).natAbs := Nat.add_zero _
  rw [this] at b
  exact b
/-! ### entries with weights -/
def dg (t : Int) : List Int → List Int
  | [] => []
  | a :: l => a * t ^ l.length :: dg t l
theorem dg_len (t : Int) : ∀ l : List Int, (dg t l).length = l.length
  | [] => rfl
  | a :: l => by
    show (dg t l).length + 1 = l.length + 1
    rw [dg_len t l]
theorem ev_dg (t x y : Int) : ∀ l : List Int, ev (dg t l) x y = t * 0 + ev l (t * x) y
  | [] => by
    show ev [] x y = _
    rw [ev_nil, ev_nil]
    omega
  | a :: l => by
    show ev (a * t ^ l.length :: dg t l) x y = _
    rw [ev_cons, ev_cons, dg_len, ev_dg t x y l, Int.mul_pow]
    grind
theorem dg_changed {t : Int} {l : List Int} (nl : l ≠ []) : changed [t, 0] [0, 1] l = dg t l := by
  refine ev_inj (by rw [changed_len rfl rfl nl, dg_len]) fun x y => ?_
  rw [ev_changed rfl rfl nl, ev2, ev2, ev_dg, show t * x + 0 * y = t * x by omega, show 0 * x + 1 * y = y by omega]
  omega
theorem dg_zeros (t : Int) (G : List Int) : ∀ p : Nat, dg t (List.replicate p 0 ++ G) = List.replicate p 0 ++ dg t G
  | 0 => rfl
  | p + 1 => by
    show 0 * _ :: dg t (List.replicate p 0 ++ G) = 0 :: (List.replicate p 0 ++ dg t G)
    rw [Int.zero_mul, dg_zeros t G p]
theorem nm_zeros (G : List Int) : ∀ p : Nat, nm (List.replicate p 0 ++ G) = nm G
  | 0 => rfl
  | p + 1 => by
    show (0 : Int).natAbs + nm (List.replicate p 0 ++ G) = nm G
    rw [nm_zeros G p]
    exact Nat.zero_add _
theorem nm_dg {t : Nat} (t1 : 1 ≤ t) : ∀ (l : List Int) (e : Nat), l.length ≤ e + 1 → nm (dg (t : Int) l) ≤ t ^ e * nm l
  | [], e, _ => Nat.zero_le _
  | a :: l, e, h => by
    have h : l.length + 1 ≤ e + 1 := h
    have ih := nm_dg t1 l e (by omega)
    show (a * (t : Int) ^ l.length).natAbs + nm (dg (t : Int) l) ≤ t ^ e * (a.natAbs + nm l)
    rw [Int.natAbs_mul, Int.natAbs_pow, Int.natAbs_natCast, Nat.mul_add, Nat.mul_comm a.natAbs]
    exact Nat.add_le_add (Nat.mul_le_mul_right _ (Nat.pow_le_pow_right t1 (by omega))) ih
/-- a form whose first entries, more than half of them, are 0 tells zeros -/
theorem Iv.gone {n s k c p : Nat} {G : List Int → List Int} (h : Iv n G 0 s k c) (s1 : 1 ≤ s) {E : List Int} (l : (List.replicate p 0 ++ E).length = n + 1) (hp : n < 2 * p) (pn : p ≤ n) : co (G (List.replicate p 0 ++ E)) 0 = 0 := by
  refine Classical.byContradiction fun ne => ?_
  obtain ⟨F, eF⟩ : ∃ F, F = List.replicate p 0 ++ E := ⟨_, rfl⟩
  rw [← eF] at l ne
  have nF : F ≠ [] := fun z => by rw [z] at l; cases l
  obtain ⟨C, eC⟩ : ∃ C, C = 2 ^ c * nm F ^ s := ⟨_, rfl⟩
  have lE : E.length = n - p + 1 := by
    have := l
    rw [eF, List.length_append, List.length_replicate] at this
    omega
  have key := h.num l ((C + 1 : Nat) : Int) 0 0 1
  rw [dg_changed nF, show ((C + 1 : Nat) : Int) * 1 - 0 * 0 = ((C + 1 : Nat) : Int) by omega] at key
  have ab := h.abs (F := dg ((C + 1 : Nat) : Int) F) (by rw [dg_len]; exact l)
  rw [key, Int.natAbs_mul, Int.natAbs_pow, Int.natAbs_natCast] at ab
  have nd : nm (dg ((C + 1 : Nat) : Int) F) ≤ (C + 1) ^ (n - p) * nm F := by
    rw [eF, dg_zeros, nm_zeros, nm_zeros]
    exact nm_dg (by omega) E (n - p) (by omega)
  have ab2 : (C + 1) ^ k * (co (G F) 0).natAbs ≤ 2 ^ c * ((C + 1) ^ (n - p) * nm F) ^ s := Nat.le_trans ab (Nat.mul_le_mul_left _ (Nat.pow_le_pow_left nd s))
  rw [Nat.mul_pow, ← Nat.pow_mul] at ab2
  have hk : (n - p) * s + 1 ≤ k := by
    have hw := h.wt
    have : (n - p) * s * 2 + s ≤ n * s := by
      have e1 : (n - p) * 2 + 1 ≤ n := by omega
      have := Nat.mul_le_mul_right s e1
      rw [Nat.add_mul, Nat.one_mul, Nat.mul_assoc, Nat.mul_comm 2 s, ← Nat.mul_assoc] at this
      exact this
    omega
  have e3 : (C + 1) ^ ((n - p) * s + 1) * 1 ≤ (C + 1) ^ k * (co (G F) 0).natAbs := Nat.mul_le_mul (Nat.pow_le_pow_right (by omega) hk) (by omega)
  have e4 : 2 ^ c * ((C + 1) ^ ((n - p) * s) * nm F ^ s) = (C + 1) ^ ((n - p) * s) * C := by
    rw [eC]
    generalize (2 ^ c * nm F ^ s + 1) ^ ((n - p) * s) = z
    generalize 2 ^ c = z2
    generalize nm F ^ s = z3
    grind
  rw [e4] at ab2
  have e5 := Nat.le_trans e3 ab2
  rw [Nat.mul_one, Nat.pow_succ] at e5
  have := Nat.le_of_mul_le_mul_left e5 (Nat.pow_pos (by omega))
  omega
end K45

set_option Elab.async false
set_option linter.all false
set_option maxRecDepth 100000
set_option maxHeartbeats 2000000
set_option exponentiation.threshold 20000
/-! plain: the told numbers of a form of a degree from 1 to 6 -/
namespace K45
open PySem PySem.Spec PyProof.Rows L2 FDivQ LA
abbrev LL := List Int → List Int
def i2 : LL := fun F => L 2 F F
def i3 : LL := fun F => L 2 (i2 F) (i2 F)
def q4 : LL := fun F => L 4 F F
def r4 : LL := fun F => L 4 F (i2 F)
def t5 : LL := fun F => L 2 F (q4 F)
def s5 : LL := fun F => L 2 (t5 F) (t5 F)
def a5 : LL := fun F => L 2 (q4 F) (q4 F)
def b5 : LL := fun F => L 2 (q4 F) (s5 F)
def c5 : LL := fun F => L 2 (s5 F) (s5 F)
def w6 : LL := fun F => L 4 F (q4 F)
def m6 : LL := fun F => L 2 (q4 F) (q4 F)
def k6 : LL := fun F => L 2 (q4 F) (w6 F)
def l6 : LL := fun F => L 2 (q4 F) (k6 F)
def a6 : LL := fun F => L 6 F F
def b6 : LL := fun F => L 4 (q4 F) (q4 F)
def c6 : LL := fun F => L 4 (q4 F) (m6 F)
def d6 : LL := fun F => L 2 (l6 F) (w6 F)
theorem v2 : Iv 2 i2 0 2 2 14 := (Iv.base 2).lay (Iv.base 2) (t := 2) (by decide) (by decide) (by decide) (by decide)
theorem v3h : Iv 3 i2 2 2 2 14 := (Iv.base 3).lay (Iv.base 3) (t := 2) (by decide) (by decide) (by decide) (by decide)
theorem v3 : Iv 3 i3 0 4 6 42 := v3h.lay v3h (t := 2) (by decide) (by decide) (by decide) (by decide)
theorem v4h : Iv 4 i2 4 2 2 14 := (Iv.base 4).lay (Iv.base 4) (t := 2) (by decide) (by decide) (by decide) (by decide)
theorem v4a : Iv 4 q4 0 2 4 28 := (Iv.base 4).lay (Iv.base 4) (t := 4) (by decide) (by decide) (by decide) (by decide)
theorem v4b : Iv 4 r4 0 3 6 42 := (Iv.base 4).lay v4h (t := 4) (by decide) (by decide) (by decide) (by decide)
theorem v5q : Iv 5 q4 2 2 4 28 := (Iv.base 5).lay (Iv.base 5) (t := 4) (by decide) (by decide) (by decide) (by decide)
theorem v5t : Iv 5 t5 3 3 6 42 := (Iv.base 5).lay v5q (t := 2) (by decide) (by decide) (by decide) (by decide)
theorem v5s : Iv 5 s5 2 6 14 98 := v5t.lay v5t (t := 2) (by decide) (by decide) (by decide) (by decide)
theorem v5a : Iv 5 a5 0 4 10 70 := v5q.lay v5q (t := 2) (by decide) (by decide) (by decide) (by decide)
theorem v5b : Iv 5 b5 0 8 20 140 := v5q.lay v5s (t := 2) (by decide) (by decide) (by decide) (by decide)
theorem v5c : Iv 5 c5 0 12 30 210 := v5s.lay v5s (t := 2) (by decide) (by decide) (by decide) (by decide)
theorem v6q : Iv 6 q4 4 2 4 28 := (Iv.base 6).lay (Iv.base 6) (t := 4) (by decide) (by decide) (by decide) (by decide)
theorem v6w : Iv 6 w6 2 3 8 56 := (Iv.base 6).lay v6q (t := 4) (by decide) (by decide) (by decide) (by decide)
theorem v6m : Iv 6 m6 4 4 10 70 := v6q.lay v6q (t := 2) (by decide) (by decide) (by decide) (by decide)
theorem v6k : Iv 6 k6 2 5 14 98 := v6q.lay v6w (t := 2) (by decide) (by decide) (by decide) (by decide)
theorem v6l : Iv 6 l6 2 7 20 140 := v6q.lay v6k (t := 2) (by decide) (by decide) (by decide) (by decide)
theorem v6a : Iv 6 a6 0 2 6 42 := (Iv.base 6).lay (Iv.base 6) (t := 6) (by decide) (by decide) (by decide) (by decide)
theorem v6b : Iv 6 b6 0 4 12 84 := v6q.lay v6q (t := 4) (by decide) (by decide) (by decide) (by decide)
theorem v6c : Iv 6 c6 0 6 18 126 := v6q.lay v6m (t := 4) (by decide) (by decide) (by decide) (by decide)
theorem v6d : Iv 6 d6 0 10 30 210 := v6l.lay v6w (t := 2) (by decide) (by decide) (by decide) (by decide)
/-- what is told of a form of the degree n, with its orders -/
def tls : Nat → List (LL × Nat)
  | 2 => [(i2, 2)]
  | 3 => [(i3, 4)]
  | 4 => [(q4, 2), (r4, 3)]
  | 5 => [(a5, 4), (b5, 8), (c5, 12)]
  | 6 => [(a6, 2), (b6, 4), (c6, 6), (d6, 10)]
  | _ => []
def szs (n : Nat) : List Nat := (tls n).map (·.2)
def tld (F : List Int) : List Int := (tls (F.length - 1)).map fun g => co (g.1 F) 0
def Pg (n : Nat) (g : LL × Nat) : Prop := ∃ k c, Iv n g.1 0 g.2 k c ∧ 1 ≤ g.2 ∧ c ≤ 210 ∧ g.2 ≤ 12
theorem pg_nil {n : Nat} : ∀ g ∈ ([] : List (LL × Nat)), Pg n g := fun g h => absurd h List.not_mem_nil
theorem pg_cons {n s k c : Nat} {G : LL} {l : List (LL × Nat)} (h : Iv n G 0 s k c) (a : 1 ≤ s) (b : c ≤ 210) (d : s ≤ 12) (t : ∀ g ∈ l, Pg n g) : ∀ g ∈ (G, s) :: l, Pg n g := fun g hg => by
  rcases List.mem_cons.mp hg with e | e
  · rw [e]
    exact ⟨k, c, h, a, b, d⟩
  · exact t g e
theorem tls2 : ∀ g ∈ [(i2, 2)], Pg 2 g := pg_cons v2 (by decide) (by decide) (by decide) pg_nil
theorem tls3 : ∀ g ∈ [(i3, 4)], Pg 3 g := pg_cons v3 (by decide) (by decide) (by decide) pg_nil
theorem tls4 : ∀ g ∈ [(q4, 2), (r4, 3)], Pg 4 g := pg_cons v4a (by decide) (by decide) (by decide) (pg_cons v4b (by decide) (by decide) (by decide) pg_nil)
theorem tls5 : ∀ g ∈ [(a5, 4), (b5, 8), (c5, 12)], Pg 5 g := pg_cons v5a (by decide) (by decide) (by decide) (pg_cons v5b (by decide) (by decide) (by decide) (pg_cons v5c (by decide) (by decide) (by decide) pg_nil))
theorem tls6 : ∀ g ∈ [(a6, 2), (b6, 4), (c6, 6), (d6, 10)], Pg 6 g := pg_cons v6a (by decide) (by decide) (by decide) (pg_cons v6b (by decide) (by decide) (by decide) (pg_cons v6c (by decide) (by decide) (by decide) (pg_cons v6d (by decide) (by decide) (by decide) pg_nil)))
theorem tls_iv (n : Nat) (hn : n ≤ 6) : ∀ g ∈ tls n, Pg n g := by
  have : n = 0 ∨ n = 1 ∨ n = 2 ∨ n = 3 ∨ n = 4 ∨ n = 5 ∨ n = 6 := by omega
  rcases this with e | e | e | e | e | e | e <;> subst e
  · exact pg_nil
  · exact pg_nil
  · exact tls2
  · exact tls3
  · exact tls4
  · exact tls5
  · exact tls6
/-- a form with a line that stands more than half tells zeros only -/
theorem told_fac {u v : Int} {F R : List Int} {m n : Nat} (hp : Pt u v) (hF : Fac F u v m R) (l : F.length = n + 1) (n6 : n ≤ 6) (h : n < 2 * m) : ∀ x ∈ tld F, x = 0 := by
  intro x hx
  unfold tld at hx
  obtain ⟨g, hg, rfl⟩ := List.mem_map.mp hx
  rw [l, Nat.add_sub_cancel] at hg
  obtain ⟨k, c, iv, s1, _⟩ := tls_iv n n6 g hg
  obtain ⟨b, d, c0, e, q⟩ : ∃ b d c0 : Int, c0 ≠ 0 ∧ (∀ x y : Int, v * (u * x + b * y) - u * (v * x + d * y) = c0 * y) := by
    by_cases z : u = 0
    · have v1 : v ≠ 0 := fun q => hp.ne (by rw [z, q])
      exact ⟨1, 0, v, v1, fun x y => by rw [z]; grind⟩
    · exact ⟨0, 1, -u, by omega, fun x y => by grind⟩
  obtain ⟨G, eG, g0, g1⟩ := fac_entries hF e q
  have lG : (List.replicate m (0 : Int) ++ G).length = n + 1 := by rw [← eG, changed_len rfl rfl hF.ln, l]
  have hm : m ≤ n := by
    rw [List.length_append, List.length_replicate] at lG
    omega
  have gone := iv.gone s1 lG h hm
  rw [← eG, iv.num l] at gone
  refine (Int.mul_eq_zero.mp gone).resolve_left (pow_nzB (fun z => ?_) k)
  have e1 := q 0 1
  grind
theorem told_abs {F : List Int} {n : Nat} (l : F.length = n + 1) (n6 : n ≤ 6) (h : nm F ≤ 2 ^ 110) : ∀ x ∈ tld F, x.natAbs ≤ 2 ^ 1530 := by
  intro x hx
  unfold tld at hx
  obtain ⟨g, hg, rfl⟩ := List.mem_map.mp hx
  rw [l, Nat.add_sub_cancel] at hg
  obtain ⟨k, c, iv, s1, c1, s2⟩ := tls_iv n n6 g hg
  refine Nat.le_trans (iv.abs l) ?_
  have h1 : nm F ^ g.2 ≤ 2 ^ (110 * 12) := Nat.le_trans (Nat.pow_le_pow_left h _) (by rw [← Nat.pow_mul]; exact Nat.pow_le_pow_right (by decide) (Nat.mul_le_mul_left _ s2))
  refine Nat.le_trans (Nat.mul_le_mul (Nat.pow_le_pow_right (by decide) c1) h1) ?_
  rw [← Nat.pow_add]
  exact Nat.le_refl _
theorem tld_len {F : List Int} {n : Nat} (h : F.length = n + 1) : tld F = (tls n).map fun g => co (g.1 F) 0 := by
  unfold tld
  rw [h, Nat.add_sub_cancel]
theorem mp_nil (F : List Int) : (([] : List (LL × Nat)).map fun g => co (g.1 F) 0) = [] := rfl
theorem mp_cons (F : List Int) (G : LL) (s : Nat) (l : List (LL × Nat)) : (((G, s) :: l).map fun g => co (g.1 F) 0) = co (G F) 0 :: l.map fun g => co (g.1 F) 0 := rfl
theorem tl2 : tls 2 = [(i2, 2)] := rfl
theorem tl3 : tls 3 = [(i3, 4)] := rfl
theorem tl4 : tls 4 = [(q4, 2), (r4, 3)] := rfl
theorem tl5 : tls 5 = [(a5, 4), (b5, 8), (c5, 12)] := rfl
theorem tl6 : tls 6 = [(a6, 2), (b6, 4), (c6, 6), (d6, 10)] := rfl
theorem tld1 {F : List Int} (h : F.length = 1 + 1) : tld F = [] := by rw [tld_len h]; rfl
theorem tld2 {F : List Int} (h : F.length = 2 + 1) : tld F = [co (i2 F) 0] := by rw [tld_len h, tl2, mp_cons, mp_nil]
theorem tld3 {F : List Int} (h : F.length = 3 + 1) : tld F = [co (i3 F) 0] := by rw [tld_len h, tl3, mp_cons, mp_nil]
theorem tld4 {F : List Int} (h : F.length = 4 + 1) : tld F = [co (q4 F) 0, co (r4 F) 0] := by rw [tld_len h, tl4, mp_cons, mp_cons, mp_nil]
theorem tld5 {F : List Int} (h : F.length = 5 + 1) : tld F = [co (a5 F) 0, co (b5 F) 0, co (c5 F) 0] := by rw [tld_len h, tl5, mp_cons, mp_cons, mp_cons, mp_nil]
theorem tld6 {F : List Int} (h : F.length = 6 + 1) : tld F = [co (a6 F) 0, co (b6 F) 0, co (c6 F) 0, co (d6 F) 0] := by rw [tld_len h, tl6, mp_cons, mp_cons, mp_cons, mp_cons, mp_nil]
theorem ld_iv {n m s k c m' s' k' c' t : Nat} {G G' : LL} {F : List Int} (h : Iv n G m s k c) (h' : Iv n G' m' s' k' c') (b : Bd F n (2 ^ 110)) (t1 : t ≤ m) (t2 : t ≤ m') (m7 : m ≤ 7) (m7' : m' ≤ 7) (hc : c + 110 * s ≤ 1400) (hc' : c' + 110 * s' ≤ 1400) : LdOk t (G F) (G' F) ∧ (G F).length + (G' F).length ≤ 42 := by
  have b1 : Bd (G F) m (2 ^ 1400) := (h.bd F _ b).mono (by rw [← Nat.pow_mul, ← Nat.pow_add]; exact Nat.pow_le_pow_right (by decide) hc)
  have b2 : Bd (G' F) m' (2 ^ 1400) := (h'.bd F _ b).mono (by rw [← Nat.pow_mul, ← Nat.pow_add]; exact Nat.pow_le_pow_right (by decide) hc')
  have l1 := b1.len
  have l2 := b2.len
  refine ⟨⟨by omega, by omega, by omega, by omega, fun i j hij => Nat.le_trans (dd_nm b1 m7 (by omega)) ?_, fun i j hij => Nat.le_trans (dd_nm b2 m7' (by omega)) ?_⟩, by omega⟩
  · rw [← Nat.pow_add]
    exact Nat.pow_le_pow_right (by decide) (by decide)
  · rw [← Nat.pow_add]
    exact Nat.pow_le_pow_right (by decide) (by decide)
end K45

set_option Elab.async false
set_option linter.all false
set_option maxRecDepth 100000
set_option maxHeartbeats 4000000
set_option exponentiation.threshold 10000
/-! lines without zeros, without common divisors -/
namespace K45
open PySem PySem.Spec PyProof.Rows L2 StX RZ MyR SlX OwnR OwnF EnumT SeqE GxR GenNx FDivQ
section
variable {P : Program} {w : World} {K : PySem.W.Frag} {mg : Str → Option Value} {base : Heap} {Ps : List Addr}
def spCut : Sp := fun vs H Q _ => ∃ (t : Addr) (l : List Int), vs = [.ref t] ∧ (H t = some (tp l) ∨ H t = some (ls l)) ∧ l.length ≤ 100 ∧ ∀ p H', Same H H' → H' p = some (ls (cut l)) → Q (.ref p) H'
theorem ok_without_zeros (T : Facts K mg) : FnOk P w K mg base CX0 1 T.f_without_zeros T.fd_without_zeros ["line"] spCut := by
  refine T.F_without_zeros.ok sc_without_zeros (fun vs H Q E h => ?_) (fun cdv A outer s H vs Q E hr h => ?_)
  · obtain ⟨t, l, rfl, _⟩ := h
    rfl
  · obtain ⟨t, l, rfl, ht, hl, q⟩ := h
    refine ⟨_, (PSs.nox (pss_cons (ps_set (i := 1) sc_without_zeros.nd rfl (.inl rfl) pe_int)
    (pss_cons (ps_while PassesOwn.never (pw_and (pt_cmpR op_lt (pv 1) (pe_callB call_len_seq (by rfl) T.z_len (by decide +kernel) (pa_cons (pv 0) pa_nil)) (nomark _)) (pw_and1 (pt_cmpR op_eq (pe_ix ix_seq (pv 0) (pv 1) (fun _ _ => rfl)) pe_int (nomark _)))).pt
      (pss_one (ps_aug (i := 1) sc_without_zeros.nd rfl (.inl rfl) pe_int ip_add)))
    (pss_one (ps_ret (pe_callTy call_list_of (by rfl) T.z_list (by decide +kernel) (pa_cons (pe_slice (L2.SlR.or (sl_list : L2.SlR _ (rSlL K)) (sl_tupA : L2.SlR _ (rSlA K))) (pv 0) (po_some (pv 1)) po_none) pa_nil))))))), ?_⟩
    refine WhileD.while_dir (fun σ H' => ∃ k : Nat, σ = [some (.ref t), some (.int k)] ∧ k ≤ ah l ∧ H' = H) (fun σ => l.length - yOf σ) ⟨0, rfl, Nat.zero_le _, rfl⟩ (fun σ H' hP => ?_)
    obtain ⟨k, rfl, hk, rfl⟩ := hP
    have sq : SqL K H' t (l.map V.int) ∨ SqT K H' t (l.map V.int) := ht.elim (fun e => .inr (SqT.of e)) fun e => .inl (SqL.of e)
    refine ⟨_, rfl, _, rfl, t, _, rfl, sq, _, _, rfl, rfl, _, rfl, ?_⟩
    rw [List.length_map]
    by_cases c : k < l.length
    · rw [decide_eq_true (show (k : Int) < (l.length : Int) by omega)]
      refine iteT ⟨_, rfl, _, rfl, SeqE.ix_sq (xs := l.map V.int) ht (atI_nat (j := k) (get_int c)) ⟨rfl, _, rfl, ?_⟩⟩
      by_cases z : co l k = 0
      · rw [z]
        refine iteT (WhileD.turn ⟨_, rfl, _, _, rfl, rfl, ?_⟩)
        refine ⟨⟨k + 1, rfl, ?_, rfl⟩, ?_⟩
        · refine Classical.byContradiction fun n => ?_
          exact ah_lead (l := l) (by omega) (by rw [show ah l = k by omega]; exact z)
        · show l.length - ((k : Int) + 1).toNat < l.length - (k : Int).toNat
          omega
      · rw [decide_eq_false fun e => z (V.int.inj e)]
        have ek : ah l = k := Nat.le_antisymm (Classical.byContradiction fun n => z (ah_zero (by omega))) hk
        refine iteF ⟨_, rfl, _, rfl, _, rfl, slice_from ht (by have := ah_le l; omega) fun p H1 s1 e1 => ⟨p, (l.drop k).map V.int, rfl, e1.elim (fun e => .inr (SqT.of e)) fun e => .inl (SqL.of e), fun D hD => q D _ (s1.trans (same_upd0 hD)) ?_⟩⟩
        rw [upd_same, ← cut_drop, ek]
    · rw [decide_eq_false (show ¬ (k : Int) < (l.length : Int) by omega)]
      have := ah_le l
      have ek : ah l = k := by omega
      refine iteF ⟨_, rfl, _, rfl, _, rfl, slice_from ht (by have := ah_le l; omega) fun p H1 s1 e1 => ⟨p, (l.drop k).map V.int, rfl, e1.elim (fun e => .inr (SqT.of e)) fun e => .inl (SqL.of e), fun D hD => q D _ (s1.trans (same_upd0 hD)) ?_⟩⟩
      rw [upd_same, ← cut_drop, ek]
def spSml : Sp := fun vs H Q _ => ∃ (t : Addr) (l : List Int), vs = [.ref t] ∧ H t = some (ls l) ∧ l.length ≤ 100 ∧ DivOk l ∧ ∀ p H', Same H H' → H' p = some (ls (sml l)) → Q (.ref p) H'
theorem ok_smaller (T : Facts K mg) : FnOk P w K mg base CX0 2 T.f_smaller T.fd_smaller ["line"] spSml := by
  have G_shared_of : FnOk P w K mg base CX0 1 T.f_shared_of T.fd_shared_of ["numbers"] (spSharedL K) := ok_shared_of T
  refine T.F_smaller.ok sc_smaller (fun vs H Q E h => ?_) (fun cdv A outer s H vs Q E hr h => ?_)
  · obtain ⟨t, l, rfl, _⟩ := h
    rfl
  · obtain ⟨t, l, rfl, ht, hl, ok, q⟩ := h
    refine ⟨_, (PSs.nox (pss_cons (ps_set (i := 1) sc_smaller.nd rfl (.inr rfl) (pe_call G_shared_of hr (by rfl) T.g_shared_of T.F_shared_of.kp T.b_shared_of .nil pass0 (pa_cons (pv 0) pa_nil)))
    (pss_one (ps_ret (pe_ifExp (pt_cmpR op_gt (pv 1) pe_int (nomark _)) (pe_lc (own := [("entry", 2)]) (g := (gName 2)) (tt := tYes) (by rfl) sc_smaller.nd (pi_list (pv 0)) (blkOk_by (N := N_smaller) (sc := defScope s_smaller) (by decide +kernel)) (fun _ _ _ _ _ => (pg_name (i := 2) sc_smaller.nd rfl (.inl rfl))) (fun _ _ _ _ _ => pts_nil) (fun _ _ _ _ _ => (pe_op FDivQ.op_fdivQ (pv 2) (pv 1)))) (pe_callTy call_list_of (by rfl) T.z_list (by decide +kernel) (pa_cons (pv 0) pa_nil))))))), ?_⟩
    refine ⟨_, rfl, t, l, rfl, SqL.of ht, _, rfl, _, _, rfl, rfl, _, rfl, ?_⟩
    by_cases c : 1 < gl l
    · rw [decide_eq_true (show (1 : Int) < (gl l : Int) by omega)]
      refine iteT ⟨_, rfl, t, rfl, ⟨_, SqL.of ht⟩, fun D hD => ?_⟩
      refine lc_list (xs := l.map V.int) (fun j H' => Same H H' ∧ H' D = some (.lst (tab j fun k => (co l k).fdiv (gl l : Nat)))) ⟨same_upd0 hD, upd_same⟩ (fun j H' _ hP => SqL.of (hP.1 _ _ ht)) (fun j x H' hx hP => ?_) (fun H' hP => ?_)
      · obtain ⟨sH, hL⟩ := hP
        obtain ⟨hj, rfl⟩ := int_get hx
        refine ⟨rfl, _, rfl, _, rfl, _, _, rfl, rfl, ok (by omega) _ (co_memE hj), _, hL, ?_, fun b o e => ?_, ?_⟩
        · rw [tab_len]
          exact small1000 (by omega)
        · rw [upd_ne (ne_of_none e hD)]
          exact sH _ _ e
        · rw [upd_same, ← tab_snoc]
      · obtain ⟨sH, hL⟩ := hP
        rw [List.length_map, tab_tb, dv_tb] at hL
        refine q D H' sH ?_
        unfold sml
        rw [if_pos c]
        exact hL
    · rw [decide_eq_false (show ¬ (1 : Int) < (gl l : Int) by omega)]
      refine iteF ⟨_, rfl, t, l.map V.int, rfl, .inl (SqL.of ht), fun D hD => q D _ (same_upd0 hD) ?_⟩
      unfold sml
      rw [if_neg c, upd_same]
def spEnds : Sp := fun vs H Q _ => ∃ (t : Addr) (l : List Int), vs = [.ref t] ∧ H t = some (ls l) ∧ l.length ≤ 100 ∧ ∀ H', Same H H' → Q (.int (ah l)) H'
theorem ok_ends_in (T : Facts K mg) : FnOk P w K mg base CX0 2 T.f_ends_in T.fd_ends_in ["entries"] spEnds := by
  have G_without_zeros := ok_without_zeros (P := P) (w := w) (base := base) T
  refine T.F_ends_in.ok sc_ends_in (fun vs H Q E h => ?_) (fun cdv A outer s H vs Q E hr h => ?_)
  · obtain ⟨t, l, rfl, _⟩ := h
    rfl
  · obtain ⟨t, l, rfl, ht, hl, q⟩ := h
    refine ⟨_, (PSs.nox (pss_one (ps_ret (pe_op op_sub (pe_callB call_len_seq (by rfl) T.z_len (by decide +kernel) (pa_cons (pv 0) pa_nil)) (pe_callB call_len_seq (by rfl) T.z_len (by decide +kernel) (pa_cons (pe_call G_without_zeros hr (by rfl) T.g_without_zeros T.F_without_zeros.kp T.b_without_zeros .nil pass0 (pa_cons (pv 0) pa_nil)) pa_nil)))))), ?_⟩
    refine ⟨_, rfl, t, l.map V.int, rfl, .inl (SqL.of ht), _, rfl, t, l, rfl, .inr ht, hl, fun p H1 s1 e1 => ⟨p, _, rfl, .inl (SqL.of e1), _, _, rfl, rfl, ?_⟩⟩
    rw [List.length_map, List.length_map, ← cut_drop, List.length_drop]
    have := ah_le l
    have e := q H1 s1
    rw [show (ah l : Int) = (l.length : Int) - ((l.length - ah l : Nat) : Int) by omega] at e
    exact e
end
end K45

set_option Elab.async false
set_option linter.all false
set_option maxRecDepth 100000
set_option maxHeartbeats 4000000
set_option exponentiation.threshold 10000
/-! Euclid's turns -/
namespace K45
open PySem PySem.Spec PyProof.Rows L2 StX RZ MyR SlX OwnR OwnF EnumT SeqE GxR GenNx FDivQ
theorem meet1 {G : Prop} {R : Addr → Hp → Prop} (C : Addr → Hp → Prop) (main : (∀ c H, C c H → R c H) → G) (rest : ∀ c H, C c H → R c H) : G := main rest
theorem meet0 {G : Prop} {R : Hp → Prop} (C : Hp → Prop) (main : (∀ H, C H → R H) → G) (rest : ∀ H, C H → R H) : G := main rest
section
variable {P : Program} {w : World} {K : PySem.W.Frag} {mg : Str → Option Value} {base : Heap} {Ps : List Addr}
def spLeft : Sp := fun vs H Q _ => ∃ (a b : Addr) (f g : List Int), vs = [.ref a, .ref b] ∧ H a = some (ls f) ∧ H b = some (ls g) ∧ f.length ≤ 100 ∧ g.length ≤ 100 ∧ co g 0 ≠ 0 ∧ LfOk f g ∧ ∀ p H', Same H H' → H' p = some (ls (rstS f g)) → Q (.ref p) H'
theorem ok_left_by (T : Facts K mg) : FnOk P w K mg base CX0 3 T.f_left_by T.fd_left_by ["one", "other"] spLeft := by
  have G_smaller := ok_smaller (P := P) (w := w) (base := base) T
  have G_without_zeros := ok_without_zeros (P := P) (w := w) (base := base) T
  refine T.F_left_by.ok sc_left_by (fun vs H Q E h => ?_) (fun cdv A outer s H vs Q E hr h => ?_)
  · obtain ⟨a, b, f, g, rfl, _⟩ := h
    rfl
  · obtain ⟨a, b, f, g, rfl, ha, hb, hf, hg, g0, ok, q⟩ := h
    refine ⟨_, (PSs.nox (pss_cons (ps_asg (pe_tup (pa_cons (pe_callTy call_list_of (by rfl) T.z_list (by decide +kernel) (pa_cons (pv 0) pa_nil)) (pa_cons (pe_callB call_abs (by rfl) T.z_abs (by decide +kernel) (pa_cons (pe_ix ix_list (pv 1) pe_int (fun _ _ => rfl)) pa_nil)) pa_nil))) (pg_tup (by rfl) (pgs_cons (pg_name (i := 2) sc_left_by.nd rfl (.inl rfl)) (pgs_cons (pg_name (i := 3) sc_left_by.nd rfl (.inr rfl)) pgs_nil))))
    (pss_cons (ps_set (i := 4) sc_left_by.nd rfl (.inl rfl) (pe_ifExp (pt_cmpR op_gt (pe_ix ix_list (pv 1) pe_int (fun _ _ => rfl)) pe_int (nomark _)) pe_int (pe_un un_neg pe_int)))
    (pss_cons (ps_while PassesOwn.never (pt_cmpR op_ge (pe_callB call_len_seq (by rfl) T.z_len (by decide +kernel) (pa_cons (pv 2) pa_nil)) (pe_callB call_len_seq (by rfl) T.z_len (by decide +kernel) (pa_cons (pv 1) pa_nil)) (nomark _))
      (pss_cons (ps_set (i := 5) sc_left_by.nd rfl (.inr rfl) (pe_op op_mulW (pv 4) (pe_ix ix_list (pv 2) pe_int (fun _ _ => rfl))))
      (pss_cons (ps_set (i := 6) sc_left_by.nd rfl (.inl rfl) (pe_lst (pa_star (pv 1) (pa_star (pe_op op_rep (pe_lst (pa_cons pe_int pa_nil)) (pe_op op_sub (pe_callB call_len_seq (by rfl) T.z_len (by decide +kernel) (pa_cons (pv 2) pa_nil)) (pe_callB call_len_seq (by rfl) T.z_len (by decide +kernel) (pa_cons (pv 1) pa_nil)))) pa_nil))))
      (pss_one (ps_set (i := 2) sc_left_by.nd rfl (.inl rfl) (pe_slice sl_list (pe_lc (own := [("here", 7), ("there", 8)]) (g := (gTup K 2 (gCons (gName 7) (gCons (gName 8) gNil)))) (tt := tYes) (by rfl) sc_left_by.nd (pi_zipA (by rfl) T.z_zip (pa_cons (pv 2) (pa_cons (pv 6) pa_nil))) (blkOk_by (N := N_left_by) (sc := defScope s_left_by) (by decide +kernel)) (fun _ _ _ _ _ => (pg_tup (by rfl) (pgs_cons (pg_name (i := 7) sc_left_by.nd rfl (.inl rfl)) (pgs_cons (pg_name (i := 8) sc_left_by.nd rfl (.inl rfl)) pgs_nil)))) (fun _ _ _ _ _ => pts_nil) (fun _ _ _ _ _ => (pe_op op_sub (pe_op op_mulW (pv 3) (pv 7)) (pe_op op_mulW (pv 5) (pv 8))))) (po_some pe_int) po_none))))))
    (pss_one (ps_ret (pe_call G_smaller hr (by rfl) T.g_smaller T.F_smaller.kp T.b_smaller .nil pass0 (pa_cons (pe_call G_without_zeros (hr.mono (by decide)) (by rfl) T.g_without_zeros T.F_without_zeros.kp T.b_without_zeros .nil pass0 (pa_cons (pv 2) pa_nil)) pa_nil)))))))), ?_⟩
    have g1 : 1 ≤ g.length := List.length_pos_iff.mpr fun z => g0 (by rw [z]; rfl)
    refine ⟨_, rfl, a, f.map V.int, rfl, .inl (SqL.of ha), fun L0 hL0 => gen_upd H L0 (ls f) hL0 fun H1 s1 e1 => ?_⟩
    refine ⟨_, rfl, b, _, 0, .int (co g 0), rfl, rfl, SqL.of (s1 _ _ hb), atI_nat (j := 0) (get_int g1), ?_⟩
    have ea : (if co g 0 < 0 then -co g 0 else co g 0) = ((co g 0).natAbs : Int) := by split <;> omega
    refine ⟨_, rfl, ?_⟩
    rw [ea]
    refine ⟨sz2, fun p0 n0 => gen_upd H1 p0 (.tup [.ref L0, .int ((co g 0).natAbs : Int)]) n0 fun H2 s2 e2 => ⟨p0, _, rfl, SqT.of e2, rfl, _, _, rfl, _, _, rfl, rfl, ?_⟩⟩
    have s12 := s1.trans s2
    have hb2 := s12 _ _ hb
    refine ⟨_, rfl, b, _, 0, .int (co g 0), rfl, rfl, SqL.of hb2, atI_nat (j := 0) (get_int g1), _, _, rfl, rfl, _, rfl, ?_⟩
    have hL2 := s2 _ _ e1
    clear e1 e2 n0
    apply meet0 fun H' => H' = H2
    · intro k
      by_cases c : 0 < co g 0
      · have es : sgO (co g 0) = 1 := if_pos c
        rw [decide_eq_true c]
        refine iteT (st_norm [some (.ref a), some (.ref b), some (.ref L0), some (.int ((co g 0).natAbs : Int)), some (.int (sgO (co g 0))), none, none, none, none] (by rw [es]; rfl) (k H2 rfl))
      · have es : sgO (co g 0) = -1 := if_neg c
        rw [decide_eq_false c]
        refine iteF ⟨_, rfl, st_norm [some (.ref a), some (.ref b), some (.ref L0), some (.int ((co g 0).natAbs : Int)), some (.int (sgO (co g 0))), none, none, none, none] (by rw [es]; rfl) (k H2 rfl)⟩
    rintro H2 rfl
    dsimp only []
    refine WhileD.while_m (fun m σ H' => ∃ (n : Nat) (L : Addr) (o5 o6 : Option V), m = f.length + 1 - g.length - n ∧ n ≤ f.length + 1 - g.length ∧ σ = [some (.ref a), some (.ref b), some (.ref L), some (.int ((co g 0).natAbs : Int)), some (.int (sgO (co g 0))), o5, o6, none, none] ∧ Same H H' ∧ H' L = some (ls (rlS n f g))) ⟨_, 0, L0, none, none, rfl, Nat.zero_le _, rfl, s12, hL2⟩ (fun m σ H' hP => ?_)
    clear hL2 hb2 s12 s1 s2
    obtain ⟨n, L, o5, o6, rfl, hn, rfl, sH, hL⟩ := hP
    have ln := rlS_len f g n
    have hb' := sH _ _ hb
    refine ⟨_, rfl, L, _, rfl, .inl (SqL.of hL), _, rfl, b, _, rfl, .inl (SqL.of hb'), _, _, rfl, rfl, _, rfl, ?_⟩
    rw [List.length_map, List.length_map]
    by_cases c : g.length ≤ (rlS n f g).length
    · rw [decide_eq_true (show (g.length : Int) ≤ ((rlS n f g).length : Int) by omega)]
      have m0 := ok.m0 n (by omega)
      have m1 := ok.m1 n (by omega)
      have m2 := ok.m2 n (by omega)
      have lb : (rlS n f g).length ≤ 100 := by omega
      generalize hl : rlS n f g = l at *
      refine iteT (WhileD.turnM ⟨_, rfl, _, rfl, L, _, 0, .int (co l 0), rfl, rfl, SqL.of hL, atI_nat (j := 0) (get_int (by omega)), _, _, rfl, rfl, m0, ?_⟩)
      refine ⟨_, rfl, b, _, rfl, .inr (SqL.of hb'), sz1, fun p1 n1 => gen_upd H' p1 (ls [0]) n1 fun H1 s1 e1 => ?_⟩
      refine ⟨_, rfl, L, _, rfl, .inl (SqL.of (s1 _ _ hL)), _, rfl, b, _, rfl, .inl (SqL.of (s1 _ _ hb')), _, _, rfl, rfl, ?_⟩
      rw [List.length_map, List.length_map]
      refine ⟨p1, _, [V.int 0], rfl, rfl, e1, by omega, by omega, ?_, fun p2 n2 => gen_upd H1 p2 _ n2 fun H2 s2 e2 => ⟨p2, _, rfl, .inr (SqL.of e2), ?_⟩⟩
      · exact Nat.le_trans (show [V.int 0].length * ((l.length : Int) - (g.length : Int)).toNat ≤ 100 by rw [List.length_singleton]; omega) (by decide)
      · have e3 : g.map V.int ++ ((List.replicate ((l.length : Int) - (g.length : Int)).toNat [V.int 0]).flatten ++ []) = (lng l g).map V.int := by
          unfold lng
          rw [List.append_nil, List.map_append, List.map_replicate, List.flatten_replicate_singleton, show ((l.length : Int) - (g.length : Int)).toNat = l.length - g.length by omega]
        dsimp only [tNil]
        rw [e3]
        refine ⟨by rw [List.length_map, lng_len c]; exact Nat.le_trans lb (by decide), fun p3 n3 => gen_upd H2 p3 (ls (lng l g)) n3 fun H3 s3 e3' => ?_⟩
        have s13 := s1.trans (s2.trans s3)
        have hL4 := s13 _ _ hL
        refine ⟨_, rfl, _, rfl, L, p3, _, _, rfl, .inl ⟨SqL.of hL4, SqL.of e3', fun D hD => ?_⟩⟩
        refine lc_zipL (xs := l.map V.int) (ys := (lng l g).map V.int) (by rw [List.length_map, List.length_map, lng_len c]) (fun j H' => Same H3 H' ∧ H' D = some (.lst (tab j fun k => ((co g 0).natAbs : Int) * co l k - sgO (co g 0) * co l 0 * co (lng l g) k))) ⟨same_upd0 hD, upd_same⟩ (fun j H' _ hP => ⟨SqL.of (hP.1 _ _ hL4), SqL.of (hP.1 _ _ e3')⟩) (fun j x y A H' hx hy hP hA => ?_) (fun H' hP => ?_)
        · obtain ⟨sH5, hD'⟩ := hP
          obtain ⟨hj, rfl⟩ := int_get hx
          obtain ⟨_, rfl⟩ := int_get hy
          have sA := same_upd0 (o := .tup [.int (co l j), .int (co (lng l g) j)]) hA
          refine ⟨A, _, rfl, SqT.of upd_same, rfl, _, _, rfl, _, _, rfl, rfl, rfl, _, rfl, _, rfl, _, _, rfl, rfl, m1 j, _, rfl, _, rfl, _, _, rfl, rfl, (by rw [co_lng]; exact m2 j), _, _, rfl, rfl, _, sA _ _ hD', ?_, fun b o e => ?_, ?_⟩
          · rw [tab_len]
            exact small1000 (by omega)
          · rw [upd_ne (ne_of_none e hD)]
            exact sA _ _ (sH5 _ _ e)
          · rw [upd_same, ← tab_snoc]
        · obtain ⟨s5, hD'⟩ := hP
          rw [List.length_map, tab_tb] at hD'
          have e6 : cutV ((tb l.length fun k => ((co g 0).natAbs : Int) * co l k - sgO (co g 0) * co l 0 * co (lng l g) k).map V.int) (some ((1 : Nat) : Int)) none = (stpS l g).map V.int := by
            unfold cutV
            rw [HT.sIx_none, HT.sIx_nat, List.length_map, tb_len, Nat.min_eq_left (by omega), ← List.map_drop, ← List.map_take, List.take_of_length_le (by rw [List.length_drop, tb_len]; omega)]
            rfl
          refine ⟨_, rfl, D, _, rfl, SqL.of hD', fun p5 n5 => ⟨_, ?_, n + 1, p5, _, _, rfl, by omega, rfl, sH.trans (s13.trans (s5.trans (same_upd0 n5))), ?_⟩⟩
          · show f.length + 1 - g.length - (n + 1) < f.length + 1 - g.length - n
            omega
          · rw [upd_same]
            show some (HO.lst (cutV ((tb l.length fun k => ((co g 0).natAbs : Int) * co l k - sgO (co g 0) * co l 0 * co (lng l g) k).map V.int) (some ((1 : Nat) : Int)) none)) = some (ls (stpS (rlS n f g) g))
            rw [e6, hl]
    · rw [decide_eq_false (show ¬ (g.length : Int) ≤ ((rlS n f g).length : Int) by omega)]
      have en : n = f.length + 1 - g.length := by omega
      subst en
      refine iteF ⟨_, rfl, L, _, rfl, .inr hL, by omega, fun p1 H1 s1 e1 => ⟨p1, _, rfl, e1, ?_, ok.d, fun p2 H2 s2 e2 => q p2 H2 (sH.trans (s1.trans s2)) e2⟩⟩
      exact Nat.le_trans (cut_len _) (by omega)
end
end K45

set_option Elab.async false
set_option linter.all false
set_option maxRecDepth 100000
set_option maxHeartbeats 4000000
set_option exponentiation.threshold 10000
namespace K45
open PySem PySem.Spec PyProof.Rows L2 StX RZ MyR SlX OwnR OwnF EnumT GxR GenNx FDivQ
section
variable {P : Program} {w : World} {K : PySem.W.Frag} {mg : Str → Option Value} {base : Heap} {Ps : List Addr}
end
end K45

set_option Elab.async false
set_option linter.all false
set_option maxRecDepth 100000
set_option maxHeartbeats 4000000
set_option exponentiation.threshold 10000
/-! walks: level entries and level rows -/
namespace K45
open PySem PySem.Spec PyProof.Rows L2 StX RZ MyR SlX OwnR OwnF EnumT GxR GenNx FDivQ LA
theorem sm_small {x : Int} (h : x.natAbs ≤ 2 ^ 40) : sm x := Nat.lt_of_le_of_lt h (by decide +kernel)
theorem RT.same {H H' : Hp} {as : List Addr} {rs : List (List Int)} (h : RT H as rs) (s : Same H H') : RT H' as rs := RX.imp (fun a r e => s _ _ e) h
theorem RT.updL {H : Hp} {D : Addr} {o : HO} {xs : List V} {as : List Addr} {rs : List (List Int)} (h : RT H as rs) (hD : H D = some (.lst xs)) : RT (L2.upd H D o) as rs :=
  RX.imp (fun a r e => by rw [upd_ne (fun z => by rw [z, hD] at e; cases e)]; exact e) h
/-- at t a tuple of tuples of ints -/
def Tl2 (H : Hp) (t : Addr) (rows : List (List Int)) : Prop := ∃ as : List Addr, H t = some (.tup (as.map V.ref)) ∧ RT H as rows
theorem Tl2.same {H H' : Hp} {t : Addr} {rows : List (List Int)} (h : Tl2 H t rows) (s : Same H H') : Tl2 H' t rows := by
  obtain ⟨as, h1, h2⟩ := h
  exact ⟨as, s _ _ h1, h2.same s⟩
/-- forms that levels are asked of -/
structure Lw (l : List Int) : Prop where
  l1 : 1 ≤ l.length
  l8 : l.length ≤ 9
  sm : ∀ x ∈ l, x.natAbs < 2 ^ 3900
section
variable {P : Program} {w : World} {K : PySem.W.Frag} {mg : Str → Option Value} {base : Heap} {Ps : List Addr}
end
end K45

set_option Elab.async false
set_option linter.all false
set_option maxRecDepth 100000
set_option maxHeartbeats 4000000
set_option exponentiation.threshold 10000
/-! common lines -/
namespace K45
open PySem PySem.Spec PyProof.Rows L2 StX RZ MyR SlX OwnR OwnF EnumT SeqE GxR GenNx FDivQ
section
variable {P : Program} {w : World} {K : PySem.W.Frag} {mg : Str → Option Value} {base : Heap} {Ps : List Addr}
def spCommonOf (Ps : List Addr) : Sp := fun vs H Q _ => ∃ (a b : Addr) (f g f' g' : List Int) (n : Nat), vs = [.ref a, .ref b] ∧ H a = some (ls f) ∧ H b = some (ls g) ∧ f.length ≤ 100 ∧ g.length ≤ 100 ∧ Sg f f' ∧ Sg g g' ∧ (g' = [] ∨ co g' 0 ≠ 0) ∧ ShOk n f' g' ∧ Tg Ps H ∧ ∀ p H', Sts Ps H H' → Tg Ps H' → H' p = some (ls (primE (shp n f' g'))) → Q (.ref p) H'
theorem ok_common_of (T : Facts K mg) (TB_first_of : TabB base mg T.c_first_of T.P_first_of) (hP : T.P_first_of ∈ Ps) : FnOk P w K mg base CX0 4 T.f_common_of T.fd_common_of ["one", "other"] (spCommonOf Ps) := by
  have G_left_by := ok_left_by (P := P) (w := w) (base := base) T
  have G_primitive_of := ok_primitive_of (P := P) (w := w) (base := base) T TB_first_of hP
  refine T.F_common_of.ok sc_common_of (fun vs H Q E h => ?_) (fun cdv A outer s H vs Q E hr h => ?_)
  · obtain ⟨a, b, f, g, f', g', n, rfl, _⟩ := h
    rfl
  · obtain ⟨a, b, f, g, f', g', n, rfl, ha, hb, hf, hg, sf, sg, g0, ok, hG, q⟩ := h
    refine ⟨_, (PSs.nox (pss_cons (ps_while PassesOwn.never (pt_cmpR (op_neD (hu64 hr)) (pv 1) (pe_lst pa_nil) (nomark _))
      (pss_one (ps_par (i := 0) (j := 1) (by rfl) sc_common_of.nd rfl rfl (by decide) rfl rfl (pa_cons (pv 1) (pa_cons (pe_call G_left_by hr (by rfl) T.g_left_by T.F_left_by.kp T.b_left_by .nil pass0 (pa_cons (pv 0) (pa_cons (pv 1) pa_nil))) pa_nil)) (by rfl))))
    (pss_one (ps_ret (pe_call G_primitive_of (hr.mono (by decide)) (by rfl) T.g_primitive_of T.F_primitive_of.kp T.b_primitive_of .nil pass0 (pa_cons (pv 0) pa_nil)))))), ?_⟩
    refine WhileD.while_m (fun m σ H' => ∃ (a b : Addr) (f1 g1 f2 g2 : List Int), σ = [some (.ref a), some (.ref b)] ∧ H' a = some (ls f1) ∧ H' b = some (ls g1) ∧ f1.length ≤ 100 ∧ g1.length ≤ 100 ∧ Sg f1 f2 ∧ Sg g1 g2 ∧ (g2 = [] ∨ co g2 0 ≠ 0) ∧ ShOk m f2 g2 ∧ shp m f2 g2 = shp n f' g' ∧ Same H H') ⟨n, a, b, f, g, f', g', rfl, ha, hb, hf, hg, sf, sg, g0, ok, rfl, Same.rf H⟩ (fun m σ H' hP => ?_)
    obtain ⟨a', b', f1, g1, f2, g2, rfl, ha', hb', hf', hg', sf', sg', g0', ok', es, sH⟩ := hP
    refine ⟨_, rfl, sz0, fun p0 n0 => gen_upd H' p0 (ls []) n0 fun H1 s1 e1 => ne_lintsL (xs := g1) (ys := []) (SqL.of (s1 _ _ hb')) (SqL.of e1) ⟨_, rfl, ?_⟩⟩
    by_cases c : g1 = []
    · have c2 : g2 = [] := sg'.nil.mp c
      rw [decide_eq_true c]
      have hd : DivOk f2 ∧ shp m f2 g2 = f2 := by
        cases m with
        | zero => exact ⟨ok'.2, rfl⟩
        | succ m => exact ⟨ok'.1 c2, if_pos c2⟩
      rw [← es, hd.2, ← sf'.prim] at q
      exact iteF ⟨_, rfl, a', f1, rfl, s1 _ _ ha', hf', sf'.divOk hd.1, hG.same (sH.trans s1), fun p H2 s2 g2 e2 => q p H2 ((Sts.of (sH.trans s1)).trans s2) g2 e2⟩
    · have c2 : g2 ≠ [] := fun z => c (sg'.nil.mpr z)
      have gl0 := g0'.resolve_left c2
      have gl1 : co g1 0 ≠ 0 := fun z => gl0 (sg'.lead.mp z)
      rw [decide_eq_false c]
      cases m with
      | zero => exact absurd ok'.1 c2
      | succ m =>
        obtain ⟨r1, r2⟩ := ok'.2 c2
        rw [show shp (m + 1) f2 g2 = shp m g2 (rst f2 g2) from if_neg c2] at es
        have sr := sf'.rst sg' gl1
        have rl := (rst_len (f := f2) (g := g2) (List.length_pos_iff.mpr c2)).2
        refine iteT (WhileD.turnM ⟨_, rfl, _, rfl, _, rfl, a', b', f1, g1, rfl, s1 _ _ ha', s1 _ _ hb', hf', hg', gl1, lfOk_of sf' sg' gl1 r1, fun p H2 s2 e2 => ⟨_, _, rfl, ?_⟩⟩)
        exact ⟨m, Nat.lt_succ_self m, b', p, g1, rstS f1 g1, g2, rst f2 g2, rfl, (s1.trans s2) _ _ hb', e2, hg', by rw [sr.len]; have := sg'.len; omega, sg', sr, rst_lead f2 g2, r2, es, sH.trans (s1.trans s2)⟩
def cln (A B : List Int) : List Int := if cut A = [] then primE B else if cut B = [] then primE A else cmn A B
def spCLine (Ps : List Addr) : Sp := fun vs H Q _ => ∃ (a b : Addr) (A B : List Int), vs = [.ref a, .ref b] ∧ H a = some (ls A) ∧ H b = some (ls B) ∧ A.length ≤ 50 ∧ B.length ≤ 50 ∧ ClOk A B ∧ Tg Ps H ∧ ∀ p H', Sts Ps H H' → Tg Ps H' → H' p = some (ls (cln A B)) → Q (.ref p) H'
theorem ok_common_line (T : Facts K mg) (TB_first_of : TabB base mg T.c_first_of T.P_first_of) (hP : T.P_first_of ∈ Ps) : FnOk P w K mg base CX0 5 T.f_common_line T.fd_common_line ["one", "other"] (spCLine Ps) := by
  have G_without_zeros := ok_without_zeros (P := P) (w := w) (base := base) T
  have G_ends_in := ok_ends_in (P := P) (w := w) (base := base) T
  have G_common_of := ok_common_of (P := P) (w := w) (base := base) T TB_first_of hP
  have G_primitive_of := ok_primitive_of (P := P) (w := w) (base := base) T TB_first_of hP
  refine T.F_common_line.ok sc_common_line (fun vs H Q E h => ?_) (fun cdv A outer s H vs Q E hr h => ?_)
  · obtain ⟨a, b, A, B, rfl, _⟩ := h
    rfl
  · obtain ⟨a, b, X, Y, rfl, ha, hb, hX, hY, ok, hg, q⟩ := h
    refine ⟨_, (PSs.nox (pss_cons (ps_par (i := 2) (j := 3) (by rfl) sc_common_line.nd rfl rfl (by decide) rfl rfl (pa_cons (pe_call G_without_zeros (hr.mono (by decide)) (by rfl) T.g_without_zeros T.F_without_zeros.kp T.b_without_zeros .nil pass0 (pa_cons (pv 0) pa_nil)) (pa_cons (pe_call G_without_zeros (hr.mono (by decide)) (by rfl) T.g_without_zeros T.F_without_zeros.kp T.b_without_zeros .nil pass0 (pa_cons (pv 1) pa_nil)) pa_nil)) (by rfl))
    (pss_cons (ps_if (pw_or (pt_cmpR (op_eqD (hu64 hr)) (pv 2) (pe_lst pa_nil) (nomark _)) (pw_or1 (pt_cmpR (op_eqD (hu64 hr)) (pv 3) (pe_lst pa_nil) (nomark _)))).pt
      (pss_one (ps_ret (pe_call G_primitive_of (hr.mono (by decide)) (by rfl) T.g_primitive_of T.F_primitive_of.kp T.b_primitive_of .nil pass0 (pa_cons (pe_ifExp (pt_cmpR (op_eqD (hu64 hr)) (pv 2) (pe_lst pa_nil) (nomark _)) (pv 1) (pv 0)) pa_nil))))
      pss_nil)
    (pss_one (ps_ret (pe_op op_cat (pe_op op_rep (pe_lst (pa_cons pe_int pa_nil)) (pe_callB (call_min2 (by rfl)) (by rfl) T.z_min (by decide +kernel) (pa_cons (pe_call G_ends_in (hr.mono (by decide)) (by rfl) T.g_ends_in T.F_ends_in.kp T.b_ends_in .nil pass0 (pa_cons (pv 0) pa_nil)) (pa_cons (pe_call G_ends_in (hr.mono (by decide)) (by rfl) T.g_ends_in T.F_ends_in.kp T.b_ends_in .nil pass0 (pa_cons (pv 1) pa_nil)) pa_nil)))) (pe_call G_common_of hr (by rfl) T.g_common_of T.F_common_of.kp T.b_common_of .nil pass0 (pa_cons (pv 2) (pa_cons (pv 3) pa_nil))))))))), ?_⟩
    refine ⟨_, rfl, a, X, rfl, .inr ha, by omega, fun p1 H1 s1 e1 => ⟨_, rfl, b, Y, rfl, .inr (s1 _ _ hb), by omega, fun p2 H2 s2 e2 => ⟨_, _, rfl, ?_⟩⟩⟩
    have e1' := s2 _ _ e1
    have s12 := s1.trans s2
    refine ⟨_, rfl, sz0, fun p3 n3 => gen_upd H2 p3 (ls []) n3 fun H3 s3 e3 => eq_lints (xs := cut X) (ys := []) (SqL.of (s3 _ _ e1')) (SqL.of e3) ⟨_, rfl, ?_⟩⟩
    have s13 := s12.trans s3
    by_cases c : cut X = []
    · rw [decide_eq_true c]
      refine iteT (iteT ⟨_, rfl, sz0, fun p4 n4 => gen_upd H3 p4 (ls []) n4 fun H4 s4 e4 => eq_lints (xs := cut X) (ys := []) (SqL.of ((s3.trans s4) _ _ e1')) (SqL.of e4) ⟨_, rfl, ?_⟩⟩)
      rw [decide_eq_true c]
      have s14 := s13.trans s4
      refine iteT ⟨_, rfl, b, Y, rfl, s14 _ _ hb, by omega, ok.a0 c, hg.same s14, fun p H5 s5 g5 e5 => q p H5 ((Sts.of s14).trans s5) g5 ?_⟩
      rw [e5]
      unfold cln
      rw [if_pos c]
    · rw [decide_eq_false c]
      refine iteF ⟨_, rfl, sz0, fun p4 n4 => gen_upd H3 p4 (ls []) n4 fun H4 s4 e4 => eq_lints (xs := cut Y) (ys := []) (SqL.of ((s3.trans s4) _ _ e2)) (SqL.of e4) ⟨_, rfl, ?_⟩⟩
      have s14 := s13.trans s4
      by_cases d : cut Y = []
      · rw [decide_eq_true d]
        refine iteT ⟨_, rfl, sz0, fun p5 n5 => gen_upd H4 p5 (ls []) n5 fun H5 s5 e5 => eq_lints (xs := cut X) (ys := []) (SqL.of ((s3.trans (s4.trans s5)) _ _ e1')) (SqL.of e5) ⟨_, rfl, ?_⟩⟩
        rw [decide_eq_false c]
        have s15 := s14.trans s5
        refine iteF ⟨_, rfl, a, X, rfl, s15 _ _ ha, by omega, ok.b0 c d, hg.same s15, fun p H6 s6 g6 e6 => q p H6 ((Sts.of s15).trans s6) g6 ?_⟩
        rw [e6]
        unfold cln
        rw [if_neg c, if_pos d]
      · rw [decide_eq_false d]
        refine iteF ?_
        have la := ah_le X
        have lb := ah_le Y
        have e1'' := (s3.trans s4) _ _ e1'
        have e2'' := (s3.trans s4) _ _ e2
        refine ⟨sz1, fun p5 n5 => gen_upd H4 p5 (ls [0]) n5 fun H5 s5 e5 => ⟨_, rfl, a, X, rfl, (s14.trans s5) _ _ ha, by omega, fun H6 s6 => ⟨_, rfl, b, Y, rfl, (s14.trans (s5.trans s6)) _ _ hb, by omega, fun H7 s7 => ⟨_, _, rfl, ?_⟩⟩⟩⟩
        rw [show (if (ah Y : Int) < (ah X : Int) then (ah Y : Int) else (ah X : Int)) = ((min (ah X) (ah Y) : Nat) : Int) by split <;> omega]
        refine ⟨p5, _, [V.int 0], rfl, rfl, (s6.trans s7) _ _ e5, by omega, by omega, ?_, fun p8 n8 => gen_upd H7 p8 _ n8 fun H8 s8 e8 => ?_⟩
        · exact Nat.le_trans (show [V.int 0].length * ((min (ah X) (ah Y) : Nat) : Int).toNat ≤ 100 by rw [List.length_singleton]; omega) (by decide)
        have s58 := s5.trans (s6.trans (s7.trans s8))
        have s18 := s14.trans s58
        refine ⟨_, rfl, _, rfl, p1, p2, cut X, cut Y, cut X, cut Y, (cut Y).length, rfl, s58 _ _ e1'', s58 _ _ e2'', Nat.le_trans (cut_len X) (by omega), Nat.le_trans (cut_len Y) (by omega), Sg.rf _, Sg.rf _, .inr (cut_lead d), ok.sh c d, hg.same s18, fun p9 H9 s9 g9 e9 => ?_⟩
        have ec : (List.replicate ((min (ah X) (ah Y) : Nat) : Int).toNat [V.int 0]).flatten ++ (primE (shp (cut Y).length (cut X) (cut Y))).map V.int = (cmn X Y).map V.int := by
          unfold cmn
          rw [List.map_append, List.map_replicate, List.flatten_replicate_singleton, Int.toNat_natCast]
        refine ⟨p8, p9, _, _, rfl, rfl, s9.lst (hg.same s18) e8, e9, ?_, fun p10 n10 => q p10 _ ((Sts.of s18).trans (s9.trans (Sts.of (same_upd0 n10)))) (g9.same (same_upd0 n10)) ?_⟩
        · rw [← List.length_append, ec, List.length_map]
          unfold cmn
          rw [List.length_append, List.length_replicate, primE_len]
          have := shp_len (cut Y).length (cut X) (cut Y)
          have := cut_len X
          have := cut_len Y
          exact Nat.le_trans (m := 200) (by omega) (by decide)
        · rw [upd_same, ec]
          unfold cln
          rw [if_neg c, if_neg d]
def spLss (Ps : List Addr) : Sp := fun vs H Q _ => ∃ (t : Addr) (l : List Int), vs = [.ref t] ∧ (H t = some (tp l) ∨ H t = some (ls l)) ∧ 2 ≤ l.length ∧ l.length ≤ 11 ∧ (∀ x ∈ l, sm x) ∧ ClOk (dX l) (dY l) ∧ Tg Ps H ∧ ∀ p H', Sts Ps H H' → Tg Ps H' → H' p = some (ls (lss l)) → Q (.ref p) H'
theorem ok_lessened_line (T : Facts K mg) (TB_first_of : TabB base mg T.c_first_of T.P_first_of) (hP : T.P_first_of ∈ Ps) : FnOk P w K mg base CX0 6 T.f_lessened_line T.fd_lessened_line ["entries"] (spLss Ps) := by
  have G_common_line := ok_common_line (P := P) (w := w) (base := base) T TB_first_of hP
  refine T.F_lessened_line.ok sc_lessened_line (fun vs H Q E h => ?_) (fun cdv A outer s H vs Q E hr h => ?_)
  · obtain ⟨t, l, rfl, _⟩ := h
    rfl
  · obtain ⟨t, l, rfl, ht, l2, l11, sl, ok, hg, q⟩ := h
    refine ⟨_, (PSs.nox (pss_cons (ps_set (i := 1) sc_lessened_line.nd rfl (.inr rfl) (pe_op op_sub (pe_callB call_len_seq (by rfl) T.z_len (by decide +kernel) (pa_cons (pv 0) pa_nil)) pe_int))
    (pss_cons (ps_setLc (i := 2) (own := [("at", 3), ("entry", 4)]) (g := (gTup K 2 (gCons (gName 3) (gCons (gName 4) gNil)))) (tt := tYes) rfl sc_lessened_line.nd rfl rfl (sw_true rfl rfl rfl (by decide +kernel)) (SeqE.pi_enumS (by rfl) T.z_enumerate (pa_cons (pe_slice (L2.SlR.or (sl_list : L2.SlR _ (rSlL K)) (sl_tupA : L2.SlR _ (rSlA K))) (pv 0) po_none (po_some (pe_un un_neg pe_int))) pa_nil)) (blkOk_by (N := N_lessened_line) (sc := defScope s_lessened_line) (by decide +kernel)) (fun _ _ _ _ _ => (pg_tup (by rfl) (pgs_cons (pg_name (i := 3) sc_lessened_line.nd rfl (.inl rfl)) (pgs_cons (pg_name (i := 4) sc_lessened_line.nd rfl (.inl rfl)) pgs_nil)))) (fun _ _ _ _ _ => pts_nil) (fun _ _ _ _ _ => (pe_op op_mulW (pv 4) (pe_op op_sub (pv 1) (pv 3)))))
    (pss_cons (ps_set (i := 5) sc_lessened_line.nd rfl (.inl rfl) (pe_slice sl_list (pe_lc (own := [("at", 3), ("entry", 4)]) (g := (gTup K 2 (gCons (gName 3) (gCons (gName 4) gNil)))) (tt := tYes) (by rfl) sc_lessened_line.nd (SeqE.pi_enumS (by rfl) T.z_enumerate (pa_cons (pv 0) pa_nil)) (blkOk_by (N := N_lessened_line) (sc := defScope s_lessened_line) (by decide +kernel)) (fun _ _ _ _ _ => (pg_tup (by rfl) (pgs_cons (pg_name (i := 3) sc_lessened_line.nd rfl (.inl rfl)) (pgs_cons (pg_name (i := 4) sc_lessened_line.nd rfl (.inl rfl)) pgs_nil)))) (fun _ _ _ _ _ => pts_nil) (fun _ _ _ _ _ => (pe_op op_mulW (pv 4) (pv 3)))) (po_some pe_int) po_none))
    (pss_one (ps_ret (pe_call G_common_line hr (by rfl) T.g_common_line T.F_common_line.kp T.b_common_line .nil pass0 (pa_cons (pv 2) (pa_cons (pv 5) pa_nil))))))))), ?_⟩
    refine ⟨_, rfl, t, l.map V.int, rfl, ht.symm.imp (fun e => SqL.of e) (fun e => SqT.of e), _, _, rfl, rfl, ?_⟩
    rw [List.length_map]
    have l1' : 1 ≤ (l.map V.int).length := by rw [List.length_map]; omega
    have em : (fun i j => V.int (i - j)) ((l.length : Nat) : Int) 1 = V.int ((l.length : Int) - 1) := rfl
    rw [em]
    apply meet1 fun D H' => Same H H' ∧ H' D = some (ls (dX l))
    · intro k
      rcases (id ht : H t = some (tp l) ∨ H t = some (ls l)) with e | e
      · refine .inr ⟨_, rfl, _, rfl, _, rfl, .inr ⟨t, _, rfl, SqT.of e, fun z => absurd z.2 (by rw [List.length_map, sIx_neg (by omega)]; omega), fun _ p1 n1 => gen_upd H p1 _ n1 fun H1 s1 e1 => ?_⟩⟩
        rw [cut_init _ l1', ← List.map_take, List.length_map] at e1
        refine ⟨p1, _, rfl, SqT.of e1, fun D hD => lc_enumT (xs := (l.take (l.length - 1)).map V.int) (fun k H' => Same H1 H' ∧ H' D = some (.lst (tab k fun k => co l k * ((l.length : Int) - 1 - k)))) ⟨same_upd0 hD, upd_same⟩ (fun k H' _ hP => SqT.of (hP.1 _ _ e1)) (fun k x B H' hx hP hB => ?_) (fun H3 hP => ?_)⟩
        · obtain ⟨sH, hL⟩ := hP
          obtain ⟨hk, rfl⟩ := int_get hx
          rw [List.length_take] at hk
          rw [co_take (by omega)]
          refine gen_upd H' B _ hB fun H4 s4 f4 => ⟨B, _, rfl, SqT.of f4, rfl, _, _, rfl, _, _, rfl, rfl, rfl, ?_⟩
          refine ⟨_, rfl, _, rfl, _, rfl, _, _, rfl, rfl, _, _, rfl, rfl, ?_, _, s4 _ _ hL, ?_, fun b o e => ?_, ?_⟩
          · exact sm_mul (sm_co sl (by omega)) (sm_small (show ((l.length : Int) - 1 - (k : Int)).natAbs ≤ 2 ^ 40 by omega))
          · rw [tab_len]
            exact small1000 (by omega)
          · rw [upd_ne (ne_of_none e hD)]
            exact s4 _ _ (sH _ _ e)
          · rw [upd_same, ← tab_snoc]
        · obtain ⟨s3, e3⟩ := hP
          rw [List.length_map, tab_tb, List.length_take, Nat.min_eq_left (by omega)] at e3
          exact k D H3 ⟨s1.trans s3, e3⟩
      · refine .inl ⟨_, rfl, _, rfl, _, rfl, .inl ⟨t, _, rfl, SqL.of e, fun p1 n1 => gen_upd H p1 _ n1 fun H1 s1 e1 => ?_⟩⟩
        rw [cut_init _ l1', ← List.map_take, List.length_map] at e1
        refine ⟨p1, _, rfl, SqL.of e1, fun D hD => lc_enumL (xs := (l.take (l.length - 1)).map V.int) (fun k H' => Same H1 H' ∧ H' D = some (.lst (tab k fun k => co l k * ((l.length : Int) - 1 - k)))) ⟨same_upd0 hD, upd_same⟩ (fun k H' _ hP => SqL.of (hP.1 _ _ e1)) (fun k x B H' hx hP hB => ?_) (fun H3 hP => ?_)⟩
        · obtain ⟨sH, hL⟩ := hP
          obtain ⟨hk, rfl⟩ := int_get hx
          rw [List.length_take] at hk
          rw [co_take (by omega)]
          refine gen_upd H' B _ hB fun H4 s4 f4 => ⟨B, _, rfl, SqT.of f4, rfl, _, _, rfl, _, _, rfl, rfl, rfl, ?_⟩
          refine ⟨_, rfl, _, rfl, _, rfl, _, _, rfl, rfl, _, _, rfl, rfl, ?_, _, s4 _ _ hL, ?_, fun b o e => ?_, ?_⟩
          · exact sm_mul (sm_co sl (by omega)) (sm_small (show ((l.length : Int) - 1 - (k : Int)).natAbs ≤ 2 ^ 40 by omega))
          · rw [tab_len]
            exact small1000 (by omega)
          · rw [upd_ne (ne_of_none e hD)]
            exact s4 _ _ (sH _ _ e)
          · rw [upd_same, ← tab_snoc]
        · obtain ⟨s3, e3⟩ := hP
          rw [List.length_map, tab_tb, List.length_take, Nat.min_eq_left (by omega)] at e3
          exact k D H3 ⟨s1.trans s3, e3⟩
    rintro D H1 ⟨s1, e1⟩
    have ht1 : H1 t = some (tp l) ∨ H1 t = some (ls l) := ht.imp (s1 _ _) (s1 _ _)
    apply meet1 fun Z H' => Same H1 H' ∧ H' Z = some (ls (dY l))
    · intro k
      have fin : ∀ {D2 : Addr} {H2 : Hp} {Z : Addr}, H2 Z = none → upd H2 Z (.lst (cutV ((tb l.length fun k => co l k * (k : Int)).map V.int) (some ((1 : Nat) : Int)) none)) Z = some (ls (dY l)) := fun {D2 H2 Z} _ => by
        rw [upd_same]
        have : cutV ((tb l.length fun k => co l k * (k : Int)).map V.int) (some ((1 : Nat) : Int)) none = (dY l).map V.int := by
          unfold cutV
          rw [HT.sIx_none, HT.sIx_nat, List.length_map, tb_len, Nat.min_eq_left (by omega), ← List.map_drop, ← List.map_take, List.take_of_length_le (by rw [List.length_drop, tb_len]; omega)]
          congr 1
          refine co_inj (by rw [List.length_drop, tb_len, dY_len]) fun k => ?_
          rw [co_dropN1, co_tb, dY_co]
          by_cases c : k + 1 < l.length
          · rw [if_pos c, if_pos (by omega), show ((k + 1 : Nat) : Int) = (k : Int) + 1 from rfl]
          · rw [if_neg c, if_neg (by omega)]
        rw [this]
      rcases (id ht1 : H1 t = some (tp l) ∨ H1 t = some (ls l)) with e | e
      · refine .inr ⟨_, rfl, t, _, rfl, SqT.of e, fun D2 hD => lc_enumT (xs := l.map V.int) (fun j H' => Same H1 H' ∧ H' D2 = some (.lst (tab j fun k => co l k * (k : Int)))) ⟨same_upd0 hD, upd_same⟩ (fun j H' _ hP => SqT.of (hP.1 _ _ e)) (fun j x B H' hx hP hB => ?_) (fun H3 hP => ?_)⟩
        · obtain ⟨sH, hL⟩ := hP
          obtain ⟨hj, rfl⟩ := int_get hx
          refine gen_upd H' B _ hB fun H4 s4 f4 => ⟨B, _, rfl, SqT.of f4, rfl, _, _, rfl, _, _, rfl, rfl, rfl, ?_⟩
          refine ⟨_, rfl, _, rfl, _, _, rfl, rfl, sm_mul (sm_co sl hj) (sm_small (show ((j : Int)).natAbs ≤ 2 ^ 40 by omega)), _, s4 _ _ hL, ?_, fun b o e => ?_, ?_⟩
          · rw [tab_len]
            exact small1000 (by omega)
          · rw [upd_ne (ne_of_none e hD)]
            exact s4 _ _ (sH _ _ e)
          · rw [upd_same, ← tab_snoc]
        · obtain ⟨s3, e3⟩ := hP
          rw [List.length_map, tab_tb] at e3
          exact ⟨_, rfl, D2, _, rfl, SqL.of e3, fun Z nZ => k Z _ ⟨s3.trans (same_upd0 nZ), fin (D2 := D2) nZ⟩⟩
      · refine .inl ⟨_, rfl, t, _, rfl, SqL.of e, fun D2 hD => lc_enumL (xs := l.map V.int) (fun j H' => Same H1 H' ∧ H' D2 = some (.lst (tab j fun k => co l k * (k : Int)))) ⟨same_upd0 hD, upd_same⟩ (fun j H' _ hP => SqL.of (hP.1 _ _ e)) (fun j x B H' hx hP hB => ?_) (fun H3 hP => ?_)⟩
        · obtain ⟨sH, hL⟩ := hP
          obtain ⟨hj, rfl⟩ := int_get hx
          refine gen_upd H' B _ hB fun H4 s4 f4 => ⟨B, _, rfl, SqT.of f4, rfl, _, _, rfl, _, _, rfl, rfl, rfl, ?_⟩
          refine ⟨_, rfl, _, rfl, _, _, rfl, rfl, sm_mul (sm_co sl hj) (sm_small (show ((j : Int)).natAbs ≤ 2 ^ 40 by omega)), _, s4 _ _ hL, ?_, fun b o e => ?_, ?_⟩
          · rw [tab_len]
            exact small1000 (by omega)
          · rw [upd_ne (ne_of_none e hD)]
            exact s4 _ _ (sH _ _ e)
          · rw [upd_same, ← tab_snoc]
        · obtain ⟨s3, e3⟩ := hP
          rw [List.length_map, tab_tb] at e3
          exact ⟨_, rfl, D2, _, rfl, SqL.of e3, fun Z nZ => k Z _ ⟨s3.trans (same_upd0 nZ), fin (D2 := D2) nZ⟩⟩
    rintro Z H2 ⟨s2, e2⟩
    exact ⟨_, rfl, _, rfl, D, Z, dX l, dY l, rfl, s2 _ _ e1, e2, by rw [dX_len]; omega, by rw [dY_len]; omega, ok, hg.same (s1.trans s2), fun p H3 s3 g3 e3 => q p H3 ((Sts.of (s1.trans s2)).trans s3) g3 e3⟩
end
end K45

set_option Elab.async false
set_option linter.all false
set_option maxRecDepth 100000
set_option maxHeartbeats 400000
set_option exponentiation.threshold 10000
/-! told numbers -/
namespace K45
open PySem PySem.Spec PyProof.Rows L2 StX RZ MyR SlX OwnR OwnF EnumT SeqE GxR GenNx FDivQ
section
variable {P : Program} {w : World} {K : PySem.W.Frag} {mg : Str → Option Value} {base : Heap} {Ps : List Addr}
def spReqTold (C : Addr) : Sp := fun vs H Q _ => ∃ (a : Addr) (F : List Int) (n : Nat), vs = [.ref a] ∧ Fo C H a F ∧ F.length = n + 1 ∧ 1 ≤ n ∧ n ≤ 6 ∧ Q .non H
theorem ok_require_told (T : Facts K mg) : FnOk P w K mg base CX0 3 T.f_require_told T.fd_require_told ["form"] (spReqTold T.C_Form) := by
  have G_require_form := ok_require_form (P := P) (w := w) (base := base) T
  have G_Form_degree := ok_Form_degree (P := P) (w := w) (base := base) T
  refine T.F_require_told.ok sc_require_told (fun vs H Q E h => ?_) (fun cdv A outer s H vs Q E hr h => ?_)
  · obtain ⟨a, F, n, rfl, _⟩ := h
    rfl
  · obtain ⟨a, F, n, rfl, fa, lF, n1, n6, q⟩ := h
    refine ⟨_, (PSs.nox (pss_cons (ps_expr (pe_call G_require_form (hr.mono (by decide)) (by rfl) T.g_require_form T.F_require_form.kp T.b_require_form .nil pass0 (pa_cons (pv 0) pa_nil)))
    (pss_one (ps_if (pt_not (pt_chain op_le op_le pe_int (pe_prp (pv 0) T.oc_Form T.pr_Form_degree G_Form_degree T.b_Form_degree (hr.mono (by decide))) (pe_glob (v := .int 6) (by rfl) T.c_MAX_TOLD.choose_spec ⟨_, rfl⟩)))
      (pss_one ps_never)
      pss_nil)))), ?_⟩
    refine ⟨_, rfl, a, F, rfl, fa, _, rfl, ?_⟩
    refine prop_deg fa ⟨_, _, rfl, rfl, _, rfl, ?_⟩
    rw [decide_eq_true (show (1 : Int) ≤ (F.length : Int) - 1 by omega)]
    refine iteT ⟨_, _, rfl, rfl, _, rfl, ?_⟩
    rw [decide_eq_true (show (F.length : Int) - 1 ≤ 6 by omega)]
    exact iteF q
def spLast (C : Addr) : Sp := fun vs H Q _ => ∃ (a b : Addr) (f g : List Int) (t : Nat), vs = [.ref a, .ref b, .int t] ∧ Fo C H a f ∧ Fo C H b g ∧ LdOk t f g ∧ f.length + g.length ≤ 42 ∧ ∀ H', Same H H' → Q (.int (co (L t f g) 0)) H'
theorem ok_last_entry (T : Facts K mg) : FnOk P w K mg base CX0 9 T.f_last_entry T.fd_last_entry ["one", "other", "times"] (spLast T.C_Form) := by
  have G_laid := ok_laid (P := P) (w := w) (base := base) T
  have G_Form_entries : FnOk P w K mg base CX0 1 T.f_Form_entries T.fd_Form_entries ["self"] (spEnt T.C_Form) := ok_Form_entries T
  refine T.F_last_entry.ok sc_last_entry (fun vs H Q E h => ?_) (fun cdv A outer s H vs Q E hr h => ?_)
  · obtain ⟨a, b, f, g, t, rfl, _⟩ := h
    rfl
  · obtain ⟨a, b, f, g, t, rfl, fa, fb, ok, l42, q⟩ := h
    refine ⟨_, (PSs.nox (pss_one (ps_ret (pe_ix ix_tup (pe_prp (pe_call G_laid hr (by rfl) T.g_laid T.F_laid.kp T.b_laid .nil pass0 (pa_cons (pv 0) (pa_cons (pv 1) (pa_cons (pv 2) pa_nil)))) T.oc_Form T.pr_Form_entries G_Form_entries T.b_Form_entries (hr.mono (by decide))) pe_int (fun _ _ => rfl))))), ?_⟩
    have lL := L_len t f g ok.lf ok.lg
    have h1 := ok.lf
    have h2 := ok.lg
    refine ⟨_, rfl, _, rfl, _, rfl, a, b, f, g, t, rfl, fa, fb, ok, l42, fun p H1 s1 f1 => prop_ent f1 fun u hu => ?_⟩
    exact ⟨u, _, 0, .int (co (L t f g) 0), rfl, rfl, SqT.of hu, atI_nat (j := 0) (get_int (by omega)), q H1 s1⟩
def spTold5 (C : Addr) : Sp := fun vs H Q _ => ∃ (a : Addr) (F : List Int), vs = [.ref a] ∧ Fo C H a F ∧ Bd F 5 (2 ^ 110) ∧ ∀ p H', Same H H' → H' p = some (tp (tld F)) → Q (.ref p) H'
theorem ok_told_of_five (T : Facts K mg) : FnOk P w K mg base CX0 10 T.f_told_of_five T.fd_told_of_five ["form"] (spTold5 T.C_Form) := by
  have G_laid := ok_laid (P := P) (w := w) (base := base) T
  have G_last_entry := ok_last_entry (P := P) (w := w) (base := base) T
  refine T.F_told_of_five.ok sc_told_of_five (fun vs H Q E h => ?_) (fun cdv A outer s H vs Q E hr h => ?_)
  · obtain ⟨a, F, rfl, _⟩ := h
    rfl
  · obtain ⟨a, F, rfl, fa, bF, q⟩ := h
    refine ⟨_, (PSs.nox (pss_cons (ps_set (i := 1) sc_told_of_five.nd rfl (.inl rfl) (pe_call G_laid (hr.mono (by decide)) (by rfl) T.g_laid T.F_laid.kp T.b_laid .nil pass0 (pa_cons (pv 0) (pa_cons (pv 0) (pa_cons pe_int pa_nil)))))
    (pss_cons (ps_set (i := 2) sc_told_of_five.nd rfl (.inl rfl) (pe_call G_laid (hr.mono (by decide)) (by rfl) T.g_laid T.F_laid.kp T.b_laid .nil pass0 (pa_cons (pv 0) (pa_cons (pv 1) (pa_cons pe_int pa_nil)))))
    (pss_cons (ps_set (i := 3) sc_told_of_five.nd rfl (.inl rfl) (pe_call G_laid (hr.mono (by decide)) (by rfl) T.g_laid T.F_laid.kp T.b_laid .nil pass0 (pa_cons (pv 2) (pa_cons (pv 2) (pa_cons pe_int pa_nil)))))
    (pss_one (ps_ret (pe_tup (pa_cons (pe_call G_last_entry hr (by rfl) T.g_last_entry T.F_last_entry.kp T.b_last_entry .nil pass0 (pa_cons (pv 1) (pa_cons (pv 1) (pa_cons pe_int pa_nil)))) (pa_cons (pe_call G_last_entry hr (by rfl) T.g_last_entry T.F_last_entry.kp T.b_last_entry .nil pass0 (pa_cons (pv 1) (pa_cons (pv 3) (pa_cons pe_int pa_nil)))) (pa_cons (pe_call G_last_entry hr (by rfl) T.g_last_entry T.F_last_entry.kp T.b_last_entry .nil pass0 (pa_cons (pv 3) (pa_cons (pv 3) (pa_cons pe_int pa_nil)))) pa_nil)))))))))), ?_⟩
    rw [tld5 bF.len] at q
    have o1 := ld_iv (t := 4) (Iv.base 5) (Iv.base 5) bF (by decide) (by decide) (by decide) (by decide) (by decide) (by decide)
    have o2 := ld_iv (t := 2) (Iv.base 5) v5q bF (by decide) (by decide) (by decide) (by decide) (by decide) (by decide)
    have o3 := ld_iv (t := 2) v5t v5t bF (by decide) (by decide) (by decide) (by decide) (by decide) (by decide)
    have o4 := ld_iv (t := 2) v5q v5q bF (by decide) (by decide) (by decide) (by decide) (by decide) (by decide)
    have o5 := ld_iv (t := 2) v5q v5s bF (by decide) (by decide) (by decide) (by decide) (by decide) (by decide)
    have o6 := ld_iv (t := 2) v5s v5s bF (by decide) (by decide) (by decide) (by decide) (by decide) (by decide)
    refine ⟨_, rfl, _, rfl, a, a, F, F, 4, rfl, fa, fa, o1.1, o1.2, fun p1 H1 s1 f1 => ⟨_, rfl, _, rfl, a, p1, F, q4 F, 2, rfl, fa.same s1, f1, o2.1, o2.2, fun p2 H2 s2 f2 => ⟨_, rfl, _, rfl, p2, p2, t5 F, t5 F, 2, rfl, f2, f2, o3.1, o3.2, fun p3 H3 s3 f3 => ?_⟩⟩⟩
    have f1' := f1.same (s2.trans s3)
    refine ⟨_, rfl, _, rfl, p1, p1, q4 F, q4 F, 2, rfl, f1', f1', o4.1, o4.2, fun H4 s4 => ⟨_, rfl, _, rfl, p1, p3, q4 F, s5 F, 2, rfl, f1'.same s4, f3.same s4, o5.1, o5.2, fun H5 s5' => ⟨_, rfl, _, rfl, p3, p3, s5 F, s5 F, 2, rfl, f3.same (s4.trans s5'), f3.same (s4.trans s5'), o6.1, o6.2, fun H6 s6 => ⟨(show 3 ≤ sizeLine by decide), fun p hp => ?_⟩⟩⟩⟩
    exact q p _ (s1.trans (s2.trans (s3.trans (s4.trans (s5'.trans (s6.trans (same_upd0 hp))))))) upd_same
def spTold6 (C : Addr) : Sp := fun vs H Q _ => ∃ (a : Addr) (F : List Int), vs = [.ref a] ∧ Fo C H a F ∧ Bd F 6 (2 ^ 110) ∧ ∀ p H', Same H H' → H' p = some (tp (tld F)) → Q (.ref p) H'
theorem ok_told_of_six (T : Facts K mg) : FnOk P w K mg base CX0 10 T.f_told_of_six T.fd_told_of_six ["form"] (spTold6 T.C_Form) := by
  have G_laid := ok_laid (P := P) (w := w) (base := base) T
  have G_last_entry := ok_last_entry (P := P) (w := w) (base := base) T
  refine T.F_told_of_six.ok sc_told_of_six (fun vs H Q E h => ?_) (fun cdv A outer s H vs Q E hr h => ?_)
  · obtain ⟨a, F, rfl, _⟩ := h
    rfl
  · obtain ⟨a, F, rfl, fa, bF, q⟩ := h
    refine ⟨_, (PSs.nox (pss_cons (ps_set (i := 1) sc_told_of_six.nd rfl (.inl rfl) (pe_call G_laid (hr.mono (by decide)) (by rfl) T.g_laid T.F_laid.kp T.b_laid .nil pass0 (pa_cons (pv 0) (pa_cons (pv 0) (pa_cons pe_int pa_nil)))))
    (pss_cons (ps_set (i := 2) sc_told_of_six.nd rfl (.inl rfl) (pe_call G_laid (hr.mono (by decide)) (by rfl) T.g_laid T.F_laid.kp T.b_laid .nil pass0 (pa_cons (pv 0) (pa_cons (pv 1) (pa_cons pe_int pa_nil)))))
    (pss_cons (ps_par (i := 3) (j := 4) (by rfl) sc_told_of_six.nd rfl rfl (by decide) rfl rfl (pa_cons (pe_call G_laid (hr.mono (by decide)) (by rfl) T.g_laid T.F_laid.kp T.b_laid .nil pass0 (pa_cons (pv 1) (pa_cons (pv 1) (pa_cons pe_int pa_nil)))) (pa_cons (pe_call G_laid (hr.mono (by decide)) (by rfl) T.g_laid T.F_laid.kp T.b_laid .nil pass0 (pa_cons (pv 1) (pa_cons (pe_call G_laid (hr.mono (by decide)) (by rfl) T.g_laid T.F_laid.kp T.b_laid .nil pass0 (pa_cons (pv 1) (pa_cons (pv 2) (pa_cons pe_int pa_nil)))) (pa_cons pe_int pa_nil)))) pa_nil)) (by rfl))
    (pss_one (ps_ret (pe_tup (pa_cons (pe_call G_last_entry hr (by rfl) T.g_last_entry T.F_last_entry.kp T.b_last_entry .nil pass0 (pa_cons (pv 0) (pa_cons (pv 0) (pa_cons pe_int pa_nil)))) (pa_cons (pe_call G_last_entry hr (by rfl) T.g_last_entry T.F_last_entry.kp T.b_last_entry .nil pass0 (pa_cons (pv 1) (pa_cons (pv 1) (pa_cons pe_int pa_nil)))) (pa_cons (pe_call G_last_entry hr (by rfl) T.g_last_entry T.F_last_entry.kp T.b_last_entry .nil pass0 (pa_cons (pv 1) (pa_cons (pv 3) (pa_cons pe_int pa_nil)))) (pa_cons (pe_call G_last_entry hr (by rfl) T.g_last_entry T.F_last_entry.kp T.b_last_entry .nil pass0 (pa_cons (pv 4) (pa_cons (pv 2) (pa_cons pe_int pa_nil)))) pa_nil))))))))))), ?_⟩
    rw [tld6 bF.len] at q
    have o1 := ld_iv (t := 4) (Iv.base 6) (Iv.base 6) bF (by decide) (by decide) (by decide) (by decide) (by decide) (by decide)
    have o2 := ld_iv (t := 4) (Iv.base 6) v6q bF (by decide) (by decide) (by decide) (by decide) (by decide) (by decide)
    have o3 := ld_iv (t := 2) v6q v6q bF (by decide) (by decide) (by decide) (by decide) (by decide) (by decide)
    have o4 := ld_iv (t := 2) v6q v6w bF (by decide) (by decide) (by decide) (by decide) (by decide) (by decide)
    have o5 := ld_iv (t := 2) v6q v6k bF (by decide) (by decide) (by decide) (by decide) (by decide) (by decide)
    have o6 := ld_iv (t := 6) (Iv.base 6) (Iv.base 6) bF (by decide) (by decide) (by decide) (by decide) (by decide) (by decide)
    have o7 := ld_iv (t := 4) v6q v6q bF (by decide) (by decide) (by decide) (by decide) (by decide) (by decide)
    have o8 := ld_iv (t := 4) v6q v6m bF (by decide) (by decide) (by decide) (by decide) (by decide) (by decide)
    have o9 := ld_iv (t := 2) v6l v6w bF (by decide) (by decide) (by decide) (by decide) (by decide) (by decide)
    refine ⟨_, rfl, _, rfl, a, a, F, F, 4, rfl, fa, fa, o1.1, o1.2, fun p1 H1 s1 f1 => ⟨_, rfl, _, rfl, a, p1, F, q4 F, 4, rfl, fa.same s1, f1, o2.1, o2.2, fun p2 H2 s2 f2 => ?_⟩⟩
    have f1' := f1.same s2
    refine ⟨_, rfl, _, rfl, p1, p1, q4 F, q4 F, 2, rfl, f1', f1', o3.1, o3.2, fun p3 H3 s3 f3 => ⟨_, rfl, _, rfl, _, rfl, p1, p2, q4 F, w6 F, 2, rfl, f1'.same s3, f2.same s3, o4.1, o4.2, fun p4 H4 s4 f4 => ⟨p1, p4, q4 F, k6 F, 2, rfl, f1'.same (s3.trans s4), f4, o5.1, o5.2, fun p5 H5 s5' f5 => ⟨_, _, rfl, ?_⟩⟩⟩⟩
    have s25 := s3.trans (s4.trans s5')
    have g1 := f1'.same s25
    have g2 := f2.same s25
    have g3 := f3.same (s4.trans s5')
    have ga := fa.same (s1.trans (s2.trans s25))
    refine ⟨_, rfl, _, rfl, a, a, F, F, 6, rfl, ga, ga, o6.1, o6.2, fun H6 s6 => ⟨_, rfl, _, rfl, p1, p1, q4 F, q4 F, 4, rfl, g1.same s6, g1.same s6, o7.1, o7.2, fun H7 s7 => ⟨_, rfl, _, rfl, p1, p3, q4 F, m6 F, 4, rfl, g1.same (s6.trans s7), g3.same (s6.trans s7), o8.1, o8.2, fun H8 s8 => ⟨_, rfl, _, rfl, p5, p2, l6 F, w6 F, 2, rfl, f5.same (s6.trans (s7.trans s8)), g2.same (s6.trans (s7.trans s8)), o9.1, o9.2, fun H9 s9 => ⟨(show 4 ≤ sizeLine by decide), fun p hp => ?_⟩⟩⟩⟩⟩
    exact q p _ (s1.trans (s2.trans (s25.trans (s6.trans (s7.trans (s8.trans (s9.trans (same_upd0 hp)))))))) upd_same
end
end K45

set_option Elab.async false
set_option linter.all false
set_option maxRecDepth 100000
set_option maxHeartbeats 1000000
set_option exponentiation.threshold 10000
/-! told numbers of any form of a degree from 1 to 6 -/
namespace K45
open PySem PySem.Spec PyProof.Rows L2 StX RZ MyR SlX OwnR OwnF EnumT SeqE GxR GenNx FDivQ
section
variable {P : Program} {w : World} {K : PySem.W.Frag} {mg : Str → Option Value} {base : Heap} {Ps : List Addr}
def spToldIn (C : Addr) : Sp := fun vs H Q _ => ∃ (a : Addr) (F : List Int) (n : Nat), vs = [.ref a] ∧ Fo C H a F ∧ Bd F n (2 ^ 110) ∧ 1 ≤ n ∧ n ≤ 6 ∧ ∀ p H', Same H H' → H' p = some (tp (tld F)) → Q (.ref p) H'
theorem ok_told_in (T : Facts K mg) : FnOk P w K mg base CX0 11 T.f_told_in T.fd_told_in ["form"] (spToldIn T.C_Form) := by
  have G_laid := ok_laid (P := P) (w := w) (base := base) T
  have G_last_entry := ok_last_entry (P := P) (w := w) (base := base) T
  have G_told_of_five := ok_told_of_five (P := P) (w := w) (base := base) T
  have G_told_of_six := ok_told_of_six (P := P) (w := w) (base := base) T
  have G_Form_degree := ok_Form_degree (P := P) (w := w) (base := base) T
  refine T.F_told_in.ok sc_told_in (fun vs H Q E h => ?_) (fun cdv A outer s H vs Q E hr h => ?_)
  · obtain ⟨a, F, n, rfl, _⟩ := h
    rfl
  · obtain ⟨a, F, n, rfl, fa, bF, n1, n6, q⟩ := h
    refine ⟨_, (PSs.nox (pss_cons (ps_if (pt_cmpR op_eq (pe_prp (pv 0) T.oc_Form T.pr_Form_degree G_Form_degree T.b_Form_degree (hr.mono (by decide))) pe_int (nomark _))
      (pss_one (ps_ret (pe_tup pa_nil)))
      pss_nil)
    (pss_cons (ps_if (pt_cmpR op_eq (pe_prp (pv 0) T.oc_Form T.pr_Form_degree G_Form_degree T.b_Form_degree (hr.mono (by decide))) pe_int (nomark _))
      (pss_one (ps_ret (pe_tup (pa_cons (pe_call G_last_entry (hr.mono (by decide)) (by rfl) T.g_last_entry T.F_last_entry.kp T.b_last_entry .nil pass0 (pa_cons (pv 0) (pa_cons (pv 0) (pa_cons pe_int pa_nil)))) pa_nil))))
      pss_nil)
    (pss_cons (ps_if (pt_cmpR op_eq (pe_prp (pv 0) T.oc_Form T.pr_Form_degree G_Form_degree T.b_Form_degree (hr.mono (by decide))) pe_int (nomark _))
      (pss_one (ps_ret (pe_call G_told_of_five hr (by rfl) T.g_told_of_five T.F_told_of_five.kp T.b_told_of_five .nil pass0 (pa_cons (pv 0) pa_nil))))
      pss_nil)
    (pss_cons (ps_if (pt_cmpR op_eq (pe_prp (pv 0) T.oc_Form T.pr_Form_degree G_Form_degree T.b_Form_degree (hr.mono (by decide))) pe_int (nomark _))
      (pss_one (ps_ret (pe_call G_told_of_six hr (by rfl) T.g_told_of_six T.F_told_of_six.kp T.b_told_of_six .nil pass0 (pa_cons (pv 0) pa_nil))))
      pss_nil)
    (pss_cons (ps_set (i := 1) sc_told_in.nd rfl (.inl rfl) (pe_call G_laid (hr.mono (by decide)) (by rfl) T.g_laid T.F_laid.kp T.b_laid .nil pass0 (pa_cons (pv 0) (pa_cons (pv 0) (pa_cons pe_int pa_nil)))))
    (pss_cons (ps_if (pt_cmpR op_eq (pe_prp (pv 0) T.oc_Form T.pr_Form_degree G_Form_degree T.b_Form_degree (hr.mono (by decide))) pe_int (nomark _))
      (pss_one (ps_ret (pe_tup (pa_cons (pe_call G_last_entry (hr.mono (by decide)) (by rfl) T.g_last_entry T.F_last_entry.kp T.b_last_entry .nil pass0 (pa_cons (pv 1) (pa_cons (pv 1) (pa_cons pe_int pa_nil)))) pa_nil))))
      pss_nil)
    (pss_one (ps_ret (pe_tup (pa_cons (pe_call G_last_entry (hr.mono (by decide)) (by rfl) T.g_last_entry T.F_last_entry.kp T.b_last_entry .nil pass0 (pa_cons (pv 0) (pa_cons (pv 0) (pa_cons pe_int pa_nil)))) (pa_cons (pe_call G_last_entry (hr.mono (by decide)) (by rfl) T.g_last_entry T.F_last_entry.kp T.b_last_entry .nil pass0 (pa_cons (pv 0) (pa_cons (pv 1) (pa_cons pe_int pa_nil)))) pa_nil)))))))))))), ?_⟩
    have lF := bF.len
    refine ⟨_, rfl, prop_deg fa ⟨rfl, _, rfl, ?_⟩⟩
    by_cases c1 : n = 1
    · subst c1
      rw [tld1 lF] at q
      rw [decide_eq_true (congrArg V.int (show (F.length : Int) - 1 = 1 by omega))]
      exact iteT ⟨(show 0 ≤ sizeLine from Nat.zero_le _), fun p hp => q p _ (same_upd0 hp) upd_same⟩
    rw [decide_eq_false (show ¬ V.int ((F.length : Int) - 1) = V.int 1 from fun z => by have := V.int.inj z; omega)]
    refine iteF ⟨_, rfl, prop_deg fa ⟨rfl, _, rfl, ?_⟩⟩
    by_cases c2 : n = 2
    · subst c2
      rw [tld2 lF] at q
      have o1 := ld_iv (t := 2) (Iv.base 2) (Iv.base 2) bF (by decide) (by decide) (by decide) (by decide) (by decide) (by decide)
      rw [decide_eq_true (congrArg V.int (show (F.length : Int) - 1 = 2 by omega))]
      exact iteT ⟨_, rfl, _, rfl, a, a, F, F, 2, rfl, fa, fa, o1.1, o1.2, fun H1 s1 => ⟨(show 1 ≤ sizeLine by decide), fun p hp => q p _ (s1.trans (same_upd0 hp)) upd_same⟩⟩
    rw [decide_eq_false (show ¬ V.int ((F.length : Int) - 1) = V.int 2 from fun z => by have := V.int.inj z; omega)]
    refine iteF ⟨_, rfl, prop_deg fa ⟨rfl, _, rfl, ?_⟩⟩
    by_cases c5 : n = 5
    · subst c5
      rw [decide_eq_true (congrArg V.int (show (F.length : Int) - 1 = 5 by omega))]
      exact iteT ⟨_, rfl, a, F, rfl, fa, bF, q⟩
    rw [decide_eq_false (show ¬ V.int ((F.length : Int) - 1) = V.int 5 from fun z => by have := V.int.inj z; omega)]
    refine iteF ⟨_, rfl, prop_deg fa ⟨rfl, _, rfl, ?_⟩⟩
    by_cases c6 : n = 6
    · subst c6
      rw [decide_eq_true (congrArg V.int (show (F.length : Int) - 1 = 6 by omega))]
      exact iteT ⟨_, rfl, a, F, rfl, fa, bF, q⟩
    rw [decide_eq_false (show ¬ V.int ((F.length : Int) - 1) = V.int 6 from fun z => by have := V.int.inj z; omega)]
    have c34 : n = 3 ∨ n = 4 := by omega
    rcases c34 with c | c
    · subst c
      rw [tld3 lF] at q
      have o1 := ld_iv (t := 2) (Iv.base 3) (Iv.base 3) bF (by decide) (by decide) (by decide) (by decide) (by decide) (by decide)
      have o2 := ld_iv (t := 2) v3h v3h bF (by decide) (by decide) (by decide) (by decide) (by decide) (by decide)
      refine iteF ⟨_, rfl, _, rfl, a, a, F, F, 2, rfl, fa, fa, o1.1, o1.2, fun p1 H1 s1 f1 => ⟨_, rfl, prop_deg (fa.same s1) ⟨rfl, _, rfl, ?_⟩⟩⟩
      rw [decide_eq_true (congrArg V.int (show (F.length : Int) - 1 = 3 by omega))]
      exact iteT ⟨_, rfl, _, rfl, p1, p1, i2 F, i2 F, 2, rfl, f1, f1, o2.1, o2.2, fun H2 s2 => ⟨(show 1 ≤ sizeLine by decide), fun p hp => q p _ (s1.trans (s2.trans (same_upd0 hp))) upd_same⟩⟩
    · subst c
      rw [tld4 lF] at q
      have o1 := ld_iv (t := 2) (Iv.base 4) (Iv.base 4) bF (by decide) (by decide) (by decide) (by decide) (by decide) (by decide)
      have o2 := ld_iv (t := 4) (Iv.base 4) (Iv.base 4) bF (by decide) (by decide) (by decide) (by decide) (by decide) (by decide)
      have o3 := ld_iv (t := 4) (Iv.base 4) v4h bF (by decide) (by decide) (by decide) (by decide) (by decide) (by decide)
      refine iteF ⟨_, rfl, _, rfl, a, a, F, F, 2, rfl, fa, fa, o1.1, o1.2, fun p1 H1 s1 f1 => ⟨_, rfl, prop_deg (fa.same s1) ⟨rfl, _, rfl, ?_⟩⟩⟩
      rw [decide_eq_false (show ¬ V.int ((F.length : Int) - 1) = V.int 3 from fun z => by have := V.int.inj z; omega)]
      have fa1 := fa.same s1
      exact iteF ⟨_, rfl, _, rfl, a, a, F, F, 4, rfl, fa1, fa1, o2.1, o2.2, fun H2 s2 => ⟨_, rfl, _, rfl, a, p1, F, i2 F, 4, rfl, fa1.same s2, f1.same s2, o3.1, o3.2, fun H3 s3 => ⟨(show 2 ≤ sizeLine by decide), fun p hp => q p _ (s1.trans (s2.trans (s3.trans (same_upd0 hp)))) upd_same⟩⟩⟩
end
end K45

set_option Elab.async false
set_option linter.all false
set_option maxRecDepth 100000
set_option maxHeartbeats 1000000
set_option exponentiation.threshold 10000
/-! the law's told numbers and due rows -/
namespace K45
open PySem PySem.Spec PyProof.Rows L2 StX RZ MyR SlX OwnR OwnF EnumT SeqE GxR GenNx FDivQ
theorem eqT {i j : Int} (h : i = j) : decide (V.int i = V.int j) = true := decide_eq_true (congrArg V.int h)
theorem eqF {i j : Int} (h : i ≠ j) : decide (V.int i = V.int j) = false := decide_eq_false fun z => h (V.int.inj z)
theorem ap2 {a b : Int} {A B : List Int} (h1 : A = [a]) (h2 : B = [b]) : A ++ B = [a, b] ∧ A.length + B.length ≤ 1000 := by
  rw [h1, h2]
  exact ⟨rfl, by show 1 + 1 ≤ 1000; decide⟩
theorem ap3 {a b c : Int} {A B C : List Int} (h1 : A = [a]) (h2 : B = [b]) (h3 : C = [c]) : (A ++ B) ++ C = [a, b, c] ∧ A.length + B.length ≤ 1000 ∧ (A ++ B).length + C.length ≤ 1000 := by
  rw [h1, h2, h3]
  exact ⟨rfl, by show 1 + 1 ≤ 1000; decide, by show 2 + 1 ≤ 1000; decide⟩
theorem ap4 {a b c d : Int} {A B C D : List Int} (h1 : A = [a]) (h2 : B = [b]) (h3 : C = [c]) (h4 : D = [d]) : ((A ++ B) ++ C) ++ D = [a, b, c, d] ∧ A.length + B.length ≤ 1000 ∧ (A ++ B).length + C.length ≤ 1000 ∧ ((A ++ B) ++ C).length + D.length ≤ 1000 := by
  rw [h1, h2, h3, h4]
  exact ⟨rfl, by show 1 + 1 ≤ 1000; decide, by show 2 + 1 ≤ 1000; decide, by show 3 + 1 ≤ 1000; decide⟩
section
variable {P : Program} {w : World} {K : PySem.W.Frag} {mg : Str → Option Value} {base : Heap} {Ps : List Addr}
def spInvs : Sp := fun vs H Q _ => ∃ (t : Addr) (F : List Int) (n : Nat), vs = [.ref t] ∧ H t = some (tp F) ∧ Bd F n (2 ^ 110) ∧ 1 ≤ n ∧ n ≤ 6 ∧ ∀ p H', Same H H' → H' p = some (tp (tld F)) → Q (.ref p) H'
theorem ok_law_invariants (T : Facts K mg) : FnOk P w K mg base CX0 4 T.f_law_invariants T.fd_law_invariants ["_law_form_here"] spInvs := by
  have G_law_laid := ok_law_laid (P := P) (w := w) (base := base) T
  refine T.F_law_invariants.ok sc_law_invariants (fun vs H Q E h => ?_) (fun cdv A outer s H vs Q E hr h => ?_)
  · obtain ⟨t, F, n, rfl, _⟩ := h
    rfl
  · obtain ⟨t, F, n, rfl, ht, bF, n1, n6, q⟩ := h
    refine ⟨_, (PSs.nox (pss_cons (ps_set (i := 1) sc_law_invariants.nd rfl (.inl rfl) (pe_op op_sub (pe_callB call_len_seq (by rfl) T.z_len (by decide +kernel) (pa_cons (pv 0) pa_nil)) pe_int))
    (pss_cons (ps_if (pt_cmpR op_eq (pv 1) pe_int (nomark _))
      (pss_one (ps_ret (pe_tup pa_nil)))
      pss_nil)
    (pss_cons (ps_if (pt_cmpR op_eq (pv 1) pe_int (nomark _))
      (pss_one (ps_ret (pe_call G_law_laid hr (by rfl) T.g_law_laid T.F_law_laid.kp T.b_law_laid .nil pass0 (pa_cons (pv 0) (pa_cons (pv 0) (pa_cons pe_int pa_nil))))))
      pss_nil)
    (pss_cons (ps_set (i := 2) sc_law_invariants.nd rfl (.inl rfl) (pe_ifExp (pt_cmpR op_gt (pv 1) pe_int (nomark _)) (pe_call G_law_laid hr (by rfl) T.g_law_laid T.F_law_laid.kp T.b_law_laid .nil pass0 (pa_cons (pv 0) (pa_cons (pv 0) (pa_cons pe_int pa_nil)))) (pe_tup pa_nil)))
    (pss_cons (ps_if (pt_cmpR op_lt (pv 1) pe_int (nomark _))
      (pss_cons (ps_set (i := 3) sc_law_invariants.nd rfl (.inl rfl) (pe_call G_law_laid hr (by rfl) T.g_law_laid T.F_law_laid.kp T.b_law_laid .nil pass0 (pa_cons (pv 0) (pa_cons (pv 0) (pa_cons pe_int pa_nil)))))
      (pss_one (ps_ret (pe_ifExp (pt_cmpR op_eq (pv 1) pe_int (nomark _)) (pe_call G_law_laid hr (by rfl) T.g_law_laid T.F_law_laid.kp T.b_law_laid .nil pass0 (pa_cons (pv 3) (pa_cons (pv 3) (pa_cons pe_int pa_nil)))) (pe_op op_catA (pv 2) (pe_call G_law_laid hr (by rfl) T.g_law_laid T.F_law_laid.kp T.b_law_laid .nil pass0 (pa_cons (pv 0) (pa_cons (pv 3) (pa_cons pe_int pa_nil)))))))))
      pss_nil)
    (pss_cons (ps_if (pt_cmpR op_eq (pv 1) pe_int (nomark _))
      (pss_cons (ps_set (i := 4) sc_law_invariants.nd rfl (.inl rfl) (pe_call G_law_laid hr (by rfl) T.g_law_laid T.F_law_laid.kp T.b_law_laid .nil pass0 (pa_cons (pv 0) (pa_cons (pv 2) (pa_cons pe_int pa_nil)))))
      (pss_cons (ps_set (i := 5) sc_law_invariants.nd rfl (.inl rfl) (pe_call G_law_laid hr (by rfl) T.g_law_laid T.F_law_laid.kp T.b_law_laid .nil pass0 (pa_cons (pv 4) (pa_cons (pv 4) (pa_cons pe_int pa_nil)))))
      (pss_one (ps_ret (pe_op op_catA (pe_op op_catA (pe_call G_law_laid hr (by rfl) T.g_law_laid T.F_law_laid.kp T.b_law_laid .nil pass0 (pa_cons (pv 2) (pa_cons (pv 2) (pa_cons pe_int pa_nil)))) (pe_call G_law_laid hr (by rfl) T.g_law_laid T.F_law_laid.kp T.b_law_laid .nil pass0 (pa_cons (pv 2) (pa_cons (pv 5) (pa_cons pe_int pa_nil))))) (pe_call G_law_laid hr (by rfl) T.g_law_laid T.F_law_laid.kp T.b_law_laid .nil pass0 (pa_cons (pv 5) (pa_cons (pv 5) (pa_cons pe_int pa_nil)))))))))
      pss_nil)
    (pss_cons (ps_set (i := 6) sc_law_invariants.nd rfl (.inl rfl) (pe_call G_law_laid hr (by rfl) T.g_law_laid T.F_law_laid.kp T.b_law_laid .nil pass0 (pa_cons (pv 0) (pa_cons (pv 2) (pa_cons pe_int pa_nil)))))
    (pss_cons (ps_par (i := 7) (j := 8) (by rfl) sc_law_invariants.nd rfl rfl (by decide) rfl rfl (pa_cons (pe_call G_law_laid hr (by rfl) T.g_law_laid T.F_law_laid.kp T.b_law_laid .nil pass0 (pa_cons (pv 2) (pa_cons (pv 2) (pa_cons pe_int pa_nil)))) (pa_cons (pe_call G_law_laid hr (by rfl) T.g_law_laid T.F_law_laid.kp T.b_law_laid .nil pass0 (pa_cons (pv 2) (pa_cons (pe_call G_law_laid hr (by rfl) T.g_law_laid T.F_law_laid.kp T.b_law_laid .nil pass0 (pa_cons (pv 2) (pa_cons (pv 6) (pa_cons pe_int pa_nil)))) (pa_cons pe_int pa_nil)))) pa_nil)) (by rfl))
    (pss_one (ps_ret (pe_op op_catA (pe_op op_catA (pe_op op_catA (pe_call G_law_laid hr (by rfl) T.g_law_laid T.F_law_laid.kp T.b_law_laid .nil pass0 (pa_cons (pv 0) (pa_cons (pv 0) (pa_cons pe_int pa_nil)))) (pe_call G_law_laid hr (by rfl) T.g_law_laid T.F_law_laid.kp T.b_law_laid .nil pass0 (pa_cons (pv 2) (pa_cons (pv 2) (pa_cons pe_int pa_nil))))) (pe_call G_law_laid hr (by rfl) T.g_law_laid T.F_law_laid.kp T.b_law_laid .nil pass0 (pa_cons (pv 2) (pa_cons (pv 7) (pa_cons pe_int pa_nil))))) (pe_call G_law_laid hr (by rfl) T.g_law_laid T.F_law_laid.kp T.b_law_laid .nil pass0 (pa_cons (pv 8) (pa_cons (pv 6) (pa_cons pe_int pa_nil)))))))))))))))), ?_⟩
    have lF := bF.len
    have lz : (((F.map V.int).length : Nat) : Int) - 1 = (n : Int) := by
      rw [List.length_map, lF]
      omega
    refine ⟨_, rfl, t, _, rfl, .inr (SqT.of ht), _, _, rfl, rfl, ?_⟩
    refine ⟨_, rfl, rfl, _, rfl, ?_⟩
    by_cases c1 : n = 1
    · rw [eqT (by omega)]
      subst c1
      rw [tld1 lF] at q
      exact iteT ⟨(show 0 ≤ sizeLine from Nat.zero_le _), fun p hp => q p _ (same_upd0 hp) upd_same⟩
    rw [eqF (by omega)]
    refine iteF ⟨_, rfl, rfl, _, rfl, ?_⟩
    by_cases c2 : n = 2
    · rw [eqT (by omega)]
      subst c2
      rw [tld2 lF, ← v2.one lF] at q
      have o1 := ld_iv (t := 2) (Iv.base 2) (Iv.base 2) bF (by decide) (by decide) (by decide) (by decide) (by decide) (by decide)
      exact iteT ⟨_, rfl, _, rfl, t, t, F, F, 2, rfl, ht, ht, o1.1, q⟩
    rw [eqF (by omega)]
    refine iteF ⟨_, rfl, _, _, rfl, rfl, _, rfl, ?_⟩
    by_cases c3 : n = 3
    · rw [decide_eq_false (by omega)]
      subst c3
      have o1 := ld_iv (t := 2) (Iv.base 3) (Iv.base 3) bF (by decide) (by decide) (by decide) (by decide) (by decide) (by decide)
      have o2 := ld_iv (t := 2) v3h v3h bF (by decide) (by decide) (by decide) (by decide) (by decide) (by decide)
      rw [tld3 lF, ← v3.one lF] at q
      refine iteF ⟨(show 0 ≤ sizeLine from Nat.zero_le _), fun p1 h1 => ⟨_, rfl, _, _, rfl, rfl, _, rfl, ?_⟩⟩
      have s1 := same_upd0 (o := .tup []) h1
      rw [decide_eq_true (by omega)]
      refine iteT ⟨_, rfl, _, rfl, t, t, F, F, 2, rfl, s1 _ _ ht, s1 _ _ ht, o1.1, fun p2 H2 s2 e2 => ⟨_, rfl, rfl, _, rfl, ?_⟩⟩
      rw [eqT (by omega)]
      exact iteT ⟨_, rfl, _, rfl, p2, p2, i2 F, i2 F, 2, rfl, e2, e2, o2.1, fun p3 H3 s3 e3 => q p3 H3 (s1.trans (s2.trans s3)) e3⟩
    rw [decide_eq_true (by omega)]
    by_cases c4 : n = 4
    · subst c4
      have o1 := ld_iv (t := 2) (Iv.base 4) (Iv.base 4) bF (by decide) (by decide) (by decide) (by decide) (by decide) (by decide)
      have o2 := ld_iv (t := 4) (Iv.base 4) (Iv.base 4) bF (by decide) (by decide) (by decide) (by decide) (by decide) (by decide)
      have o3 := ld_iv (t := 4) (Iv.base 4) v4h bF (by decide) (by decide) (by decide) (by decide) (by decide) (by decide)
      obtain ⟨e4, l4⟩ := ap2 (v4a.one lF) (v4b.one lF)
      rw [tld4 lF, ← e4] at q
      clear e4
      refine iteT ⟨_, rfl, _, rfl, t, t, F, F, 4, rfl, ht, ht, o2.1, fun p1 H1 s1 e1 => ⟨_, rfl, _, _, rfl, rfl, _, rfl, ?_⟩⟩
      rw [decide_eq_true (by omega)]
      refine iteT ⟨_, rfl, _, rfl, t, t, F, F, 2, rfl, s1 _ _ ht, s1 _ _ ht, o1.1, fun p2 H2 s2 e2 => ⟨_, rfl, rfl, _, rfl, ?_⟩⟩
      rw [eqF (by omega)]
      have s12 := s1.trans s2
      exact iteF ⟨_, rfl, _, rfl, _, rfl, t, p2, F, i2 F, 4, rfl, s12 _ _ ht, e2, o3.1, fun p3 H3 s3 e3 => cat_rows (s3 _ _ (s2 _ _ e1)) e3 l4 fun p H' s' e' => q p H' (s12.trans (s3.trans s')) e'⟩
    by_cases c5 : n = 5
    · subst c5
      have o1 := ld_iv (t := 4) (Iv.base 5) (Iv.base 5) bF (by decide) (by decide) (by decide) (by decide) (by decide) (by decide)
      have o2 := ld_iv (t := 2) (Iv.base 5) v5q bF (by decide) (by decide) (by decide) (by decide) (by decide) (by decide)
      have o3 := ld_iv (t := 2) v5t v5t bF (by decide) (by decide) (by decide) (by decide) (by decide) (by decide)
      have o4 := ld_iv (t := 2) v5q v5q bF (by decide) (by decide) (by decide) (by decide) (by decide) (by decide)
      have o5 := ld_iv (t := 2) v5q v5s bF (by decide) (by decide) (by decide) (by decide) (by decide) (by decide)
      have o6 := ld_iv (t := 2) v5s v5s bF (by decide) (by decide) (by decide) (by decide) (by decide) (by decide)
      obtain ⟨eq, k1, k2⟩ := ap3 (v5a.one lF) (v5b.one lF) (v5c.one lF)
      rw [tld5 lF, ← eq] at q
      clear eq
      refine iteT ⟨_, rfl, _, rfl, t, t, F, F, 4, rfl, ht, ht, o1.1, fun p1 H1 s1 f1 => ⟨_, rfl, _, _, rfl, rfl, _, rfl, ?_⟩⟩
      rw [decide_eq_false (by omega)]
      refine iteF ⟨_, rfl, rfl, _, rfl, ?_⟩
      rw [eqT (by omega)]
      refine iteT ⟨_, rfl, _, rfl, t, p1, F, q4 F, 2, rfl, s1 _ _ ht, f1, o2.1, fun p2 H2 s2 f2 => ⟨_, rfl, _, rfl, p2, p2, t5 F, t5 F, 2, rfl, f2, f2, o3.1, fun p3 H3 s3 f3 => ?_⟩⟩
      have g1 := s3 _ _ (s2 _ _ f1)
      refine ⟨_, rfl, _, rfl, p1, p1, q4 F, q4 F, 2, rfl, g1, g1, o4.1, fun p4 H4 s4 f4 => ⟨_, rfl, _, rfl, p1, p3, q4 F, s5 F, 2, rfl, s4 _ _ g1, s4 _ _ f3, o5.1, fun p5 H5 s5' f5 => cat_rows (s5' _ _ f4) f5 k1 fun p6 H6 s6 f6 => ?_⟩⟩
      have s36 := s4.trans (s5'.trans s6)
      have g3 := s36 _ _ f3
      exact ⟨_, rfl, _, rfl, p3, p3, s5 F, s5 F, 2, rfl, g3, g3, o6.1, fun p7 H7 s7 f7 => cat_rows (s7 _ _ f6) f7 k2 fun p H' s' e' => q p H' (s1.trans (s2.trans (s3.trans (s36.trans (s7.trans s'))))) e'⟩
    have c6 : n = 6 := by omega
    subst c6
    have o1 := ld_iv (t := 4) (Iv.base 6) (Iv.base 6) bF (by decide) (by decide) (by decide) (by decide) (by decide) (by decide)
    have o2 := ld_iv (t := 4) (Iv.base 6) v6q bF (by decide) (by decide) (by decide) (by decide) (by decide) (by decide)
    have o3 := ld_iv (t := 2) v6q v6q bF (by decide) (by decide) (by decide) (by decide) (by decide) (by decide)
    have o4 := ld_iv (t := 2) v6q v6w bF (by decide) (by decide) (by decide) (by decide) (by decide) (by decide)
    have o5 := ld_iv (t := 2) v6q v6k bF (by decide) (by decide) (by decide) (by decide) (by decide) (by decide)
    have o6 := ld_iv (t := 6) (Iv.base 6) (Iv.base 6) bF (by decide) (by decide) (by decide) (by decide) (by decide) (by decide)
    have o7 := ld_iv (t := 4) v6q v6q bF (by decide) (by decide) (by decide) (by decide) (by decide) (by decide)
    have o8 := ld_iv (t := 4) v6q v6m bF (by decide) (by decide) (by decide) (by decide) (by decide) (by decide)
    have o9 := ld_iv (t := 2) v6l v6w bF (by decide) (by decide) (by decide) (by decide) (by decide) (by decide)
    obtain ⟨eq, k1, k2, k3⟩ := ap4 (v6a.one lF) (v6b.one lF) (v6c.one lF) (v6d.one lF)
    rw [tld6 lF, ← eq] at q
    clear eq
    refine iteT ⟨_, rfl, _, rfl, t, t, F, F, 4, rfl, ht, ht, o1.1, fun p1 H1 s1 f1 => ⟨_, rfl, _, _, rfl, rfl, _, rfl, ?_⟩⟩
    rw [decide_eq_false (by omega)]
    refine iteF ⟨_, rfl, rfl, _, rfl, ?_⟩
    rw [eqF (by omega)]
    refine iteF ⟨_, rfl, _, rfl, t, p1, F, q4 F, 4, rfl, s1 _ _ ht, f1, o2.1, fun p2 H2 s2 f2 => ?_⟩
    have g1 := s2 _ _ f1
    refine ⟨_, rfl, _, rfl, p1, p1, q4 F, q4 F, 2, rfl, g1, g1, o3.1, fun p3 H3 s3 f3 => ⟨_, rfl, _, rfl, _, rfl, p1, p2, q4 F, w6 F, 2, rfl, s3 _ _ g1, s3 _ _ f2, o4.1, fun p4 H4 s4 f4 => ⟨p1, p4, q4 F, k6 F, 2, rfl, s4 _ _ (s3 _ _ g1), f4, o5.1, fun p5 H5 s5' f5 => ⟨_, _, rfl, ?_⟩⟩⟩⟩
    have s25 := s3.trans (s4.trans s5')
    have h1 := s25 _ _ g1
    have h2 := s25 _ _ f2
    have h3 := (s4.trans s5') _ _ f3
    have ha := (s1.trans (s2.trans s25)) _ _ ht
    refine ⟨_, rfl, _, rfl, t, t, F, F, 6, rfl, ha, ha, o6.1, fun p6 H6 s6 f6 => ⟨_, rfl, _, rfl, p1, p1, q4 F, q4 F, 4, rfl, s6 _ _ h1, s6 _ _ h1, o7.1, fun p7 H7 s7 f7 => cat_rows (s7 _ _ f6) f7 k1 fun p8 H8 s8 f8 => ?_⟩⟩
    have s58 := s6.trans (s7.trans s8)
    refine ⟨_, rfl, _, rfl, p1, p3, q4 F, m6 F, 4, rfl, s58 _ _ h1, s58 _ _ h3, o8.1, fun p9 H9 s9 f9 => cat_rows (s9 _ _ f8) f9 k2 fun pa Ha sa fa => ?_⟩
    have s5a := s58.trans (s9.trans sa)
    exact ⟨_, rfl, _, rfl, p5, p2, l6 F, w6 F, 2, rfl, s5a _ _ f5, s5a _ _ h2, o9.1, fun pb Hb sb fb => cat_rows (sb _ _ fa) fb k3 fun p H' s' e' => q p H' (s1.trans (s2.trans (s25.trans (s5a.trans (sb.trans s'))))) e'⟩
end
end K45

set_option Elab.async false
set_option linter.all false
set_option maxRecDepth 100000
set_option maxHeartbeats 4000000
set_option exponentiation.threshold 10000
/-! how often the greatest factor stands; kinds -/
namespace K45
open PySem PySem.Spec PyProof.Rows L2 StX RZ MyR SlX OwnR OwnF EnumT SeqE GxR GenNx FDivQ
section
variable {P : Program} {w : World} {K : PySem.W.Frag} {mg : Str → Option Value} {base : Heap} {Ps : List Addr}
structure MtOk (F : List Int) : Prop where
  len : F.length ≤ 11
  nm : nm F ≤ 2 ^ 92
def spMost (Ps : List Addr) : Sp := fun vs H Q _ => ∃ (t : Addr) (F : List Int), vs = [.ref t] ∧ H t = some (tp F) ∧ MtOk F ∧ Nz (ev F) ∧ Tg Ps H ∧ ∀ H', Sts Ps H H' → Tg Ps H' → Q (.int (gtm F : Nat)) H'
theorem ok_most_times_in (T : Facts K mg) (TB_first_of : TabB base mg T.c_first_of T.P_first_of) (hP : T.P_first_of ∈ Ps) : FnOk P w K mg base CX0 7 T.f_most_times_in T.fd_most_times_in ["entries"] (spMost Ps) := by
  have G_lessened_line := ok_lessened_line (P := P) (w := w) (base := base) T TB_first_of hP
  refine T.F_most_times_in.ok sc_most_times_in (fun vs H Q E h => ?_) (fun cdv A outer s H vs Q E hr h => ?_)
  · obtain ⟨t, F, rfl, _⟩ := h
    rfl
  · obtain ⟨t, F, rfl, ht, ok, nF, hg, q⟩ := h
    refine ⟨_, (PSs.nox (pss_cons (ps_par (i := 1) (j := 2) (by rfl) sc_most_times_in.nd rfl rfl (by decide) rfl rfl (pa_cons pe_int (pa_cons (pv 0) pa_nil)) (by rfl))
    (pss_cons (ps_while PassesOwn.never (pt_cmpR op_gt (pe_callB call_len_seq (by rfl) T.z_len (by decide +kernel) (pa_cons (pv 2) pa_nil)) pe_int (nomark _))
      (pss_one (ps_par (i := 1) (j := 2) (by rfl) sc_most_times_in.nd rfl rfl (by decide) rfl rfl (pa_cons (pe_op op_add (pv 1) pe_int) (pa_cons (pe_call G_lessened_line hr (by rfl) T.g_lessened_line T.F_lessened_line.kp T.b_lessened_line .nil pass0 (pa_cons (pv 2) pa_nil)) pa_nil)) (by rfl))))
    (pss_one (ps_ret (pv 1)))))), ?_⟩
    refine ⟨_, rfl, _, _, rfl, ?_⟩
    refine WhileD.while_m (fun m σ H' => ∃ (n : Nat) (p : Addr) (l : List Int), m = l.length ∧ σ = [some (.ref t), some (.int n), some (.ref p)] ∧ (H' p = some (tp l) ∨ H' p = some (ls l)) ∧ Gd F l ∧ n + gtm l = gtm F ∧ Sts Ps H H' ∧ Tg Ps H') ⟨_, 0, t, F, rfl, rfl, .inl ht, Gd.start ok.len nF ok.nm, Nat.zero_add _, Sts.rf Ps H, hg⟩ (fun m σ H' hP => ?_)
    obtain ⟨n, p, l, rfl, rfl, hp, gd, ge, sH, gH⟩ := hP
    refine ⟨_, rfl, p, _, rfl, hp.symm.imp (fun e => SqL.of e) (fun e => SqT.of e), _, _, rfl, rfl, _, rfl, ?_⟩
    rw [List.length_map]
    by_cases c : 1 < l.length
    · rw [decide_eq_true (show (1 : Int) < (l.length : Int) by omega)]
      have hl := lss_len (by omega) gd.nz
      refine iteT (WhileD.turnM ⟨_, rfl, _, _, rfl, rfl, _, rfl, p, l, rfl, hp, by omega, gd.len, gd.sm, gd.cl, gH, fun p2 H2 s2 g2 e2 => ⟨_, _, rfl, ?_⟩⟩)
      refine ⟨(lss l).length, by omega, n + 1, p2, lss l, rfl, rfl, .inr e2, gd.next ok.len nF ok.nm (by omega), ?_, sH.trans s2, g2⟩
      rw [← ge, gtm_step (by omega) gd.nz]
      omega
    · rw [decide_eq_false (show ¬ (1 : Int) < (l.length : Int) by omega)]
      rw [gtm_one (F := l) (by omega)] at ge
      have := q H' sH gH
      rw [← ge] at this
      exact iteF ⟨_, rfl, this⟩
def lv (l : List Int) : Prop := l.any (· != 0) = true
theorem lv_nz {l : List Int} (h : lv l) : Nz (ev l) := Classical.byContradiction fun c => by
  obtain ⟨x, hx, nx⟩ := List.any_eq_true.mp h
  have := ev0_all (fun a b => Classical.byContradiction fun z => c ⟨a, b, z⟩) x hx
  rw [this] at nx
  exact absurd nx (by decide)
/-- the kind of a form of the degree n whose greatest factor stands m times -/
def kdW (n m : Nat) : Str := if 2 * m = n then "edge" else if n < 2 * m then "falls" else "stands"
def kdF (F : List Int) : Str := if F.any (· != 0) then kdW (F.length - 1) (gtm F) else "falls"
def spKind (C : Addr) (Ps : List Addr) : Sp := fun vs H Q _ => ∃ (a : Addr) (F : List Int), vs = [.ref a] ∧ Fo C H a F ∧ MtOk F ∧ 2 ≤ F.length ∧ Tg Ps H ∧ ∀ H', Sts Ps H H' → Tg Ps H' → Q (.str (kdF F)) H'
theorem ok_fall_kind (T : Facts K mg) (TB_first_of : TabB base mg T.c_first_of T.P_first_of) (hP : T.P_first_of ∈ Ps) : FnOk P w K mg base CX0 8 T.f_fall_kind T.fd_fall_kind ["form"] (spKind T.C_Form Ps) := by
  have G_require_form := ok_require_form (P := P) (w := w) (base := base) T
  have G_most_times_in := ok_most_times_in (P := P) (w := w) (base := base) T TB_first_of hP
  have G_Form_is_zero := ok_Form_is_zero (P := P) (w := w) (base := base) T
  have G_Form_degree := ok_Form_degree (P := P) (w := w) (base := base) T
  have G_Form_entries : FnOk P w K mg base CX0 1 T.f_Form_entries T.fd_Form_entries ["self"] (spEnt T.C_Form) := ok_Form_entries T
  refine T.F_fall_kind.ok sc_fall_kind (fun vs H Q E h => ?_) (fun cdv A outer s H vs Q E hr h => ?_)
  · obtain ⟨a, F, rfl, _⟩ := h
    rfl
  · obtain ⟨a, F, rfl, fa, ok, f2, hg, q⟩ := h
    refine ⟨_, (PSs.nox (pss_cons (ps_expr (pe_call G_require_form (hr.mono (by decide)) (by rfl) T.g_require_form T.F_require_form.kp T.b_require_form .nil pass0 (pa_cons (pv 0) pa_nil)))
    (pss_cons (ps_if (pt_cmpR op_eq (pe_prp (pv 0) T.oc_Form T.pr_Form_degree G_Form_degree T.b_Form_degree (hr.mono (by decide))) pe_int (nomark _))
      (pss_one ps_never)
      pss_nil)
    (pss_cons (ps_if (pt_val (pe_prp (pv 0) T.oc_Form T.pr_Form_is_zero G_Form_is_zero T.b_Form_is_zero (hr.mono (by decide))))
      (pss_one (ps_ret pe_str))
      pss_nil)
    (pss_cons (ps_set (i := 1) sc_fall_kind.nd rfl (.inl rfl) (pe_op op_mulW pe_int (pe_call G_most_times_in hr (by rfl) T.g_most_times_in T.F_most_times_in.kp T.b_most_times_in .nil pass0 (pa_cons (pe_prp (pv 0) T.oc_Form T.pr_Form_entries G_Form_entries T.b_Form_entries (hr.mono (by decide))) pa_nil))))
    (pss_cons (ps_if (pt_cmpR op_eq (pv 1) (pe_prp (pv 0) T.oc_Form T.pr_Form_degree G_Form_degree T.b_Form_degree (hr.mono (by decide))) (nomark _))
      (pss_one (ps_ret pe_str))
      pss_nil)
    (pss_one (ps_ret (pe_ifExp (pt_cmpR op_gt (pv 1) (pe_prp (pv 0) T.oc_Form T.pr_Form_degree G_Form_degree T.b_Form_degree (hr.mono (by decide))) (nomark _)) pe_str pe_str))))))))), ?_⟩
    refine ⟨_, rfl, a, F, rfl, fa, _, rfl, prop_deg fa ⟨rfl, _, rfl, ?_⟩⟩
    rw [decide_eq_false (show ¬ V.int ((F.length : Int) - 1) = V.int 0 from fun e => by have := V.int.inj e; omega)]
    refine iteF ⟨_, rfl, prop_zero fa ⟨_, rfl, ?_⟩⟩
    by_cases c : F.any (· != 0) = true
    · rw [c]
      refine iteF ⟨_, rfl, prop_ent fa fun u hu => ⟨u, F, rfl, hu, ok, lv_nz c, hg, fun H1 s1 g1 => ?_⟩⟩
      have hm := gtm_le F.length F (Nat.le_refl _) (lv_nz c)
      have hlen := ok.len
      have fa1 := s1.fo hg fa
      have q1 := q H1 s1 g1
      unfold kdF kdW at q1
      rw [if_pos c] at q1
      refine ⟨_, _, rfl, rfl, sm_mul (sm_small (by decide)) (sm_small (show ((gtm F : Nat) : Int).natAbs ≤ 2 ^ 40 by omega)), ?_⟩
      refine ⟨_, rfl, _, rfl, prop_deg fa1 ⟨rfl, _, rfl, ?_⟩⟩
      show (fun b H1 => _) (decide (V.int (2 * ((gtm F : Nat) : Int)) = V.int ((F.length : Int) - 1))) H1
      by_cases d : 2 * gtm F = F.length - 1
      · rw [decide_eq_true (congrArg V.int (show 2 * ((gtm F : Nat) : Int) = (F.length : Int) - 1 by omega))]
        rw [if_pos d] at q1
        exact iteT q1
      · rw [decide_eq_false (fun z => d (by have := V.int.inj z; omega))]
        rw [if_neg d] at q1
        refine iteF ⟨_, rfl, _, rfl, prop_deg fa1 ⟨_, _, rfl, rfl, _, rfl, ?_⟩⟩
        show (fun b H1 => _) (decide ((F.length : Int) - 1 < 2 * ((gtm F : Nat) : Int))) H1
        by_cases e : F.length - 1 < 2 * gtm F
        · rw [decide_eq_true (show (F.length : Int) - 1 < 2 * ((gtm F : Nat) : Int) by omega)]
          rw [if_pos e] at q1
          exact iteT q1
        · rw [decide_eq_false (show ¬ (F.length : Int) - 1 < 2 * ((gtm F : Nat) : Int) by omega)]
          rw [if_neg e] at q1
          exact iteF q1
    · have c' : F.any (· != 0) = false := by simpa using c
      rw [c']
      have q1 := q H (Sts.rf Ps H) hg
      unfold kdF at q1
      rw [if_neg c] at q1
      exact iteT q1
end
end K45

set_option Elab.async false
set_option linter.all false
set_option maxRecDepth 100000
set_option maxHeartbeats 1000000
set_option exponentiation.threshold 20000
/-! plain: told numbers of scaled forms; forms with a line that stands just half -/
namespace K45
open PySem PySem.Spec PyProof.Rows L2 FDivQ LA
/-- made of layings: a factor comes out, and congruence goes through -/
structure Ex (n : Nat) (G : List Int → List Int) (m s : Nat) : Prop where
  len : ∀ F, F.length = n + 1 → (G F).length = m + 1
  hm : ∀ (c : Int) F, F.length = n + 1 → G (F.map (c * ·)) = (G F).map (c ^ s * ·)
  cg : ∀ (t : Int) (F E : List Int), F.length = n + 1 → E.length = n + 1 → ∃ D : List Int, D.length = m + 1 ∧ G (zs t F E) = zs t (G F) D
theorem Ex.base (n : Nat) : Ex n (fun F => F) n 1 := ⟨fun F h => h, fun c F _ => by
  have : (fun x : Int => c ^ 1 * x) = fun x => c * x := funext fun x => by rw [Int.pow_succ, Int.pow_zero, Int.one_mul]
  rw [this], fun t F E h h' => ⟨E, h', rfl⟩⟩
theorem Ex.lay {n m s m' s' : Nat} {G G' : List Int → List Int} (h : Ex n G m s) (h' : Ex n G' m' s') {t : Nat} (t1 : t ≤ m) (t2 : t ≤ m') : Ex n (fun F => L t (G F) (G' F)) (m + m' - 2 * t) (s + s') := by
  have ln : ∀ F, F.length = n + 1 → (L t (G F) (G' F)).length = m + m' - 2 * t + 1 := fun F e => by
    have l1 := h.len F e
    have l2 := h'.len F e
    rw [L_len t _ _ (by omega) (by omega)]
    omega
  refine ⟨ln, fun c F e => ?_, fun u F E e e' => ?_⟩
  · have l1 := h.len F e
    have l2 := h'.len F e
    have lm := ln (F.map (c * ·)) (by rw [map_len]; exact e)
    have lL := ln F e
    refine ev_inj ?_ fun x y => ?_
    · rw [map_len]
      exact lm.trans lL.symm
    · show ev (L t (G (F.map (c * ·))) (G' (F.map (c * ·)))) x y = _
      rw [h.hm c F e, h'.hm c F e, L_mapl _ x y t _ _ (by omega) (by rw [map_len]; omega), L_mapr _ x y t _ _ (by omega) (by omega), ev_map, Int.pow_add]
      grind
  · have l1 := h.len F e
    have l2 := h'.len F e
    obtain ⟨D, lD, eD⟩ := h.cg u F E e e'
    obtain ⟨D', lD', eD'⟩ := h'.cg u F E e e'
    have lL := ln F e
    have z1 : (zs u (G F) D).length = m + 1 := by rw [zs_len (by rw [l1, lD]), l1]
    have z2 : (zs u (G' F) D').length = m' + 1 := by rw [zs_len (by rw [l2, lD']), l2]
    have a1 : (L t D (G' F)).length = m + m' - 2 * t + 1 := by rw [L_len t _ _ (by omega) (by omega)]; omega
    have a2 : (L t (zs u (G F) D) D').length = m + m' - 2 * t + 1 := by rw [L_len t _ _ (by omega) (by omega)]; omega
    have a3 : (zs 1 (L t D (G' F)) (L t (zs u (G F) D) D')).length = m + m' - 2 * t + 1 := by rw [zs_len (a1.trans a2.symm), a1]
    refine ⟨zs 1 (L t D (G' F)) (L t (zs u (G F) D) D'), a3, ?_⟩
    show L t (G (zs u F E)) (G' (zs u F E)) = _
    rw [eD, eD']
    have q1 : (zs u (L t (G F) (G' F)) (zs 1 (L t D (G' F)) (L t (zs u (G F) D) D'))).length = m + m' - 2 * t + 1 := (zs_len (lL.trans a3.symm)).trans lL
    refine ev_inj ?_ fun x y => ?_
    · rw [q1, L_len t _ _ (by omega) (by omega)]
      omega
    · rw [L_zsr u x y t _ _ _ (by rw [l2, lD']) (by omega) (by omega), L_zsl u x y t _ _ _ (by rw [l1, lD]) (by omega) (by omega), ev_zs u (lL.trans a3.symm), ev_zs 1 (a1.trans a2.symm)]
      grind
def Pe (n : Nat) (g : LL × Nat) : Prop := Ex n g.1 0 g.2
theorem pe_nil {n : Nat} : ∀ g ∈ ([] : List (LL × Nat)), Pe n g := fun g h => absurd h List.not_mem_nil
theorem pe_cons {n s : Nat} {G : LL} {l : List (LL × Nat)} (h : Ex n G 0 s) (t : ∀ g ∈ l, Pe n g) : ∀ g ∈ (G, s) :: l, Pe n g := fun g hg => by
  rcases List.mem_cons.mp hg with e | e
  · rw [e]
    exact h
  · exact t g e
theorem x2 : Ex 2 i2 0 2 := (Ex.base 2).lay (Ex.base 2) (t := 2) (by decide) (by decide)
theorem x3h : Ex 3 i2 2 2 := (Ex.base 3).lay (Ex.base 3) (t := 2) (by decide) (by decide)
theorem x3 : Ex 3 i3 0 4 := x3h.lay x3h (t := 2) (by decide) (by decide)
theorem x4h : Ex 4 i2 4 2 := (Ex.base 4).lay (Ex.base 4) (t := 2) (by decide) (by decide)
theorem x4a : Ex 4 q4 0 2 := (Ex.base 4).lay (Ex.base 4) (t := 4) (by decide) (by decide)
theorem x4b : Ex 4 r4 0 3 := (Ex.base 4).lay x4h (t := 4) (by decide) (by decide)
theorem x5q : Ex 5 q4 2 2 := (Ex.base 5).lay (Ex.base 5) (t := 4) (by decide) (by decide)
theorem x5t : Ex 5 t5 3 3 := (Ex.base 5).lay x5q (t := 2) (by decide) (by decide)
theorem x5s : Ex 5 s5 2 6 := x5t.lay x5t (t := 2) (by decide) (by decide)
theorem x5a : Ex 5 a5 0 4 := x5q.lay x5q (t := 2) (by decide) (by decide)
theorem x5b : Ex 5 b5 0 8 := x5q.lay x5s (t := 2) (by decide) (by decide)
theorem x5c : Ex 5 c5 0 12 := x5s.lay x5s (t := 2) (by decide) (by decide)
theorem x6q : Ex 6 q4 4 2 := (Ex.base 6).lay (Ex.base 6) (t := 4) (by decide) (by decide)
theorem x6w : Ex 6 w6 2 3 := (Ex.base 6).lay x6q (t := 4) (by decide) (by decide)
theorem x6m : Ex 6 m6 4 4 := x6q.lay x6q (t := 2) (by decide) (by decide)
theorem x6k : Ex 6 k6 2 5 := x6q.lay x6w (t := 2) (by decide) (by decide)
theorem x6l : Ex 6 l6 2 7 := x6q.lay x6k (t := 2) (by decide) (by decide)
theorem x6a : Ex 6 a6 0 2 := (Ex.base 6).lay (Ex.base 6) (t := 6) (by decide) (by decide)
theorem x6b : Ex 6 b6 0 4 := x6q.lay x6q (t := 4) (by decide) (by decide)
theorem x6c : Ex 6 c6 0 6 := x6q.lay x6m (t := 4) (by decide) (by decide)
theorem x6d : Ex 6 d6 0 10 := x6l.lay x6w (t := 2) (by decide) (by decide)
theorem tls_ex (n : Nat) (hn : n ≤ 6) : ∀ g ∈ tls n, Pe n g := by
  have : n = 0 ∨ n = 1 ∨ n = 2 ∨ n = 3 ∨ n = 4 ∨ n = 5 ∨ n = 6 := by omega
  rcases this with e | e | e | e | e | e | e <;> subst e
  · exact pe_nil
  · exact pe_nil
  · exact pe_cons x2 pe_nil
  · exact pe_cons x3 pe_nil
  · exact pe_cons x4a (pe_cons x4b pe_nil)
  · exact pe_cons x5a (pe_cons x5b (pe_cons x5c pe_nil))
  · exact pe_cons x6a (pe_cons x6b (pe_cons x6c (pe_cons x6d pe_nil)))
theorem Ex.num {n s : Nat} {G : List Int → List Int} (h : Ex n G 0 s) {F : List Int} (l : F.length = n + 1) (c : Int) : co (G (F.map (c * ·))) 0 = co (G F) 0 * c ^ s := by
  rw [h.hm c F l]
  have := h.len F l
  match G F, this with
  | [x], _ => exact Int.mul_comm _ _
/-- told numbers of a form times a number -/
theorem told_scl {F : List Int} {n : Nat} (l : F.length = n + 1) (n6 : n ≤ 6) (c : Int) : tld (F.map (c * ·)) = (tls n).map fun g => co (g.1 F) 0 * c ^ g.2 := by
  rw [tld_len (n := n) (by rw [map_len]; exact l)]
  exact List.map_congr_left fun g hg => (tls_ex n n6 g hg).num l c
/-- told numbers of a changed form -/
theorem told_chg {F : List Int} {n : Nat} (l : F.length = n + 1) (n6 : n ≤ 6) (a b u v : Int) : tld (changed [a, b] [u, v] F) = (tls n).map fun g => co (g.1 F) 0 * (a * v - b * u) ^ (n * g.2 / 2) := by
  have nF : F ≠ [] := fun z => by rw [z] at l; cases l
  rw [tld_len (n := n) (by rw [changed_len rfl rfl nF]; exact l)]
  refine List.map_congr_left fun g hg => ?_
  obtain ⟨k, c, iv, _⟩ := tls_iv n n6 g hg
  have hw := iv.wt
  rw [iv.num l, Int.mul_comm, show n * g.2 / 2 = k by omega]
/-- the weights from the other side -/
def up (t : Int) : List Int → List Int
  | [] => []
  | a :: l => a :: (up t l).map (t * ·)
theorem up_len (t : Int) : ∀ l : List Int, (up t l).length = l.length
  | [] => rfl
  | a :: l => by
    show ((up t l).map (t * ·)).length + 1 = l.length + 1
    rw [map_len, up_len t l]
theorem ev_up (t x y : Int) : ∀ l : List Int, ev (up t l) x y = ev l x (t * y)
  | [] => rfl
  | a :: l => by
    show ev (a :: (up t l).map (t * ·)) x y = _
    rw [ev_cons, ev_cons, map_len, up_len, ev_map, ev_up t x y l]
    grind
theorem up_changed {t : Int} {l : List Int} (nl : l ≠ []) : changed [1, 0] [0, t] l = up t l := by
  refine ev_inj (by rw [changed_len rfl rfl nl, up_len]) fun x y => ?_
  rw [ev_changed rfl rfl nl, ev2, ev2, ev_up, show 1 * x + 0 * y = x by omega, show 0 * x + t * y = t * y by omega]
theorem up_zeros (t : Int) (M : List Int) : ∀ p : Nat, up t (List.replicate p 0 ++ M) = (List.replicate p 0 ++ up t M).map (t ^ p * ·)
  | 0 => by
    have : (fun x : Int => t ^ 0 * x) = fun x => x := funext fun x => by rw [Int.pow_zero, Int.one_mul]
    show up t M = (up t M).map _
    rw [this, List.map_id']
  | p + 1 => by
    show 0 :: (up t (List.replicate p 0 ++ M)).map (t * ·) = (t ^ (p + 1) * 0) :: (List.replicate p 0 ++ up t M).map (t ^ (p + 1) * ·)
    rw [up_zeros t M p, List.map_map, Int.mul_zero]
    congr 1
    refine List.map_congr_left fun x _ => ?_
    show t * (t ^ p * x) = _
    rw [Int.pow_succ]
    grind
/-- one entry in the middle -/
def mid (p : Nat) : List Int := List.replicate p 0 ++ 1 :: List.replicate p 0
theorem mid_map (e : Int) (p : Nat) : (mid p).map (e * ·) = List.replicate p 0 ++ e :: List.replicate p 0 := by
  unfold mid
  rw [List.map_append, List.map_cons, List.map_replicate, Int.mul_zero, Int.mul_one]
theorem up_mid {t e : Int} {E : List Int} {p : Nat} (l : E.length = p) : up t (List.replicate p 0 ++ e :: E) = (zs t ((mid p).map (e * ·)) (List.replicate p 0 ++ 0 :: up t E)).map (t ^ p * ·) := by
  rw [up_zeros, mid_map]
  have l1 := up_len t E
  have l2 : (List.replicate p (0 : Int) ++ e :: List.replicate p 0).length = (List.replicate p 0 ++ 0 :: up t E).length := by
    rw [List.length_append, List.length_append, List.length_cons, List.length_cons, List.length_replicate, l1, l]
  congr 1
  refine co_inj ?_ fun k => ?_
  · rw [zs_len l2, List.length_append, List.length_append, List.length_cons, List.length_replicate, up_len, List.length_cons, l]
  · rw [co_zs' t l2, co_app, co_app, co_app, List.length_replicate]
    by_cases h : k < p
    · rw [if_pos h, if_pos h, if_pos h, co_z]
      omega
    · rw [if_neg h, if_neg h, if_neg h]
      cases k - p with
      | zero =>
        show e = e + t * 0
        omega
      | succ j =>
        show co ((up t E).map (t * ·)) j = co (List.replicate p 0) j + t * co (up t E) j
        rw [co_z, co_map]
        omega
theorem num_mid {s k c p : Nat} {G : List Int → List Int} (h : Iv (2 * p) G 0 s k c) (x : Ex (2 * p) G 0 s) {e : Int} {E : List Int} (l : E.length = p) : co (G (List.replicate p 0 ++ e :: E)) 0 = co (G (mid p)) 0 * e ^ s := by
  obtain ⟨F, eF⟩ : ∃ F, F = List.replicate p 0 ++ e :: E := ⟨_, rfl⟩
  have lF : F.length = 2 * p + 1 := by rw [eF, List.length_append, List.length_cons, List.length_replicate, l]; omega
  have nF : F ≠ [] := fun z => by rw [z] at lF; cases lF
  have lm : (mid p).length = 2 * p + 1 := by
    unfold mid
    rw [List.length_append, List.length_cons, List.length_replicate]
    omega
  have lX : ((mid p).map (e * ·)).length = 2 * p + 1 := by rw [map_len]; exact lm
  have wk : k = p * s := by
    have := h.wt
    rw [Nat.mul_assoc] at this
    omega
  have key : ∀ t : Int, t ≠ 0 → t ∣ co (G F) 0 - co (G (mid p)) 0 * e ^ s := fun t t0 => by
    have lU : (List.replicate p (0 : Int) ++ 0 :: up t E).length = 2 * p + 1 := by rw [List.length_append, List.length_cons, List.length_replicate, up_len, l]; omega
    obtain ⟨D, lD, eD⟩ := x.cg t ((mid p).map (e * ·)) (List.replicate p 0 ++ 0 :: up t E) lX lU
    have lG := x.len _ lX
    have h1 := h.num lF 1 0 0 t
    rw [up_changed nF, eF, up_mid l, ← eF, x.num (by rw [zs_len (lX.trans lU.symm)]; exact lX) (t ^ p), eD, co_zs' t (by rw [lG, lD]), x.num lm e, ← Int.pow_mul, ← wk, show (1 : Int) * t - 0 * 0 = t by omega] at h1
    have h2 : t ^ k * co (G F) 0 = t ^ k * (co (G (mid p)) 0 * e ^ s + t * co D 0) := by rw [← h1, Int.mul_comm]
    have h3 := Int.eq_of_mul_eq_mul_left (pow_nzB t0 k) h2
    exact ⟨co D 0, by rw [h3]; omega⟩
  rw [← eF]
  generalize co (G F) 0 = A at key ⊢
  generalize co (G (mid p)) 0 * e ^ s = B at key ⊢
  refine Classical.byContradiction fun ne => ?_
  obtain ⟨q, hq⟩ := key (((A - B).natAbs + 1 : Nat) : Int) (by omega)
  have h1 := congrArg Int.natAbs hq
  rw [Int.natAbs_mul, Int.natAbs_natCast] at h1
  have q0 : q ≠ 0 := fun z => by rw [z, Int.mul_zero] at hq; omega
  have : ((A - B).natAbs + 1) * 1 ≤ ((A - B).natAbs + 1) * q.natAbs := Nat.mul_le_mul_left _ (by omega)
  omega
end K45

set_option Elab.async false
set_option linter.all false
set_option maxRecDepth 100000
set_option maxHeartbeats 1000000
set_option exponentiation.threshold 20000
/-! plain: products of powers of the law's parts -/
namespace K45
open PySem PySem.Spec PyProof.Rows L2 FDivQ LA
def cn : List (List Int) → List Nat → List Int
  | P :: Ps, e :: es => ml (pow P e) (cn Ps es)
  | _, _ => [1]
def mx : List Nat → Nat
  | [] => 0
  | e :: es => max e (mx es)
theorem cn_nz : ∀ {Ps : List (List Int)} {E : List Nat}, (∀ P ∈ Ps, Nz (ev P)) → Nz (ev (cn Ps E))
  | [], _, _ => ⟨1, 1, by show ev [1] 1 1 ≠ 0; rw [ev_one]; decide⟩
  | _ :: _, [], _ => ⟨1, 1, by show ev [1] 1 1 ≠ 0; rw [ev_one]; decide⟩
  | P :: Ps, e :: es, h => nz_ml (nz_pow (h P (.head _)) e) (cn_nz fun Q hQ => h Q (.tail _ hQ))
theorem uu_nz : ∀ P ∈ UU, Nz (ev P) := fun P hP => any_nz (lvU P hP).1
/-- one more part -/
theorem cn_set : ∀ {Ps : List (List Int)} {E : List Nat} {i : Nat} {P : List Int} (e : Nat), (∀ P ∈ Ps, Nz (ev P)) → Ps[i]? = some P → E[i]? = some 0 → cn Ps (E.set i e) = ml (pow P e) (cn Ps E)
  | [], _, _, _, _, _, h, _ => (nomatch h)
  | _ :: _, [], _, _, _, _, _, h => (nomatch h)
  | Q :: Ps, f :: es, 0, P, e, hz, h, h' => by
    have e1 : Q = P := Option.some.inj h
    have e2 : f = 0 := Option.some.inj h'
    subst e1 e2
    show ml (pow Q e) (cn Ps es) = ml (pow Q e) (ml [1] (cn Ps es))
    rw [ml_comm [1], ml_one]
  | Q :: Ps, f :: es, i + 1, P, e, hz, h, h' => by
    have hz' : ∀ P ∈ Ps, Nz (ev P) := fun Q hQ => hz Q (.tail _ hQ)
    have hP : Nz (ev P) := hz' P (List.mem_of_getElem? h)
    have hQ := hz Q (.head _)
    have n1 := ne_nz (nz_pow hP e)
    have n2 := ne_nz (nz_pow hQ f)
    have n3 := ne_nz (cn_nz (E := es) hz')
    have n4 : ml (pow P e) (cn Ps es) ≠ [] := ml_ne n1 n3
    have n5 : ml (pow Q f) (cn Ps es) ≠ [] := ml_ne n2 n3
    show ml (pow Q f) (cn Ps (es.set i e)) = ml (pow P e) (ml (pow Q f) (cn Ps es))
    rw [cn_set e hz' h h']
    refine ev_inj ?_ fun x y => ?_
    · have := List.length_pos_iff.mpr n1
      have := List.length_pos_iff.mpr n2
      have := List.length_pos_iff.mpr n3
      rw [ml_len, ml_len, ml_len, ml_len]
      omega
    · rw [ev_ml n2 n4, ev_ml n1 n3, ev_ml n1 n5, ev_ml n2 n3]
      grind
theorem mx_set : ∀ {E : List Nat} {i : Nat} (e : Nat), E[i]? = some 0 → mx (E.set i e) = max (mx E) e
  | [], _, _, h => (nomatch h)
  | f :: es, 0, e, h => by
    have e2 : f = 0 := Option.some.inj h
    subst e2
    show max e (mx es) = max (max 0 (mx es)) e
    omega
  | f :: es, i + 1, e, h => by
    show max f (mx (es.set i e)) = max (max f (mx es)) e
    rw [mx_set (E := es) (i := i) e h]
    omega
/-- a product of powers of the law's parts -/
structure Fam (F : List Int) (E : List Nat) : Prop where
  ex : ∃ c : Int, c ≠ 0 ∧ F = (cn UU E).map (c * ·)
  len : E.length = 12
theorem Fam.start {c : Int} (c0 : c ≠ 0) : Fam [c] (List.replicate 12 0) := ⟨⟨c, c0, by
  have : cn UU (List.replicate 12 0) = [1] := by decide +kernel
  rw [this]
  show [c] = [c * 1]
  rw [Int.mul_one]⟩, List.length_replicate⟩
theorem Fam.next {F P : List Int} {E : List Nat} {i : Nat} (h : Fam F E) (e : Nat) (hP : UU[i]? = some P) (h0 : E[i]? = some 0) : Fam (ml F (pow P e)) (E.set i e) := by
  obtain ⟨c, c0, eF⟩ := h.ex
  have mP := List.mem_of_getElem? hP
  have n1 := ne_nz (nz_pow (uu_nz P mP) e)
  have n2 := ne_nz (cn_nz (E := E) uu_nz)
  have n3 : (cn UU E).map (c * ·) ≠ [] := fun z => n2 (List.map_eq_nil_iff.mp z)
  refine ⟨⟨c, c0, ?_⟩, by rw [List.length_set]; exact h.len⟩
  rw [cn_set e uu_nz hP h0, eF]
  refine ev_inj ?_ fun x y => ?_
  · rw [map_len, ml_len, ml_len, map_len, Nat.add_comm]
  · rw [ev_map, ev_ml n3 n1, ev_ml n1 n2, ev_map]
    grind
/-- all exponents of one degree -/
def dgs : List Nat := [2, 2, 2, 2, 2, 1, 1, 1, 1, 1, 1, 1]
def dt : List Nat → List Nat → Nat
  | d :: ds, e :: es => d * e + dt ds es
  | _, _ => 0
def en : List Nat → Nat → List (List Nat)
  | [], n => if n = 0 then [[]] else []
  | d :: ds, n => (List.range (n + 1)).flatMap fun k => if d * k ≤ n then (en ds (n - d * k)).map (k :: ·) else []
theorem mem_en : ∀ {ds E : List Nat}, ds.length = E.length → (∀ d ∈ ds, 1 ≤ d) → E ∈ en ds (dt ds E)
  | [], [], _, _ => by
    show [] ∈ (if (0 : Nat) = 0 then [[]] else [])
    rw [if_pos rfl]
    exact .head _
  | d :: ds, e :: es, h, h1 => by
    have hl : ds.length = es.length := by simpa using h
    have ih := mem_en hl fun x hx => h1 x (.tail _ hx)
    have d1 := h1 d (.head _)
    show e :: es ∈ (List.range (d * e + dt ds es + 1)).flatMap fun k => if d * k ≤ d * e + dt ds es then (en ds (d * e + dt ds es - d * k)).map (k :: ·) else []
    have e1 : e ≤ d * e := Nat.le_mul_of_pos_left _ d1
    refine List.mem_flatMap.mpr ⟨e, List.mem_range.mpr (by omega), ?_⟩
    rw [if_pos (by omega), show d * e + dt ds es - d * e = dt ds es by omega]
    exact List.mem_map.mpr ⟨es, ih, rfl⟩
theorem cn_len : ∀ {Ps : List (List Int)} {ds E : List Nat}, Ps.length = ds.length → (∀ (i : Nat) P d, Ps[i]? = some P → ds[i]? = some d → P.length = d + 1) → (cn Ps E).length = dt ds E + 1
  | [], [], _, _, _ => by cases ‹List Nat› <;> rfl
  | [], _ :: _, _, h, _ => (nomatch h)
  | _ :: _, [], _, h, _ => (nomatch h)
  | P :: Ps, d :: ds, [], _, _ => rfl
  | P :: Ps, d :: ds, e :: es, h, hl => by
    have l0 := hl 0 P d rfl rfl
    have nP : P ≠ [] := fun z => by rw [z] at l0; cases l0
    show (ml (pow P e) (cn Ps es)).length = d * e + dt ds es + 1
    rw [ml_len, pow_lenU nP, l0, cn_len (ds := ds) (by simpa using h) fun i Q q h1 h2 => hl (i + 1) Q q h1 h2, Nat.add_sub_cancel]
    omega
theorem uu_len : ∀ (i : Nat) P d, UU[i]? = some P → dgs[i]? = some d → P.length = d + 1 := fun i P d h1 h2 => by
  have key : ∀ i, i < 12 → (UU[i]?.map List.length) = dgs[i]?.map (· + 1) := by decide +kernel
  by_cases c : i < 12
  · have := key i c
    rw [h1, h2] at this
    exact Option.some.inj this
  · rw [List.getElem?_eq_none (by show UU.length ≤ i; have : UU.length = 12 := by decide +kernel
                                  omega)] at h1
    cases h1
theorem Fam.en {F : List Int} {E : List Nat} {n : Nat} (h : Fam F E) (l : F.length = n + 1) : E ∈ en dgs n := by
  obtain ⟨c, c0, eF⟩ := h.ex
  have h1 : (cn UU E).length = dt dgs E + 1 := cn_len (by decide +kernel) uu_len
  rw [eF, map_len, h1] at l
  have := mem_en (ds := dgs) (E := E) (by rw [h.len]; rfl) (by decide)
  rw [show dt dgs E = n by omega] at this
  exact this
end K45

set_option Elab.async false
set_option linter.all false
set_option maxRecDepth 100000
set_option maxHeartbeats 1000000
set_option exponentiation.threshold 20000
/-! plain: a product of powers, its exponents known -/
namespace K45
open PySem PySem.Spec PyProof.Rows L2 FDivQ LA
structure FzE (n left mo : Nat) (G : List Int) (R : List (List Int)) : Prop extends Fz n left mo G R where
  fm : ∃ E, Fam G E ∧ mx E = mo ∧ ∀ (i : Nat) Q, UU[i]? = some Q → Q ∈ R → E[i]? = some 0
theorem uu_lt {i : Nat} {Q : List Int} (h : UU[i]? = some Q) : i < 12 := by
  have lU : UU.length = 12 := by decide +kernel
  have := (List.getElem?_eq_some_iff.mp h).1
  omega
theorem FzE.start {n : Nat} {c : Int} (c0 : c ≠ 0) (c3 : c.natAbs ≤ 3) {R : List (List Int)} (rU : ∀ Q ∈ R, Q ∈ UU) (rN : R.Nodup) : FzE n n 0 [c] R :=
  ⟨Fz.start c0 c3 rU rN, List.replicate 12 0, Fam.start c0, by decide, fun i Q h _ => by rw [List.getElem?_replicate, if_pos (uu_lt h)]⟩
theorem FzE.perm {n left most : Nat} {G : List Int} {R R' : List (List Int)} (h : FzE n left most G R) (hp : R.Perm R') : FzE n left most G R' :=
  ⟨⟨h.nz, h.len, h.most, h.nm, fun Q hQ => h.rU Q (hp.mem_iff.mpr hQ), hp.nodup_iff.mp h.rN, fun Q hQ => h.ap Q (hp.mem_iff.mpr hQ)⟩, by
    obtain ⟨E, h1, h2, h3⟩ := h.fm
    exact ⟨E, h1, h2, fun i Q h4 h5 => h3 i Q h4 (hp.mem_iff.mpr h5)⟩⟩
theorem FzE.next {n left most : Nat} {G P : List Int} {R R' : List (List Int)} (h : FzE n left most G R) (hp : R.Perm (P :: R')) {e : Nat} (he : (P.length - 1) * e ≤ left) : FzE n (left - (P.length - 1) * e) (max most e) (ml G (pow P e)) R' := by
  obtain ⟨E, h1, h2, h3⟩ := h.fm
  have mP : P ∈ R := hp.mem_iff.mpr (.head _)
  obtain ⟨i, hi⟩ := List.getElem?_of_mem (h.rU P mP)
  have h0 := h3 i P hi mP
  have nd : (P :: R').Nodup := hp.nodup_iff.mp h.rN
  refine ⟨h.toFz.next hp he, E.set i e, h1.next e hi h0, by rw [mx_set e h0, h2], fun j Q h4 h5 => ?_⟩
  have ne : i ≠ j := fun z => by
    rw [← z, hi] at h4
    cases h4
    exact (List.nodup_cons.mp nd).1 h5
  rw [List.getElem?_set_ne ne]
  exact h3 j Q h4 (hp.mem_iff.mpr (.tail _ h5))
end K45

set_option Elab.async false
set_option linter.all false
set_option maxRecDepth 100000
set_option maxHeartbeats 4000000
set_option exponentiation.threshold 10000
/-! products of powers, drawn -/
namespace K45
open PySem PySem.Spec PyProof.Rows L2 StX RZ MyR SlX OwnR OwnF EnumT SeqE GxR GenNx FDivQ
section
variable {P : Program} {w : World} {K : PySem.W.Frag} {mg : Str → Option Value} {base : Heap} {Ps : List Addr}
theorem map_erase {α β : Type} (f : α → β) : ∀ (l : List α) (r : Nat), (l.map f).eraseIdx r = (l.eraseIdx r).map f
  | [], _ => rfl
  | x :: l, 0 => rfl
  | x :: l, r + 1 => congrArg (f x :: ·) (map_erase f l r)
theorem perm_erase {α : Type} : ∀ (l : List α) (r : Nat) (h : r < l.length), l.Perm (l[r] :: l.eraseIdx r)
  | x :: l, 0, _ => .refl _
  | x :: l, r + 1, h => ((perm_erase l r (Nat.lt_of_succ_lt_succ h)).cons x).trans (.swap _ _ _)
def spMixed : Sp := fun vs H Q _ => ∃ (d b : Addr) (qs : List (Addr × List Int)), vs = [.ref d, .ref b] ∧ Dc H d ∧ H b = some (.lst (qs.map fun r => V.ref r.1)) ∧ b ≠ d ∧ qs.length ≤ 500 ∧
  ∀ q (qs' : List (Addr × List Int)) H', Sx d H H' → Dc H' d → H q = none → H' q = some (.lst (qs'.map fun r => V.ref r.1)) → qs'.Perm qs → Q (.ref q) H'
theorem ok_law_mixed (T : Facts K mg) : FnOk P w K mg base CX0 2 T.f_law_mixed T.fd_law_mixed ["_law_dice_here", "_law_items"] spMixed := by
  have G_law_roll : FnOk P w K mg base CX0 1 T.f_law_roll T.fd_law_roll ["_law_dice_here", "_law_total"] spRoll2 := (ok_law_roll T).imp roll2
  refine T.F_law_mixed.ok sc_law_mixed (fun vs H Q E h => ?_) (fun cdv A outer s H vs Q E hr h => ?_)
  · obtain ⟨d, b, qs, rfl, _⟩ := h
    rfl
  · obtain ⟨d, b, qs, rfl, hd, hb, nb, hl, q⟩ := h
    refine ⟨_, (PSs.nox (pss_cons (ps_par (i := 2) (j := 3) (by rfl) sc_law_mixed.nd rfl rfl (by decide) rfl rfl (pa_cons (pe_callTy call_list_of (by rfl) T.z_list (by decide +kernel) (pa_cons (pv 1) pa_nil)) (pa_cons (pe_lst pa_nil) pa_nil)) (by rfl))
    (pss_cons (ps_for PassesOwn.never (by rfl) (pi_range1 (by rfl) T.z_range (pa_cons (pe_callB call_len_seq (by rfl) T.z_len (by decide +kernel) (pa_cons (pv 1) pa_nil)) pa_nil)) (pg_name (i := 4) sc_law_mixed.nd rfl (.inl rfl))
      (pss_one (ps_expr (pe_bm PySem.F.plainAttrs_list PySem.F.slot_list_append PySem.F.type_list_append mt_append (pv 3) (pa_cons (pe_bm PySem.F.plainAttrs_list PySem.F.slot_list_pop PySem.F.type_list_pop mt_popAt (pv 2) (pa_cons (pe_call G_law_roll hr (by rfl) T.g_law_roll T.F_law_roll.kp T.b_law_roll .nil pass0 (pa_cons (pv 0) (pa_cons (pe_callB call_len_seq (by rfl) T.z_len (by decide +kernel) (pa_cons (pv 2) pa_nil)) pa_nil))) pa_nil)) pa_nil)))))
    (pss_one (ps_ret (pv 3)))))), ?_⟩
    refine ⟨_, rfl, b, _, rfl, .inl (SqL.of hb), fun l nl => ?_⟩
    dsimp only [tCons, tLst, tNil]
    have s1 : Same H (upd H l (.lst (qs.map fun r => V.ref r.1))) := same_upd0 nl
    have f1 : upd H l (.lst (qs.map fun r => V.ref r.1)) l = some (.lst (qs.map fun r => V.ref r.1)) := upd_same
    generalize upd H l (.lst (qs.map fun r => V.ref r.1)) = H1 at s1 f1 ⊢
    refine ⟨(show 0 ≤ sizeLine from Nat.zero_le _), fun f nf => ?_⟩
    have s2 : Same H1 (upd H1 f (.lst [])) := same_upd0 nf
    have f2 : upd H1 f (.lst []) f = some (.lst []) := upd_same
    generalize upd H1 f (.lst []) = H2 at s2 f2 ⊢
    have nlf : l ≠ f := ne_of_none f1 nf
    have f1' := s2 _ _ f1
    have hb2 := s2 _ _ (s1 _ _ hb)
    have nld : l ≠ d := hd.ne nl
    have nfd : f ≠ d := (hd.same s1).ne nf
    have hd2 := (hd.same s1).same s2
    have s12 : Same H H2 := s1.trans s2
    have nhl : ∀ c o, H c = some o → c ≠ l := fun c o e => ne_of_none e nl
    have nhf : ∀ c o, H c = some o → c ≠ f := fun c o e => ne_of_none (s1 _ _ e) nf
    refine ⟨_, _, rfl, _, rfl, b, _, rfl, .inl (SqL.of hb2), _, rfl, by rw [List.length_map]; omega, by rw [List.length_map]; omega, for_range (n := ((qs.map fun r => V.ref r.1).length : Int).toNat) (fun j σ H' => ∃ (o4 : Option V) (left found : List (Addr × List Int)), σ = [some (.ref d), some (.ref b), some (.ref l), some (.ref f), o4] ∧ Dc H' d ∧ H' l = some (.lst (left.map fun r => V.ref r.1)) ∧ H' f = some (.lst (found.map fun r => V.ref r.1)) ∧ (found ++ left).Perm qs ∧ found.length = j ∧ (∀ c o, c ≠ d → c ≠ l → c ≠ f → H2 c = some o → H' c = some o)) ⟨none, qs, [], rfl, hd2, f1', f2, .refl _, rfl, fun _ _ _ _ _ e => e⟩ (fun j σ H' hj hP => ?_) (fun σ H' hP => ?_)⟩
    · obtain ⟨o4, left, found, rfl, hd3, hL, hF, pm, hl3, hs⟩ := hP
      have hj2 : j < qs.length := by
        rw [List.length_map] at hj
        exact hj
      have hlen : left.length = qs.length - j := by
        have := pm.length_eq
        rw [List.length_append] at this
        omega
      refine ⟨_, rfl, .inl ⟨rfl, _, SqL.of hF⟩, _, rfl, .inl ⟨rfl, _, SqL.of hL⟩, _, rfl, _, rfl, l, _, rfl, .inl (SqL.of hL), d, _, rfl, hd3, ?_, ?_, fun r H4 hr s4 d4 => ?_⟩
      · rw [List.length_map]
        omega
      · rw [List.length_map]
        exact Nat.lt_trans (PySem.Flt.log2_lt_of (k := 10) (by decide) (by show left.length < 2 ^ 10; omega)) (by decide)
      · rw [List.length_map] at hr
        have hr2 : r < left.length := by omega
        have hL4 := s4 _ _ nld hL
        have hF4 := s4 _ _ nfd hF
        refine ⟨l, _, (r : Int), r, .ref left[r].1, rfl, rfl, hL4, by omega, by omega, ?_, by rw [List.getElem?_map, List.getElem?_eq_getElem hr2]; rfl, ?_⟩
        · rw [List.length_map]
          unfold seqIndex?
          simp
          omega
        · have hF5 : upd H4 l (.lst ((left.map fun r => V.ref r.1).eraseIdx r)) f = some (.lst (found.map fun r => V.ref r.1)) := by
            rw [upd_ne (Ne.symm nlf)]
            exact hF4
          refine ⟨f, _, _, rfl, rfl, hF5, by rw [List.length_map]; exact small1000 (by omega), _, left.eraseIdx r, found ++ [left[r]], rfl, ?_, ?_, ?_, ?_, by rw [List.length_append, hl3]; rfl, fun c o n1 n2 n3 e => ?_⟩
          · obtain ⟨x, y, z, e⟩ := d4
            exact ⟨x, y, z, by rw [upd_ne (Ne.symm nfd), upd_ne (Ne.symm nld)]; exact e⟩
          · rw [upd_ne nlf, upd_same, map_erase]
          · rw [upd_same, List.map_append]
            rfl
          · have p1 : left.Perm (left[r] :: left.eraseIdx r) := perm_erase left r hr2
            rw [List.append_assoc]
            exact ((List.Perm.append_left found p1).symm.trans (.refl _)).trans pm
          · rw [upd_ne n3, upd_ne n2]
            exact s4 c o n1 (hs c o n1 n2 n3 e)
    · obtain ⟨o4, left, found, rfl, hd3, hL, hF, pm, hl3, hs⟩ := hP
      have hl4 : found.length = qs.length := by
        rw [List.length_map] at hl3
        exact hl3
      have hlen : left = [] := by
        have := pm.length_eq
        rw [List.length_append] at this
        exact List.eq_nil_of_length_eq_zero (by omega)
      subst hlen
      rw [List.append_nil] at pm
      exact ⟨_, rfl, q f found H' (fun c o nc e => hs c o nc (nhl _ _ e) (nhf _ _ e) (s12 _ _ e)) hd3 (by
        cases hn : H f with
        | none => rfl
        | some o => exact absurd rfl (nhf _ _ hn)) hF pm⟩
/-- rows that are left to be taken -/
structure Rm (H : Hp) (q : Addr) (R : List (Addr × List Int)) : Prop where
  at_ : H q = some (.lst (R.map fun r => V.ref r.1))
  row : ∀ r ∈ R, H r.1 = some (tp r.2)
theorem Rm.sx {d : Addr} {H H' : Hp} {q : Addr} {R : List (Addr × List Int)} (h : Rm H q R) (s : Sx d H H') (hd : Dc H d) (ne : q ≠ d) : Rm H' q R := ⟨s _ _ ne h.at_, fun r hr => s _ _ (dc_ne hd (h.row r hr)) (h.row r hr)⟩
theorem Rm.same {H H' : Hp} {q : Addr} {R : List (Addr × List Int)} (h : Rm H q R) (s : Same H H') : Rm H' q R := ⟨s _ _ h.at_, fun r hr => s _ _ (h.row r hr)⟩
theorem Rm.other {H : Hp} {q p : Addr} {R : List (Addr × List Int)} {xs ys : List V} (h : Rm H q R) (ne : p ≠ q) (hp : H p = some (.lst xs)) : Rm (upd H p (.lst ys)) q R := ⟨by rw [upd_ne (Ne.symm ne)]; exact h.at_, fun r hr => by
  have e := h.row r hr
  rw [upd_ne fun z => by rw [z, hp] at e; cases e]
  exact e⟩
/-- the last one is taken -/
theorem Rm.pop {H : Hp} {q : Addr} {R : List (Addr × List Int)} (h : Rm H q R) (ne : R ≠ []) : ∃ (r : Addr × List Int) (R' : List (Addr × List Int)), R = R' ++ [r] ∧ (R.map fun r => V.ref r.1)[(R.map fun r => V.ref r.1).length - 1]? = some (V.ref r.1) ∧ H r.1 = some (tp r.2) ∧ Rm (upd H q (.lst (R.map fun r => V.ref r.1).dropLast)) q R' ∧ upd H q (.lst (R.map fun r => V.ref r.1).dropLast) r.1 = some (tp r.2) := by
  have e := List.dropLast_concat_getLast ne
  generalize R.getLast ne = r at e
  generalize R.dropLast = R' at e
  subst e
  have hr := h.row r (by simp)
  have hq : r.1 ≠ q := fun z => by rw [z, h.at_] at hr; cases hr
  refine ⟨r, R', rfl, ?_, hr, ⟨?_, fun s hs => ?_⟩, by rw [upd_ne hq]; exact hr⟩
  · rw [List.map_append, List.length_append, List.map_singleton, List.length_singleton, Nat.add_sub_cancel, List.getElem?_append_right (Nat.le_refl _), Nat.sub_self]
    rfl
  · rw [upd_same, List.map_append, List.map_singleton, List.dropLast_concat]
  · have hs' := h.row s (by simp [hs])
    rw [upd_ne fun z => by rw [z, h.at_] at hs'; cases hs']
    exact hs'
theorem meetI {G : Prop} {R : Int → Hp → Prop} (C : Int → Hp → Prop) (main : (∀ c H, C c H → R c H) → G) (rest : ∀ c H, C c H → R c H) : G := main rest
theorem sm_nm {l : List Int} {b : Nat} (h : nm l ≤ b) (hb : b < 2 ^ 4000) : ∀ x ∈ l, sm x := fun x hx => Nat.lt_of_le_of_lt (Nat.le_trans (nm_mem hx) h) hb
theorem p5 : ∀ e, e ≤ 10 → 5 ^ e ≤ 5 ^ 10 := fun e h => Nat.pow_le_pow_right (by decide) h
/-- powers of a part, as they are multiplied -/
theorem pw_ok {P : List Int} (hU : P ∈ UU) {e : Nat} (he : e ≤ 10) : ∀ i, i ≤ e → pow P i ≠ [] ∧ (pow P i).length ≤ 100 ∧ ∀ x ∈ pow P i, sm x := fun i hi => by
  obtain ⟨a, b, b3, c, _⟩ := lvU P hU
  have nP := ne_nz (any_nz a)
  refine ⟨pow_ne nP i, ?_, sm_nm (nm_pow c i) (Nat.lt_of_le_of_lt (p5 i (by omega)) (by decide +kernel))⟩
  rw [pow_lenU nP]
  have : (P.length - 1) * i ≤ 2 * 10 := Nat.mul_le_mul (by omega) (by omega)
  omega
/-- where the walk stands between two turns -/
structure PF (H : Hp) (d q1 D : Addr) (n left most : Nat) (pf : Addr) (F : List Int) (R1 R3 : List (Addr × List Int)) (i : Nat) (H' : Hp) : Prop where
  sx : Sx d H H'
  dd : Dc H' d
  r1 : Rm H' q1 R1
  r3 : Rm H' D R3
  hF : H' pf = some (tp F)
  fz : FzE n left most F ((R1 ++ R3).map (·.2))
  l1 : ∀ r ∈ R1, r.2.length = 3
  l3 : ∀ r ∈ R3, r.2.length = 2
  c1 : 5 ≤ R1.length + i
  c3 : 7 ≤ R3.length + i
/-- behind the taking of a part -/
structure PG (H : Hp) (d q1 D : Addr) (n left most : Nat) (pf : Addr) (F : List Int) (R1 R3 : List (Addr × List Int)) (wd i : Nat) (p : Addr) (P : List Int) (H' : Hp) : Prop where
  sx : Sx d H H'
  dd : Dc H' d
  r1 : Rm H' q1 R1
  r3 : Rm H' D R3
  hF : H' pf = some (tp F)
  hp : H' p = some (tp P)
  lp : P.length = wd + 1
  fz : FzE n left most F (P :: (R1 ++ R3).map (·.2))
  l1 : ∀ r ∈ R1, r.2.length = 3
  l3 : ∀ r ∈ R3, r.2.length = 2
  c1 : 5 ≤ R1.length + (i + 1)
  c3 : 7 ≤ R3.length + (i + 1)
theorem tpPop {H : Hp} {q p : Addr} {xs ys : List V} {F : List Int} (e : H p = some (tp F)) (hq : H q = some (.lst xs)) : upd H q (.lst ys) p = some (tp F) := by
  rw [upd_ne fun z => by rw [z, hq] at e; cases e]
  exact e
theorem Sx_set {d q : Addr} {H H' : Hp} {o : HO} (s : Sx d H H') (n : H q = none) : Sx d H (upd H' q o) := fun c u nc e => by
  rw [upd_ne (ne_of_none e n)]
  exact s c u nc e
theorem dcPop {H : Hp} {q d : Addr} {ys : List V} (h : Dc H d) (ne : q ≠ d) : Dc (upd H q (.lst ys)) d := by
  obtain ⟨x, y, z, e⟩ := h
  exact ⟨x, y, z, by rw [upd_ne (Ne.symm ne)]; exact e⟩
def spParted : Sp := fun vs H Q _ => ∃ (d : Addr) (n : Nat), vs = [.ref d, .int n] ∧ Dc H d ∧ 1 ≤ n ∧ n ≤ 10 ∧ ∀ p q F H', Sx d H H' → Dc H' d → H' p = some (.tup [.ref q, .int (gtm F : Nat)]) → H' q = some (tp F) → F.length = n + 1 → Nz (ev F) → nm F ≤ 3 * 5 ^ 10 → (∃ E, Fam F E ∧ mx E = gtm F) → Q (.ref p) H'
theorem ok_law_parted_form (T : Facts K mg) : FnOk P w K mg base CX0 3 T.f_law_parted_form T.fd_law_parted_form ["_law_dice_here", "_law_degree"] spParted := by
  have G_law_roll : FnOk P w K mg base CX0 1 T.f_law_roll T.fd_law_roll ["_law_dice_here", "_law_total"] spRoll2 := (ok_law_roll T).imp roll2
  have G_law_pick : FnOk P w K mg base CX0 2 T.f_law_pick T.fd_law_pick ["_law_dice_here", "_law_items"] spPick2 := (ok_law_pick T).imp pick2
  have G_law_mixed := ok_law_mixed (P := P) (w := w) (base := base) T
  have G_law_line := ok_law_line (P := P) (w := w) (base := base) T
  have G_law_power := ok_law_power (P := P) (w := w) (base := base) T
  have G_law_product : FnOk P w K mg base CX0 1 T.f_law_product T.fd_law_product ["_law_one", "_law_other"] spProd := ok_law_product T
  refine T.F_law_parted_form.ok sc_law_parted_form (fun vs H Q E h => ?_) (fun cdv A outer s H vs Q E hr h => ?_)
  · obtain ⟨d, n, rfl, _⟩ := h
    rfl
  · obtain ⟨d, n, rfl, hd, n1, n10, fin⟩ := h
    refine ⟨_, (PSs.nox (pss_cons (ps_set (i := 2) sc_law_parted_form.nd rfl (.inl rfl) (pe_call G_law_mixed hr (by rfl) T.g_law_mixed T.F_law_mixed.kp T.b_law_mixed .nil pass0 (pa_cons (pv 0) (pa_cons (pe_lst (pa_cons (pe_tup (pa_cons pe_int (pa_cons pe_int (pa_cons pe_int pa_nil)))) (pa_cons (pe_tup (pa_cons pe_int (pa_cons pe_int (pa_cons (pe_un un_neg pe_int) pa_nil)))) (pa_cons (pe_tup (pa_cons pe_int (pa_cons pe_int (pa_cons pe_int pa_nil)))) (pa_cons (pe_tup (pa_cons pe_int (pa_cons pe_int (pa_cons (pe_un un_neg pe_int) pa_nil)))) (pa_cons (pe_tup (pa_cons pe_int (pa_cons pe_int (pa_cons (pe_un un_neg pe_int) pa_nil)))) pa_nil)))))) pa_nil))))
    (pss_cons (ps_setLc (i := 3) (own := [("_law_point_here", 4)]) (g := (gName 4)) (tt := tYes) rfl sc_law_parted_form.nd rfl rfl (sw_true rfl rfl rfl (by decide +kernel)) (pi_list (pe_call G_law_mixed hr (by rfl) T.g_law_mixed T.F_law_mixed.kp T.b_law_mixed .nil pass0 (pa_cons (pv 0) (pa_cons (pe_lst (pa_cons (pe_tup (pa_cons pe_int (pa_cons pe_int pa_nil))) (pa_cons (pe_tup (pa_cons pe_int (pa_cons pe_int pa_nil))) (pa_cons (pe_tup (pa_cons pe_int (pa_cons pe_int pa_nil))) (pa_cons (pe_tup (pa_cons pe_int (pa_cons (pe_un un_neg pe_int) pa_nil))) (pa_cons (pe_tup (pa_cons pe_int (pa_cons pe_int pa_nil))) (pa_cons (pe_tup (pa_cons pe_int (pa_cons pe_int pa_nil))) (pa_cons (pe_tup (pa_cons pe_int (pa_cons (pe_un un_neg pe_int) pa_nil))) pa_nil)))))))) pa_nil)))) (blkOk_by (N := N_law_parted_form) (sc := defScope s_law_parted_form) (by decide +kernel)) (fun _ _ _ _ _ => (pg_name (i := 4) sc_law_parted_form.nd rfl (.inl rfl))) (fun _ _ _ _ _ => pts_nil) (fun _ _ _ _ _ => (pe_call G_law_line (hr.mono (by decide)) (by rfl) T.g_law_line T.F_law_line.kp T.b_law_line .nil pass0 (pa_cons (pv 4) pa_nil))))
    (pss_cons (ps_par3 (i := 5) (j := 6) (l := 7) (by rfl) sc_law_parted_form.nd rfl rfl rfl (by decide) (by decide) (by decide) rfl rfl rfl (pa_cons (pe_tup (pa_cons (pe_op op_mulW (pe_op op_add pe_int (pe_call G_law_roll (hr.mono (by decide)) (by rfl) T.g_law_roll T.F_law_roll.kp T.b_law_roll .nil pass0 (pa_cons (pv 0) (pa_cons pe_int pa_nil)))) (pe_call G_law_pick hr (by rfl) T.g_law_pick T.F_law_pick.kp T.b_law_pick .nil pass0 (pa_cons (pv 0) (pa_cons (pe_lst (pa_cons pe_int (pa_cons (pe_un un_neg pe_int) pa_nil))) pa_nil)))) pa_nil)) (pa_cons (pv 1) (pa_cons pe_int pa_nil))) (by rfl))
    (pss_cons (ps_for PassesOwn.never (by rfl) (pi_range1 (by rfl) T.z_range (pa_cons pe_int pa_nil)) (pg_name (i := 8) sc_law_parted_form.nd rfl (.inl rfl))
      (pss_cons (ps_set (i := 9) sc_law_parted_form.nd rfl (.inl rfl) (pe_op op_add pe_int (pe_callTy call_int1 (by rfl) T.z_int (by decide +kernel) (pa_cons (pe_cmpR op_eq (pe_call G_law_roll (hr.mono (by decide)) (by rfl) T.g_law_roll T.F_law_roll.kp T.b_law_roll .nil pass0 (pa_cons (pv 0) (pa_cons pe_int pa_nil))) pe_int (nomark _)) pa_nil))))
      (pss_cons (ps_set (i := 10) sc_law_parted_form.nd rfl (.inl rfl) (pe_op op_fdivZ (pv 6) (pv 9)))
      (pss_one (ps_if (pt_cmpR op_gt (pv 10) pe_int (nomark _))
        (pss_cons (ps_set (i := 11) sc_law_parted_form.nd rfl (.inl rfl) (pe_ifExp (pt_cmpR op_gt (pv 8) pe_int (nomark _)) (pv 10) (pe_op op_add pe_int (pe_call G_law_roll (hr.mono (by decide)) (by rfl) T.g_law_roll T.F_law_roll.kp T.b_law_roll .nil pass0 (pa_cons (pv 0) (pa_cons (pv 10) pa_nil))))))
        (pss_cons (ps_set (i := 12) sc_law_parted_form.nd rfl (.inl rfl) (pe_ifExp (pt_cmpR op_eq (pv 9) pe_int (nomark _)) (pe_bm0 PySem.F.plainAttrs_list PySem.F.slot_list_pop PySem.F.type_list_pop mt_pop (pv 2)) (pe_bm0 PySem.F.plainAttrs_list PySem.F.slot_list_pop PySem.F.type_list_pop mt_pop (pv 3))))
        (pss_one (ps_par3 (i := 5) (j := 6) (l := 7) (by rfl) sc_law_parted_form.nd rfl rfl rfl (by decide) (by decide) (by decide) rfl rfl rfl (pa_cons (pe_call G_law_product (hr.mono (by decide)) (by rfl) T.g_law_product T.F_law_product.kp T.b_law_product .nil pass0 (pa_cons (pv 5) (pa_cons (pe_call G_law_power hr (by rfl) T.g_law_power T.F_law_power.kp T.b_law_power .nil pass0 (pa_cons (pv 12) (pa_cons (pv 11) pa_nil))) pa_nil))) (pa_cons (pe_op op_sub (pv 6) (pe_op op_mulW (pv 9) (pv 11))) (pa_cons (pe_callB (call_max2 (by rfl)) (by rfl) T.z_max (by decide +kernel) (pa_cons (pv 7) (pa_cons (pv 11) pa_nil))) pa_nil))) (by rfl)))))
        pss_nil)))))
    (pss_cons (ps_if (pt_cmpR op_gt (pv 6) pe_int (nomark _))
      (pss_one (ps_par (i := 5) (j := 7) (by rfl) sc_law_parted_form.nd rfl rfl (by decide) rfl rfl (pa_cons (pe_call G_law_product (hr.mono (by decide)) (by rfl) T.g_law_product T.F_law_product.kp T.b_law_product .nil pass0 (pa_cons (pv 5) (pa_cons (pe_call G_law_power hr (by rfl) T.g_law_power T.F_law_power.kp T.b_law_power .nil pass0 (pa_cons (pe_bm0 PySem.F.plainAttrs_list PySem.F.slot_list_pop PySem.F.type_list_pop mt_pop (pv 3)) (pa_cons (pv 6) pa_nil))) pa_nil))) (pa_cons (pe_callB (call_max2 (by rfl)) (by rfl) T.z_max (by decide +kernel) (pa_cons (pv 7) (pa_cons (pv 6) pa_nil))) pa_nil)) (by rfl)))
      pss_nil)
    (pss_one (ps_ret (pe_tup (pa_cons (pv 5) (pa_cons (pv 7) pa_nil))))))))))), ?_⟩
    refine ⟨_, rfl, sz3, fun u0 m0 => gen_upd H u0 (tp [1, 0, 1]) m0 fun H1 s1 e0 => ⟨_, rfl, sz3, fun u1 m1 => gen_upd H1 u1 (tp [1, 0, -2]) m1 fun H2 s2 e1 => ⟨sz3, fun u2 m2 => gen_upd H2 u2 (tp [1, 1, 1]) m2 fun H3 s3 e2 => ⟨_, rfl, sz3, fun u3 m3 => gen_upd H3 u3 (tp [1, 0, -3]) m3 fun H4 s4 e3 => ⟨_, rfl, sz3, fun u4 m4 => gen_upd H4 u4 (tp [1, 1, -1]) m4 fun H5 s5 e4 => ⟨(show 5 ≤ sizeLine by decide), fun L nL => gen_upd H5 L (.lst ([u0, u1, u2, u3, u4].map V.ref)) nL fun H6 s6 eL => ?_⟩⟩⟩⟩⟩⟩
    have a5 := s6
    have a4 := s5.trans a5
    have a3 := s4.trans a4
    have a2 := s3.trans a3
    have a1 := s2.trans a2
    have a0 := s1.trans a1
    have rows : ∀ r ∈ [(u0, [1, 0, 1]), (u1, [1, 0, -2]), (u2, [1, 1, 1]), (u3, [1, 0, -3]), (u4, [1, 1, -1])], H6 r.1 = some (tp r.2) := fun r hr => by
      simp only [List.mem_cons, List.not_mem_nil, or_false] at hr
      rcases hr with e | e | e | e | e <;> rw [e]
      · exact a1 _ _ e0
      · exact a2 _ _ e1
      · exact a3 _ _ e2
      · exact a4 _ _ e3
      · exact a5 _ _ e4
    have d6 := hd.same a0
    have Ld : L ≠ d := (hd.same (s1.trans (s2.trans (s3.trans (s4.trans s5))))).ne nL
    obtain ⟨qs, hqs⟩ : ∃ qs, qs = [(u0, ([1, 0, 1] : List Int)), (u1, [1, 0, -2]), (u2, [1, 1, 1]), (u3, [1, 0, -3]), (u4, [1, 1, -1])] := ⟨_, rfl⟩
    have eL' : H6 L = some (.lst (qs.map fun r => V.ref r.1)) := by rw [hqs]; exact eL
    have vq : qs.map (·.2) = UQ := by rw [hqs]; rfl
    rw [← hqs] at rows
    clear s1 s2 s3 s4 s5 s6 e0 e1 e2 e3 e4 m0 m1 m2 m3 m4 eL a1 a2 a3 a4 a5
    refine ⟨d, L, qs, rfl, d6, eL', Ld, by rw [hqs]; exact (show 5 ≤ 500 by decide), fun q1 R1 H7 s7 d7 nq1 e7 pm1 => ?_⟩
    have Rm1 : Rm H7 q1 R1 := ⟨e7, fun r hr => by
      have := rows r (pm1.mem_iff.mp hr)
      exact s7 _ _ (dc_ne d6 this) this⟩
    have v1 : (R1.map (·.2)).Perm UQ := vq ▸ pm1.map _
    have nq1' : H q1 = none := by
      cases hn : H q1 with
      | none => rfl
      | some o => rw [a0 _ _ hn] at nq1; cases nq1
    have s07 : Sx d H H7 := (Sx.of a0).trans s7
    clear eL' rows pm1 e7 s7 a0 d6 Ld nL hqs vq nq1
    have nd1 : q1 ≠ d := fun z => by
      obtain ⟨x, y, z', e⟩ := hd
      rw [← z, nq1'] at e
      cases e
    refine ⟨_, rfl, sz2, fun u0 m0 => gen_upd H7 u0 (tp [1, 0]) m0 fun H8 s8 e0 => ⟨sz2, fun u1 m1 => gen_upd H8 u1 (tp [0, 1]) m1 fun H9 s9 e1 => ⟨sz2, fun u2 m2 => gen_upd H9 u2 (tp [1, 1]) m2 fun H10 s10 e2 => ⟨_, rfl, sz2, fun u3 m3 => gen_upd H10 u3 (tp [1, -1]) m3 fun H11 s11 e3 => ⟨sz2, fun u4 m4 => gen_upd H11 u4 (tp [2, 1]) m4 fun H12 s12 e4 => ⟨sz2, fun u5 m5 => gen_upd H12 u5 (tp [1, 3]) m5 fun H13 s13 e5 => ⟨_, rfl, sz2, fun u6 m6 => gen_upd H13 u6 (tp [3, -2]) m6 fun H14 s14 e6 => ⟨(show 7 ≤ sizeLine by decide), fun L nL => gen_upd H14 L (.lst ([u0, u1, u2, u3, u4, u5, u6].map V.ref)) nL fun H15 s15 eL => ?_⟩⟩⟩⟩⟩⟩⟩⟩
    have a7 := s15
    have a6 := s14.trans a7
    have a5 := s13.trans a6
    have a4 := s12.trans a5
    have a3 := s11.trans a4
    have a2 := s10.trans a3
    have a1 := s9.trans a2
    have a0 := s8.trans a1
    have rows : ∀ r ∈ [(u0, [1, 0]), (u1, [0, 1]), (u2, [1, 1]), (u3, [1, -1]), (u4, [2, 1]), (u5, [1, 3]), (u6, [3, -2])], H15 r.1 = some (tp r.2) := fun r hr => by
      simp only [List.mem_cons, List.not_mem_nil, or_false] at hr
      rcases hr with e | e | e | e | e | e | e <;> rw [e]
      · exact a1 _ _ e0
      · exact a2 _ _ e1
      · exact a3 _ _ e2
      · exact a4 _ _ e3
      · exact a5 _ _ e4
      · exact a6 _ _ e5
      · exact a7 _ _ e6
    have d15 := d7.same a0
    have Ld : L ≠ d := (d7.same (s8.trans (s9.trans (s10.trans (s11.trans (s12.trans (s13.trans s14))))))).ne nL
    obtain ⟨qs, hqs⟩ : ∃ qs, qs = [(u0, ([1, 0] : List Int)), (u1, [0, 1]), (u2, [1, 1]), (u3, [1, -1]), (u4, [2, 1]), (u5, [1, 3]), (u6, [3, -2])] := ⟨_, rfl⟩
    have eL' : H15 L = some (.lst (qs.map fun r => V.ref r.1)) := by rw [hqs]; exact eL
    have vq : qs.map (·.2) = UP := by rw [hqs]; rfl
    have Rm1' := Rm1.same a0
    rw [← hqs] at rows
    clear s8 s9 s10 s11 s12 s13 s14 s15 e0 e1 e2 e3 e4 e5 e6 m0 m1 m2 m3 m4 m5 m6 eL a1 a2 a3 a4 a5 a6 a7 Rm1
    refine ⟨d, L, qs, rfl, d15, eL', Ld, by rw [hqs]; exact (show 7 ≤ 500 by decide), fun q2 R2 H16 s16 d16 _ e16 pm2 => ?_⟩
    have rows2 : ∀ r ∈ R2, H16 r.1 = some (tp r.2) := fun r hr => by
      have := rows r (pm2.mem_iff.mp hr)
      exact s16 _ _ (dc_ne d15 this) this
    have v2 : (R2.map (·.2)).Perm UP := vq ▸ pm2.map _
    have Rm2 := Rm1'.sx s16 d15 nd1
    have s016 : Sx d H H16 := s07.trans ((Sx.of a0).trans s16)
    clear eL' rows pm2 s16 a0 d15 Ld nL hqs vq Rm1' s07 d7
    have nq2 : ∀ {D : Addr}, H16 D = none → H D = none := fun {D} hD => by
      cases hn : H D with
      | none => rfl
      | some o =>
        by_cases z : D = d
        · obtain ⟨x, y, z', e⟩ := d16
          rw [z, e] at hD
          cases hD
        · rw [s016 _ _ z hn] at hD
          cases hD
    have lR2 : R2.length = 7 := by
      have := v2.length_eq
      rw [List.length_map] at this
      exact this
    refine ⟨q2, rfl, ⟨_, SqL.of e16⟩, fun D hD => ?_⟩
    refine lc_list (xs := R2.map fun r => V.ref r.1) (fun j H' => Same H16 H' ∧ ∃ R3 : List (Addr × List Int), H' D = some (.lst (R3.map fun r => V.ref r.1)) ∧ R3.map (·.2) = ((R2.map (·.2)).take j).map (fun p => [co p 1, 0 - co p 0]) ∧ R3.length = j ∧ ∀ r ∈ R3, H' r.1 = some (tp r.2)) ⟨same_upd0 hD, [], upd_same, rfl, rfl, fun r hr => absurd hr (by simp)⟩ (fun j H' _ hP => SqL.of (hP.1 _ _ e16)) (fun j x H' hx hP => ?_) (fun H17 hP => ?_)
    · obtain ⟨sH, R3, hL, hv, hl3, hrow⟩ := hP
      rw [List.getElem?_map] at hx
      obtain ⟨r, hr2, rfl⟩ := Option.map_eq_some_iff.mp hx
      have mr := List.mem_of_getElem? hr2
      have hj : j < 7 := by
        rw [← lR2]
        exact (List.getElem?_eq_some_iff.mp hr2).1
      have hp2 : r.2.length = 2 := by
        have : ∀ p ∈ UP, p.length = 2 := by decide
        exact this _ (v2.mem_iff.mp (List.mem_map_of_mem mr))
      obtain ⟨u, v, euv⟩ : ∃ u v, r.2 = [u, v] := by
        match r.2, hp2 with
        | [u, v], _ => exact ⟨u, v, rfl⟩
      have hr16 := sH _ _ (rows2 r mr)
      rw [euv] at hr16
      refine ⟨rfl, _, rfl, r.1, u, v, rfl, hr16, fun p np => gen_upd H' p (tp [v, 0 - u]) np fun H3 s3 e3 => ⟨_, s3 _ _ hL, ?_, fun b o e => ?_, R3 ++ [(p, [v, 0 - u])], ?_, ?_, ?_, fun t ht => ?_⟩⟩
      · rw [List.length_map]
        exact small1000 (by omega)
      · rw [upd_ne (ne_of_none e hD)]
        exact s3 _ _ (sH _ _ e)
      · rw [upd_same, List.map_append]
        rfl
      · rw [List.map_append, hv, List.take_add_one, List.getElem?_map, hr2, List.map_append]
        show _ ++ [_] = _ ++ [[co r.2 1, 0 - co r.2 0]]
        rw [euv]
        rfl
      · rw [List.length_append, hl3]
        rfl
      · have hL3 := s3 _ _ hL
        rcases List.mem_append.mp ht with e | e
        · have := s3 _ _ (hrow t e)
          rw [upd_ne fun z => by rw [z, hL3] at this; cases this]
          exact this
        · have np : p ≠ D := fun z => by rw [z, hL3] at e3; cases e3
          rw [List.mem_singleton.mp e]
          show upd H3 D _ p = some (tp [v, 0 - u])
          rw [upd_ne np]
          exact e3
    obtain ⟨s17, R3, hL, hv, hl3, hrow⟩ := hP
    rw [List.length_map, lR2] at hl3
    rw [List.length_map, List.take_of_length_le (by rw [List.length_map]; exact Nat.le_refl _)] at hv
    have v3 : (R3.map (·.2)).Perm UL := hv ▸ v2.map _
    have Rm3 : Rm H17 D R3 := ⟨hL, hrow⟩
    have Rm17 := Rm2.same s17
    have nD := nq2 hD
    have s017 := s016.trans (Sx.of s17)
    have d17 := d16.same s17
    have nDd : D ≠ d := fun z => by
      obtain ⟨x, y, z', e⟩ := hd
      rw [← z, nD] at e
      cases e
    have nqD : q1 ≠ D := fun z => by
      rw [← z, Rm2.at_] at hD
      cases hD
    clear hL hv hrow rows2 e16 v2 nq2 hD s17 d16 Rm2 s016
    have lR1 : R1.length = 5 := by
      have := v1.length_eq
      rw [List.length_map] at this
      exact this
    refine ⟨_, rfl, d, 3, rfl, d17, by decide, by decide, fun r H18 hr3 s18 d18 => ⟨_, _, rfl, rfl, _, rfl, _, rfl, sz2, fun L nL => gen_upd H18 L (.lst [.int 1, .int (-1)]) nL fun H19 s19 eL => ?_⟩⟩
    have d19 := d18.same s19
    have Ld : L ≠ d := d18.ne nL
    have Rm19 := (Rm17.sx s18 d17 nd1).same s19
    have Rm3' := (Rm3.sx s18 d17 nDd).same s19
    refine ⟨d, L, _, rfl, d19, eL, Ld, Nat.zero_lt_succ _, (show 2 < 1000 by decide), fun v H20 hv s20 d20 => ?_⟩
    obtain ⟨e, he, rfl⟩ : ∃ e : Int, (e = 1 ∨ e = -1) ∧ v = .int e := by
      simp only [List.mem_cons, List.not_mem_nil, or_false] at hv
      rcases hv with z | z
      · exact ⟨1, .inl rfl, z⟩
      · exact ⟨-1, .inr rfl, z⟩
    have c0 : (1 + (r : Int)) * e ≠ 0 := Int.mul_ne_zero (by omega) (by rcases he with rfl | rfl <;> decide)
    have c3 : ((1 + (r : Int)) * e).natAbs ≤ 3 := by
      rw [Int.natAbs_mul]
      rcases he with rfl | rfl
      · show _ * 1 ≤ 3
        omega
      · show _ * 1 ≤ 3
        omega
    refine ⟨_, _, rfl, rfl, sm_mul (sm_small (show (1 + (r : Int)).natAbs ≤ 2 ^ 40 by omega)) (sm_small (show e.natAbs ≤ 2 ^ 40 by rcases he with rfl | rfl <;> decide)), sz1, fun pf0 npf => gen_upd H20 pf0 (tp [(1 + (r : Int)) * e]) npf fun H21 s21 e21 => ⟨_, rfl, _, _, _, rfl, ?_⟩⟩
    have s0 : Sx d H H21 := s017.trans (s18.trans ((Sx.of s19).trans (s20.trans (Sx.of s21))))
    have d21 := d20.same s21
    have Rm21 := (Rm19.sx s20 d19 nd1).same s21
    have Rm31 := (Rm3'.sx s20 d19 nDd).same s21
    have v1' := v1
    have v3' := v3
    have e21' := e21
    have fz : FzE n n 0 [(1 + (r : Int)) * e] ((R1 ++ R3).map (·.2)) := by
      have pm : ((R1 ++ R3).map (·.2)).Perm UU := by
        rw [List.map_append]
        exact v1.append v3
      exact FzE.start c0 c3 (fun Q hQ => pm.mem_iff.mp hQ) (pm.nodup_iff.mpr (by decide))
    clear s18 s19 s20 s21 eL nL Ld d17 d18 d19 d20 Rm17 Rm3 Rm19 Rm3' s017 hv npf v1 v3
    have dm : ∀ r ∈ R1, r.2.length = 3 := fun r hr' => by
      have : ∀ p ∈ UQ, p.length = 3 := by decide
      exact this _ (v1'.mem_iff.mp (List.mem_map_of_mem hr'))
    have dl : ∀ r ∈ R3, r.2.length = 2 := fun r hr' => by
      have : ∀ p ∈ UL, p.length = 2 := by decide
      exact this _ (v3'.mem_iff.mp (List.mem_map_of_mem hr'))
    have st : PF H d q1 D n n 0 pf0 [(1 + (r : Int)) * e] R1 R3 0 H21 := ⟨s0, d21, Rm21, Rm31, e21', fz, dm, dl, by omega, by omega⟩
    clear s0 d21 Rm21 Rm31 e21' fz dm dl v1' v3' c0 c3 hr3 he
    dsimp only []
    refine ⟨5, rfl, by decide, by decide, for_range (n := (5 : Int).toNat) (fun i σ H' => ∃ (pf : Addr) (F : List Int) (left most : Nat) (R1 R3 : List (Addr × List Int)) (y8 y9 y10 y11 y12 : Option V), σ = [some (.ref d), some (.int n), some (.ref q1), some (.ref D), none, some (.ref pf), some (.int left), some (.int most), y8, y9, y10, y11, y12] ∧ PF H d q1 D n left most pf F R1 R3 i H') ⟨pf0, _, n, 0, R1, R3, none, none, none, none, none, rfl, st⟩ (fun i σ H' hi hP => ?_) (fun σ H' hP => ?_)⟩
    · clear st lR1 hl3 lR2
      obtain ⟨pf, F, left, most, R1, R3, y8, y9, y10, y11, y12, rfl, I⟩ := hP
      have hi5 : i < 5 := hi
      have ll := I.fz.len
      refine ⟨_, rfl, d, 3, rfl, I.dd, by decide, by decide, fun r2 H1 hr2 s1 d1 => ⟨rfl, .inr ⟨_, rfl, _, _, rfl, rfl, ?_⟩⟩⟩
      obtain ⟨wd, hw, hwd⟩ : ∃ wd : Nat, (1 : Int) + (if (decide (V.int (r2 : Int) = V.int 0)) = true then 1 else 0) = (wd : Int) ∧ (wd = 1 ∨ wd = 2) := by
        by_cases z : (r2 : Int) = 0
        · rw [decide_eq_true (congrArg V.int z)]
          exact ⟨2, rfl, .inr rfl⟩
        · rw [decide_eq_false fun q => z (V.int.inj q)]
          exact ⟨1, rfl, .inl rfl⟩
      refine st_norm [some (.ref d), some (.int n), some (.ref q1), some (.ref D), none, some (.ref pf), some (.int left), some (.int most), some (.int (0 + (i : Int))), some (.int (wd : Int)), y10, y11, y12] (by rw [← hw]; rfl) ?_
      refine ⟨_, rfl, _, rfl, _, _, rfl, rfl, (show (wd : Int) ≠ 0 ∧ ((wd : Int)).natAbs.log2 < 9000 from ⟨by omega, by rcases hwd with rfl | rfl <;> decide⟩), ?_⟩
      have ed : (left : Int).fdiv (wd : Int) = ((left / wd : Nat) : Int) := by
        rw [Int.fdiv_eq_ediv_of_nonneg _ (by omega)]
        rfl
      have rle : wd * (left / wd) ≤ left := Nat.mul_div_le left wd
      have rl2 : left / wd ≤ left := Nat.div_le_self _ _
      obtain ⟨room, hroom⟩ : ∃ room, room = left / wd := ⟨_, rfl⟩
      rw [← hroom] at rle rl2 ed
      show gName 10 _ _ H1 _
      unfold gName
      refine st_norm [some (.ref d), some (.int n), some (.ref q1), some (.ref D), none, some (.ref pf), some (.int left), some (.int most), some (.int (0 + (i : Int))), some (.int (wd : Int)), some (.int (room : Int)), y11, y12] (by rw [← ed]; rfl) ?_
      refine ⟨_, rfl, _, _, rfl, rfl, _, rfl, ?_⟩
      by_cases c : 0 < room
      · rw [decide_eq_true (show (0 : Int) < (room : Int) by omega)]
        refine iteT ?_
        -- how often
        apply meetI fun o H2 => ∃ e : Nat, o = (e : Int) ∧ 1 ≤ e ∧ e ≤ room ∧ Sx d H1 H2 ∧ Dc H2 d
        · intro k
          refine ⟨_, rfl, _, _, rfl, rfl, _, rfl, ?_⟩
          by_cases c4 : (3 : Int) < 0 + (i : Int)
          · rw [decide_eq_true c4]
            obtain ⟨o, ho⟩ : ∃ o : Int, o = (room : Int) := ⟨_, rfl⟩
            refine iteT ⟨_, rfl, ?_⟩
            dsimp only []
            refine st_norm [some (.ref d), some (.int n), some (.ref q1), some (.ref D), none, some (.ref pf), some (.int left), some (.int most), some (.int (0 + (i : Int))), some (.int (wd : Int)), some (.int (room : Int)), some (.int o), y12] (by rw [ho]; rfl) (k o H1 ⟨room, ho, c, Nat.le_refl _, fun _ _ _ e => e, d1⟩)
          · rw [decide_eq_false c4]
            refine iteF ⟨_, rfl, _, rfl, d, room, rfl, d1, by omega, ?_, fun r3 H2 hr3 s2 d2 => ⟨_, _, rfl, rfl, ?_⟩⟩
            · exact Nat.lt_trans (PySem.Flt.log2_lt_of (k := 10) (by decide) (by show room < 2 ^ 10; omega)) (by decide)
            · obtain ⟨o, ho⟩ : ∃ o : Int, o = 1 + (r3 : Int) := ⟨_, rfl⟩
              dsimp only []
              refine st_norm [some (.ref d), some (.int n), some (.ref q1), some (.ref D), none, some (.ref pf), some (.int left), some (.int most), some (.int (0 + (i : Int))), some (.int (wd : Int)), some (.int (room : Int)), some (.int o), y12] (by rw [ho]; rfl) (k o H2 ⟨r3 + 1, by omega, by omega, by omega, s2, d2⟩)
        rintro o H2 ⟨e, rfl, e1, er, s2, d2⟩
        have s12 := s1.trans s2
        have r1 := I.r1.sx s12 I.dd nd1
        have r3 := I.r3.sx s12 I.dd nDd
        have hF2 := s12 _ _ (dc_ne I.dd I.hF) I.hF
        have lw : wd ≠ 2 → wd = 1 := fun z => by rcases hwd with w1 | w1 <;> omega
        have hq1 := r1.at_
        have hq3 := r3.at_
        -- the part
        apply meet1 fun p H3 => ∃ (R1' R3' : List (Addr × List Int)) (P : List Int), PG H d q1 D n left most pf F R1' R3' wd i p P H3
        · intro k
          refine ⟨_, rfl, rfl, _, rfl, ?_⟩
          by_cases c2 : wd = 2
          · rw [decide_eq_true (show V.int (wd : Int) = V.int 2 by rw [c2]; rfl)]
            refine iteT ?_
            refine ⟨_, rfl, .inl ⟨rfl, _, SqL.of hq1⟩, ?_⟩
            have ne : R1 ≠ [] := fun z => by
              have := I.c1
              rw [z] at this
              exact absurd this (by show ¬(5 ≤ 0 + i); omega)
            obtain ⟨⟨ra, rv⟩, R', eR, el, er1, rm, er2⟩ := r1.pop ne
            refine ⟨q1, _, V.ref ra, rfl, rfl, hq1, el, ?_⟩
            have l1 := I.l1
            have c1 := I.c1
            have pm : ((R1 ++ R3).map (·.2)).Perm (rv :: (R' ++ R3).map (·.2)) := by
              rw [eR, List.append_assoc]
              exact (List.perm_middle (l₁ := R') (a := (ra, rv)) (l₂ := R3)).map _
            have g : PG H d q1 D n left most pf F R' R3 wd i ra rv (upd H2 q1 (.lst (R1.map fun r => V.ref r.1).dropLast)) := ⟨Sx_set (I.sx.trans s12) nq1', dcPop d2 nd1, rm, r3.other nqD hq1, tpPop hF2 hq1, er2, by rw [l1 (ra, rv) (by rw [eR]; simp), c2], I.fz.perm pm, fun s hs => l1 s (by rw [eR]; simp [hs]), I.l3, by rw [eR, List.length_append] at c1; exact Nat.le_trans c1 (by show R'.length + 1 + i ≤ _; omega), Nat.le_trans I.c3 (by omega)⟩
            generalize upd H2 q1 (.lst (R1.map fun r => V.ref r.1).dropLast) = H4 at g ⊢
            exact k ra H4 ⟨R', R3, rv, g⟩
          · rw [decide_eq_false (show ¬V.int (wd : Int) = V.int 2 from fun z => c2 (by have := V.int.inj z; omega))]
            refine iteF ?_
            refine ⟨_, rfl, .inl ⟨rfl, _, SqL.of hq3⟩, ?_⟩
            have ne : R3 ≠ [] := fun z => by
              have := I.c3
              rw [z] at this
              exact absurd this (by show ¬(7 ≤ 0 + i); omega)
            obtain ⟨⟨ra, rv⟩, R', eR, el, er1, rm, er2⟩ := r3.pop ne
            refine ⟨D, _, V.ref ra, rfl, rfl, hq3, el, ?_⟩
            have l3 := I.l3
            have c3 := I.c3
            have pm : ((R1 ++ R3).map (·.2)).Perm (rv :: (R1 ++ R').map (·.2)) := by
              rw [eR, ← List.append_assoc]
              exact (List.perm_append_singleton (ra, rv) (R1 ++ R')).map _
            have g : PG H d q1 D n left most pf F R1 R' wd i ra rv (upd H2 D (.lst (R3.map fun r => V.ref r.1).dropLast)) := ⟨Sx_set (I.sx.trans s12) nD, dcPop d2 nDd, r1.other (Ne.symm nqD) hq3, rm, tpPop hF2 hq3, er2, by rw [l3 (ra, rv) (by rw [eR]; simp)]; have := lw c2; omega, I.fz.perm pm, I.l1, fun s hs => l3 s (by rw [eR]; simp [hs]), Nat.le_trans I.c1 (by omega), by rw [eR, List.length_append] at c3; exact Nat.le_trans c3 (by show R'.length + 1 + i ≤ _; omega)⟩
            generalize upd H2 D (.lst (R3.map fun r => V.ref r.1).dropLast) = H4 at g ⊢
            exact k ra H4 ⟨R1, R', rv, g⟩
        rintro p H3 ⟨R1', R3', U, g⟩
        have hU := g.fz.rU U (.head _)
        have wl : wd * e ≤ left := Nat.le_trans (Nat.mul_le_mul_left wd er) rle
        have fl := List.length_pos_iff.mpr (ne_nz I.fz.nz)
        have e10 : e ≤ 10 := by omega
        have fz' := g.fz.next (.refl _) (e := e) (by rw [g.lp, Nat.add_sub_cancel]; exact wl)
        rw [g.lp, Nat.add_sub_cancel] at fz'
        obtain ⟨ua, _, u3, uc, _⟩ := lvU U hU
        have pw := pw_ok hU e10
        have nF := ne_nz I.fz.nz
        have mF : nm F ≤ 3 * 5 ^ 10 := Nat.le_trans (Nat.le_mul_of_pos_right _ (Nat.pow_pos (by decide))) (Nat.le_trans I.fz.nm (Nat.mul_le_mul_left _ (p5 n n10)))
        have sF := sm_nm mF (by decide +kernel)
        have m10 : most ≤ 10 := by
          have := gtm_le _ F (Nat.le_refl _) I.fz.nz
          rw [I.fz.most] at this
          omega
        refine ⟨_, rfl, _, rfl, _, rfl, p, U, e, rfl, g.hp, ne_nz (any_nz ua), by omega, sm_nm uc (by decide +kernel), fun i hi => pw i (by omega), by omega, fun p2 H4 s4 e4 => ⟨pf, p2, F, pow U e, rfl, s4 _ _ g.hF, e4, nF, (pw e (Nat.le_refl _)).1, by omega, (pw e (Nat.le_refl _)).2.1, sF, (pw e (Nat.le_refl _)).2.2, fun p3 H5 s5 n5 e5 => ?_⟩⟩
        have q1' : (left : Int) - (wd : Int) * (e : Int) = ((left - wd * e : Nat) : Int) := by
          rw [Int.ofNat_sub wl, Int.natCast_mul]
        have q2' : (if (e : Int) > (most : Int) then (e : Int) else (most : Int)) = ((max most e : Nat) : Int) := by
          by_cases z : (most : Int) < (e : Int)
          · rw [if_pos z, Nat.max_eq_right (by omega)]
          · rw [if_neg z, Nat.max_eq_left (by omega)]
        have s45 := s4.trans s5
        refine ⟨_, rfl, _, rfl, _, rfl, _, _, rfl, rfl, sm_mul (sm_small (show (wd : Int).natAbs ≤ 2 ^ 40 by omega)) (sm_small (show (e : Int).natAbs ≤ 2 ^ 40 by omega)), _, _, rfl, rfl, _, rfl, _, rfl, _, _, rfl, _, _, _, rfl, p3, ml F (pow U e), left - wd * e, max most e, R1', R3', some (.int (0 + (i : Int))), some (.int (wd : Int)), some (.int (room : Int)), some (.int (e : Int)), some (.ref p), ?_, ⟨g.sx.trans (Sx.of s45), g.dd.same s45, g.r1.same s45, g.r3.same s45, e5, fz', g.l1, g.l3, g.c1, g.c3⟩⟩
        rw [← q1', ← q2']
        rfl
      · rw [decide_eq_false (show ¬(0 : Int) < (room : Int) by omega)]
        refine iteF ⟨pf, F, left, most, R1, R3, _, _, _, _, _, rfl, ⟨I.sx.trans s1, d1, I.r1.sx s1 I.dd nd1, I.r3.sx s1 I.dd nDd, s1 _ _ (dc_ne I.dd I.hF) I.hF, I.fz, I.l1, I.l3, Nat.le_trans I.c1 (by omega), Nat.le_trans I.c3 (by omega)⟩⟩
    · clear st lR1 hl3 lR2
      obtain ⟨pf, F, left, most, R1, R3, y8, y9, y10, y11, y12, rfl, I⟩ := hP
      have ll := I.fz.len
      have nF := ne_nz I.fz.nz
      have mF : nm F ≤ 3 * 5 ^ 10 := Nat.le_trans (Nat.le_mul_of_pos_right _ (Nat.pow_pos (by decide))) (Nat.le_trans I.fz.nm (Nat.mul_le_mul_left _ (p5 n n10)))
      have sF := sm_nm mF (by decide +kernel)
      have fl := List.length_pos_iff.mpr nF
      refine ⟨_, rfl, _, _, rfl, rfl, _, rfl, ?_⟩
      by_cases c : 0 < left
      · rw [decide_eq_true (show (0 : Int) < (left : Int) by omega)]
        refine iteT ?_
        have hq3 := I.r3.at_
        have ne : R3 ≠ [] := fun z => by
          have := I.c3
          rw [z] at this
          exact absurd this (by decide)
        obtain ⟨⟨ra, rv⟩, R', eR, el, er1, rm, er2⟩ := I.r3.pop ne
        have l3 := I.l3 (ra, rv) (by rw [eR]; simp)
        have pm : ((R1 ++ R3).map (·.2)).Perm (rv :: (R1 ++ R').map (·.2)) := by
          rw [eR, ← List.append_assoc]
          exact (List.perm_append_singleton (ra, rv) (R1 ++ R')).map _
        have fz1 := I.fz.perm pm
        have hU := fz1.rU rv (.head _)
        have fz' := fz1.next (.refl _) (e := left) (by rw [l3]; show 1 * left ≤ left; omega)
        obtain ⟨ua, _, u3, uc, _⟩ := lvU rv hU
        have l10 : left ≤ 10 := by omega
        have pw := pw_ok hU l10
        have sx1 : Sx d H (upd H' D (.lst (R3.map fun r => V.ref r.1).dropLast)) := Sx_set I.sx nD
        have dd1 : Dc (upd H' D (.lst (R3.map fun r => V.ref r.1).dropLast)) d := dcPop I.dd nDd
        have hF1 : upd H' D (.lst (R3.map fun r => V.ref r.1).dropLast) pf = some (tp F) := tpPop I.hF hq3
        refine ⟨_, rfl, _, rfl, .inl ⟨rfl, _, SqL.of hq3⟩, D, _, V.ref ra, rfl, rfl, hq3, el, _, rfl, ra, rv, left, rfl, er2, ne_nz (any_nz ua), by omega, sm_nm uc (by decide +kernel), fun i hi => pw i (by omega), by omega, fun p2 H4 s4 e4 => ⟨pf, p2, F, pow rv left, rfl, s4 _ _ hF1, e4, nF, (pw left (Nat.le_refl _)).1, by omega, (pw left (Nat.le_refl _)).2.1, sF, (pw left (Nat.le_refl _)).2.2, fun p3 H5 s5 n5 e5 => ?_⟩⟩
        have s45 := s4.trans s5
        have q2' : (if (left : Int) > (most : Int) then (left : Int) else (most : Int)) = ((gtm (ml F (pow rv left)) : Nat) : Int) := by
          rw [fz'.most]
          by_cases z : (most : Int) < (left : Int)
          · rw [if_pos z, Nat.max_eq_right (by omega)]
          · rw [if_neg z, Nat.max_eq_left (by omega)]
        refine ⟨_, rfl, _, rfl, _, _, rfl, _, _, rfl, _, rfl, _, rfl, sz2, fun q nq => gen_upd H5 q _ nq fun H6 s6 e6 => ?_⟩
        refine fin q p3 (ml F (pow rv left)) H6 (sx1.trans (Sx.of (s45.trans s6))) ((dd1.same s45).same s6) (by rw [e6, ← q2']) (s6 _ _ e5) ?_ fz'.nz ?_ (by obtain ⟨E, h1, h2, _⟩ := fz'.fm; exact ⟨E, h1, by rw [h2, fz'.most]⟩)
        · have := fz'.len
          rw [l3] at this
          omega
        · exact Nat.le_trans (Nat.le_mul_of_pos_right _ (Nat.pow_pos (by decide))) (Nat.le_trans fz'.nm (Nat.mul_le_mul_left _ (p5 n n10)))
      · rw [decide_eq_false (show ¬(0 : Int) < (left : Int) by omega)]
        refine iteF ⟨_, rfl, _, rfl, sz2, fun q nq => gen_upd H' q _ nq fun H6 s6 e6 => ?_⟩
        exact fin q pf F H6 (I.sx.trans (Sx.of s6)) (I.dd.same s6) (by rw [e6, I.fz.most]) (s6 _ _ I.hF) (by omega) I.fz.nz mF (by obtain ⟨E, h1, h2, _⟩ := I.fz.fm; exact ⟨E, h1, by rw [h2, I.fz.most]⟩)
end
end K45

set_option Elab.async false
set_option linter.all false
set_option maxRecDepth 100000
set_option maxHeartbeats 1000000
set_option exponentiation.threshold 20000
/-! plain: what parted forms tell -/
namespace K45
open PySem PySem.Spec PyProof.Rows L2 FDivQ LA
/-- the first told number of a form of the degree 6, written out -/
def f6 : List Int → Int
  | [a, b, c, d, e, f, g] => 120 * (a * g) - 20 * (b * f) + 8 * (c * e) - 3 * (d * d)
  | _ => 0
theorem f6_eqs (a b c d e f g : Int) : Lc 6 [a, b, c, d, e, f, g] [a, b, c, d, e, f, g] 7 0 = 8640 * (120 * (a * g) - 20 * (b * f) + 8 * (c * e) - 3 * (d * d)) := by
  simp [Lc, su, sgn, ch, dd, it, dX, dY, tb, cv, co, List.range, List.range.loop]
  grind
theorem len7 {F : List Int} (l : F.length = 7) : ∃ a b c d e f g, F = [a, b, c, d, e, f, g] := by
  match F, l with
  | [a, b, c, d, e, f, g], _ => exact ⟨a, b, c, d, e, f, g, rfl⟩
theorem len6 {F : List Int} (l : F.length = 6) : ∃ a b c d e f, F = [a, b, c, d, e, f] := by
  match F, l with
  | [a, b, c, d, e, f], _ => exact ⟨a, b, c, d, e, f, rfl⟩
theorem co_L0 {t : Nat} {f g : List Int} (hf : t + 1 ≤ f.length) (hg : t + 1 ≤ g.length) (h : 2 * t + 1 < f.length + g.length) : co (L t f g) 0 = Lc t f g (t + 1) 0 := by
  rw [← L_tab hf hg, co_tb, if_pos (by omega)]
theorem f6_eq {F : List Int} (l : F.length = 6 + 1) : co (L 6 F F) 0 = 8640 * f6 F := by
  rw [co_L0 (by omega) (by omega) (by omega)]
  obtain ⟨a, b, c, d, e, f, g, rfl⟩ := len7 l
  exact f6_eqs a b c d e f g
/-- the quadratic covariant of a form of the degree 5, and its discriminant -/
def g5 : List Int → List Int
  | [a, b, c, d, e, f] => [20 * (a * e) - 8 * (b * d) + 3 * (c * c), 100 * (a * f) - 12 * (b * e) + 2 * (c * d), 20 * (b * f) - 8 * (c * e) + 3 * (d * d)]
  | _ => []
def f5 (F : List Int) : Int := 4 * (co (g5 F) 0 * co (g5 F) 2) - co (g5 F) 1 * co (g5 F) 1
theorem g5_eqs (a b c d e f : Int) : tb 3 (Lc 4 [a, b, c, d, e, f] [a, b, c, d, e, f] 5) = [288 * (20 * (a * e) - 8 * (b * d) + 3 * (c * c)), 288 * (100 * (a * f) - 12 * (b * e) + 2 * (c * d)), 288 * (20 * (b * f) - 8 * (c * e) + 3 * (d * d))] := by
  simp [Lc, su, sgn, ch, dd, it, dX, dY, tb, cv, co, List.range, List.range.loop]
  refine ⟨?_, ?_, ?_⟩ <;> grind
theorem d2_eqs (p q r : Int) : Lc 2 [p, q, r] [p, q, r] 3 0 = 2 * (4 * (p * r) - q * q) := by
  simp [Lc, su, sgn, ch, dd, it, dX, dY, tb, cv, co, List.range, List.range.loop]
  grind
theorem d2_eq (p q r : Int) : co (L 2 [p, q, r] [p, q, r]) 0 = 2 * (4 * (p * r) - q * q) := by
  have h : [p, q, r].length = 3 := rfl
  rw [co_L0 (by omega) (by omega) (by omega)]
  exact d2_eqs p q r
theorem g5_eq {F : List Int} (l : F.length = 5 + 1) : ∃ p q r, L 4 F F = [288 * p, 288 * q, 288 * r] ∧ f5 F = 4 * (p * r) - q * q := by
  have e := L_tab (t := 4) (f := F) (g := F) (by omega) (by omega)
  rw [show F.length + F.length - 1 - 2 * 4 = 3 by omega] at e
  obtain ⟨a, b, c, d, e', f, rfl⟩ := len6 l
  exact ⟨_, _, _, e.symm.trans (g5_eqs a b c d e' f), rfl⟩
theorem f5_eq {F : List Int} (l : F.length = 5 + 1) : co (L 2 (L 4 F F) (L 4 F F)) 0 = 165888 * f5 F := by
  obtain ⟨p, q, r, h1, h2⟩ := g5_eq l
  rw [h1, d2_eq, h2]
  grind
def tq (n : Nat) (F : List Int) : Bool := (tls n).any fun g => co (g.1 F) 0 != 0
def ta (n : Nat) (F : List Int) : Bool := (tls n).all fun g => co (g.1 F) 0 != 0
def qk (n : Nat) (F : List Int) : Bool := (n == 6 && f6 F != 0) || ((n == 5 && f5 F != 0) || tq n F)
def ckA (n : Nat) : Bool := (en dgs n).all fun E => decide (n ≤ 2 * mx E) || qk n (cn UU E)
def ckB (n : Nat) : Bool := (en dgs n).all fun E => decide (2 * mx E < n) || ((E.drop 5).any (· == mx E) || (decide (2 * mx E = n) && ta n (cn UU E)))
theorem any_fst (G : LL) (s : Nat) (l : List (LL × Nat)) (F : List Int) : ((G, s) :: l).any (fun g => co (g.1 F) 0 != 0) = ((co (G F) 0 != 0) || l.any fun g => co (g.1 F) 0 != 0) := rfl
theorem a6_L (F : List Int) : a6 F = L 6 F F := rfl
theorem a5_L (F : List Int) : a5 F = L 2 (L 4 F F) (L 4 F F) := rfl
theorem bne0 {x : Int} (h : x ≠ 0) : (x != 0) = true := by simpa using h
theorem ne_bne {x : Int} (h : (x != 0) = true) : x ≠ 0 := by simpa using h
theorem qk_tq {n : Nat} {F : List Int} (l : F.length = n + 1) (h : qk n F = true) : tq n F = true := by
  unfold qk at h
  generalize hT : tq n F = T at h ⊢
  cases T with
  | true => rfl
  | false =>
    exfalso
    unfold tq at hT
    by_cases c6 : n = 6
    · subst c6
      by_cases f0 : f6 F = 0
      · rw [f0] at h
        cases h
      · rw [tl6, any_fst, a6_L, f6_eq l, bne0 (Int.mul_ne_zero (show (8640 : Int) ≠ 0 by decide) f0), Bool.true_or] at hT
        cases hT
    · by_cases c5 : n = 5
      · subst c5
        by_cases f0 : f5 F = 0
        · rw [f0] at h
          cases h
        · rw [tl5, any_fst, a5_L, f5_eq l, bne0 (Int.mul_ne_zero (show (165888 : Int) ≠ 0 by decide) f0), Bool.true_or] at hT
          cases hT
      · rw [show (n == 6) = false from beq_false_of_ne c6, show (n == 5) = false from beq_false_of_ne c5] at h
        cases h
end K45

set_option Elab.async false
set_option linter.all false
set_option maxRecDepth 100000
set_option maxHeartbeats 1000000
set_option exponentiation.threshold 20000
/-! plain: all parted forms of the degrees 1 to 6 -/
namespace K45
open PySem PySem.Spec PyProof.Rows L2 FDivQ LA
theorem ckA1 : ckA 1 = true := by decide +kernel
theorem ckA2 : ckA 2 = true := by decide +kernel
theorem ckA3 : ckA 3 = true := by decide +kernel
theorem ckA4 : ckA 4 = true := by decide +kernel
theorem ckA5 : ckA 5 = true := by decide +kernel
theorem ckA6 : ckA 6 = true := by decide +kernel
theorem ckB1 : ckB 1 = true := by decide +kernel
theorem ckB2 : ckB 2 = true := by decide +kernel
theorem ckB3 : ckB 3 = true := by decide +kernel
theorem ckB4 : ckB 4 = true := by decide +kernel
theorem ckB5 : ckB 5 = true := by decide +kernel
theorem ckB6 : ckB 6 = true := by decide +kernel
end K45

set_option Elab.async false
set_option linter.all false
set_option maxRecDepth 100000
set_option maxHeartbeats 1000000
set_option exponentiation.threshold 20000
/-! plain: told numbers of parted forms -/
namespace K45
open PySem PySem.Spec PyProof.Rows L2 FDivQ LA
theorem cn_ev {u v : Int} : ∀ {Ps : List (List Int)} {E : List Nat}, (∀ P ∈ Ps, Nz (ev P)) → (∀ (i : Nat) P e, Ps[i]? = some P → E[i]? = some e → e = 0 ∨ ev P u v ≠ 0) → ev (cn Ps E) u v ≠ 0
  | [], _, _, _ => by
    show ev [1] u v ≠ 0
    rw [ev_one]
    decide
  | _ :: _, [], _, _ => by
    show ev [1] u v ≠ 0
    rw [ev_one]
    decide
  | P :: Ps, e :: es, hz, h => by
    have hP := hz P (.head _)
    have hz' : ∀ Q ∈ Ps, Nz (ev Q) := fun Q hQ => hz Q (.tail _ hQ)
    show ev (ml (pow P e) (cn Ps es)) u v ≠ 0
    rw [ev_ml (ne_nz (nz_pow hP e)) (ne_nz (cn_nz hz')), ev_pow (ne_nz hP)]
    refine Int.mul_ne_zero ?_ (cn_ev hz' fun i Q q h1 h2 => h (i + 1) Q q h1 h2)
    rcases h 0 P e rfl rfl with z | z
    · rw [z, Int.pow_zero]
      decide
    · exact pow_nzB z e
theorem pts_ap : ∀ j, j < 7 → ∀ i, i < 12 → i = 5 + j ∨ ev (UU.getD i []) (co (UP.getD j []) 0) (co (UP.getD j []) 1) ≠ 0 := by decide +kernel
theorem pts_uu : ∀ j, j < 7 → UU[5 + j]? = some [co (UP.getD j []) 1, -co (UP.getD j []) 0] := by decide +kernel
theorem pts_pt : ∀ j, j < 7 → Nat.gcd (co (UP.getD j []) 0).natAbs (co (UP.getD j []) 1).natAbs = 1 ∧ 0 < fo [co (UP.getD j []) 0, co (UP.getD j []) 1] := by decide +kernel
/-- a line of the family stands as often as its exponent says -/
theorem Fam.fac {F : List Int} {E : List Nat} (h : Fam F E) {j m : Nat} (hj : j < 7) (hE : E[5 + j]? = some m) : ∃ u v R, Pt u v ∧ Fac F u v m R := by
  obtain ⟨c, c0, eF⟩ := h.ex
  obtain ⟨p1, p2⟩ := pts_pt j hj
  refine ⟨co (UP.getD j []) 0, co (UP.getD j []) 1, (cn UU (E.set (5 + j) 0)).map (c * ·), ⟨p1, p2⟩, ?_⟩
  have hu := pts_uu j hj
  have ap := pts_ap j hj
  generalize co (UP.getD j []) 0 = u at hu ap ⊢
  generalize co (UP.getD j []) 1 = v at hu ap ⊢
  have lE := h.len
  have e0 : (E.set (5 + j) 0)[5 + j]? = some 0 := by rw [List.getElem?_set_self (by omega)]
  have eE : (E.set (5 + j) 0).set (5 + j) m = E := by
    rw [List.set_set]
    obtain ⟨hl, hm⟩ := List.getElem?_eq_some_iff.mp hE
    rw [← hm]
    exact List.set_getElem_self hl
  have e1 := cn_set m uu_nz hu e0
  rw [eE] at e1
  have n1 := ne_nz (cn_nz (E := E.set (5 + j) 0) uu_nz)
  have nz0 : ev (cn UU (E.set (5 + j) 0)) u v ≠ 0 := cn_ev uu_nz fun i P e h1 h2 => by
    have lU : UU.length = 12 := by decide +kernel
    have hi : i < 12 := by
      have := (List.getElem?_eq_some_iff.mp h1).1
      omega
    rcases ap i hi with z | z
    · rw [z, e0] at h2
      exact .inl (Option.some.inj h2).symm
    · rw [List.getD_eq_getElem?_getD, h1] at z
      exact .inr z
  refine ⟨?_, ?_, fun z => n1 (List.map_eq_nil_iff.mp z)⟩
  · rw [eF, e1]
    have n2 : (cn UU (E.set (5 + j) 0)).map (c * ·) ≠ [] := fun z => n1 (List.map_eq_nil_iff.mp z)
    refine ev_inj ?_ fun x y => ?_
    · rw [map_len, ml_len, ml_len, map_len]
    · rw [ev_map, ev_ml (pow_line_ne u v m) n1, ev_ml (pow_line_ne u v m) n2, ev_map]
      grind
  · rw [ev_map]
    exact Int.mul_ne_zero c0 nz0
theorem tls_ne {n : Nat} (h : 2 ≤ n) (n6 : n ≤ 6) : ∃ g, g ∈ tls n := by
  have : n = 2 ∨ n = 3 ∨ n = 4 ∨ n = 5 ∨ n = 6 := by omega
  rcases this with e | e | e | e | e <;> subst e
  · rw [tl2]; exact ⟨_, .head _⟩
  · rw [tl3]; exact ⟨_, .head _⟩
  · rw [tl4]; exact ⟨_, .head _⟩
  · rw [tl5]; exact ⟨_, .head _⟩
  · rw [tl6]; exact ⟨_, .head _⟩
theorem mids : ta 2 (mid 1) = true ∧ ta 4 (mid 2) = true ∧ ta 6 (mid 3) = true := by decide +kernel
theorem mids_ne {p : Nat} (p1 : 1 ≤ p) (p3 : p ≤ 3) : ∀ g ∈ tls (2 * p), co (g.1 (mid p)) 0 ≠ 0 := by
  have h : ta (2 * p) (mid p) = true := by
    have : p = 1 ∨ p = 2 ∨ p = 3 := by omega
    rcases this with e | e | e <;> subst e
    · exact mids.1
    · exact mids.2.1
    · exact mids.2.2
  intro g hg
  exact ne_bne (List.all_eq_true.mp h g hg)
theorem ckA_all {n : Nat} (n1 : 1 ≤ n) (n6 : n ≤ 6) : ckA n = true ∧ ckB n = true := by
  have : n = 1 ∨ n = 2 ∨ n = 3 ∨ n = 4 ∨ n = 5 ∨ n = 6 := by omega
  rcases this with e | e | e | e | e | e <;> subst e
  · exact ⟨ckA1, ckB1⟩
  · exact ⟨ckA2, ckB2⟩
  · exact ⟨ckA3, ckB3⟩
  · exact ⟨ckA4, ckB4⟩
  · exact ⟨ckA5, ckB5⟩
  · exact ⟨ckA6, ckB6⟩
/-- a line that stands just half: nothing that is told is 0 -/
theorem told_half {u v : Int} {F R : List Int} {p : Nat} (hp : Pt u v) (hF : Fac F u v p R) (l : F.length = 2 * p + 1) (p1 : 1 ≤ p) (p3 : p ≤ 3) : ∀ g ∈ tls (2 * p), co (g.1 F) 0 ≠ 0 := fun g hg => by
  obtain ⟨b, d, c0, hc, q⟩ : ∃ b d c0 : Int, c0 ≠ 0 ∧ (∀ x y : Int, v * (u * x + b * y) - u * (v * x + d * y) = c0 * y) := by
    by_cases z : u = 0
    · have v1 : v ≠ 0 := fun q => hp.ne (by rw [z, q])
      exact ⟨1, 0, v, v1, fun x y => by rw [z]; grind⟩
    · exact ⟨0, 1, -u, by omega, fun x y => by grind⟩
  obtain ⟨G, eG, g0, g1⟩ := fac_entries hF hc q
  have lc := changed_len (X := [u, b]) (Y := [v, d]) rfl rfl hF.ln
  rw [eG, List.length_append, List.length_replicate, l] at lc
  obtain ⟨e, E, rfl⟩ : ∃ e E, G = e :: E := by
    match G, g1 with
    | e :: E, _ => exact ⟨e, E, rfl⟩
  rw [List.length_cons] at lc
  obtain ⟨k, c, iv, _⟩ := tls_iv (2 * p) (by omega) g hg
  have h1 := num_mid iv (tls_ex (2 * p) (by omega) g hg) (e := e) (E := E) (by omega)
  rw [← eG, iv.num l] at h1
  intro z
  rw [z, Int.mul_zero] at h1
  exact Int.mul_ne_zero (mids_ne p1 p3 g hg) (pow_nzB g0 g.2) h1.symm
/-- what a parted form tells -/
theorem parted_nums {n m : Nat} {F : List Int} {E : List Nat} (h : Fam F E) (hm : mx E = m) (l : F.length = n + 1) (n1 : 1 ≤ n) (n6 : n ≤ 6) : (n < 2 * m → ∀ g ∈ tls n, co (g.1 F) 0 = 0) ∧ (2 * m = n → ∀ g ∈ tls n, co (g.1 F) 0 ≠ 0) ∧ (2 * m < n → ∃ g ∈ tls n, co (g.1 F) 0 ≠ 0) := by
  have hE := h.en l
  obtain ⟨hA, hB⟩ := ckA_all n1 n6
  have a := List.all_eq_true.mp hA E hE
  have b := List.all_eq_true.mp hB E hE
  obtain ⟨c, c0, eF⟩ := h.ex
  have lc : (cn UU E).length = n + 1 := by rw [← l, eF, map_len]
  have num : ∀ g ∈ tls n, co (g.1 F) 0 = co (g.1 (cn UU E)) 0 * c ^ g.2 := fun g hg => by
    rw [eF]
    exact (tls_ex n n6 g hg).num lc c
  rw [hm] at a b
  have fac : n ≤ 2 * m → (2 * m = n → ta n (cn UU E) = false) → ∃ u v R, Pt u v ∧ Fac F u v m R := fun h1 h2 => by
    rw [show decide (2 * m < n) = false from decide_eq_false (by omega), Bool.false_or] at b
    have b' : (E.drop 5).any (· == m) = true := by
      by_cases c2 : 2 * m = n
      · rw [h2 c2, Bool.and_false, Bool.or_false] at b
        exact b
      · rw [show decide (2 * m = n) = false from decide_eq_false c2, Bool.false_and, Bool.or_false] at b
        exact b
    obtain ⟨x, hx, ex⟩ := List.any_eq_true.mp b'
    have ex' : x = m := by simpa using ex
    subst ex'
    obtain ⟨j, hj⟩ := List.getElem?_of_mem hx
    rw [List.getElem?_drop] at hj
    have : 5 + j < E.length := (List.getElem?_eq_some_iff.mp hj).1
    have := h.len
    exact h.fac (show j < 7 by omega) hj
  refine ⟨fun h1 g hg => ?_, fun h1 g hg => ?_, fun h1 => ?_⟩
  · obtain ⟨u, v, R, pt, hF⟩ := fac (by omega) fun z => by omega
    have := told_fac pt hF l n6 h1
    rw [tld_len l] at this
    exact this _ (List.mem_map.mpr ⟨g, hg, rfl⟩)
  · cases ht : ta n (cn UU E) with
    | true =>
      rw [num g hg]
      exact Int.mul_ne_zero (ne_bne (List.all_eq_true.mp ht g hg)) (pow_nzB c0 g.2)
    | false =>
      obtain ⟨u, v, R, pt, hF⟩ := fac (by omega) fun _ => ht
      subst h1
      exact told_half pt hF l (by omega) (by omega) g hg
  · rw [show decide (n ≤ 2 * m) = false from decide_eq_false (by omega), Bool.false_or] at a
    have := qk_tq lc a
    obtain ⟨g, hg, hx⟩ := List.any_eq_true.mp this
    refine ⟨g, hg, ?_⟩
    rw [num g hg]
    exact Int.mul_ne_zero (ne_bne hx) (pow_nzB c0 g.2)
/-- the same of the form, changed -/
theorem parted_told {n m : Nat} {F : List Int} {E : List Nat} (h : Fam F E) (hm : mx E = m) (l : F.length = n + 1) (n1 : 1 ≤ n) (n6 : n ≤ 6) {a b u v : Int} (hd : a * v - b * u ≠ 0) :
    ((∀ x ∈ tld (changed [a, b] [u, v] F), x = 0) ↔ n < 2 * m) ∧ (2 * m = n → ∀ x ∈ tld (changed [a, b] [u, v] F), x ≠ 0) := by
  obtain ⟨h1, h2, h3⟩ := parted_nums h hm l n1 n6
  rw [told_chg l n6]
  have m1 : 2 * m ≤ n → 2 ≤ n := fun z => by
    refine Classical.byContradiction fun q => ?_
    have hn : n = 1 := by omega
    have m0 : m = 0 := by omega
    obtain ⟨c, c0, eF⟩ := h.ex
    have key := Fam.en h l
    subst hn
    have : ∀ E ∈ en dgs 1, mx E ≠ 0 := by decide +kernel
    exact this E key (hm.trans m0)
  refine ⟨⟨fun z => ?_, fun z x hx => ?_⟩, fun z x hx => ?_⟩
  · refine Classical.byContradiction fun q => ?_
    have n2 := m1 (by omega)
    by_cases c : 2 * m = n
    · obtain ⟨g, hg⟩ := tls_ne n2 n6
      exact Int.mul_ne_zero (h2 c g hg) (pow_nzB hd _) (z _ (List.mem_map.mpr ⟨g, hg, rfl⟩))
    · obtain ⟨g, hg, hx⟩ := h3 (by omega)
      exact Int.mul_ne_zero hx (pow_nzB hd _) (z _ (List.mem_map.mpr ⟨g, hg, rfl⟩))
  · obtain ⟨g, hg, rfl⟩ := List.mem_map.mp hx
    rw [h1 z g hg, Int.zero_mul]
  · obtain ⟨g, hg, rfl⟩ := List.mem_map.mp hx
    exact Int.mul_ne_zero (h2 z g hg) (pow_nzB hd _)
end K45

set_option Elab.async false
set_option linter.all false
set_option maxRecDepth 100000
set_option maxHeartbeats 2000000
/-! a module's constant that is a tuple of ints; `n not in t` for a tuple of ints -/
namespace StatT
open PySem PySem.Spec PyProof.Rows L2 He HookG
/-- x is a tuple of these ints -/
structure Tp (K : PySem.W.Frag) (mg : Str → Option Value) (x : Str) (l : List Int) (a : Addr) : Prop where
  g : mg x = some (.ref a)
  sq : ∀ H : Hp, SqT K H a (l.map V.int)
section
variable {X : Cx}
def rNotInTI (K : PySem.W.Frag) : V → V → Hp → VK → Prop := fun x y H Q => ∃ (i : Int) (a : Addr) (ns : List Int), x = .int i ∧ y = .ref a ∧ SqT K H a (ns.map V.int) ∧ Q (.bl (!ns.any (· == i))) H
def isI (i : Int) : Value → Bool
  | .int j _ => j == i
  | _ => false
theorem vals_any (i : Int) : ∀ {ns : List Int} {us : List Value}, Vals (ns.map V.int) us → us.any (isI i) = ns.any (· == i) ∧ ∀ y ∈ us, ∃ j t, y = .int j t
  | [], us, h => by
    cases h
    exact ⟨rfl, fun y hy => (nomatch hy)⟩
  | n :: ns, us, h => by
    cases h with
    | cons h1 h2 =>
      obtain ⟨t, rfl⟩ := h1
      obtain ⟨e, a⟩ := vals_any i h2
      refine ⟨by rw [List.any_cons, List.any_cons, e]; rfl, fun y hy => ?_⟩
      rcases List.mem_cons.mp hy with rfl | hy
      · exact ⟨n, t, rfl⟩
      · exact a y hy
theorem op_notInTI : OpR X (compareOp .NotIn) (rNotInTI X.K) := by
  intro pins s σ H x y v u Q I rx ry h
  obtain ⟨i, a, ns, rfl, rfl, ha, q⟩ := h
  obtain ⟨t, rfl⟩ := rx
  obtain rfl : u = Value.ref a := ry
  obtain ⟨its, r, ht, _⟩ := I.tuple ha
  obtain ⟨e, al⟩ := vals_any i r
  refine SeqAt.notIn_tupleAt (isI i) ht (fun y hy => ?_) ?_
  · obtain ⟨j, tj, rfl⟩ := al y (by simpa using hy)
    exact SeqAt.EqAt.int_int j tj i t
  · rw [show its.toArray.any (isI i) = its.any (isI i) by simp, e]
    exact ⟨.bl _, H, I, rfl, q⟩
end
end StatT

set_option Elab.async false
set_option linter.all false
set_option maxRecDepth 100000
set_option maxHeartbeats 1000000
/-! repr of numbers, texts, bools, None, and of lists and tuples of these, where no repr is under way -/
namespace GuardE
open PySem PySem.Spec PyProof.Rows L2
def rReprD (K : PySem.W.Frag) : List V → Hp → VK → Prop := fun xs H Q => ∃ (v : V) (d : PyData), xs = [v] ∧ L2.Dp K H v d ∧ d.showable = true ∧ d.hasDict = false ∧ d.depth ≤ 20 ∧ d.shown.length ≤ sizeLine ∧ Q (.str d.shown) H
theorem call_reprD {X : Cx} (hG : X.A.guards = some []) (hu : X.A.units + 64 < cLine) : CallR X (.builtin "repr") (rReprD X.K) := by
  intro pins s σ H xs us Q I r h
  obtain ⟨v, d, rfl, hd, hs, hn, hp, hz, q⟩ := h
  cases r with
  | cons r1 r2 =>
    rename_i u us'
    cases r2
    obtain ⟨as, rd⟩ := L2.Dp.reads I d v u hd r1
    cases hd with
    | non =>
      obtain rfl : u = Value.none := r1
      exact PySem.P.repr_of_none ⟨.str _, H, I.tok _, ⟨_, rfl⟩, q⟩
    | bl b =>
      obtain rfl : u = Value.bool b := r1
      refine PySem.P.repr_of_bool ⟨.str _, H, I.tok _, ⟨_, rfl⟩, ?_⟩
      cases b <;> exact q
    | int i =>
      obtain ⟨t, rfl⟩ := r1
      exact PySem.P.repr_of_int (of_decide_eq_true hs) ⟨.str _, H, I.tok _, ⟨_, rfl⟩, q⟩
    | str x =>
      obtain ⟨t, rfl⟩ := r1
      exact PySem.P.repr_of_str ⟨.str _, H, I.tok _, ⟨_, rfl⟩, q⟩ hz
    | lst l1 l2 =>
      obtain rfl : u = Value.ref _ := r1
      exact repr_of_reads' rd hs (PyData.noDict_hsm hn) hG (by omega) (fun _ _ e => e) (fun h' t tk hk => ⟨.str _, H, I.kept hk, ⟨_, rfl⟩, q⟩) hz
    | tup l1 l2 =>
      obtain rfl : u = Value.ref _ := r1
      exact repr_of_reads' rd hs (PyData.noDict_hsm hn) hG (by omega) (fun _ _ e => e) (fun h' t tk hk => ⟨.str _, H, I.kept hk, ⟨_, rfl⟩, q⟩) hz
end GuardE

set_option Elab.async false
set_option linter.all false
set_option maxRecDepth 100000
set_option maxHeartbeats 1000000
set_option exponentiation.threshold 10000
/-! told invariants; the law's sizes -/
namespace K45
open PySem PySem.Spec PyProof.Rows L2 StX RZ MyR SlX OwnR OwnF EnumT SeqE GxR GenNx FDivQ
theorem szs1 : szs 1 = [] := rfl
theorem szs2 : szs 2 = [2] := by unfold szs; rw [tl2, List.map_cons, List.map_nil]
theorem szs3 : szs 3 = [4] := by unfold szs; rw [tl3, List.map_cons, List.map_nil]
theorem szs4 : szs 4 = [2, 3] := by unfold szs; rw [tl4, List.map_cons, List.map_cons, List.map_nil]
theorem szs5 : szs 5 = [4, 8, 12] := by unfold szs; rw [tl5, List.map_cons, List.map_cons, List.map_cons, List.map_nil]
theorem szs6 : szs 6 = [2, 4, 6, 10] := by unfold szs; rw [tl6, List.map_cons, List.map_cons, List.map_cons, List.map_cons, List.map_nil]
theorem told_szs {Z : List Int} {n : Nat} (l : Z.length = n + 1) : (tld Z).length = (szs n).length := by
  rw [tld_len l]
  unfold szs
  rw [List.length_map, List.length_map]
theorem szs_le {n : Nat} (n6 : n ≤ 6) : (∀ s ∈ szs n, s ≤ 12) ∧ (szs n).length ≤ 4 := by
  have h : n = 0 ∨ n = 1 ∨ n = 2 ∨ n = 3 ∨ n = 4 ∨ n = 5 ∨ n = 6 := by omega
  rcases h with h | h | h | h | h | h | h <;> subst h
  · exact ⟨fun s hs => (nomatch hs), by decide⟩
  · exact ⟨fun s hs => (nomatch hs), by decide⟩
  · rw [szs2]; decide
  · rw [szs3]; decide
  · rw [szs4]; decide
  · rw [szs5]; decide
  · rw [szs6]; decide
/-- the sizes in a dict -/
def szK (a1 a2 a3 a4 a5 a6 : Addr) : List (Key × V) := [(.inl 1, .ref a1), (.inl 2, .ref a2), (.inl 3, .ref a3), (.inl 4, .ref a4), (.inl 5, .ref a5), (.inl 6, .ref a6)]
theorem szK_get {a1 a2 a3 a4 a5 a6 : Addr} {n : Nat} (n1 : 1 ≤ n) (n6 : n ≤ 6) {H : Hp} (h1 : H a1 = some (tp [])) (h2 : H a2 = some (tp [2])) (h3 : H a3 = some (tp [4])) (h4 : H a4 = some (tp [2, 3])) (h5 : H a5 = some (tp [4, 8, 12])) (h6 : H a6 = some (tp [2, 4, 6, 10])) :
    ∃ z, valV (mergeK [] (szK a1 a2 a3 a4 a5 a6)) (.inl (n : Int)) = some (.ref z) ∧ H z = some (tp ((szs n).map Int.ofNat)) := by
  have h : n = 1 ∨ n = 2 ∨ n = 3 ∨ n = 4 ∨ n = 5 ∨ n = 6 := by omega
  rcases h with h | h | h | h | h | h <;> subst h
  · exact ⟨a1, rfl, by rw [szs1]; exact h1⟩
  · exact ⟨a2, rfl, by rw [szs2]; exact h2⟩
  · exact ⟨a3, rfl, by rw [szs3]; exact h3⟩
  · exact ⟨a4, rfl, by rw [szs4]; exact h4⟩
  · exact ⟨a5, rfl, by rw [szs5]; exact h5⟩
  · exact ⟨a6, rfl, by rw [szs6]; exact h6⟩
theorem pow_rw {X : List Int} {b i : Nat} (h : Bd X 1 b) (hi : i ≤ 90) (hb : b ≤ 2 ^ 10) : Rw (pow X i) := (bd_pow h i).rw (by omega) (Nat.lt_of_le_of_lt (Nat.pow_le_pow_left hb i) (Nat.lt_of_le_of_lt (Nat.pow_le_pow_right (by decide) hi) (by decide +kernel)))
theorem lch_ok {X Y l : List Int} {n B : Nat} (hX : Bd X 1 20) (hY : Bd Y 1 20) (hl : Bd l n B) (hn : n ≤ 12) (hB : B < 2 ^ 4000) : LchOk X Y l where
  ne := hl.ne
  len := by rw [hl.len]; omega
  lX := hX.len
  lY := hY.len
  pX := fun i hi => pow_rw hX (by rw [hl.len] at hi; omega) (by decide)
  pY := fun i hi => pow_rw hY (by rw [hl.len] at hi; omega) (by decide)
  pm := fun i hi => by
    rw [hl.len] at hi
    refine (bd_ml (bd_pow hX (l.length - 1 - i)) (bd_pow hY i)).rw (by rw [hl.len]; omega) ?_
    rw [hl.len]
    exact Nat.lt_of_le_of_lt (Nat.mul_le_mul (Nat.pow_le_pow_right (by decide) (show n + 1 - 1 - i ≤ 12 by omega)) (Nat.pow_le_pow_right (by decide) (show i ≤ 12 by omega))) (show 20 ^ 12 * 20 ^ 12 < 2 ^ 4000 by decide +kernel)
  sl := fun x hx => Nat.lt_of_le_of_lt (hl.mem x hx) hB
theorem zip_num (T : List (LL × Nat)) (Z : List Int) (φ : Nat → Int) : (tb T.length fun k => φ ((T.map (·.2)).getD k 0) * co (T.map fun g => co (g.1 Z) 0) k) = T.map fun g => co (g.1 Z) 0 * φ g.2 := by
  unfold tb
  refine List.ext_getElem (by rw [List.length_map, List.length_map, List.length_range]) fun i h1 h2 => ?_
  have hi : i < T.length := by rw [List.length_map, List.length_range] at h1; exact h1
  rw [List.getElem_map, List.getElem_range, List.getElem_map, co_get (by rw [List.length_map]; exact hi), List.getElem_map, List.getD_eq_getElem?_getD, List.getElem?_map, List.getElem?_eq_getElem hi, Int.mul_comm]
  rfl
/-- the law's list: numbers by sizes, times what is told -/
theorem zip_told {Z : List Int} {n : Nat} (l : Z.length = n + 1) (φ : Nat → Int) : (tb (szs n).length fun k => φ ((szs n).getD k 0) * co (tld Z) k) = (tls n).map fun g => co (g.1 Z) 0 * φ g.2 := by
  rw [← zip_num, tld_len l]
  unfold szs
  rw [List.length_map]
theorem all_ints : ∀ ns : List Int, (∀ x ∈ ns, x.natAbs ≤ 2 ^ 1530) → PyData.showableAll (ns.map PyData.int) = true ∧ PyData.hasDictAll (ns.map PyData.int) = false ∧ PyData.depthAll (ns.map PyData.int) = 0 ∧ piled (PyData.shownAll (ns.map PyData.int)) ≤ ns.length * 2000
  | [], _ => ⟨rfl, rfl, rfl, Nat.zero_le _⟩
  | x :: r, h => by
    obtain ⟨h1, h2, h3, h4⟩ := all_ints r fun y hy => h y (.tail _ hy)
    have hx : x.natAbs.log2 < 1920 := Nat.lt_trans (PySem.Flt.log2_lt_of (k := 1531) (by decide) (Nat.lt_of_le_of_lt (h x (.head _)) (by decide +kernel))) (by decide)
    refine ⟨?_, ?_, ?_, ?_⟩
    · show (decide (x.natAbs.log2 < 1920) && PyData.showableAll (r.map PyData.int)) = true
      rw [decide_eq_true hx, h1]
      rfl
    · show (false || PyData.hasDictAll (r.map PyData.int)) = false
      rw [h2]
      rfl
    · show max 0 (PyData.depthAll (r.map PyData.int)) = 0
      rw [h3]
      rfl
    · show piled (Str.ofString (toString x) :: PyData.shownAll (r.map PyData.int)) ≤ _
      have e := int_text_length_le (k := 1920) (by decide) hx
      rw [piled_cons, PySem.ofString_length, List.length_cons]
      omega
/-- a tuple of told numbers can be shown -/
theorem show_ok {ns : List Int} (h : ∀ x ∈ ns, x.natAbs ≤ 2 ^ 1530) (l : ns.length ≤ 4) : (PyData.tuple (ns.map PyData.int)).showable = true ∧ (PyData.tuple (ns.map PyData.int)).hasDict = false ∧ (PyData.tuple (ns.map PyData.int)).depth ≤ 20 ∧ (PyData.tuple (ns.map PyData.int)).shown.length ≤ sizeLine := by
  obtain ⟨h1, h2, h3, h4⟩ := all_ints ns h
  refine ⟨h1, h2, ?_, ?_⟩
  · show PyData.depthAll (ns.map PyData.int) + 1 ≤ 20
    rw [h3]
    decide
  · show (tupleText (PyData.shownAll (ns.map PyData.int))).length ≤ sizeLine
    have := fmt_text (PyData.shownAll (ns.map PyData.int))
    rw [sizeLine_eq]
    omega
section
variable {P : Program} {w : World} {K : PySem.W.Frag} {mg : Str → Option Value} {base : Heap} {Ps : List Addr}
theorem ok_told_invariants (T : Facts K mg) : FnOk P w K mg base CX0 12 T.f_told_invariants T.fd_told_invariants ["form"] (spToldIn T.C_Form) := by
  have G_require_told := ok_require_told (P := P) (w := w) (base := base) T
  have G_told_in := ok_told_in (P := P) (w := w) (base := base) T
  refine T.F_told_invariants.ok sc_told_invariants (fun vs H Q E h => ?_) (fun cdv A outer s H vs Q E hr h => ?_)
  · obtain ⟨a, F, n, rfl, _⟩ := h
    rfl
  · obtain ⟨a, F, n, rfl, fa, bF, n1, n6, q⟩ := h
    refine ⟨_, (PSs.nox (pss_cons (ps_expr (pe_call G_require_told (hr.mono (by decide)) (by rfl) T.g_require_told T.F_require_told.kp T.b_require_told .nil pass0 (pa_cons (pv 0) pa_nil)))
    (pss_one (ps_ret (pe_call G_told_in hr (by rfl) T.g_told_in T.F_told_in.kp T.b_told_in .nil pass0 (pa_cons (pv 0) pa_nil)))))), ?_⟩
    exact ⟨_, rfl, a, F, n, rfl, fa, bF.len, n1, n6, _, rfl, a, F, n, rfl, fa, bF, n1, n6, q⟩
def spSizes : Sp := fun vs H Q _ => ∃ n : Nat, vs = [.int n] ∧ 1 ≤ n ∧ n ≤ 6 ∧ ∀ p H', Same H H' → H' p = some (tp ((szs n).map Int.ofNat)) → Q (.ref p) H'
theorem ok_law_sizes (T : Facts K mg) : FnOk P w K mg base CX0 1 T.f_law_sizes T.fd_law_sizes ["_law_degree"] spSizes := by
  refine T.F_law_sizes.ok sc_law_sizes (fun vs H Q E h => ?_) (fun cdv A outer s H vs Q E hr h => ?_)
  · obtain ⟨n, rfl, _⟩ := h
    rfl
  · obtain ⟨n, rfl, n1, n6, q⟩ := h
    refine ⟨_, (PSs.nox (pss_one (ps_ret (pe_dget (DkL.hu1 hr) (pe_disp (pps_cons pe_int (pe_tup pa_nil) (pps_cons pe_int (pe_tup (pa_cons pe_int pa_nil)) (pps_cons pe_int (pe_tup (pa_cons pe_int pa_nil)) (pps_cons pe_int (pe_tup (pa_cons pe_int (pa_cons pe_int pa_nil))) (pps_cons pe_int (pe_tup (pa_cons pe_int (pa_cons pe_int (pa_cons pe_int pa_nil)))) (pps_cons pe_int (pe_tup (pa_cons pe_int (pa_cons pe_int (pa_cons pe_int (pa_cons pe_int pa_nil))))) pps_nil)))))) (by rfl) (by rfl) (List.cons_ne_nil _ _) (by decide)) (pv 0) (fun _ _ => rfl))))), ?_⟩
    refine fun dd hdd => ⟨(show 0 ≤ sizeLine from Nat.zero_le _), fun a1 ha1 => gen_upd _ a1 (tp []) ha1 fun J4 s4 e4 => ⟨(show 1 ≤ sizeLine by decide), fun a2 ha2 => gen_upd _ a2 (tp [2]) ha2 fun J5 s5 e5 => ⟨(show 1 ≤ sizeLine by decide), fun a3 ha3 => gen_upd _ a3 (tp [4]) ha3 fun J6 s6 e6 => ⟨(show 2 ≤ sizeLine by decide), fun a4 ha4 => gen_upd _ a4 (tp [2, 3]) ha4 fun J7 s7 e7 => ⟨(show 3 ≤ sizeLine by decide), fun a5 ha5 => gen_upd _ a5 (tp [4, 8, 12]) ha5 fun J8 s8 e8 => ⟨(show 4 ≤ sizeLine by decide), fun a6 ha6 => gen_upd _ a6 (tp [2, 4, 6, 10]) ha6 fun J9 s9 e9 => ?_⟩⟩⟩⟩⟩⟩
    have sd := same_upd0 (o := .dK []) hdd
    have s49 := s4.trans (s5.trans (s6.trans (s7.trans (s8.trans s9))))
    refine ⟨s49 _ _ upd_same, szK a1 a2 a3 a4 a5 a6, rfl, (show 6 ≤ 15 by decide), _, rfl, ?_⟩
    have g1 := (s5.trans (s6.trans (s7.trans (s8.trans s9)))) _ _ e4
    have g2 := (s6.trans (s7.trans (s8.trans s9))) _ _ e5
    have g3 := (s7.trans (s8.trans s9)) _ _ e6
    have g4 := (s8.trans s9) _ _ e7
    have g5 := s9 _ _ e8
    have hd9 : J9 dd = some (.dK []) := s49 _ _ upd_same
    obtain ⟨Jd, hJd⟩ : ∃ Jd, Jd = upd J9 dd (.dK (mergeK [] (szK a1 a2 a3 a4 a5 a6))) := ⟨_, rfl⟩
    have kd : ∀ b l, J9 b = some (tp l) → Jd b = some (tp l) := fun b l e => by
      rw [hJd, upd_ne (fun z => by rw [z, hd9] at e; cases e)]
      exact e
    have sJd : Same H Jd := fun b o e => by
      rw [hJd, upd_ne (ne_of_none e hdd)]
      exact s49 _ _ (sd _ _ e)
    obtain ⟨z, hz1, hz2⟩ := szK_get n1 n6 (kd _ _ g1) (kd _ _ g2) (kd _ _ g3) (kd _ _ g4) (kd _ _ g5) (kd _ _ e9)
    have hdk : Jd dd = some (.dK (mergeK [] (szK a1 a2 a3 a4 a5 a6))) := by rw [hJd, upd_same]
    rw [← hJd]
    have dg := DGet.k (k := .inl (n : Int)) hdk
    rw [hz1] at dg
    exact ⟨dd, .ref z, rfl, dg, q z Jd sJd hz2⟩
end
end K45

set_option Elab.async false
set_option linter.all false
set_option maxRecDepth 100000
set_option maxHeartbeats 1000000
set_option exponentiation.threshold 10000
/-! the law's comparison of told numbers: with texts, of changed and of scaled forms -/
namespace K45
open PySem PySem.Spec PyProof.Rows L2 StX RZ MyR SlX OwnR OwnF EnumT SeqE GxR GenNx FDivQ
section
variable {P : Program} {w : World} {K : PySem.W.Frag} {mg : Str → Option Value} {base : Heap} {Ps : List Addr}
def spLRN : Sp := fun vs H Q _ => ∃ (d : Addr) (n : Nat), vs = [.ref d, .int n] ∧ Dc H d ∧ 1 ≤ n ∧ n ≤ 6 ∧ ∀ H', Sx d H H' → Dc H' d → Q (.bl true) H'
theorem ok_law_right (T : Facts K mg) : GuardE.FnG P w K mg base CX0 13 T.f_law_right T.fd_law_right ["_law_dice_here", "_law_degree"] spLRN := by
  have G_law_roll : FnOk P w K mg base CX0 1 T.f_law_roll T.fd_law_roll ["_law_dice_here", "_law_total"] spRoll2 := (ok_law_roll T).imp roll2
  have G_law_form := ok_law_form (P := P) (w := w) (base := base) T
  have G_law_table := ok_law_table (P := P) (w := w) (base := base) T
  have G_told_invariants := ok_told_invariants (P := P) (w := w) (base := base) T
  have G_law_invariants := ok_law_invariants (P := P) (w := w) (base := base) T
  have G_law_changed := ok_law_changed (P := P) (w := w) (base := base) T
  have G_law_sizes := ok_law_sizes (P := P) (w := w) (base := base) T
  have G_law_raised := ok_law_raised (P := P) (w := w) (base := base) T
  have G_law_det := ok_law_det (P := P) (w := w) (base := base) T
  have G_law_scaled : FnOk P w K mg base CX0 1 T.f_law_scaled T.fd_law_scaled ["_law_form_here", "_law_factor"] spScaled := ok_law_scaled T
  have G_Form_init : FnOk P w K mg base CX0 5 T.f_Form_init T.fd_Form_init ["self", "entries"] (spForm T.C_Told T.C_Form) := ok_Form_init T
  refine GuardE.okG T.F_law_right sc_law_right (fun vs H Q E h => ?_) (fun A outer s H vs Q E hgu hr h => ?_)
  · obtain ⟨d, n, rfl, _⟩ := h
    rfl
  · obtain ⟨d, n, rfl, D0, n1, n6, fin⟩ := h
    refine ⟨_, (PSs.nox (pss_cons (ps_asg (pe_tup (pa_cons (pe_call G_law_form (hr.mono (by decide)) (by rfl) T.g_law_form T.F_law_form.kp T.b_law_form .nil pass0 (pa_cons (pv 0) (pa_cons (pv 1) pa_nil))) (pa_cons (pe_call G_law_table (hr.mono (by decide)) (by rfl) T.g_law_table T.F_law_table.kp T.b_law_table .nil pass0 (pa_cons (pv 0) (pa_cons pe_int pa_nil))) pa_nil))) (pg_tup (by rfl) (pgs_cons (pg_name (i := 2) sc_law_right.nd rfl (.inl rfl)) (pgs_cons (pg_name (i := 3) sc_law_right.nd rfl (.inr rfl)) pgs_nil))))
    (pss_cons (ps_par (i := 4) (j := 5) (by rfl) sc_law_right.nd rfl rfl (by decide) rfl rfl (pa_cons (pe_call G_told_invariants hr (by rfl) T.g_told_invariants T.F_told_invariants.kp T.b_told_invariants .nil pass0 (pa_cons (pe_make T.mk_Form G_Form_init (hr.mono (by decide)) (by rfl) T.g_Form T.b_Form_init .nil pass0 (pa_cons (pv 2) pa_nil)) pa_nil)) (pa_cons (pe_call G_law_invariants (hr.mono (by decide)) (by rfl) T.g_law_invariants T.F_law_invariants.kp T.b_law_invariants .nil pass0 (pa_cons (pv 2) pa_nil)) pa_nil)) (by rfl))
    (pss_cons (ps_if (pt_cmpR op_ne (pe_callB (GuardE.call_reprD hgu (hu64 hr)) (by rfl) T.z_repr (by decide +kernel) (pa_cons (pv 4) pa_nil)) (pe_callB (GuardE.call_reprD hgu (hu64 hr)) (by rfl) T.z_repr (by decide +kernel) (pa_cons (pv 5) pa_nil)) (nomark _))
      (pss_one (ps_ret pe_bl))
      pss_nil)
    (pss_cons (ps_set (i := 6) sc_law_right.nd rfl (.inl rfl) (pe_call G_told_invariants hr (by rfl) T.g_told_invariants T.F_told_invariants.kp T.b_told_invariants .nil pass0 (pa_cons (pe_make T.mk_Form G_Form_init (hr.mono (by decide)) (by rfl) T.g_Form T.b_Form_init .nil pass0 (pa_cons (pe_call G_law_changed (hr.mono (by decide)) (by rfl) T.g_law_changed T.F_law_changed.kp T.b_law_changed .nil pass0 (pa_cons (pv 2) (pa_cons (pv 3) pa_nil))) pa_nil)) pa_nil)))
    (pss_cons (ps_setLc (i := 7) (own := [("_law_size", 8)]) (g := (gName 8)) (tt := tYes) rfl sc_law_right.nd rfl rfl (sw_true rfl rfl rfl (by decide +kernel)) (pi_tup (pe_call G_law_sizes (hr.mono (by decide)) (by rfl) T.g_law_sizes T.F_law_sizes.kp T.b_law_sizes .nil pass0 (pa_cons (pv 1) pa_nil))) (blkOk_by (N := N_law_right) (sc := defScope s_law_right) (by decide +kernel)) (fun _ _ _ _ _ => (pg_name (i := 8) sc_law_right.nd rfl (.inl rfl))) (fun _ _ _ _ _ => pts_nil) (fun _ _ _ _ _ => (pe_call G_law_raised (hr.mono (by decide)) (by rfl) T.g_law_raised T.F_law_raised.kp T.b_law_raised .nil pass0 (pa_cons (pe_call G_law_det (hr.mono (by decide)) (by rfl) T.g_law_det T.F_law_det.kp T.b_law_det .nil pass0 (pa_cons (pv 3) pa_nil)) (pa_cons (pe_op op_fdivZ (pe_op op_mulW (pv 1) (pv 8)) pe_int) pa_nil)))))
    (pss_cons (ps_if (pt_cmpR (op_neD (hu64 hr)) (pe_callTy call_list_of (by rfl) T.z_list (by decide +kernel) (pa_cons (pv 6) pa_nil)) (pe_lc (own := [("_law_power_here", 9), ("_law_number", 10)]) (g := (gTup K 2 (gCons (gName 9) (gCons (gName 10) gNil)))) (tt := tYes) (by rfl) sc_law_right.nd (ZipX.pi_zipX (by rfl) T.z_zip (pa_cons (pv 7) (pa_cons (pv 5) pa_nil))) (blkOk_by (N := N_law_right) (sc := defScope s_law_right) (by decide +kernel)) (fun _ _ _ _ _ => (pg_tup (by rfl) (pgs_cons (pg_name (i := 9) sc_law_right.nd rfl (.inl rfl)) (pgs_cons (pg_name (i := 10) sc_law_right.nd rfl (.inl rfl)) pgs_nil)))) (fun _ _ _ _ _ => pts_nil) (fun _ _ _ _ _ => (pe_op op_mulW (pv 9) (pv 10)))) (nomark _))
      (pss_one (ps_ret pe_bl))
      pss_nil)
    (pss_cons (ps_set (i := 11) sc_law_right.nd rfl (.inr rfl) (pe_op op_add pe_int (pe_call G_law_roll (hr.mono (by decide)) (by rfl) T.g_law_roll T.F_law_roll.kp T.b_law_roll .nil pass0 (pa_cons (pv 0) (pa_cons pe_int pa_nil)))))
    (pss_cons (ps_set (i := 12) sc_law_right.nd rfl (.inl rfl) (pe_call G_told_invariants hr (by rfl) T.g_told_invariants T.F_told_invariants.kp T.b_told_invariants .nil pass0 (pa_cons (pe_make T.mk_Form G_Form_init (hr.mono (by decide)) (by rfl) T.g_Form T.b_Form_init .nil pass0 (pa_cons (pe_call G_law_scaled (hr.mono (by decide)) (by rfl) T.g_law_scaled T.F_law_scaled.kp T.b_law_scaled .nil pass0 (pa_cons (pv 2) (pa_cons (pv 11) pa_nil))) pa_nil)) pa_nil)))
    (pss_one (ps_ret (pe_cmpR (op_eqD (hu64 hr)) (pe_callTy call_list_of (by rfl) T.z_list (by decide +kernel) (pa_cons (pv 12) pa_nil)) (pe_lc (own := [("_law_size", 8), ("_law_number", 10)]) (g := (gTup K 2 (gCons (gName 10) (gCons (gName 8) gNil)))) (tt := tYes) (by rfl) sc_law_right.nd (pi_zipA (by rfl) T.z_zip (pa_cons (pv 5) (pa_cons (pe_call G_law_sizes (hr.mono (by decide)) (by rfl) T.g_law_sizes T.F_law_sizes.kp T.b_law_sizes .nil pass0 (pa_cons (pv 1) pa_nil)) pa_nil))) (blkOk_by (N := N_law_right) (sc := defScope s_law_right) (by decide +kernel)) (fun _ _ _ _ _ => (pg_tup (by rfl) (pgs_cons (pg_name (i := 10) sc_law_right.nd rfl (.inl rfl)) (pgs_cons (pg_name (i := 8) sc_law_right.nd rfl (.inl rfl)) pgs_nil)))) (fun _ _ _ _ _ => pts_nil) (fun _ _ _ _ _ => (pe_op op_mulW (pv 10) (pe_call G_law_raised (hr.mono (by decide)) (by rfl) T.g_law_raised T.F_law_raised.kp T.b_law_raised .nil pass0 (pa_cons (pv 11) (pa_cons (pv 8) pa_nil)))))) (nomark _))))))))))))), ?_⟩
    refine ⟨_, rfl, _, rfl, d, n, rfl, D0, by omega, fun p H1 F s1 d1 hp bF => ⟨_, rfl, d, 3, rfl, d1, by decide, by decide, fun t H2 x1 x2 y1 y2 s2 d2 tb b1 b2 b3 b4 nd => ?_⟩⟩
    have bX : Bd [x1, x2] 1 6 := ⟨rfl, by show x1.natAbs + (x2.natAbs + 0) ≤ 6; omega⟩
    have bY : Bd [y1, y2] 1 6 := ⟨rfl, by show y1.natAbs + (y2.natAbs + 0) ≤ 6; omega⟩
    have cF := changed_bd bX bY bF
    have cF2 : Bd (changed [x1, x2] [y1, y2] F) n (2 ^ 110) := cF.mono (Nat.le_trans (Nat.mul_le_mul_left _ (Nat.pow_le_pow_right (by decide) n6)) (by decide +kernel))
    have bF2 : Bd F n (2 ^ 110) := bF.mono (by decide +kernel)
    have trF : Tr F := bF.tr (by omega) (by decide +kernel)
    have trC : Tr (changed [x1, x2] [y1, y2] F) := cF2.tr (by omega) (by decide +kernel)
    have lF := bF.len
    have ch := lch_ok (bX.mono (by decide)) (bY.mono (by decide)) bF (by omega) (by decide +kernel)
    have hp2 := s2 _ _ (dc_ne d1 hp) hp
    refine ⟨(show 2 ≤ sizeLine by decide), fun z0 nz0 => gen_upd H2 z0 _ nz0 fun H3 s3 f3 => ⟨z0, _, rfl, SqT.of f3, rfl, _, _, rfl, _, _, rfl, rfl, ?_⟩⟩
    have s03 : Sx d H H3 := s1.trans (s2.trans (Sx.of s3))
    have d3 := d2.same s3
    have hp3 := s3 _ _ hp2
    have tb3 := tb.same s3
    clear s1 s2 s3 f3 nz0 hp hp2 d1 d2 tb D0
    refine ⟨_, rfl, fun zf zd g1 g2 g3 => mkF g1 g2 g3 hp3 trF.pos (by omega) trF.sho fun H4 s4 f4 => ?_⟩
    refine ⟨zf, F, n, rfl, f4, bF2, n1, n6, fun p4 H5 s5 e5 => ⟨_, rfl, p, F, n, rfl, (s4.trans s5) _ _ hp3, bF2, n1, n6, fun p5 H6 s6 e6 => ⟨_, _, rfl, ?_⟩⟩⟩
    have ta := told_abs lF n6 bF2.nm
    obtain ⟨zle, zl4⟩ := szs_le n6
    have lT := told_szs lF
    obtain ⟨w1, w2, w3, w4⟩ := show_ok ta (by omega)
    have s46 := s4.trans (s5.trans s6)
    have e5' := s6 _ _ e5
    refine ⟨_, rfl, .ref p4, _, rfl, .tup (SqT.of e5') (dpAll_ints _), w1, w2, w3, w4, ?_⟩
    refine ⟨_, rfl, .ref p5, _, rfl, .tup (SqT.of e6) (dpAll_ints _), w1, w2, w3, w4, rfl, _, rfl, ?_⟩
    rw [decide_eq_true rfl]
    refine iteF ?_
    have hp6 := s46 _ _ hp3
    have tb6 := tb3.same s46
    have d6 := d3.same s46
    have s06 := s03.trans (Sx.of s46)
    have eF := told_chg lF n6 x1 x2 y1 y2
    rw [← zip_told lF fun g => (x1 * y2 - x2 * y1) ^ (n * g / 2)] at eF
    have eS := fun c => told_scl lF n6 c
    have eS' : ∀ c, tld (F.map (c * ·)) = tb (szs n).length fun k => c ^ (szs n).getD k 0 * co (tld F) k := fun c => by
      rw [zip_told lF fun g => c ^ g]
      exact eS c
    clear eS w1 w2 w3 w4 e5 e5' f4 hp3 tb3 d3 s03 s4 s5 s46 g1 g2 g3
    refine ⟨_, rfl, _, rfl, p, t, F, [x1, x2], [y1, y2], rfl, hp6, tb6, ch, fun c1 H7 s7 e7 => ?_⟩
    obtain ⟨Z, hZ⟩ : ∃ Z, Z = changed [x1, x2] [y1, y2] F := ⟨_, rfl⟩
    rw [← hZ] at e7 cF2 trC eF
    have lZ := cF2.len
    refine fun zf zd g1 g2 g3 => mkF g1 g2 g3 e7 trC.pos (by omega) trC.sho fun H8 s8 f8 => ⟨zf, Z, n, rfl, f8, cF2, n1, n6, fun p6 H9 s9 e9 => ?_⟩
    have s69 := s7.trans (s8.trans s9)
    have e69 := s69 _ _ e6
    have hp9 := s69 _ _ hp6
    have tb9 := tb6.same s69
    have d9 := d6.same s69
    have s09 := s06.trans (Sx.of s69)
    generalize tld Z = TZ at e9 eF
    clear e6 hp6 tb6 d6 s06 s7 s8 s9 s69 e7 f8 g1 g2 g3 cF cF2 trC
    refine ⟨_, rfl, n, rfl, n1, n6, fun z1 H10 s10 e10 => ⟨z1, rfl, ⟨_, SqT.of e10⟩, fun D hD => ?_⟩⟩
    have D9 : (x1 * y2 - x2 * y1).natAbs ≤ 18 := by
      have h1 : (x1 * y2).natAbs ≤ 9 := by rw [Int.natAbs_mul]; exact Nat.mul_le_mul b1 b4
      have h2 : (x2 * y1).natAbs ≤ 9 := by rw [Int.natAbs_mul]; exact Nat.mul_le_mul b2 b3
      omega
    have hE : ∀ k, k < (szs n).length → (szs n).getD k 0 ≤ 12 ∧ co ((szs n).map Int.ofNat) k = (((szs n).getD k 0 : Nat) : Int) := fun k hk => by
      rw [co_get (by rw [List.length_map]; exact hk), List.getElem_map, List.getD_eq_getElem?_getD, List.getElem?_eq_getElem hk]
      exact ⟨zle _ (List.getElem_mem hk), rfl⟩
    obtain ⟨Dt, hDt⟩ : ∃ Dt, Dt = x1 * y2 - x2 * y1 := ⟨_, rfl⟩
    rw [← hDt] at D9 eF nd
    have pD : ∀ i, i ≤ 36 → (Dt ^ i).natAbs ≤ 2 ^ 180 := fun i hi => by
      rw [Int.natAbs_pow]
      exact Nat.le_trans (Nat.pow_le_pow_left D9 i) (Nat.le_trans (Nat.pow_le_pow_right (by decide) hi) (by decide +kernel))
    have np : ∀ k, k < (szs n).length → n * (szs n).getD k 0 / 2 ≤ 36 := fun k hk => by
      have h1 := (hE k hk).1
      have h2 : n * (szs n).getD k 0 ≤ 6 * 12 := Nat.mul_le_mul n6 h1
      omega
    have lc1 : ((szs n).map Int.ofNat).length = (szs n).length := List.length_map ..
    have tb10 := tb9.same s10
    refine lc_tup (xs := ((szs n).map Int.ofNat).map V.int) (fun j H' => Same H10 H' ∧ H' D = some (.lst (tab j fun k => Dt ^ (n * (szs n).getD k 0 / 2)))) ⟨same_upd0 hD, upd_same⟩ (fun j H' _ hP => SqT.of (hP.1 _ _ e10)) (fun j x H' hx hP => ?_) (fun H' hP => ?_)
    · obtain ⟨sH, hL⟩ := hP
      obtain ⟨hj, rfl⟩ := int_get hx
      rw [lc1] at hj
      obtain ⟨h12, hco⟩ := hE j hj
      have n36 := np j hj
      refine ⟨rfl, _, rfl, t, x1, x2, y1, y2, rfl, tb10.same sH, by omega, by omega, by omega, by omega, _, rfl, _, rfl, _, _, rfl, rfl, sm_mul (sm_small (show ((n : Nat) : Int).natAbs ≤ 2 ^ 40 by omega)) (sm_small (by rw [hco]; omega)), _, _, rfl, rfl, ⟨by decide, by decide⟩, Dt, n * (szs n).getD j 0 / 2, ?_, fun i hi => Nat.lt_of_le_of_lt (pD i (by omega)) (by decide +kernel), Nat.lt_of_le_of_lt D9 (by decide +kernel), by omega, _, hL, by rw [tab_len]; exact small1000 (by omega), fun b o e => ?_, ?_⟩
      · show [V.int (x1 * y2 - x2 * y1), V.int (((n : Nat) : Int) * co ((szs n).map Int.ofNat) j |>.fdiv 2)] ++ [] = _
        rw [← hDt, hco, ← Int.natCast_mul, Int.fdiv_eq_ediv_of_nonneg _ (by decide)]
        rfl
      · rw [upd_ne (ne_of_none e hD)]
        exact sH _ _ e
      · rw [upd_same, ← tab_snoc]
    · obtain ⟨sH, hL⟩ := hP
      rw [List.length_map, lc1] at hL
      have sA := s10.trans sH
      have e9A := sA _ _ e9
      have e6A := sA _ _ e69
      have d10 := d9.same sA
      have s0A := s09.trans (Sx.of sA)
      have hpA := sA _ _ hp9
      clear e9 e69 hp9 tb9 tb10 d9 s09 s10 sH sA hD e10
      refine ⟨_, rfl, p6, _, rfl, .inr (SqT.of e9A), fun l1 nl => gen_upd H' l1 (.lst (TZ.map V.int)) nl fun HB sB eB => ⟨_, rfl, _, rfl, D, p5, _, _, rfl, SqL.of (sB _ _ hL), SqT.of (sB _ _ e6A), fun D2 hD2 => ?_⟩⟩
      have hLB := sB _ _ hL
      have e6B := sB _ _ e6A
      refine ZipX.lc_zipX (xs := tab (szs n).length fun k => Dt ^ (n * (szs n).getD k 0 / 2)) (ys := (tld F).map V.int) (by rw [tab_len, List.length_map, lT]) (fun j H2 => Same HB H2 ∧ H2 D2 = some (.lst (tab j fun k => Dt ^ (n * (szs n).getD k 0 / 2) * co (tld F) k))) ⟨same_upd0 hD2, upd_same⟩ (fun j H2 _ hP => ⟨SqL.of (hP.1 _ _ hLB), SqT.of (hP.1 _ _ e6B)⟩) (fun j x y B H2 hx hy hP hB => ?_) (fun H2 hP => ?_)
      · obtain ⟨sH, hL2⟩ := hP
        have hj : j < (szs n).length := by
          have := (List.getElem?_eq_some_iff.mp hx).1
          rw [tab_len] at this
          exact this
        rw [tab_get hj] at hx
        cases hx
        obtain ⟨hj2, rfl⟩ := int_get hy
        refine gen_upd H2 B _ hB fun H8 s8 f8 => ⟨B, _, rfl, SqT.of f8, rfl, _, _, rfl, _, _, rfl, rfl, rfl, ?_⟩
        refine ⟨_, rfl, _, rfl, _, _, rfl, rfl, sm_mul (Nat.lt_of_le_of_lt (pD _ (np j hj)) (by decide +kernel)) (Nat.lt_of_le_of_lt (ta _ (by rw [co_get hj2]; exact List.getElem_mem hj2)) (by decide +kernel)), _, s8 _ _ hL2, by rw [tab_len]; exact small1000 (by omega), fun b o e => ?_, ?_⟩
        · rw [upd_ne (ne_of_none e hD2)]
          exact s8 _ _ (sH _ _ e)
        · rw [upd_same, ← tab_snoc]
      · obtain ⟨sH, hL2⟩ := hP
        rw [tab_len, tab_tb, ← eF] at hL2
        refine ne_lintsL (SqL.of (sH _ _ eB)) (SqL.of hL2) ?_
        rw [decide_eq_true rfl]
        refine ⟨_, rfl, iteF ?_⟩
        have sC := sB.trans sH
        have dC := d10.same sC
        have s0C := s0A.trans (Sx.of sC)
        have hpC := sC _ _ hpA
        have e6C := sC _ _ e6A
        clear hL hL2 hLB e6B eB e9A e6A hpA s0A d10 sB sH sC hD2 nl eF
        refine ⟨_, rfl, d, 5, rfl, dC, by decide, by decide, fun r H3 hr3 s3 d3 => ⟨_, _, rfl, rfl, ?_⟩⟩
        have hpE := s3 _ _ (dc_ne dC hpC) hpC
        have e6E := s3 _ _ (dc_ne dC e6C) e6C
        obtain ⟨c, hc⟩ : ∃ c : Int, c = 1 + (r : Int) := ⟨_, rfl⟩
        have c5 : c.natAbs ≤ 5 := by omega
        have s0E := s0C.trans s3
        show gName 11 _ _ H3 _
        unfold gName
        refine st_norm [some (.ref d), some (.int (n : Int)), some (.ref p), some (.ref t), some (.ref p4), some (.ref p5), some (.ref p6), some (.ref D), none, none, none, some (.int c), none] (by rw [hc]; rfl) ?_
        have bS : Bd (F.map (c * ·)) n (2 ^ 110) := ⟨by rw [List.length_map]; exact lF, by
          rw [nm_scale]
          exact Nat.le_trans (Nat.mul_le_mul c5 bF.nm) (by decide +kernel)⟩
        have trS : Tr (F.map (c * ·)) := bS.tr (by omega) (by decide +kernel)
        have eSc := eS' c
        have lS := bS.len
        refine ⟨_, rfl, _, rfl, p, F, c, rfl, hpE, by omega, (bF.rw (by omega) (by decide +kernel)).sm, Nat.lt_of_le_of_lt c5 (by decide +kernel), fun q1 J1 j1 _ k1 => ?_⟩
        refine fun zf zd g1 g2 g3 => mkF g1 g2 g3 k1 trS.pos (by omega) trS.sho fun J2 j2 f2 => ⟨zf, F.map (c * ·), n, rfl, f2, bS, n1, n6, fun q2 J3 j3 k3 => ?_⟩
        generalize tld (F.map (c * ·)) = TS at k3 eSc
        refine ⟨_, rfl, q2, _, rfl, .inr (SqT.of k3), fun l2 nl2 => gen_upd J3 l2 (.lst (TS.map V.int)) nl2 fun J4 j4 k4 => ?_⟩
        have j14 := j1.trans (j2.trans (j3.trans j4))
        refine ⟨_, rfl, _, rfl, n, rfl, n1, n6, fun z2 J5 j5 k5 => ⟨p5, z2, _, _, rfl, .inr ⟨SqT.of ((j14.trans j5) _ _ e6E), SqT.of k5, fun D3 hD3 => ?_⟩⟩⟩
        have e6F := (j14.trans j5) _ _ e6E
        have pc : ∀ i, i ≤ 12 → (c ^ i).natAbs ≤ 2 ^ 180 := fun i hi => by
          rw [Int.natAbs_pow]
          exact Nat.le_trans (Nat.pow_le_pow_left c5 i) (Nat.le_trans (Nat.pow_le_pow_right (by decide) hi) (by decide +kernel))
        refine lc_zipT (xs := (tld F).map V.int) (ys := ((szs n).map Int.ofNat).map V.int) (by rw [List.length_map, List.length_map, lc1, lT]) (fun j H2 => Same J5 H2 ∧ H2 D3 = some (.lst (tab j fun k => c ^ (szs n).getD k 0 * co (tld F) k))) ⟨same_upd0 hD3, upd_same⟩ (fun j H2 _ hP => ⟨SqT.of (hP.1 _ _ e6F), SqT.of (hP.1 _ _ k5)⟩) (fun j x y B H2 hx hy hP hB => ?_) (fun H2 hP => ?_)
        · obtain ⟨sH, hL2⟩ := hP
          obtain ⟨hj2, rfl⟩ := int_get hx
          obtain ⟨hj3, rfl⟩ := int_get hy
          obtain ⟨h12, hco⟩ := hE j (by omega)
          refine gen_upd H2 B _ hB fun H8 s8 f8 => ⟨B, _, rfl, SqT.of f8, rfl, _, _, rfl, _, _, rfl, rfl, rfl, ?_⟩
          refine ⟨_, rfl, _, rfl, _, rfl, c, (szs n).getD j 0, by rw [hco]; rfl, fun i hi => Nat.lt_of_le_of_lt (pc i (by omega)) (by decide +kernel), Nat.lt_of_le_of_lt c5 (by decide +kernel), by omega, _, _, rfl, rfl, sm_mul (Nat.lt_of_le_of_lt (ta _ (by rw [co_get hj2]; exact List.getElem_mem hj2)) (by decide +kernel)) (Nat.lt_of_le_of_lt (pc _ h12) (by decide +kernel)), _, s8 _ _ hL2, by rw [tab_len]; exact small1000 (by omega), fun b o e => ?_, ?_⟩
          · rw [upd_ne (ne_of_none e hD3)]
            exact s8 _ _ (sH _ _ e)
          · rw [upd_same, ← tab_snoc, Int.mul_comm (c ^ _)]
        · obtain ⟨sH, hL2⟩ := hP
          rw [List.length_map, lT, tab_tb, ← eSc] at hL2
          refine eq_lints (SqL.of (sH _ _ (j5 _ _ k4))) (SqL.of hL2) ?_
          rw [decide_eq_true rfl]
          have j15 := j14.trans (j5.trans sH)
          exact fin H2 (s0E.trans (Sx.of j15)) (d3.same j15)
end
end K45

set_option Elab.async false
set_option linter.all false
set_option maxRecDepth 100000
set_option maxHeartbeats 1000000
set_option exponentiation.threshold 10000
/-! told invariants of parted forms, changed: all 0 just if the form falls -/
namespace K45
open PySem PySem.Spec PyProof.Rows L2 StX RZ MyR SlX OwnR OwnF EnumT SeqE GxR GenNx FDivQ
theorem cont_nil : ∀ {l : List Int}, (∀ x ∈ l, x = 0) → cont l = 0
  | [], _ => rfl
  | x :: l, h => by
    have hx : x = 0 := h x (.head _)
    subst hx
    show Nat.gcd (0 : Int).natAbs (cont l) = 0
    rw [cont_nil fun y hy => h y (.tail _ hy)]
    rfl
section
variable {P : Program} {w : World} {K : PySem.W.Frag} {mg : Str → Option Value} {base : Heap} {Ps : List Addr}
theorem ok_law_falls_right (T : Facts K mg) : FnOk P w K mg base CX0 13 T.f_law_falls_right T.fd_law_falls_right ["_law_dice_here", "_law_degree"] spLRN := by
  have G_law_parted_form := ok_law_parted_form (P := P) (w := w) (base := base) T
  have G_law_table := ok_law_table (P := P) (w := w) (base := base) T
  have G_told_invariants := ok_told_invariants (P := P) (w := w) (base := base) T
  have G_law_changed := ok_law_changed (P := P) (w := w) (base := base) T
  have G_law_shared := ok_law_sharedC (P := P) (w := w) (base := base) T
  have G_Form_init : FnOk P w K mg base CX0 5 T.f_Form_init T.fd_Form_init ["self", "entries"] (spForm T.C_Told T.C_Form) := ok_Form_init T
  refine T.F_law_falls_right.ok sc_law_falls_right (fun vs H Q E h => ?_) (fun cdv A outer s H vs Q E hr h => ?_)
  · obtain ⟨d, n, rfl, _⟩ := h
    rfl
  · obtain ⟨d, n, rfl, D0, n1, n6, fin⟩ := h
    refine ⟨_, (PSs.nox (pss_cons (ps_asg (pe_call G_law_parted_form (hr.mono (by decide)) (by rfl) T.g_law_parted_form T.F_law_parted_form.kp T.b_law_parted_form .nil pass0 (pa_cons (pv 0) (pa_cons (pv 1) pa_nil))) (pg_tup (by rfl) (pgs_cons (pg_name (i := 2) sc_law_falls_right.nd rfl (.inl rfl)) (pgs_cons (pg_name (i := 3) sc_law_falls_right.nd rfl (.inl rfl)) pgs_nil))))
    (pss_cons (ps_set (i := 4) sc_law_falls_right.nd rfl (.inl rfl) (pe_call G_told_invariants hr (by rfl) T.g_told_invariants T.F_told_invariants.kp T.b_told_invariants .nil pass0 (pa_cons (pe_make T.mk_Form G_Form_init (hr.mono (by decide)) (by rfl) T.g_Form T.b_Form_init .nil pass0 (pa_cons (pe_call G_law_changed (hr.mono (by decide)) (by rfl) T.g_law_changed T.F_law_changed.kp T.b_law_changed .nil pass0 (pa_cons (pv 2) (pa_cons (pe_call G_law_table (hr.mono (by decide)) (by rfl) T.g_law_table T.F_law_table.kp T.b_law_table .nil pass0 (pa_cons (pv 0) (pa_cons pe_int pa_nil))) pa_nil))) pa_nil)) pa_nil)))
    (pss_cons (ps_if (pt_cmpR op_ne (pe_cmpR op_eq (pe_call G_law_shared (hr.mono (by decide)) (by rfl) T.g_law_shared T.F_law_shared.kp T.b_law_shared .nil pass0 (pa_cons (pv 4) pa_nil)) pe_int (nomark _)) (pe_cmpR op_gt (pe_op op_mulW pe_int (pv 3)) (pv 1) (nomark _)) (nomark _))
      (pss_one (ps_ret pe_bl))
      pss_nil)
    (pss_one (ps_ret (pe_or (pe_cmpR op_ne (pe_op op_mulW pe_int (pv 3)) (pv 1) (nomark _)) (pe_one (pe_cmpR StatT.op_notInTI pe_int (pv 4) (by rfl)))))))))), ?_⟩
    refine ⟨_, rfl, _, rfl, d, n, rfl, D0, by omega, by omega, fun p q F H1 s1 d1 hp hq lF nz nF fam => ?_⟩
    obtain ⟨E1, fm, hm⟩ := fam
    obtain ⟨m, hmm⟩ : ∃ m, m = gtm F := ⟨_, rfl⟩
    rw [← hmm] at hm hp
    refine ⟨p, _, rfl, SqT.of hp, rfl, _, _, rfl, ?_⟩
    refine ⟨_, _, rfl, rfl, ?_⟩
    refine st_norm [some (.ref d), some (.int (n : Int)), some (.ref q), some (.int (m : Nat)), none] rfl ?_
    have bF : Bd F n (3 * 5 ^ 10) := ⟨lF, nF⟩
    refine ⟨_, rfl, _, rfl, d, 2, rfl, d1, by decide, by decide, fun t H2 x1 x2 y1 y2 s2 d2 tb b1 b2 b3 b4 nd => ?_⟩
    have bX : Bd [x1, x2] 1 4 := ⟨rfl, by show x1.natAbs + (x2.natAbs + 0) ≤ 4; omega⟩
    have bY : Bd [y1, y2] 1 4 := ⟨rfl, by show y1.natAbs + (y2.natAbs + 0) ≤ 4; omega⟩
    have cF := changed_bd bX bY bF
    have cF2 : Bd (changed [x1, x2] [y1, y2] F) n (2 ^ 110) := cF.mono (Nat.le_trans (Nat.mul_le_mul_left _ (Nat.pow_le_pow_right (by decide) n6)) (by decide +kernel))
    have trC : Tr (changed [x1, x2] [y1, y2] F) := cF2.tr (by omega) (by decide +kernel)
    have ch := lch_ok (bX.mono (by decide)) (bY.mono (by decide)) bF (by omega) (by decide +kernel)
    obtain ⟨t1, t2⟩ := parted_told fm hm lF n1 n6 nd
    refine ⟨q, t, F, [x1, x2], [y1, y2], rfl, s2 _ _ (dc_ne d1 hq) hq, tb, ch, fun c1 H7 s7 e7 => ?_⟩
    have lZ := cF2.len
    refine fun zf zd g1 g2 g3 => mkF g1 g2 g3 e7 trC.pos (by omega) trC.sho fun H8 s8 f8 => ⟨zf, _, n, rfl, f8, cF2, n1, n6, fun p6 H9 s9 e9 => ?_⟩
    have s79 := s7.trans (s8.trans s9)
    have d9 := d2.same s79
    have s09 := s1.trans (s2.trans (Sx.of s79))
    generalize tld (changed [x1, x2] [y1, y2] F) = Z at e9 t1 t2
    have qz : (cont Z : Int) = 0 ↔ n < 2 * m := by
      rw [← t1]
      exact ⟨fun h => cont_zero (by omega), fun h => by rw [cont_nil h]; rfl⟩
    refine ⟨_, rfl, p6, Z, rfl, .inl (SqT.of e9), ?_⟩
    have m7 : m ≤ 7 := by
      have := gtm_le _ F (Nat.le_refl _) nz
      rw [hmm]
      omega
    refine ⟨rfl, _, rfl, _, _, rfl, rfl, sm_mul (sm_small (by decide)) (sm_small (show ((m : Nat) : Int).natAbs ≤ 2 ^ 40 by omega)), _, rfl, _, _, rfl, rfl, rfl, _, rfl, ?_⟩
    have eb : decide (V.int (cont Z : Nat) = V.int 0) = decide ((n : Int) < 2 * (m : Int)) := by
      by_cases c : n < 2 * m
      · rw [decide_eq_true (show (n : Int) < 2 * (m : Int) by omega), qz.mpr c]
        rfl
      · rw [decide_eq_false (show ¬(n : Int) < 2 * (m : Int) by omega)]
        exact decide_eq_false fun z => c (qz.mp (by injection z))
    rw [eb]
    rw [decide_eq_true rfl]
    refine iteF ?_
    show ∃ x, _
    refine ⟨_, rfl, _, _, rfl, rfl, sm_mul (sm_small (by decide)) (sm_small (show ((m : Nat) : Int).natAbs ≤ 2 ^ 40 by omega)), _, rfl, rfl, _, rfl, ?_⟩
    have done : Q (.bl true) H9 := fin H9 s09 d9
    by_cases c : 2 * m = n
    · have e : ((2 : Int) * (m : Int)) = (n : Int) := by omega
      rw [show (!decide ((fun i j => V.int (i * j)) 2 (m : Int) = V.int (n : Int))) = false from by show (!decide (V.int (2 * (m : Int)) = V.int (n : Int))) = false; rw [e, decide_eq_true rfl]; rfl]
      refine iteF ⟨_, rfl, 0, p6, Z, rfl, rfl, SqT.of e9, ?_⟩
      rw [show (!Z.any (· == 0)) = true from by
        rw [Bool.not_eq_true']
        exact List.any_eq_false.mpr fun x hx z => t2 c x hx (by simpa using z)]
      exact done
    · rw [show (!decide ((fun i j => V.int (i * j)) 2 (m : Int) = V.int (n : Int))) = true from by show (!decide (V.int (2 * (m : Int)) = V.int (n : Int))) = true; rw [decide_eq_false (fun z => c (by injection z; omega))]; rfl]
      exact iteT done
end
end K45

set_option Elab.async false
set_option linter.all false
set_option maxRecDepth 100000
set_option maxHeartbeats 4000000
set_option exponentiation.threshold 10000
namespace K45
open PySem PySem.Spec PyProof.Rows L2 StX RZ MyR SlX OwnR OwnF EnumT SeqE GxR GenNx FDivQ
theorem dpAll_rt {K : PySem.W.Frag} {H : Hp} : ∀ {as : List Addr} {rows : List (List Int)}, RT H as rows → DpAll K H (as.map V.ref) (TD rows)
  | [], [], _ => .nil
  | a :: as, r :: rs, h => .cons (.tup (SqT.of h.1) (dpAll_ints _)) (dpAll_rt h.2)
theorem ne_sameD {K : PySem.W.Frag} {H : Hp} {x y : V} {d : PyData} {Q : VK} (hx : L2.Dp K H x d) (hy : L2.Dp K H y d) (hl : PyData.canLay0 d = true) (hs : SeqAt.shaped d = true) (q : Q (.bl false) H) : rNeD K x y H Q := by
  refine ⟨d, d, hx, hy, hs, hs, ?_⟩
  rw [SeqAt.eqv_refl d hl]
  exact q
theorem ne_rows {K : PySem.W.Frag} {H : Hp} {t u : Addr} {as bs : List Addr} {rows : List (List Int)} {Q : VK} (h : H t = some (.lst (as.map V.ref))) (r : RT H as rows) (h2 : H u = some (.lst (bs.map V.ref))) (r2 : RT H bs rows) (q : Q (.bl false) H) : rNeD K (.ref t) (.ref u) H Q :=
  ne_sameD (d := .list (TD rows)) (.lst (SqL.of h) (dpAll_rt r)) (.lst (SqL.of h2) (dpAll_rt r2)) (lay_td _) (shaped_ltd _) q
def fixed : List (List Int) := [[1, 0, -2], [1, 0, -3, 1], [1, 0, 0, 1, 0], [0, 1, 0, 0, 0, -1, 0], [3, 1]]
def fixedT : List (List Int) := [[-16], [31104], [0, -31104], [172800, 0, 0, 0], []]
theorem fixed_told : fixed.map tld = fixedT := by decide +kernel
theorem len5 : (fixed.map tld).length ≤ 1000 := by rw [List.length_map]; decide
theorem fixed_ok : ∀ F ∈ fixed, 2 ≤ F.length ∧ F.length ≤ 7 ∧ nm F ≤ 100 ∧ ∀ x ∈ F, x.natAbs ≤ 7 := by decide +kernel
theorem edge_kind : kdF [0, 0, 1, 0, 0] = "edge" := by decide +kernel
theorem edge_told : tld [0, 0, 1, 0, 0] = [96, -2304] := by decide +kernel
section
variable {P : Program} {w : World} {K : PySem.W.Frag} {mg : Str → Option Value} {base : Heap}
theorem ok_law (T : Facts K mg) (TB_first_of : TabB base mg T.c_first_of T.P_first_of) : GuardE.FnG P w K mg base CX0 14 T.f_law T.fd_law ["_law_script"] (spLawT K [T.P_first_of]) := by
  obtain ⟨Ps, ePs⟩ : ∃ Ps, [T.P_first_of] = Ps := ⟨_, rfl⟩
  have hP : T.P_first_of ∈ Ps := by rw [← ePs]; simp
  rw [ePs]
  have G_law_dice := ok_law_dice (P := P) (w := w) (base := base) T
  have G_law_right := ok_law_right (P := P) (w := w) (base := base) T
  have G_law_falls_right := ok_law_falls_right (P := P) (w := w) (base := base) T
  have G_law_roll : FnOk P w K mg base CX0 1 T.f_law_roll T.fd_law_roll ["_law_dice_here", "_law_total"] spRoll2 := (ok_law_roll T).imp roll2
  have G_law_pick : FnOk P w K mg base CX0 2 T.f_law_pick T.fd_law_pick ["_law_dice_here", "_law_items"] spPick2 := (ok_law_pick T).imp pick2
  have G_fall_kind := ok_fall_kind (P := P) (w := w) (base := base) T TB_first_of hP
  have G_told_invariants := ok_told_invariants (P := P) (w := w) (base := base) T
  have G_Form_init : FnOk P w K mg base CX0 5 T.f_Form_init T.fd_Form_init ["self", "entries"] (spForm T.C_Told T.C_Form) := ok_Form_init T
  refine GuardE.okG T.F_law sc_law (fun vs H Q E h => ?_) (fun A outer s H vs Q E hgu hr h => ?_)
  · obtain ⟨a, ns, rfl, _⟩ := h
    rfl
  · obtain ⟨a, ns, rfl, ha, hn, hG, q⟩ := h
    refine ⟨_, (PSs.nox (pss_cons (ps_for PassesOwn.never (by rfl) (pi_range1 (by rfl) T.z_range (pa_cons (pe_callB (call_max2 (by rfl)) (by rfl) T.z_max (by decide +kernel) (pa_cons pe_int (pa_cons (pe_callB (call_min2 (by rfl)) (by rfl) T.z_min (by decide +kernel) (pa_cons pe_int (pa_cons (pe_callB call_len_seq (by rfl) T.z_len (by decide +kernel) (pa_cons (pv 0) pa_nil)) pa_nil))) pa_nil))) pa_nil)) (pg_name (i := 1) sc_law.nd rfl (.inl rfl))
      (pss_cons (ps_set (i := 2) sc_law.nd rfl (.inl rfl) (pe_call G_law_dice (hr.mono (by decide)) (by rfl) T.g_law_dice T.F_law_dice.kp T.b_law_dice .nil pass0 (pa_cons (pv 0) (pa_cons (pv 1) pa_nil))))
      (pss_cons (ps_for PassesOwn.never (by rfl) (pi_range1 (by rfl) T.z_range (pa_cons pe_int pa_nil)) (pg_name (i := 3) sc_law.nd rfl (.inl rfl))
        (pss_one (ps_if (pw_or (pt_not (pt_val (GuardE.pe_callG G_law_right hgu hr (by rfl) T.g_law_right T.F_law_right.kp T.b_law_right .nil pass0 (pa_cons (pv 2) (pa_cons (pe_op op_add pe_int (pe_call G_law_roll (hr.mono (by decide)) (by rfl) T.g_law_roll T.F_law_roll.kp T.b_law_roll .nil pass0 (pa_cons (pv 2) (pa_cons pe_int pa_nil)))) pa_nil))))) (pw_or1 (pt_not (pt_val (pe_call G_law_falls_right hr (by rfl) T.g_law_falls_right T.F_law_falls_right.kp T.b_law_falls_right .nil pass0 (pa_cons (pv 2) (pa_cons (pe_op op_add pe_int (pe_call G_law_roll (hr.mono (by decide)) (by rfl) T.g_law_roll T.F_law_roll.kp T.b_law_roll .nil pass0 (pa_cons (pv 2) (pa_cons pe_int pa_nil)))) pa_nil))))))).pt
          (pss_one (ps_ret pe_bl))
          pss_nil)))
      (pss_one (ps_if (pt_not (pt_val (pe_call G_law_falls_right hr (by rfl) T.g_law_falls_right T.F_law_falls_right.kp T.b_law_falls_right .nil pass0 (pa_cons (pv 2) (pa_cons (pe_call G_law_pick (hr.mono (by decide)) (by rfl) T.g_law_pick T.F_law_pick.kp T.b_law_pick .nil pass0 (pa_cons (pv 2) (pa_cons (pe_lst (pa_cons pe_int (pa_cons pe_int (pa_cons pe_int pa_nil)))) pa_nil))) pa_nil)))))
        (pss_one (ps_ret pe_bl))
        pss_nil)))))
    (pss_cons (ps_setLc (i := 4) (own := [("_law_row", 5)]) (g := (gName 5)) (tt := tYes) rfl sc_law.nd rfl rfl (sw_true rfl rfl rfl (by decide +kernel)) (pi_list (pe_lst (pa_cons (pe_tup (pa_cons pe_int (pa_cons pe_int (pa_cons (pe_un un_neg pe_int) pa_nil)))) (pa_cons (pe_tup (pa_cons pe_int (pa_cons pe_int (pa_cons (pe_un un_neg pe_int) (pa_cons pe_int pa_nil))))) (pa_cons (pe_tup (pa_cons pe_int (pa_cons pe_int (pa_cons pe_int (pa_cons pe_int (pa_cons pe_int pa_nil)))))) (pa_cons (pe_tup (pa_cons pe_int (pa_cons pe_int (pa_cons pe_int (pa_cons pe_int (pa_cons pe_int (pa_cons (pe_un un_neg pe_int) (pa_cons pe_int pa_nil)))))))) (pa_cons (pe_tup (pa_cons pe_int (pa_cons pe_int pa_nil))) pa_nil))))))) (blkOk_by (N := N_law) (sc := defScope s_law) (by decide +kernel)) (fun _ _ _ _ _ => (pg_name (i := 5) sc_law.nd rfl (.inl rfl))) (fun _ _ _ _ _ => pts_nil) (fun _ _ _ _ _ => (pe_call G_told_invariants (hr.mono (by decide)) (by rfl) T.g_told_invariants T.F_told_invariants.kp T.b_told_invariants .nil pass0 (pa_cons (pe_make T.mk_Form G_Form_init (hr.mono (by decide)) (by rfl) T.g_Form T.b_Form_init .nil pass0 (pa_cons (pv 5) pa_nil)) pa_nil))))
    (pss_cons (ps_if (pt_cmpR (op_neD (hu64 hr)) (pv 4) (pe_lst (pa_cons (pe_tup (pa_cons (pe_un un_neg pe_int) pa_nil)) (pa_cons (pe_tup (pa_cons pe_int pa_nil)) (pa_cons (pe_tup (pa_cons pe_int (pa_cons (pe_un un_neg pe_int) pa_nil))) (pa_cons (pe_tup (pa_cons pe_int (pa_cons pe_int (pa_cons pe_int (pa_cons pe_int pa_nil))))) (pa_cons (pe_tup pa_nil) pa_nil)))))) (nomark _))
      (pss_one (ps_ret pe_bl))
      pss_nil)
    (pss_one (ps_ret (pe_and (pe_cmpR op_eq (pe_call G_fall_kind (hr.mono (by decide)) (by rfl) T.g_fall_kind T.F_fall_kind.kp T.b_fall_kind .nil pass0 (pa_cons (pe_make T.mk_Form G_Form_init (hr.mono (by decide)) (by rfl) T.g_Form T.b_Form_init .nil pass0 (pa_cons (pe_tup (pa_cons pe_int (pa_cons pe_int (pa_cons pe_int (pa_cons pe_int (pa_cons pe_int pa_nil)))))) pa_nil)) pa_nil)) pe_str (nomark _)) (pe_one (pe_cmpR (op_eqD (hu64 hr)) (pe_call G_told_invariants (hr.mono (by decide)) (by rfl) T.g_told_invariants T.F_told_invariants.kp T.b_told_invariants .nil pass0 (pa_cons (pe_make T.mk_Form G_Form_init (hr.mono (by decide)) (by rfl) T.g_Form T.b_Form_init .nil pass0 (pa_cons (pe_tup (pa_cons pe_int (pa_cons pe_int (pa_cons pe_int (pa_cons pe_int (pa_cons pe_int pa_nil)))))) pa_nil)) pa_nil)) (pe_tup (pa_cons pe_int (pa_cons (pe_un un_neg pe_int) pa_nil))) (nomark _)))))))))), ?_⟩
    refine ⟨_, rfl, a, _, rfl, .inl ha, 3, _, rfl, 1, _, rfl, ?_⟩
    rw [List.length_map]
    obtain ⟨n, hn1, hn0⟩ : ∃ n : Int, (if (if ((ns.length : Nat) : Int) < 3 then ((ns.length : Nat) : Int) else 3) > 1 then (if ((ns.length : Nat) : Int) < 3 then ((ns.length : Nat) : Int) else 3) else 1) = n ∧ 0 ≤ n ∧ n ≤ 3 := ⟨_, rfl, by split <;> split <;> omega, by split <;> split <;> omega⟩
    rw [hn1]
    refine ⟨_, rfl, by omega, by omega, for_range (n := n.toNat) (fun i σ H' => ∃ y1 y2 y3, σ = [some (.ref a), y1, y2, y3, none, none] ∧ SqL K H' a (ns.map V.int) ∧ Tg Ps H') ⟨none, none, none, rfl, ha, hG⟩ (fun i σ H1 hi hP => ?_) (fun σ H1 hP => ?_)⟩
    · obtain ⟨y1, y2, y3, rfl, h1, p1⟩ := hP
      refine ⟨_, rfl, _, rfl, a, ns, i, ?_, h1, fun d x y z nd => ?_⟩
      · show [V.ref a, V.int (0 + (i : Int))] ++ [] = _
        rw [Int.zero_add]
        rfl
      have D1 : Dp d Ps (upd H1 d (dice x y z)) := ⟨⟨x, y, z, upd_same⟩, p1.same (same_upd0 nd)⟩
      refine ⟨2, rfl, by decide, by decide, for_range (n := (2 : Int).toNat) (fun j σ H' => ∃ y1 y3, σ = [some (.ref a), y1, some (.ref d), y3, none, none] ∧ Sy d Ps (upd H1 d (dice x y z)) H' ∧ Dp d Ps H') ⟨_, y3, rfl, Sy.rf d Ps _, D1⟩ (fun j σ H' hj hQ => ?_) (fun σ H' hQ => ?_)⟩
      · obtain ⟨y1', y3', rfl, sH, DH⟩ := hQ
        refine ⟨_, rfl, _, rfl, d, 6, rfl, DH.dd, by decide, by decide, fun r1 H2 hr1 s2 d2 => ⟨_, _, rfl, rfl, d, 1 + r1, rfl, d2, by omega, by omega, fun H3 s3 d3 => ⟨_, rfl, iteF ?_⟩⟩⟩
        refine ⟨_, rfl, _, rfl, d, 6, rfl, d3, by decide, by decide, fun r2 H4 hr2 s4 d4 => ⟨_, _, rfl, rfl, d, 1 + r2, rfl, d4, by omega, by omega, fun H5 s5 d5 => ⟨_, rfl, iteF ?_⟩⟩⟩
        have s25 := s2.trans (s3.trans (s4.trans s5))
        exact ⟨_, _, rfl, sH.trans (Sy.ofD s25), DH.sx s25 d5⟩
      · obtain ⟨y1', y3', rfl, sH, DH⟩ := hQ
        refine ⟨_, rfl, _, rfl, (show 3 ≤ sizeLine by decide), fun L nL => gen_upd H' L (.lst ([4, 5, 6].map V.int)) nL fun H2 s2 e2 => ?_⟩
        have D2 := DH.same s2
        refine ⟨d, L, _, rfl, D2.dd, e2, DH.dd.ne nL, (by decide), (by decide), fun v H3 hv s3 d3 => ?_⟩
        obtain ⟨m, rfl, m1, m6⟩ : ∃ m : Nat, v = .int (m : Int) ∧ 1 ≤ m ∧ m ≤ 6 := by
          simp only [List.map_cons, List.map_nil, List.mem_cons, List.not_mem_nil, or_false] at hv
          rcases hv with e | e | e
          · exact ⟨4, e, by decide, by decide⟩
          · exact ⟨5, e, by decide, by decide⟩
          · exact ⟨6, e, by decide, by decide⟩
        refine ⟨d, m, rfl, d3, m1, m6, fun H4 s4 d4 => ⟨_, rfl, iteF ?_⟩⟩
        have D4 := (D2.sx s3 d3).sx s4 d4
        exact ⟨_, _, _, rfl, script_Sy (sH.trans ((Sy.of s2).trans (Sy.ofD (s3.trans s4)))) nd p1 h1, D4.tt⟩
    · obtain ⟨y1, y2, y3, rfl, h1, t1⟩ := hP
      refine ⟨_, rfl, (show 3 ≤ sizeLine by decide), fun u0 m0 => gen_upd H1 u0 (tp [1, 0, -2]) m0 fun H2 s2 e0 => ⟨_, rfl, (show 4 ≤ sizeLine by decide), fun u1 m1 => gen_upd H2 u1 (tp [1, 0, -3, 1]) m1 fun H3 s3 e1 => ⟨(show 5 ≤ sizeLine by decide), fun u2 m2 => gen_upd H3 u2 (tp [1, 0, 0, 1, 0]) m2 fun H4 s4 e2 => ⟨_, rfl, (show 7 ≤ sizeLine by decide), fun u3 m3 => gen_upd H4 u3 (tp [0, 1, 0, 0, 0, -1, 0]) m3 fun H5 s5 e3 => ⟨sz2, fun u4 m4 => gen_upd H5 u4 (tp [3, 1]) m4 fun H6 s6 e4 => ⟨(show 5 ≤ sizeLine by decide), fun L nL => gen_upd H6 L (.lst ([u0, u1, u2, u3, u4].map V.ref)) nL fun H8 s8 eL => ?_⟩⟩⟩⟩⟩⟩
      have hR : RT H8 [u0, u1, u2, u3, u4] fixed := by
        have a6 := s8
        have a5 := s6.trans a6
        have a4 := s5.trans a5
        have a3 := s4.trans a4
        have a2 := s3.trans a3
        exact ⟨a2 _ _ e0, a3 _ _ e1, a4 _ _ e2, a5 _ _ e3, a6 _ _ e4, True.intro⟩
      have t8 := t1.same (s2.trans (s3.trans (s4.trans (s5.trans (s6.trans s8)))))
      clear s2 s3 s4 s5 s6 s8 e0 e1 e2 e3 e4 m0 m1 m2 m3 m4
      generalize hU : [u0, u1, u2, u3, u4] = us at *
      have lu := RX.len hR
      refine ⟨L, rfl, ⟨_, SqL.of eL⟩, fun D hD => ?_⟩
      refine lc_list (xs := us.map V.ref) (fun i H' => Same H8 H' ∧ ∃ ps : List Addr, H' D = some (.lst (ps.map V.ref)) ∧ RT H' ps ((fixed.map tld).take i)) ⟨same_upd0 hD, [], upd_same, True.intro⟩ (fun i H' _ hP => SqL.of (hP.1 _ _ eL)) (fun i x H' hx hP => ?_) (fun H10 hP => ?_)
      · obtain ⟨sH, ps, hD', hps⟩ := hP
        rw [List.getElem?_map] at hx
        obtain ⟨ad, had, rfl⟩ := Option.map_eq_some_iff.mp hx
        have hi : i < fixed.length := by
          rw [← lu]
          exact (List.getElem?_eq_some_iff.mp had).1
        obtain ⟨ad', F, f1, f2, f3⟩ := RX.get hR hi
        rw [had] at f1
        cases f1
        obtain ⟨k3, k5, kn, kb⟩ := fixed_ok F (List.mem_of_getElem? f2)
        have f3' := sH _ _ f3
        have lp := RX.len hps
        rw [List.length_take] at lp
        refine ⟨rfl, _, rfl, fun a1 b1 x1 x2 x3 => mkF x1 x2 x3 f3' (by omega) (by omega) (fun z hz => Nat.lt_of_le_of_lt (kb z hz) (by decide)) fun H11 s11 f11 => ?_⟩
        refine ⟨a1, F, F.length - 1, rfl, f11, ⟨by omega, Nat.le_trans kn (by decide)⟩, by omega, by omega, fun p H12 s12 e12 => ?_⟩
        have s2 := s11.trans s12
        have hD2 := s2 _ _ hD'
        refine ⟨_, hD2, by rw [List.length_map, lp]; exact small1000 (Nat.le_trans (Nat.min_le_right _ _) len5), fun b o e => ?_, ps ++ [p], by rw [upd_same, List.map_append]; rfl, ?_⟩
        · rw [upd_ne (ne_of_none e hD)]
          exact s2 _ _ (sH _ _ e)
        · rw [List.take_add_one, List.getElem?_map, f2]
          refine RX.snoc ((hps.same s2).updL hD2) ?_
          rw [upd_ne fun z => by rw [z, hD2] at e12; cases e12]
          exact e12
      · obtain ⟨s10, ps, e10, hps⟩ := hP
        rw [List.length_map, lu, List.take_of_length_le (by rw [List.length_map]; exact Nat.le_refl _), fixed_told] at hps
        have t10 := t8.same s10
        have hnil : ∀ {t : Addr} {H : Hp}, H t = some (.tup []) → H t = some (tp []) := fun e => e
        refine ⟨_, rfl, _, rfl, sz1, fun b0 m0 => gen_upd H10 b0 (tp [-16]) m0 fun J0 j0 k0 => ⟨sz1, fun b1 m1 => gen_upd J0 b1 (tp [31104]) m1 fun J1 j1 k1 => ⟨_, rfl, sz2, fun b2 m2 => gen_upd J1 b2 (tp [0, -31104]) m2 fun J2 j2 k2 => ⟨(show 4 ≤ sizeLine by decide), fun b3 m3 => gen_upd J2 b3 (tp [172800, 0, 0, 0]) m3 fun J3 j3 k3 => ⟨(show 0 ≤ sizeLine from Nat.zero_le _), fun b4 m4 => gen_upd J3 b4 (tp []) m4 fun J4 j4 k4 => ⟨(show 5 ≤ sizeLine by decide), fun M nM => gen_upd J4 M (.lst ([b0, b1, b2, b3, b4].map V.ref)) nM fun J5 j5 k5 => ?_⟩⟩⟩⟩⟩⟩
        have a4 := j4.trans j5
        have a3 := j3.trans a4
        have a2 := j2.trans a3
        have a1 := j1.trans a2
        have a0 := j0.trans a1
        refine ne_rows (a0 _ _ e10) (hps.same a0) k5 ⟨a1 _ _ k0, a2 _ _ k1, a3 _ _ k2, a4 _ _ k3, j5 _ _ k4, True.intro⟩ ⟨_, rfl, iteF ?_⟩
        have t5 := t10.same a0
        clear a0 a1 a2 a3 a4 j0 j1 j2 j3 j4 j5 k0 k1 k2 k3 k4 k5 m0 m1 m2 m3 m4 nM hps e10
        refine ⟨(show 5 ≤ sizeLine by decide), fun z nz => gen_upd J5 z (tp [0, 0, 1, 0, 0]) nz fun H12 s12 e12 => ?_⟩
        refine fun a1 b1 x1 x2 x3 => mkF x1 x2 x3 e12 (by decide) (by decide) (fun z hz => Nat.lt_of_le_of_lt ((show ∀ x ∈ ([0, 0, 1, 0, 0] : List Int), x.natAbs ≤ 7 by decide) z hz) (by decide)) fun H13 s13 f13 => ⟨a1, [0, 0, 1, 0, 0], rfl, f13, ⟨by decide, by decide +kernel⟩, by decide, (t5.same s12).same s13, fun H14 s14 g14 => ⟨rfl, ?_⟩⟩
        rw [edge_kind, decide_eq_true rfl]
        refine ⟨_, rfl, iteT ⟨(show 5 ≤ sizeLine by decide), fun z nz => gen_upd H14 z (tp [0, 0, 1, 0, 0]) nz fun H12 s12 e12 => ?_⟩⟩
        refine fun a1 b1 x1 x2 x3 => mkF x1 x2 x3 e12 (by decide) (by decide) (fun z hz => Nat.lt_of_le_of_lt ((show ∀ x ∈ ([0, 0, 1, 0, 0] : List Int), x.natAbs ≤ 7 by decide) z hz) (by decide)) fun H13 s13 f13 => ⟨a1, [0, 0, 1, 0, 0], 4, rfl, f13, ⟨rfl, by decide +kernel⟩, by decide, by decide, fun p H15 s15 e15 => ?_⟩
        rw [edge_told] at e15
        refine ⟨_, rfl, sz2, fun z2 nz2 => gen_upd H15 z2 (tp [96, -2304]) nz2 fun H16 s16 e16 => eq_ints (SqT.of (s16 _ _ e15)) (SqT.of e16) ?_⟩
        rw [decide_eq_true rfl]
        exact q H16
end
end K45

set_option Elab.async false
set_option linter.all false
set_option maxRecDepth 100000
set_option maxHeartbeats 0
namespace K45
open PySem PySem.Spec PyProof.Rows L2
theorem facts {l : PySem.W.OpenLaw} {w : World} {K : PySem.W.Frag} {h : Heap} {mg : Str → Option Value} {f : Addr} (X : K.In h) (G : h.Ns mainGlobals mg) (hfa : mg ("law" : Str) = some (.ref f)) (c : HookT.SaysGT faL fnL tfL exL h K) :
    GuardE.LawG l w K CX0 14 63 "_law_script" mg f h := by
  obtain ⟨T⟩ := facts_of X G c.g
  have e := hfa.symm.trans T.g_law
  cases e
  have b := FunD.bindsA (ps := ["_law_script"]) T.F_law fun _ _ _ _ _ _ us hl => match us, hl with | [_], _ => rfl
  have key : ∀ p ∈ ([(T.c_first_of, T.P_first_of)] : List (Addr × Addr)), ∃ q ∈ tfL, p = HookT.cTA K q := fun p hp => by
    simp only [List.mem_cons, List.not_mem_nil, or_false] at hp
    rcases hp with rfl
    · exact ⟨(HookG.At.glo "first_of"), by unfold tfL; simp, T.tab_first_of⟩
  refine ⟨T.fd_law, [(T.c_first_of, T.P_first_of)], spLawT K [T.P_first_of], fun p hp => ?_, fun p hp => ?_, fun p hp => ?_, fun s v => b s [v] rfl, fun H a ns hl hH hS => ⟨a, ns, rfl, hS, hl, (fun P hP => by simp only [List.mem_cons, List.not_mem_nil, or_false] at hP; rcases hP with rfl; first | exact HookT.tabG0 (hH (T.c_first_of, T.P_first_of) (by simp))), fun _ => rfl⟩, fun base _ _ TB => ok_law T (have t := TB (T.c_first_of, T.P_first_of) (by simp); ⟨t.code, t.bm, t.gP⟩)⟩
  · obtain ⟨q, hq, rfl⟩ := key p hp
    exact c.empty q hq
  · obtain ⟨q, hq, rfl⟩ := key p hp
    exact c.out q hq
  · obtain ⟨q, hq, rfl⟩ := key p hp
    exact PySem.W.codeHd_of_K X (c.hd q hq)
end K45
open PySem PySem.W PySem.Calls PyProof.Rows
theorem PySem.Challenge.cw_sourceforms_k45_whole_told_invariants_holds : PySem.Challenge.rw_sourceforms_k45_whole_told_invariants.Holds := by
  w_on; o_law
  refine HandSHeadRun.head_imp (r := OpenLaw.row PySem.Challenge.rw_sourceforms_k45_whole_told_invariants) (q := view (OpenLaw.row PySem.Challenge.rw_sourceforms_k45_whole_told_invariants).prog [0, 96]) (H := K45.hk) (ob := K45.ob) (M := 12000) (loose := K45.loose) (d := HandSHeadRun.topDef (OpenLaw.row PySem.Challenge.rw_sourceforms_k45_whole_told_invariants).prog 96) (kwd := []) K45.ob_eq K45.run (by kernel_rfl) (by kernel_rfl) (by kernel_rfl) (by rfl) (by first | assumption | decide +kernel) (by decide +kernel) ⟨rfl, rfl, rfl, rfl, rfl, by decide +kernel⟩ ?hw ?hc
  case hw => w_witness2
  case hc =>
    refine GuardE.walk_G (l := PySem.Challenge.rw_sourceforms_k45_whole_told_invariants) (n := 63) (k := 14) (x := "_law_script") (CX := fun _ => L2.CX0) rfl (by decide) (by kernel_rfl) ⟨rfl, by decide, by decide⟩ ?F (fun _ _ _ _ _ z => z)
    intro w mg fa h Y G hmg0
    obtain ⟨K, KX, c⟩ := Y
    have hmg : mg ("law" : PySem.Str) = some (.ref fa) := by
      have e : (HandSHeadRun.topDef (OpenLaw.row PySem.Challenge.rw_sourceforms_k45_whole_told_invariants).prog 96).name = ("law" : PySem.Str) := by kernel_rfl
      rw [← e]
      exact hmg0
    exact ⟨K, KX, K45.facts KX G hmg c⟩
