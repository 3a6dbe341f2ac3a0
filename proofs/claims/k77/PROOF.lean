import PyProof.Rows.All
import Wide.All
import OpenK.AllK
import Wide.FinOn
import KE.KTupSum
import HandS.ForMost
import HandS.Wide
import HandS.Style
import HandS.Gcd
import KE.KMathG
import Flt.RightSqrt
import HandS.SlotsOwn
import HandS.IsInst
import KE.KOpsOwn
import KE.KCallOwn
import KE.KOwnIter
import OpenK.KMeth
import OpenK.KOps
import PyProof.InstNe
import HandS.OwnIter
import HandS.IterNext
import HandS.Defaults
import HandS.HeadHook2
import HandS.HeadNt
import HandS.Codes
import HandS.Words
import HandS.Slots
import HandS.ClsMeth
import PyProof.ListIndex
import HandS.Iter
import KE.GoesMore
import HandS.List
import HandS.AnyAll
import HandS.ExcOwn
import KE.KDictIter
import PyProof.GenCompT
import HandS.HeadHook4
import HandS.HeadWalk
import PyProof.TupleOfGen
import HandS.TupMul
import HandS.Zip
import HandS.Comp
import KE.GoesZip
import HandS.Deep
import HandS.TupSets
import HandS.Sort
import KE.DataFind
import PyProof.MinMaxWalk
import PyProof.WalkInts
import PyProof.TupleOps
import PyProof.WalksMore
import HandS.Conv
import HandS.Star
import HandS.TupAny
import HandS.Evl
import HandS.WordsExc
import HandS.Head0
import HandS.Head1
import HandS.Head2
import HandS.Head3
import HandS.HeadEnd
import HandS.HeadHook1
import HandS.HeadHook3
import HandS.FStr
import KE.KEqSeq
import HandS.Flt
import HandS.TupLe
import HandS.DictComp
import HandS.Dict
import HandS.Base
import HandS.More
import PySem.Challenge.RW_sourceforms_k77_whole_discriminants

set_option Elab.async false
set_option linter.all false
set_option maxRecDepth 100000
set_option maxHeartbeats 4000000
/-! rules of mine: a tuple turned round by a slice, the sum of a tuple -/
namespace MyR
open PySem PySem.Spec PyProof.Rows L2 HT
section
variable {prog : Program} {w : World} {A : Around} {E : Value → Shared → Prop} {s : Shared}
end
section
variable {X : Cx}
/-- // by any int other than 0 -/
def CDivZ (_ j : Int) : Prop := j ≠ 0 ∧ j.natAbs.log2 < 9000
theorem op_fdivZ : OpR X (binaryOp .FloorDiv) (rI CDivZ fun i j => .int (i.fdiv j)) := opI fun i j _ _ _ _ _ hc q =>
  floordiv_int hc.1 q (.inl (PyProof.noPylong_of_log2 hc.2))
end
end MyR

set_option Elab.async false
set_option linter.all false
set_option maxRecDepth 100000
set_option maxHeartbeats 2000000
/-! rules for instances with slots: own +, -, *, unary -, ==, !=, len, str -/
namespace OwnR
open PySem PySem.Spec PyProof.Rows L2 SlX
section
variable {X : Cx} {CX : CXT} {C g : Addr} {n : Nat} {sp : Sp} {E : XK}
end
end OwnR

set_option Elab.async false
set_option linter.all false
set_option maxRecDepth 100000
set_option maxHeartbeats 2000000
/-! list(x) of an instance with own __iter__ (an iterator over a tuple) and own __len__; iter of a tuple -/
namespace OwnR
open PySem PySem.Spec PyProof.Rows L2 SlX
/-- at it an iterator over the tuple at t, the next place is i -/
def ItT (t it : Addr) (i : Nat) : HO := .ext fun h => IsTupIter h it t i
section
variable {X : Cx} {CX : CXT} {pins : List (Addr × Obj)} {σ : L2.St} {H : Hp} {s : Shared} {C g gl t it q : Addr} {n i : Nat} {sp spl : Sp} {E : XK}
/-- what stands while the iterator's items are taken -/
structure Tk (K : PySem.W.Frag) (H0 H : Hp) (t it q : Addr) (ys : List V) (i : Nat) : Prop where
  at_ : H it = some (ItT t it i)
  tu : SqT K H t ys
  li : H q = some (.lst (ys.take i))
  st : ∀ b o, b ≠ it → b ≠ q → H0 b = some o → H b = some o
theorem slt_upd {a dx q : Addr} {vs : List (Option V)} {o : HO} (h : Slt H a C dx vs) (n : H q = none) : Slt (upd H q o) a C dx vs := by
  rcases h with ⟨h1, h2⟩ | ⟨h1, h2⟩
  · exact .inl ⟨by rw [upd_ne (ne_of_none h1 n)]; exact h1, h2⟩
  · exact .inr ⟨by rw [upd_ne (ne_of_none h1 n)]; exact h1, by rw [upd_ne (ne_of_none h2 n)]; exact h2⟩
end
end OwnR

set_option Elab.async false
set_option linter.all false
set_option maxRecDepth 100000
set_option maxHeartbeats 2000000
/-! a Hook that tells of defs found anywhere (a global, a class's method, a property's getter), and of classes with slots -/
namespace HookG
open PySem PySem.Spec PyProof.Rows L2 He
/-- the property f of the class at C -/
def prA (K : PySem.W.Frag) (C : Addr) (f : Str) : Addr := match PySem.W.recIn K (ma K C f) "property" with
  | some (.ref g :: _) => g
  | _ => 0
/-- where a def stands: a global; a method; a property's getter; a classmethod -/
inductive At where
  | glo (x : Str)
  | met (C m : Str)
  | prp (C f : Str)
  | cms (C m : Str)
def At.adr (K : PySem.W.Frag) : At → Addr
  | .glo x => ga K x
  | .met C m => ma K (ga K C) m
  | .prp C f => prA K (ga K C) f
  | .cms C m => He5.wf K (ga K C) "classmethod" m
structure GD where
  at_ : At
  name : Str
  qual : Str
  params : Arguments
  body : List Stmt
  scope : Scope
def fnA (K : PySem.W.Frag) (a : Addr) : FnW := match K.lookup a with
  | some ⟨_, _, .func fd, _⟩ => some (fd.name, fd.qualname, fd.params, fd.body, fd.scope, fd.globals, fd.closure, fd.builtins)
  | _ => none
def GD.val (d : GD) : FnW := some (d.name, d.qual, d.params, .stmts d.body, d.scope, mainGlobals, [], builtinsNs)
def GD.ok (K : PySem.W.Frag) (d : GD) : Bool := PySem.W.keepIn K (.ref (d.at_.adr K)) && (match K.lookup (d.at_.adr K) with
  | some ⟨_, _, .func fd, _⟩ => PySem.W.codeIn K fd.code d.qual && (dflB K fd.defaults [] && kwdB K fd.kwdefaults [])
  | _ => false)
theorem GD.funD {K : PySem.W.Frag} {d : GD} (e : fnA K (d.at_.adr K) = d.val) (c : d.ok K = true) : ∃ fd, FunD K d.name d.qual d.params d.body d.scope [] [] (d.at_.adr K) fd := by
  obtain ⟨kp, c2⟩ := ba c
  unfold fnA at e
  cases q : K.lookup (d.at_.adr K) with
  | none => rw [q] at c2; cases c2
  | some o =>
    obtain ⟨oc, od, dt, osl⟩ := o
    rw [q] at c2 e
    cases dt with
    | func fd =>
      obtain ⟨n1, n2, n3, n4, n5, n6, n7, n8, n9, n10, n11, n12, n13, n14, n15⟩ := fd
      have e2 : (some (n1, n2, n3, n4, n5, n6, n7, n15) : FnW) = some (d.name, d.qual, d.params, .stmts d.body, d.scope, mainGlobals, [], builtinsNs) := e
      simp only [Option.some.injEq, Prod.mk.injEq] at e2
      obtain ⟨h1, h2, h3, h4, h5, h6, h7, h8⟩ := e2
      subst h1 h2 h3 h4 h5 h6 h7 h8
      have c3 : (PySem.W.codeIn K n13 d.qual && (dflB K n8 [] && kwdB K n9 [])) = true := c2
      obtain ⟨k1, k2⟩ := ba c3
      obtain ⟨k3, k4⟩ := ba k2
      exact ⟨_, ⟨oc, od, n8, n9, n10, n11, n12, n13, n14, osl, rfl, q, k1, dflB_ok k3, kwdB_ok k4⟩, kp⟩
    | _ => cases c2
/-! ### facts of classes with slots -/
def dO {α : Type} [DecidableEq α] (a b : Option α) : Bool := decide (a = b)
theorem dO_ok {α : Type} [DecidableEq α] {a b : Option α} (h : dO a b = true) : a = b := of_decide_eq_true h
/-- the class at the module's name x: plain, with slots -/
def sclB (K : PySem.W.Frag) (x : Str) : Bool := PySem.W.plainGet K (ga K x) Str.empty && (PySem.W.isClsIn K (ga K x) && (PySem.W.plainOver K (ga K x) && eqO (PySem.W.findIn K (.ref (ga K x)) "__setattr__") (some (some (.builtin "object.__setattr__")))))
theorem sclB_ok {K : PySem.W.Frag} {x : Str} (h : sclB K x = true) : SlX.SCls K (ga K x) := by
  obtain ⟨c1, c⟩ := ba h
  obtain ⟨c2, c⟩ := ba c
  obtain ⟨c3, c4⟩ := ba c
  exact ⟨c1, c2, c3, eqO_ok c4⟩
def slotB (K : PySem.W.Frag) (x f : Str) (i : Nat) : Bool := eqO (PySem.W.findIn K (.ref (ga K x)) f) (some (some (.ref (ma K (ga K x) f)))) && (eqO (PySem.W.specialIn K (.ref (ma K (ga K x) f)) "__get__") (some (some (.builtin "member_descriptor.__get__"))) && (dO (PySem.W.takesIn K (.ref (ma K (ga K x) f))) (some true) && (dO (PySem.W.typeIn K (.ref (ma K (ga K x) f))) (some (.type "member_descriptor")) && dO (PySem.W.slotIn K (ma K (ga K x) f) (ga K x)) (some i))))
theorem slotB_ok {K : PySem.W.Frag} {x f : Str} {i : Nat} (h : slotB K x f i = true) (hi : i < 1000) : SlX.Slot1 K (ga K x) f (ma K (ga K x) f) i := by
  obtain ⟨c1, c⟩ := ba h
  obtain ⟨c2, c⟩ := ba c
  obtain ⟨c3, c⟩ := ba c
  obtain ⟨c4, c5⟩ := ba c
  exact ⟨eqO_ok c1, eqO_ok c2, dO_ok c3, dO_ok c4, dO_ok c5, hi⟩
def sisB (K : PySem.W.Frag) (x : Str) : Bool := eqO (PySem.W.findIn K (.ref (ga K x)) "__class__") (some (some (.builtin "object.__class__"))) && (eqO (PySem.W.specialIn K (.builtin "object.__class__") "__get__") (some (some (.builtin "getset_descriptor.__get__"))) && (dO (PySem.W.takesIn K (.builtin "object.__class__")) (some true) && dO (PySem.W.mroIn K (ga K x) (.type "object")) (some true)))
theorem sisB_ok {K : PySem.W.Frag} {x : Str} (h : sisB K x = true) : SlX.SIsi K (ga K x) := by
  obtain ⟨c1, c⟩ := ba h
  obtain ⟨c2, c⟩ := ba c
  obtain ⟨c3, c4⟩ := ba c
  exact ⟨eqO_ok c1, eqO_ok c2, dO_ok c3, dO_ok c4⟩
/-- a method: found in the class, a function -/
structure Mt (K : PySem.W.Frag) (C : Addr) (m : Str) (g : Addr) : Prop where
  at_ : PySem.W.findIn K (.ref C) m = some (some (.ref g))
  fn : PySem.W.isFn K (.ref g) = true
def mtB (K : PySem.W.Frag) (x m : Str) : Bool := eqO (PySem.W.findIn K (.ref (ga K x)) m) (some (some (.ref (ma K (ga K x) m)))) && PySem.W.isFn K (.ref (ma K (ga K x) m))
theorem mtB_ok {K : PySem.W.Frag} {x m : Str} (h : mtB K x m = true) : Mt K (ga K x) m (ma K (ga K x) m) := by
  obtain ⟨c1, c2⟩ := ba h
  exact ⟨eqO_ok c1, c2⟩
/-- a property, its getter at g -/
structure Pr (K : PySem.W.Frag) (C : Addr) (f : Str) (p g : Addr) : Prop where
  at_ : PySem.W.findIn K (.ref C) f = some (some (.ref p))
  get : PySem.W.specialIn K (.ref p) "__get__" = some (some (.builtin "property.__get__"))
  tk : PySem.W.takesIn K (.ref p) = some true
  rc : ∃ rest, PySem.W.recIn K p "property" = some (.ref g :: rest)
def recB (K : PySem.W.Frag) (p g : Addr) : Bool := match PySem.W.recIn K p "property" with
  | some (.ref a :: _) => decide (a = g)
  | _ => false
def prB (K : PySem.W.Frag) (x f : Str) : Bool := eqO (PySem.W.findIn K (.ref (ga K x)) f) (some (some (.ref (ma K (ga K x) f)))) && (eqO (PySem.W.specialIn K (.ref (ma K (ga K x) f)) "__get__") (some (some (.builtin "property.__get__"))) && (dO (PySem.W.takesIn K (.ref (ma K (ga K x) f))) (some true) && recB K (ma K (ga K x) f) (prA K (ga K x) f)))
theorem prB_ok {K : PySem.W.Frag} {x f : Str} (h : prB K x f = true) : Pr K (ga K x) f (ma K (ga K x) f) (prA K (ga K x) f) := by
  obtain ⟨c1, c⟩ := ba h
  obtain ⟨c2, c⟩ := ba c
  obtain ⟨c3, c4⟩ := ba c
  refine ⟨eqO_ok c1, eqO_ok c2, dO_ok c3, ?_⟩
  unfold recB at c4
  cases q : PySem.W.recIn K (ma K (ga K x) f) "property" with
  | none => rw [q] at c4; cases c4
  | some l =>
    rw [q] at c4
    cases l with
    | nil => cases c4
    | cons a r =>
      cases a with
      | ref b =>
        have e : b = prA K (ga K x) f := of_decide_eq_true c4
        rw [← e]
        exact ⟨r, rfl⟩
      | _ => cases c4
/-! ### the Hook -/
abbrev AlG : Type := Bool × List FnW
def obsG (fa : List Fa) (fn : List GD) (ex : PySem.W.Frag → Bool) (K : PySem.W.Frag) : AlG := ((fa.all fun f => f.ok K) && ((fn.all fun d => d.ok K) && ex K), fn.map fun d => fnA K (d.at_.adr K))
def valG (fn : List GD) : AlG := (true, fn.map GD.val)
def SaysG (fa : List Fa) (fn : List GD) (ex : PySem.W.Frag → Bool) (K : PySem.W.Frag) : Prop := obsG fa fn ex K = valG fn
section
variable {fa : List Fa} {fn : List GD} {ex : PySem.W.Frag → Bool} {K : PySem.W.Frag}
theorem SaysG.all (c : SaysG fa fn ex K) : ((fa.all fun f => f.ok K) && ((fn.all fun d => d.ok K) && ex K)) = true := congrArg (fun z : AlG => z.1) c
theorem SaysG.fact (c : SaysG fa fn ex K) (i : Nat) {f : Fa} (h : fa[i]? = some f := by rfl) : f.ok K = true := List.all_eq_true.mp (ba c.all).1 f (List.mem_of_getElem? h)
theorem SaysG.more (c : SaysG fa fn ex K) : ex K = true := (ba (ba c.all).2).2
theorem SaysG.def_ (c : SaysG fa fn ex K) (i : Nat) {d : GD} (h : fn[i]? = some d := by rfl) : ∃ fd, FunD K d.name d.qual d.params d.body d.scope [] [] (d.at_.adr K) fd := by
  have c2 := (ba (ba c.all).2).1
  have e : fn.map (fun d => fnA K (d.at_.adr K)) = fn.map GD.val := congrArg (fun z : AlG => z.2) c
  have e2 : (fn.map fun d => fnA K (d.at_.adr K))[i]? = (fn.map GD.val)[i]? := by rw [e]
  rw [List.getElem?_map, List.getElem?_map, h] at e2
  exact GD.funD (Option.some.inj e2) (List.all_eq_true.mp c2 d (List.mem_of_getElem? h))
end
end HookG

set_option Elab.async false
set_option linter.all false
set_option maxRecDepth 100000
set_option maxHeartbeats 2000000
/-! the rules of OwnR, OwnL, over the facts of HookG -/
namespace OwnF
open PySem PySem.Spec PyProof.Rows L2 He SlX OwnR HookG
/-- what is asked of a class with slots -/
structure OC (K : PySem.W.Frag) (C : Addr) : Prop where
  scl : SCls K C
  sis : SIsi K C
  first : PySem.W.selfFirst K C = true
  ne : PySem.W.findIn K (.ref C) "__ne__" = some (some (.builtin "object.__ne__"))
  ntup : PySem.W.notFirst K C (.type "tuple") = true
  rmul : PySem.W.findIn K (.ref C) "__rmul__" = some none
  imul : PySem.W.findIn K (.type "int") "__mul__" = some (some (.builtin "int.__mul__"))
  irmul : PySem.W.findIn K (.type "int") "__rmul__" = some (some (.builtin "int.__rmul__"))
  isub : PySem.W.subIn K (.type "int") (.ref C) = some false
  kself : PySem.W.kitOne K (.ref C) (.ref C) = some true
  ktup : PySem.W.kitOne K (.type "tuple") (.ref C) = some false
  kint : PySem.W.kitOne K (.type "int") (.ref C) = some false
def ocB (K : PySem.W.Frag) (x : Str) : Bool := sclB K x && (sisB K x && (PySem.W.selfFirst K (ga K x) && (eqO (PySem.W.findIn K (.ref (ga K x)) "__ne__") (some (some (.builtin "object.__ne__"))) && (PySem.W.notFirst K (ga K x) (.type "tuple") && (eqO (PySem.W.findIn K (.ref (ga K x)) "__rmul__") (some none) && (eqO (PySem.W.findIn K (.type "int") "__mul__") (some (some (.builtin "int.__mul__"))) && (eqO (PySem.W.findIn K (.type "int") "__rmul__") (some (some (.builtin "int.__rmul__"))) && (dO (PySem.W.subIn K (.type "int") (.ref (ga K x))) (some false) && (dO (PySem.W.kitOne K (.ref (ga K x)) (.ref (ga K x))) (some true) && (dO (PySem.W.kitOne K (.type "tuple") (.ref (ga K x))) (some false) && dO (PySem.W.kitOne K (.type "int") (.ref (ga K x))) (some false)))))))))))
theorem ocB_ok {K : PySem.W.Frag} {x : Str} (h : ocB K x = true) : OC K (ga K x) := by
  obtain ⟨c1, c⟩ := ba h
  obtain ⟨c2, c⟩ := ba c
  obtain ⟨c3, c⟩ := ba c
  obtain ⟨c4, c⟩ := ba c
  obtain ⟨c5, c⟩ := ba c
  obtain ⟨c6, c⟩ := ba c
  obtain ⟨c7, c⟩ := ba c
  obtain ⟨c8, c⟩ := ba c
  obtain ⟨c9, c⟩ := ba c
  obtain ⟨c10, c⟩ := ba c
  obtain ⟨c11, c12⟩ := ba c
  exact ⟨sclB_ok c1, sisB_ok c2, c3, eqO_ok c4, c5, eqO_ok c6, eqO_ok c7, eqO_ok c8, dO_ok c9, dO_ok c10, dO_ok c11, dO_ok c12⟩
theorem raw0 {P : Program} {w : World} {K : PySem.W.Frag} {mg : Str → Option Value} {base : Heap} {CX : CXT} {k : Nat} {f : Addr} {sp : Sp} {fd : FuncData} {ps : List Str} (F : FnOk P w K mg base CX k f fd ps sp) (hb : Binds K fd ps []) : FnR P w K mg base CX k f sp :=
  (F.raw hb .nil).imp fun vs H Q E h => by rw [List.append_nil]; exact h
section
variable {X : Cx} {C g gl pp : Addr} {n : Nat} {sp spl : Sp} {fd fdl : FuncData} {ps psl : List Str} {f : Str} {e : Expr} {pos : Pos} {ta : TE}
theorem hx0 : ∀ (H : Hp) (s : Shared) (e : Value) (s' : Shared), CX0 X.stack H s E0 e s' → False := fun _ _ _ _ h => h
theorem pe_prp (he : PE X e ta) (c : OC X.K C) (p : Pr X.K C f pp g) (F : FnOk X.prog X.w X.K X.mg X.base CX0 n g fd ps sp) (hb : Binds X.K fd ps []) (hr : Room (n + 1) X.A) (hb2 : attributeBase e f X.env (eval e X.env) = eval e X.env := by rfl) : PE X (.Attribute e f pos) (tPropSl C sp E0 ta) :=
  pe_propSl he c.scl p.at_ p.get p.tk p.rc (raw0 F hb) hr hx0 hb2
theorem iter_anyT {prog : Program} {w : World} {A : Around} {E : Value → Shared → Prop} {s : Shared} {l : Addr} {items : Array Value} {Q : Value → Shared → Prop} (hl : s.heap.IsTuple l items)
    (h : ∀ s₂ : Shared, s₂ = { s with heap := s.heap.push { cls := .type "tuple_iterator", data := .fields #[.ref l, .int 0 0] } } →
      (s₂.heap.IsTupleIter s.heap.objs.size l 0 ∧ s₂.heap.IsTuple l items) → l ≠ s.heap.objs.size → Q (.ref s.heap.objs.size) s₂) : wpAny (model prog w) A (pyIter (.ref l)) Q E s := by
  have hlt : l < s.heap.objs.size := by obtain ⟨_, e, _⟩ := hl; exact Heap.lt_size e
  exact wpAny_pyIter_tuple hl (h _ rfl ⟨⟨_, Heap.get?_push_size _ rfl, rfl, rfl⟩, hl.push _⟩ (Nat.ne_of_lt hlt))
theorem truth_ints {prog : Program} {w : World} {A : Around} {ns : List Int} {its : List Value} (r : Vals (ns.map V.int) its) :
    TruthOf prog w A (fun i v => its.toArray[i]? = some v) (fun i => ns.getD i 0 != 0) := fun i v s Q E hv hq => by
  have hv' : its[i]? = some v := by simpa using hv
  have hlen := r.length
  rw [List.length_map] at hlen
  have hlt : i < ns.length := by
    have := (List.getElem?_eq_some_iff.mp hv').1
    omega
  obtain ⟨u, hu, t, ru⟩ := r.get (show (ns.map V.int)[i]? = some (.int ns[i]) by rw [List.getElem?_map, List.getElem?_eq_getElem hlt]; rfl)
  rw [hv'] at hu
  cases hu
  subst ru
  have hg : ns.getD i 0 = ns[i] := by rw [List.getD_eq_getElem?_getD, List.getElem?_eq_getElem hlt] <;> rfl
  have hq' : Q (ns.getD i 0 != 0) s := hq
  rw [hg] at hq'
  exact truthy_int hq'
theorem any_rangeI : ∀ ns : List Int, (List.range ns.length).any (fun i => ns.getD i 0 != 0) = ns.any (· != 0)
  | [] => rfl
  | b :: bs => by
    rw [List.length_cons, List.range_succ_eq_map, List.any_cons, List.any_map, List.any_cons, ← any_rangeI bs]
    all_goals rfl
/-- any of a tuple of ints -/
def rAnyTI (K : PySem.W.Frag) : List V → Hp → VK → Prop := fun vs H Q => ∃ (a : Addr) (ns : List Int), vs = [V.ref a] ∧ SqT K H a (ns.map V.int) ∧ Q (.bl (ns.any (· != 0))) H
theorem cr_anyTI (hc : X.calm = true) : CallR X (.builtin "any") (rAnyTI X.K) := by
  intro pins s σ H vs us Q I r h
  obtain ⟨a, ns, rfl, hs, q⟩ := h
  obtain ⟨its, rv, hl, _⟩ := I.tuple hs
  rw [Vals.ref1 r]
  have hlen := rv.length
  rw [List.length_map] at hlen
  refine call_any_walk (iter_anyT (show s.heap.IsTuple a its.toArray from hl) fun s₂ e2 st hne => ?_)
  subst e2
  refine ⟨_, _, _, _, _, _, _, rfl, Walks.tuple (A := X.A.in1) (I.ok.hd hc) _ a hne its.toArray, st, truth_ints rv, fun h' tk hk => ?_⟩
  refine ⟨.bl _, H, I.kept fun b o eo => hk b o (fun hmem => ?_) (Heap.get?_push_of_some _ eo), ?_, q⟩
  · rcases List.mem_cons.mp hmem with e1 | hmem
    · exact absurd (e1 ▸ Heap.lt_size eo) (Nat.lt_irrefl _)
    · cases hmem
  · show Value.bool _ = Value.bool _
    rw [← any_rangeI, List.size_toArray, ← hlen]
/-- isinstance(x, C): x of a plain type, or an instance -/
theorem call_isiF (C : Addr) : CallR X (.builtin "isinstance") (fun xs H Q => rIsi X.K xs H Q ∨ rIsiSl X.K (.ref C) xs H Q) := call_isi.or (call_isiSl (.ref C))
end
end OwnF

set_option Elab.async false
set_option linter.all false
set_option maxRecDepth 100000
set_option maxHeartbeats 2000000
/-! a method of an instance with slots -/
namespace OwnF
open PySem PySem.Spec PyProof.Rows L2 He SlX OwnR HookG
section
variable {X : Cx} {C g : Addr} {n : Nat} {sp : Sp} {fd : FuncData} {ps : List Str} {o e : Expr} {es : List Expr} {x : Str} {pos apos : Pos} {ta : TE} {t : TA}
end
end OwnF

set_option Elab.async false
set_option linter.all false
set_option maxRecDepth 100000
set_option maxHeartbeats 2000000
/-! classmethods, classes in local names, xs[i] op= e -/
namespace OwnC
open PySem PySem.Spec PyProof.Rows L2 He SlX OwnR HookG OwnF
/-- C.m is a classmethod: its record at p, its def at g -/
structure Cm (K : PySem.W.Frag) (C : Addr) (m : Str) (p g : Addr) : Prop where
  rd : ClX.CRead K C (.type "type")
  cm : ClX.CMet K C (.type "type") m p g
section
variable {X : Cx} {C p g f : Addr} {n i : Nat} {sp : Sp} {fd : FuncData} {ps : List Str} {o e : Expr} {es : List Expr} {m x : Str} {pos apos pp : Pos} {ta : TE} {t : TA}
end
end OwnC

set_option Elab.async false
set_option linter.all false
set_option maxRecDepth 100000
set_option maxHeartbeats 2000000
/-! enumerate(t), t a tuple -/
namespace EnumT
open PySem PySem.Spec PyProof.Rows L2
open AutoSeq1 (wpAny_loadPart')
theorem meets_newT (l : Addr) (items : Array Value) (n : Nat) (dct : Option Addr) (sl : Array (Option Value)) :
    Meets (Builtin.«enumerate.__new__» ⟨[.type "enumerate", .ref l], []⟩) (fun _ R s => s.heap.get? l = some { cls := .type "tuple", dict := dct, data := .seq items n, slots := sl } ∧
      R (.ok (.ret (.ref (s.heap.push { cls := .type "tuple_iterator", data := .fields #[.ref l, .int 0 0] }).objs.size)))
        { s with heap := (s.heap.push { cls := .type "tuple_iterator", data := .fields #[.ref l, .int 0 0] }).push { cls := .type "enumerate", data := .fields #[.none, .bool false, .ref s.heap.objs.size, rawInt 0, .none, .none] } }) :=
  .of_wp fun prog w A R s h => by
    obtain ⟨hp, g, d, tk, os⟩ := s; obtain ⟨hl, h⟩ := h
    have hsub := sub_enumerate
    have hL : Heap.IsTuple (Shared.heap ⟨hp, g, d, tk, os⟩) l items := ⟨_, hl, rfl, n, rfl⟩
    wp_walk using wpAny_loadPart' hl
    refine wpAny_stack_any fun st => wpAny_pure ?_
    split
    · rename_i c _ _ _ _ _
      cases (c == Value.type "enumerate")
      · wp_walk using wpAny_loadPart' hl, wpAny_pyIter_tuple hL
        exact ⟨_, rfl, h⟩
      · wp_walk using wpAny_loadPart' hl, wpAny_pyIter_tuple hL
        exact ⟨_, rfl, h⟩
    · wp_walk using wpAny_loadPart' hl, wpAny_pyIter_tuple hL
      exact ⟨_, rfl, h⟩
section
variable {prog : Program} {w : World} {A : Around} {E : Value → Shared → Prop} {s : Shared}
theorem call_enumT {l : Addr} {items : Array Value} {Q : Value → Shared → Prop} (hL : s.heap.IsTuple l items)
    (h : ∀ h', IsEnum h' (s.heap.objs.size + 1) s.heap.objs.size 0 .none → h'.IsTupleIter s.heap.objs.size l 0 → h'.objs.size = s.heap.objs.size + 2 →
      (∀ b o, s.heap.get? b = some o → h'.get? b = some o) → Q (.ref (s.heap.objs.size + 1)) { s with heap := h' }) :
    wpAny (model prog w) A (call (.type "enumerate") [.ref l]) Q E s := by
  obtain ⟨⟨c, dct, dt, sl⟩, hl, hc, n, hd⟩ := hL
  replace hc : c = .type "tuple" := hc
  replace hd : dt = .seq items n := hd
  subst hc hd
  refine callType_new F.called_enumerate (by decide) (F.typeCall_enumerate_1 _) (F.newCall_enumerate_1 _) (fun obj => F.args_object_init_2 obj _) F.entry_enumerate_new
    (meets_newT l items n dct sl) ⟨hl, ?_⟩
  have hz : (s.heap.push { cls := .type "tuple_iterator", data := .fields #[.ref l, .int 0 0] }).objs.size = s.heap.objs.size + 1 := Heap.size_push ..
  show _ ∧ _
  rw [hz]
  have he : IsEnum ((s.heap.push { cls := .type "tuple_iterator", data := .fields #[.ref l, .int 0 0] }).push
      { cls := .type "enumerate", data := .fields #[.none, .bool false, .ref s.heap.objs.size, rawInt 0, .none, .none] }) (s.heap.objs.size + 1) s.heap.objs.size 0 .none := by
    have := Heap.get?_push_size (s.heap.push { cls := .type "tuple_iterator", data := .fields #[.ref l, .int 0 0] })
      (o := { cls := .type "enumerate", data := .fields #[.none, .bool false, .ref s.heap.objs.size, rawInt 0, .none, .none] }) rfl
    rw [hz] at this; exact this
  refine ⟨⟨_, he, rfl⟩, h _ he ⟨_, Heap.get?_push_of_some _ (Heap.get?_push_size _ rfl), rfl, rfl⟩ (by rw [Heap.size_push, hz]) fun b o x => Heap.get?_push_of_some _ (Heap.get?_push_of_some _ x)⟩
end
/-- the tuple at a, each item in a new pair -/
def IteT (K : PySem.W.Frag) (a : Addr) : It :=
  ⟨fun i H => ∃ (xs : List V) (x : V), SqT K H a xs ∧ xs[i]? = some x, fun i H v H' => ∃ T x, v = .ref T ∧ H T = none ∧ H' = upd H T (.tup [.int (i : Nat), x]) ∧ ∀ xs, SqT K H a xs → xs[i]? = some x, fun i H => ∃ xs : List V, SqT K H a xs ∧ xs.length = i⟩
theorem turn_enumT {P : Program} {w : World} {K : PySem.W.Frag} {elts : List Expr} {kk : Nat} {tpos : Pos} (a e it : Addr) (hait : a ≠ it) (hae : a ≠ e) :
    Turn P w K (.Tuple elts kk tpos) (IteT K a) [e, it] e (fun i h => (∃ old, IsEnum h e it ((i : Nat) : Int) old) ∧ h.IsTupleIter it a i ∧ e ≠ it) where
  mem := by simp
  obj := fun i h st b hb => by
    obtain ⟨⟨old, he⟩, ⟨o, ho, hc, hd⟩, _⟩ := st
    have e' : b = e ∨ b = it := by simpa using hb
    rcases e' with z | z
    · rw [z]; exact ⟨_, he, fun v q => nomatch q⟩
    · rw [z]; exact ⟨o, ho, fun v q => by rw [hd] at q; cases q⟩
  keep := fun i h h' st k => let ⟨⟨old, he⟩, hi, hne⟩ := st; ⟨⟨old, k e (by simp) _ he⟩, hi.at fun o q => k it (by simp) o q, hne⟩
  item := by
    intro X hP hw hK hc i pins s σ H E I hf st hg
    subst hP hw hK
    obtain ⟨⟨old, he⟩, hit, hne⟩ := st
    obtain ⟨xs, x, hq, hx⟩ := hg
    obtain ⟨its, rv, p, hz⟩ := I.tuple hq
    obtain ⟨u, hu, ru⟩ := rv.get hx
    have hel : e < s.heap.objs.size := Heap.lt_size he
    have hil : it < s.heap.objs.size := by obtain ⟨_, q, _⟩ := hit; exact Heap.lt_size q
    have pT : s.heap.IsTuple a its.toArray := p
    have hlt : i < its.toArray.size := by
      have := (List.getElem?_eq_some_iff.mp hu).1
      simpa using this
    refine wpAny_pyNext_enum_itemD (Draws.tuple (A := X.A.in1) (I.ok.hd hc) it a hait its.toArray) he ⟨hit, pT⟩ hlt hne (by simp [Ne.symm hae, hne]) fun x' h' tk hx' ho hit' hT hsz hk => ?_
    have hux : x' = u := by
      have h1 : its[i]? = some x' := by simpa using hx'
      rw [hu] at h1
      exact (Option.some.inj h1).symm
    subst hux
    refine ⟨_, rfl, wpAny_letOwnedTupleGo_enum (s := { s with heap := h', toks := tk + 1 }) ho fun h'' he' sb => ?_⟩
    have hT2 : h''.get? s.heap.objs.size = some { cls := .type "tuple", data := .seq #[.int i tk, x'] } := (sb.2 _ (Nat.ne_of_gt hel)).trans hT
    have new : ObjOk X.prog X.w (upd H s.heap.objs.size (.tup [.int (i : Nat), x])) h'' s.heap.objs.size (.tup [.int (i : Nat), x]) :=
      ⟨by show 2 ≤ sizeLine; decide, [.int i tk, x'], .cons ⟨_, rfl⟩ (.cons ru .nil), ⟨_, hT2, rfl, _, rfl⟩⟩
    have I1 : Inv X pins σ (upd H s.heap.objs.size (.tup [.int (i : Nat), x])) { s with heap := h'', toks := tk + 1 } :=
      I.turnedNew (ch := [e, it]) (fun b ob hb q => (sb.2 b (fun z => hb (by simp [z]))).trans (hk b ob (fun z => hb (by simp [z])) (fun z => hb (by simp [z])) q)) hf (Nat.le_refl _) new
    refine ⟨.ref s.heap.objs.size, _, I1, rfl, ⟨_, x, rfl, I.hok.fresh (Nat.le_refl _), rfl, fun ys hy => ?_⟩, ⟨⟨x', ?_⟩, hit'.1.at fun o q => (sb.2 it (Ne.symm hne)).trans q, hne⟩, fun b hb => ?_⟩
    · rw [show ys = xs from I.tuple_inj hy hq]
      exact hx
    · have e1 : ((i + 1 : Nat) : Int) = (i : Int) + 1 := by omega
      rw [e1]; exact he'
    · have hb' : b < s.heap.objs.size := by
        have e' : b = e ∨ b = it := by simpa using hb
        rcases e' with z | z
        · rw [z]; exact hel
        · rw [z]; exact hil
      rw [upd_ne (Nat.ne_of_lt hb')]
      exact (hf b hb).1
  done := by
    intro X hP hw hK hc i pins s σ H E I hf st hg
    subst hP hw hK
    obtain ⟨⟨old, he⟩, hit, hne⟩ := st
    obtain ⟨xs, hq, hx⟩ := hg
    obtain ⟨its, rv, p, hz⟩ := I.tuple hq
    obtain ⟨f0, f1, f2, f3, f4, f5⟩ := hf it (by simp)
    have hl := rv.length
    have hz2 : i = its.toArray.size := by rw [List.size_toArray]; omega
    subst hz2
    exact wpAny_pyNext_enum_endD (Draws.tuple (A := X.A.in1) (I.ok.hd hc) it a hait its.toArray) he ⟨hit, show s.heap.IsTuple a its.toArray from p⟩ fun h' eb => ⟨rfl, I.turned (t' := s.toks) (fun b o hb q => eb b o hb q) f0 f1 f3 f4 f5⟩
  self := fun A i s Q E st h => let ⟨⟨_, he⟩, _⟩ := st; wpAny_pyIter_enum he h
def iEnumT (K : PySem.W.Frag) (ta : TA) : TI := fun σ H R => ta σ H fun vs H1 => ∃ a xs, vs = [.ref a] ∧ SqT K H1 a xs ∧ R (IteT K a) H1
theorem pi_enumT {X : Cx} {e : Expr} {ta : TA} {p pos tpos : Pos} {elts : List Expr} {kk : Nat} (hg : Gl X "enumerate") (hm : X.mg "enumerate" = none) (ha : PA X [e] ta) (hs : starEach [e] X.env = [(false, eval e X.env)] := by rfl) :
    PI X (.Tuple elts kk tpos) (.Call (.Name "enumerate" p) [e] [] pos) (iEnumT X.K ta) := by
  refine ⟨fun pins s σ H R I h => ?_⟩
  refine Call_ (ld_blt I hg hm boot_enumerate (PyProof.Rows.callWith_type1 (thn (ha.run pos pins s σ H _ I h) fun us s1 ⟨vs, H1, I1, r1, q1⟩ => ?_) hs rfl))
  obtain ⟨a, xs, ex, hq, q⟩ := q1
  subst ex
  cases r1 with
  | cons r rr =>
    cases rr
    cases r
    obtain ⟨its, rv, p', hz⟩ := I1.tuple hq
    have hlt : a < s1.heap.objs.size := by obtain ⟨_, ho, _⟩ := p'; exact Heap.lt_size ho
    refine call_enumT (show s1.heap.IsTuple a its.toArray from p') fun h' he hit hsz hk => wpAny_pyIter_enum he ?_
    have I2 : Inv X pins σ H1 { s1 with heap := h' } := I1.kept (t' := s1.toks) hk
    refine ⟨s1.heap.objs.size + 1, [s1.heap.objs.size + 1, s1.heap.objs.size], _, _, H1, rfl, I2, turn_enumT a (s1.heap.objs.size + 1) s1.heap.objs.size (Nat.ne_of_lt hlt) (Nat.ne_of_lt (Nat.lt_succ_of_lt hlt)), ⟨⟨.none, he⟩, hit, Nat.succ_ne_self _⟩, fun b hb => ?_, q⟩
    have e' : b = s1.heap.objs.size + 1 ∨ b = s1.heap.objs.size := by simpa using hb
    have hle : s1.heap.objs.size ≤ b := by
      rcases e' with z | z
      · rw [z]; exact Nat.le_add_right _ _
      · rw [z]; exact Nat.le_refl _
    exact I1.fpOk hle (I1.hok.fresh hle)
/-- a loop over enumerate of a tuple -/
theorem for_enumT {K : PySem.W.Frag} {a : Addr} {xs : List V} {g : TG} {tb : TS} {D : Ends} {σ : L2.St} {H : Hp} (Pv : Nat → L2.St → Hp → Prop) (h0 : Pv 0 σ H) (hq : ∀ i σ H, Pv i σ H → SqT K H a xs)
    (hs : ∀ (i : Nat) (x : V) (T : Addr) (σ : L2.St) (H : Hp), xs[i]? = some x → Pv i σ H → H T = none → g (.ref T) σ (upd H T (.tup [.int (i : Nat), x])) fun σ2 H2 => tb { D with nx := Pv (i + 1), ct := Pv (i + 1), bk := D.nx } σ2 H2) (hd : ∀ σ H, Pv xs.length σ H → D.nx σ H) :
    ∃ W : Nat → Nat → L2.St → Hp → Prop, (∃ m, W 0 m σ H) ∧ ∀ i m σ H, W i m σ H →
      ((IteT K a).stop i H ∧ D.nx σ H) ∨ ((IteT K a).go i H ∧ ∃ N : L2.St → Hp → Prop, (∀ σ' H', N σ' H' → ∃ m', m' < m ∧ W (i + 1) m' σ' H') ∧ ∀ v H', (IteT K a).yld i H v H' → g v σ H' fun σ2 H2 => tb { D with nx := N, ct := N, bk := D.nx } σ2 H2) := by
  refine ⟨fun i m σ H => m = xs.length - i ∧ i ≤ xs.length ∧ Pv i σ H, ⟨xs.length, rfl, Nat.zero_le _, h0⟩, ?_⟩
  rintro i m σ H ⟨rfl, hi, p⟩
  have qx := hq i σ H p
  by_cases hlt : i < xs.length
  · have hx : xs[i]? = some xs[i] := List.getElem?_eq_getElem hlt
    refine .inr ⟨⟨xs, _, qx, hx⟩, Pv (i + 1), fun σ' H' p' => ⟨xs.length - (i + 1), by omega, rfl, hlt, p'⟩, fun v H' y => ?_⟩
    obtain ⟨T, x', rfl, hT, rfl, f1⟩ := y
    exact hs i x' T σ H (f1 xs qx) p hT
  · have e : i = xs.length := by omega
    subst e
    exact .inl ⟨⟨xs, qx, rfl⟩, hd σ H p⟩
end EnumT

set_option Elab.async false
set_option linter.all false
set_option maxRecDepth 100000
set_option maxHeartbeats 2000000
/-! sequences that may be a list or a tuple: len, index, enumerate -/
namespace SeqE
open PySem PySem.Spec PyProof.Rows L2
/-- at a a list or a tuple with these items -/
def Sq (H : Hp) (a : Addr) (xs : List V) : Prop := H a = some (.tup xs) ∨ H a = some (.lst xs)
theorem Sq.same {H H' : Hp} {a : Addr} {xs : List V} (h : Sq H a xs) (s : Same H H') : Sq H' a xs := h.elim (fun e => .inl (s _ _ e)) fun e => .inr (s _ _ e)
theorem Sq.upd {H : Hp} {a p : Addr} {o : HO} {xs : List V} (h : Sq H a xs) (hp : H p = none) : Sq (upd H p o) a xs := by
  refine h.elim (fun e => .inl ?_) fun e => .inr ?_ <;> rw [upd_ne (ne_of_none e hp)] <;> exact e
theorem ix_sq {K : PySem.W.Frag} {H : Hp} {a : Addr} {xs : List V} {i : Int} {v : V} {Q : VK} (h : Sq H a xs) (e : atI xs i = some v) (q : Q v H) : rIx K (.ref a) (.int i) H Q :=
  h.elim (fun x => .inr (.inl ⟨a, xs, i, v, rfl, rfl, SqT.of x, e, q⟩)) fun x => .inl ⟨a, xs, i, v, rfl, rfl, SqL.of x, e, q⟩
theorem PI_or {X : Cx} {tg it : Expr} {t1 t2 : TI} (h1 : PI X tg it t1) (h2 : PI X tg it t2) : PI X tg it (fun σ H R => t1 σ H R ∨ t2 σ H R) :=
  ⟨fun pins s σ H R I h => h.elim (h1.run pins s σ H R I) (h2.run pins s σ H R I)⟩
end SeqE

set_option Elab.async false
set_option linter.all false
set_option maxRecDepth 100000
set_option maxHeartbeats 2000000
/-! next(.. for .. in .. if .., default) -/
namespace GenNx
open PySem PySem.Spec PyProof.Rows L2 GxR EnumT
section
variable {prog : Program} {w : World} {A : Around} {E : Value → Shared → Prop} {s : Shared} {I : Addr} {fp wr : List Addr} {G : Array GenState → Array GenState → Prop} {n : Nat} {Pv : Nat → Value → Prop} {St : Nat → Shared → Prop}
/-- next(generator, default): the first item, or the default -/
theorem call_next_walkS {d : Value} {Q : Value → Shared → Prop} (W : WalksS prog w A.in1 I fp wr G n Pv St) (hT : s.TypeIs (.ref I) "generator") (st : St 0 s)
    (h1 : ∀ v s', 0 < n → Pv 0 v → Moved wr G s s' → Q v s') (h2 : ∀ s', n = 0 → Moved wr G s s' → Q d s') : wpAny (model prog w) A (call (.builtin "next") [.ref I, d]) Q E s := by
  refine Calls.call_function_entry (by decide +kernel) (by decide +kernel) PySem.W.kdk_entry_next (PySem.W.kdk_args_next2 _ _) ?_
  unfold Builtin.«next»
  refine wpAny_bind (m := someArgs "next" 1 2 _) (wpAny_of_eq (a := [Value.ref I, d]) (by first | rfl | kernel_rfl!) ?_)
  dsimp only
  refine wpAny_bind (wpAny_specialOf (name := Str.ofString "__next__") hT slot_gen_next.lookup ?_)
  refine wpAny_ite_split (fun hab => absurd hab (by decide)) (fun _ => ?_)
  by_cases hn : 0 < n
  · refine wpAny_bind (W.item 0 _ _ _ hn st fun v s' hv _ hm => ?_)
    exact wpAny_pure ⟨_, rfl, h1 v s' hn hv hm⟩
  · have e : n = 0 := by omega
    refine wpAny_bind (W.done _ _ _ (by rw [e]; exact st) fun s' hm => ?_)
    exact wpAny_pure ⟨_, rfl, h2 s' e hm⟩
end
/-- the generator expression's own scope: its names xa, xb -/
structure GenS2 (env : Env) (scope : Scope) (xa xb : Str) : Prop where
  kind : scope.kind = .function
  co : scope.isCoroutine = false
  cell : ∀ y ∈ scope.names, y.2 ≠ .cell
  dot : scope.names.lookup (".0" : Str) = some NameKind.local
  la : scope.names.lookup xa = some .local
  lb : scope.names.lookup xb = some .local
  ab : xa ≠ xb
  free : ∀ y ∈ scope.names, y.2 = .free → ∃ c, env.cells.lookup y.1 = some c
theorem GenS2.of {env : Env} {scope : Scope} {xa xb : Str} (h1 : scope.kind = .function) (h2 : scope.isCoroutine = false) (h3 : ∀ y ∈ scope.names, y.2 ≠ .cell ∧ y.2 ≠ .free) (h4 : scope.names.lookup (".0" : Str) = some NameKind.local) (h5 : scope.names.lookup xa = some .local) (h6 : scope.names.lookup xb = some .local) (h7 : xa ≠ xb) : GenS2 env scope xa xb :=
  ⟨h1, h2, fun y hy => (h3 y hy).1, h4, h5, h6, h7, fun y hy z => absurd z (h3 y hy).2⟩
theorem genS_of {env : Env} {scope : Scope} {x : Str} (h1 : scope.kind = .function) (h2 : scope.isCoroutine = false) (h3 : ∀ y ∈ scope.names, y.2 ≠ .cell ∧ y.2 ≠ .free) (h4 : scope.names.lookup (".0" : Str) = some NameKind.local) (h5 : scope.names.lookup x = some .local) : GxR.GenS env scope x :=
  ⟨h1, h2, fun y hy => (h3 y hy).1, h4, h5, fun y hy z => absurd z (h3 y hy).2⟩
/-- a test of the int in x -/
def TestI (prog : Program) (w : World) (scope : Scope) (x : Str) (c : Expr) (pb : Int → Bool) : Prop :=
  ∀ (cenv : Env) (A' : Around) (E' : Value → Shared → Prop) (i : Int) (t : Tok) (s₂ : Shared) (m₂ : Str → Option Value), cenv.scope = scope → s₂.heap.Ns cenv.locals m₂ → m₂ x = some (.int i t) →
    wpAny (model prog w) A' (isTrue c cenv (eval c cenv)) (fun ok s₃ => ok = pb i ∧ Keeps s₂ s₃) E' s₂
theorem test_ne0 {prog : Program} {w : World} {scope : Scope} {x : Str} {j : Nat} {p1 p2 p3 : Pos} (hk : scope.kind = .function) (hl : scope.names.lookup x = some .local) (hd : (x == ("__debug__" : Str)) = false := by decide) :
    TestI prog w scope x (.Compare (.Name x p1) [.NotEq] [.Constant (.int 0) j p2] p3) (fun i => i != 0) := by
  intro cenv A' E' i t s₂ m₂ hs hn hm
  refine wpAny_isTrue_Compare1 ?_
  refine wpAny_Name (wpAny_loadName_local (by rw [hs]; exact hk) (show cenv.scope.names.lookup x = some .local by rw [hs]; exact hl) hn hm ?_) hd
  refine wpAny_Constant_int ?_
  exact PySem.P.ne_int (wpAny_truthy_bool ⟨rfl, keeps_tok _ _⟩)
/-- the element is the int in x -/
theorem elt_name {prog : Program} {w : World} {cenv : Env} {A' : Around} {E' : Value → Shared → Prop} {x : Str} {p1 : Pos} {v : Value} {s₂ : Shared} {m₂ : Str → Option Value} {scope : Scope} (hs : cenv.scope = scope) (hk : scope.kind = .function) (hl : scope.names.lookup x = some .local) (hn : s₂.heap.Ns cenv.locals m₂) (hm : m₂ x = some v) (hd : (x == ("__debug__" : Str)) = false := by decide) :
    wpAny (model prog w) A' (eval (.Name x p1) cenv) (fun y s₃ => y = v ∧ Keeps s₂ s₃) E' s₂ :=
  wpAny_Name (wpAny_loadName_local (by rw [hs]; exact hk) (show cenv.scope.names.lookup x = some .local by rw [hs]; exact hl) hn hm ⟨rfl, keeps_refl _⟩) hd
theorem one_if {M : Model} {A : Around} {E : Value → Shared → Prop} {s : Shared} {c : Expr} {cenv : Env} {Q : Bool → Shared → Prop} (h : wpAny M A (isTrue c cenv (eval c cenv)) Q E s) :
    wpAny M A (forIn [c] true fun c r => if r = true then do let ok ← isTrue c cenv (eval c cenv); pure (ForInStep.yield ok) else pure (ForInStep.yield r)) Q E s := by
  simp only [List.forIn_cons, List.forIn_nil, if_true]
  exact wpAny_bind (wpAny_bind (wpAny_mono h (fun ok s' hq => wpAny_pure (wpAny_pure hq)) fun _ _ e => e))
section
variable {X : Cx} {pins : List (Addr × Obj)} {σ : L2.St} {H : Hp} {s : Shared}
/-- the generator g, ready to be asked, its j-th item is tied by F to the j-th place of js -/
def ReadyN (X : Cx) (pins : List (Addr × Obj)) (σ : L2.St) (H1 : Hp) (P : Addr) (js : List Nat) (F : Nat → Value → Prop) (g : Addr) (s5 : Shared) : Prop :=
  ∃ (fp wr : List Addr) (G : Array GenState → Array GenState → Prop) (St : Nat → Shared → Prop),
    WalksS X.prog X.w X.A.in1 g fp wr G js.length (fun j y => ∃ i, js[j]? = some i ∧ F i y) St ∧ St 0 s5 ∧ s5.TypeIs (.ref g) "generator" ∧
    ∀ s', Moved wr G s5 s' → ∃ H2, Tabbed P H1 H2 ∧ Inv X pins σ H2 s'
def pzL (pb : Int → Bool) (l : List Int) (i : Nat) : Bool := match l[i]? with
  | some z => pb z
  | none => false
theorem pzL_some {pb : Int → Bool} {l : List Int} {i : Nat} {z : Int} (h : l[i]? = some z) : pzL pb l i = pb z := by
  unfold pzL
  rw [h]
/-- an item of a row of ints, by values -/
theorem int_item {l : List Int} {its : List Value} (rv : Vals (l.map V.int) its) {i : Nat} {x : Value} (h : its[i]? = some x) : ∃ z t, l[i]? = some z ∧ x = .int z t := by
  have hl := rv.length
  have hi : i < its.length := (List.getElem?_eq_some_iff.mp h).1
  rw [List.length_map] at hl
  have hi2 : i < l.length := by omega
  obtain ⟨u, hu, ru⟩ := rv.get (i := i) (x := .int l[i]) (by rw [List.getElem?_map, List.getElem?_eq_getElem hi2]; rfl)
  obtain ⟨t, rfl⟩ := ru
  rw [h] at hu
  exact ⟨l[i], t, List.getElem?_eq_getElem hi2, Option.some.inj hu⟩
theorem passing_nil {pb : Int → Bool} {l : List Int} (h : (passing (pzL pb l) l.length 0).length = 0) : ∀ (j : Nat) (z : Int), l[j]? = some z → pb z = false := fun j z hj => by
  have e : passing (pzL pb l) l.length 0 = [] := List.eq_nil_of_length_eq_zero h
  have hlt : j < l.length := (List.getElem?_eq_some_iff.mp hj).1
  cases hb : pb z with
  | false => rfl
  | true =>
    have hm : j ∈ passing (pzL pb l) l.length 0 := by
      unfold passing
      rw [List.drop_zero]
      exact List.mem_filter.mpr ⟨List.mem_range.mpr hlt, by rw [pzL_some hj]; exact hb⟩
    rw [e] at hm
    cases hm
theorem passing_first {pb : Int → Bool} {l : List Int} {i : Nat} (h : (passing (pzL pb l) l.length 0)[0]? = some i) : ∃ z, l[i]? = some z ∧ pb z = true ∧ ∀ (j : Nat) (y : Int), j < i → l[j]? = some y → pb y = false := by
  unfold passing at h
  rw [List.drop_zero] at h
  have h2 : ((List.range l.length).filter (pzL pb l)).head? = some i := by rw [List.head?_eq_getElem?]; exact h
  rw [List.head?_filter] at h2
  have h3 := List.find?_eq_some_iff_getElem.mp h2
  obtain ⟨hp, k, hk, ek, hn⟩ := h3
  rw [List.getElem_range] at ek
  subst ek
  rw [List.length_range] at hk
  refine ⟨l[k], List.getElem?_eq_getElem hk, ?_, fun j y hj hy => ?_⟩
  · rw [pzL_some (List.getElem?_eq_getElem hk)] at hp
    exact hp
  · have := hn j hj
    rw [List.getElem_range, pzL_some hy] at this
    simpa using this
theorem gen_name {c P : Addr} {e ct : Expr} {x : Str} {px gpos : Pos} {scope : Scope} {pb : Int → Bool} {te : TE} {k : Nat} {p1 : Pos} {Q' : Value → Shared → Prop} {R : Addr → List Int → Hp → Prop}
    (hr : Room k X.A) (TB : TabB X.base X.mg c P) (hcode : X.env.code = .ref c) (S : GenS X.env scope x) (he : PE X e te)
    (htest : TestI X.prog X.w scope x ct pb) (hda : (x == ("__debug__" : Str)) = false)
    (hs : ∀ v, genFold e X.env v = pure v) (I : Inv X pins σ H s) (h : te σ H fun v H1 => ∃ (t : Addr) (l : List Int), v = .ref t ∧ SqT X.K H1 t (l.map V.int) ∧ TabG H1 P ∧ R t l H1)
    (hQ : ∀ t l H1 g s5, R t l H1 → ReadyN X pins σ H1 P (passing (pzL pb l) l.length 0) (fun i y => ∃ z u, l[i]? = some z ∧ y = .int z u) g s5 → Q' (.ref g) s5) :
    wpAny (model X.prog X.w) X.A (eval (.GeneratorExp (.Name x p1) [⟨.Name x px, e, [ct], 0⟩] scope gpos) X.env) Q' X.xe s := by
  refine wpAny_GeneratorExp_walksQ hr.hd S.co (closure_ok S.free) S.cell S.dot S.loc S.kind (by have := hr.dp; omega) ?_ hs
  refine thn (he.run pins s σ H _ I h) fun us s1 hv => ?_
  obtain ⟨vs, H1, I1, r1, t, l, rfl, hq, ⟨ps, hP, ht⟩, q1⟩ := hv
  obtain rfl : us = Value.ref t := r1
  · skip
    obtain ⟨its, rv, p', hz⟩ := I1.tuple hq
    have pT : s1.heap.IsTuple t its.toArray := p'
    have hlt : t < s1.heap.objs.size := by obtain ⟨_, ho, _⟩ := p'; exact Heap.lt_size ho
    refine wpAny_pyIter_tuple pT ?_
    have hk2 : ∀ b o, s1.heap.get? b = some o → (s1.heap.push { cls := .type "tuple_iterator", data := .fields #[.ref t, .int 0 0] }).get? b = some o := fun b o z => Heap.get?_push_of_some _ z
    have hit : (s1.heap.push { cls := .type "tuple_iterator", data := .fields #[.ref t, .int 0 0] }).IsTupleIter s1.heap.objs.size t 0 := ⟨_, Heap.get?_push_size _ rfl, rfl, rfl⟩
    have hsz2 : (s1.heap.push { cls := .type "tuple_iterator", data := .fields #[.ref t, .int 0 0] }).objs.size = s1.heap.objs.size + 1 := Heap.size_push ..
    generalize s1.heap.push { cls := .type "tuple_iterator", data := .fields #[.ref t, .int 0 0] } = h2 at hk2 hit hsz2 ⊢
    have hPs : s1.heap.get? P = some { cls := .none, data := .fields ps } := I1.hok P _ hP
    have hPlt : P < s1.heap.objs.size := Heap.lt_size hPs
    have hP2 : h2.get? P = some { cls := .none, data := .fields ps } := hk2 _ _ hPs
    have cd : PySem.W.CodeHd h2 c P := TB.code.keeps fun b u e => hk2 _ _ (I1.bk b u e)
    have lim2 : h2.NoLimit := I1.nolimit.keeps hk2
    have hll := rv.length
    rw [List.length_map] at hll
    have tP : t ≠ P := fun z => by
      obtain ⟨o, ho, _, n, hd⟩ := pT
      rw [z, hPs] at ho
      cases ho
      cases hd
    have hzn : its.toArray.size = l.length := by rw [List.size_toArray]; omega
    have WT : ∀ A' : Around, A'.handled = none → Walks X.prog X.w A' s1.heap.objs.size _ _ _ _ _ := fun A' hA => Walks.tuple (prog := X.prog) (w := X.w) (A := A') hA s1.heap.objs.size t (Nat.ne_of_lt hlt) its.toArray
    have cont : ∀ (code : Value) (h3 : Heap) (tk : Nat) (ps' : Array Value), Heap.ExtBut P h2 h3 → h2.objs.size ≤ h3.objs.size → h3.get? P = some { cls := .none, data := .fields ps' } → (∃ more, ps' = ps ++ more) → TriplesOk ps'.toList →
        wpAny (model X.prog X.w) X.A (builtinsFor X.env.globals X.env.builtins) (fun bi s₄ =>
          ∃ Ia fp wr n₀ Pf St₀ pz F, Value.ref s1.heap.objs.size = .ref Ia ∧ (∀ A' : Around, A'.handled = none → Walks X.prog X.w A' Ia fp wr n₀ Pf St₀) ∧ St₀ 0 s₄.heap ∧ (∀ b ∈ fp, b < s₄.heap.objs.size) ∧ s₄.heap.NoLimit ∧ cStatics ∉ wr ∧
            (∀ href : Heap, (∀ b o, s₄.heap.get? b = some o → href.get? b = some o) →
              QuietGen X.prog X.w (genEnv scope (cloFrom X.env.cells scope.names []) s₄.heap.objs.size code bi X.env) x [ct] (.Name x p1) (List.range s₄.heap.objs.size) wr Pf pz F href) ∧
            (∀ a h₅ tk gs, gs.bare = true → s₄.heap.objs.size < a → h₅.objs.size = a + 1 → (∀ b o, s₄.heap.get? b = some o → h₅.get? b = some o) →
              WalksS X.prog X.w X.A.in4 a (a :: s₄.heap.objs.size :: List.range s₄.heap.objs.size) (s₄.heap.objs.size :: wr) (GenOnlyQ s₄.gens.size) (passing pz n₀ 0).length
                (fun j y => ∃ i, (passing pz n₀ 0)[j]? = some i ∧ F i y) (GenAt X.prog X.w X.A.in4 a s₄.gens.size s₄.heap.objs.size (List.range s₄.heap.objs.size) wr pz n₀ F) →
              GenAt X.prog X.w X.A.in4 a s₄.gens.size s₄.heap.objs.size (List.range s₄.heap.objs.size) wr pz n₀ F 0 { s₄ with gens := s₄.gens.push gs, toks := tk, heap := h₅ } →
              Q' (.ref a) { s₄ with gens := s₄.gens.push gs, toks := tk, heap := h₅ })) X.xe { s1 with heap := h3, toks := tk } := by
      intro code h3 tk ps' hx hsz hP3 hmore ht3
      obtain ⟨bm, ob, e1, e2, e3, e4, e5, e6, e7, e8⟩ := TB.bm
      have hcP : cStatics ≠ P := fun e => by
        obtain ⟨_, hns, _⟩ := I1.nolimit
        obtain ⟨o', es, ep, ho, hd, _⟩ := hns
        rw [e, hPs] at ho
        cases ho
        cases hd
      have hcl : cStatics < s1.heap.objs.size := let ⟨_, hns, _⟩ := I1.nolimit; hns.lt
      have keep3 : ∀ b u, b ≠ P → s1.heap.get? b = some u → h3.get? b = some u := fun b u hb e => hx b u hb (hk2 _ _ e)
      have iP : s1.heap.objs.size ≠ P := fun z => Nat.lt_irrefl _ (z ▸ hPlt)
      have off : ∀ b, b < s1.heap.objs.size → b ∉ [s1.heap.objs.size] := fun b hb hm => by
        have hm' : b = s1.heap.objs.size := by simpa using hm
        exact Nat.ne_of_lt hb hm'
      refine wpAny_builtinsFor (m := X.mg) (by rw [I1.ok.glob]; exact (((I1.mod.glob.keeps I1.bk).keeps hk2).extBut hx TB.gP)) e1 e2 (keep3 _ _ e4 (I1.bk _ _ e5)) e6 e7 e8 ?_
      refine ⟨s1.heap.objs.size, _, _, _, _, _, pzL pb l, (fun i y => ∃ z u, l[i]? = some z ∧ y = .int z u), rfl, WT, ⟨hit.at fun o q => hx _ o iP q, pT.at fun o q => keep3 _ o tP q⟩, ?_, lim2.extBut hx hcP, off _ hcl, ?_, ?_⟩
      · intro b hb
        have hb' : b = s1.heap.objs.size ∨ b = t := by simpa using hb
        show b < h3.objs.size
        rcases hb' with z | z
        · rw [z]
          show s1.heap.objs.size < h3.objs.size
          omega
        · rw [z]
          exact Nat.lt_of_lt_of_le hlt (show s1.heap.objs.size ≤ h3.objs.size by omega)
      · intro href hhref
        refine ⟨fun A' E' i v s₂ m₂ hA hPv hn hm hk => ?_, fun A' E' i v s₂ m₂ hA hPv hp hn hm hk => ?_⟩
        · have hxi' : its[i]? = some v := by simpa using hPv
          obtain ⟨z, t2, hz1, rfl⟩ := int_item rv hxi'
          refine one_if (wpAny_mono (htest _ A' E' z t2 s₂ m₂ rfl hn hm) (fun ok s3 q => ⟨?_, q.2⟩) fun _ _ e => e)
          rw [pzL_some hz1]
          exact q.1
        · have hxi' : its[i]? = some v := by simpa using hPv
          obtain ⟨z, t2, hz1, rfl⟩ := int_item rv hxi'
          exact wpAny_mono (elt_name (scope := scope) rfl S.kind S.loc hn hm hda) (fun y s3 q => ⟨⟨z, t2, hz1, q.1⟩, q.2⟩) fun _ _ e => e
      · intro g h5 tk5 gs hgb hag hsz5 hk5 W5 hat
        rw [hzn] at W5
        refine hQ t l H1 g _ q1 ⟨_, _, _, _, W5.in4_1, ?_, hat.1.typeIs, fun s' hm => ?_⟩
        · rw [hzn] at hat
          exact hat
        · obtain ⟨more, em⟩ := hmore
          have nwr : ∀ b u, s1.heap.get? b = some u → b ∉ h3.objs.size :: [s1.heap.objs.size] := fun b u e hb => by
            have hl := Heap.lt_size e
            rcases List.mem_cons.mp hb with z | z
            · rw [z] at hl
              have h9 : (h3.objs.size : Nat) < s1.heap.objs.size := hl
              omega
            · exact off b hl z
          have J := inv_tab (more := more) (h' := s'.heap) (g' := s'.gens) (d' := s'.drawn) (t' := s'.toks) I1 hP (fun b u hb e => hm.heap b u (nwr b u e) (hk5 b u (keep3 b u hb e)))
            (by rw [← em]; exact hm.heap P _ (nwr P _ hPs) (hk5 P _ hP3)) (AllBare.movedS (I1.bare.push hgb) hm)
          rw [sh_eta s1 s' hm.os] at J
          refine ⟨upd H1 P (.tbl (ps ++ more)), ⟨⟨ps ++ more, upd_same, by rw [← em]; exact ht3⟩, fun b hb => upd_ne hb⟩, J⟩
    refine ⟨lim2, ?_⟩
    cases hf : codeAmong gpos ps.toList with
    | none =>
      refine wpAny_genexprCodeX hcode (cd.code hP2 ht) (cd.tab hP2) hf fun c' h' tk hx hge hlt hco' _ htab' _ => ?_
      obtain ⟨o1, vs, f1, tf, fl, tg, inF, tx, tt, op, _, _, _, _, _, _, _, _, _, htr, _⟩ := hco'
      exact cont _ h' tk _ hx (Nat.le_trans hge (Nat.le_of_lt hlt)) htab'.2 ⟨_, rfl⟩ htr
    | some cv =>
      refine wpAny_genexprCode_hit hcode (cd.code hP2 ht) hf ?_
      exact cont cv h2 s1.toks ps (Heap.ExtBut.refl _ _) (Nat.le_refl _) hP2 ⟨#[], by simp⟩ ht
/-- the first entry that the test lets pass, or the default -/
def FirstOf (pb : Int → Bool) (l : List Int) (d r : Int) : Prop :=
  ((∀ (j : Nat) (z : Int), l[j]? = some z → pb z = false) ∧ r = d) ∨ ∃ i : Nat, l[i]? = some r ∧ pb r = true ∧ ∀ (j : Nat) (y : Int), j < i → l[j]? = some y → pb y = false
end
end GenNx

set_option Elab.async false
set_option linter.all false
set_option maxRecDepth 100000
set_option maxHeartbeats 2000000
/-! next(x for x in xs if .., default), xs a list of ints -/
namespace GenNl
open PySem PySem.Spec PyProof.Rows L2 GxR EnumT GenNx
section
variable {X : Cx} {pins : List (Addr × Obj)} {σ : L2.St} {H : Hp} {s : Shared}
theorem gen_name {c P : Addr} {e ct : Expr} {x : Str} {px gpos : Pos} {scope : Scope} {pb : Int → Bool} {te : TE} {k : Nat} {p1 : Pos} {Q' : Value → Shared → Prop} {R : Addr → List Int → Hp → Prop}
    (hr : Room k X.A) (TB : TabB X.base X.mg c P) (hcode : X.env.code = .ref c) (S : GenS X.env scope x) (he : PE X e te)
    (htest : TestI X.prog X.w scope x ct pb) (hda : (x == ("__debug__" : Str)) = false)
    (hs : ∀ v, genFold e X.env v = pure v) (I : Inv X pins σ H s) (h : te σ H fun v H1 => ∃ (t : Addr) (l : List Int), v = .ref t ∧ SqL X.K H1 t (l.map V.int) ∧ TabG H1 P ∧ R t l H1)
    (hQ : ∀ t l H1 g s5, R t l H1 → ReadyN X pins σ H1 P (passing (pzL pb l) l.length 0) (fun i y => ∃ z u, l[i]? = some z ∧ y = .int z u) g s5 → Q' (.ref g) s5) :
    wpAny (model X.prog X.w) X.A (eval (.GeneratorExp (.Name x p1) [⟨.Name x px, e, [ct], 0⟩] scope gpos) X.env) Q' X.xe s := by
  refine wpAny_GeneratorExp_walksQ hr.hd S.co (closure_ok S.free) S.cell S.dot S.loc S.kind (by have := hr.dp; omega) ?_ hs
  refine thn (he.run pins s σ H _ I h) fun us s1 hv => ?_
  obtain ⟨vs, H1, I1, r1, t, l, rfl, hq, ⟨ps, hP, ht⟩, q1⟩ := hv
  obtain rfl : us = Value.ref t := r1
  · skip
    obtain ⟨its, rv, p0, hz⟩ := I1.list hq
    have p' := p0.isList
    have pT : s1.heap.IsList t its.toArray := p'
    have hlt : t < s1.heap.objs.size := by obtain ⟨_, ho, _⟩ := p'; exact Heap.lt_size ho
    refine wpAny_pyIter_list pT ?_
    have hk2 : ∀ b o, s1.heap.get? b = some o → (s1.heap.push { cls := .type "list_iterator", data := .fields #[.ref t, .int 0 0] }).get? b = some o := fun b o z => Heap.get?_push_of_some _ z
    have hit : (s1.heap.push { cls := .type "list_iterator", data := .fields #[.ref t, .int 0 0] }).IsListIter s1.heap.objs.size t 0 := ⟨_, Heap.get?_push_size _ rfl, rfl, rfl⟩
    have hsz2 : (s1.heap.push { cls := .type "list_iterator", data := .fields #[.ref t, .int 0 0] }).objs.size = s1.heap.objs.size + 1 := Heap.size_push ..
    generalize s1.heap.push { cls := .type "list_iterator", data := .fields #[.ref t, .int 0 0] } = h2 at hk2 hit hsz2 ⊢
    have hPs : s1.heap.get? P = some { cls := .none, data := .fields ps } := I1.hok P _ hP
    have hPlt : P < s1.heap.objs.size := Heap.lt_size hPs
    have hP2 : h2.get? P = some { cls := .none, data := .fields ps } := hk2 _ _ hPs
    have cd : PySem.W.CodeHd h2 c P := TB.code.keeps fun b u e => hk2 _ _ (I1.bk b u e)
    have lim2 : h2.NoLimit := I1.nolimit.keeps hk2
    have hll := rv.length
    rw [List.length_map] at hll
    have tP : t ≠ P := fun z => by
      obtain ⟨o, ho, _, n, hd⟩ := pT
      rw [z, hPs] at ho
      cases ho
      cases hd
    have hzn : its.toArray.size = l.length := by rw [List.size_toArray]; omega
    have WT : ∀ A' : Around, A'.handled = none → Walks X.prog X.w A' s1.heap.objs.size _ _ _ _ _ := fun A' hA => Walks.list (prog := X.prog) (w := X.w) (A := A') hA s1.heap.objs.size t (Nat.ne_of_lt hlt) its.toArray
    have cont : ∀ (code : Value) (h3 : Heap) (tk : Nat) (ps' : Array Value), Heap.ExtBut P h2 h3 → h2.objs.size ≤ h3.objs.size → h3.get? P = some { cls := .none, data := .fields ps' } → (∃ more, ps' = ps ++ more) → TriplesOk ps'.toList →
        wpAny (model X.prog X.w) X.A (builtinsFor X.env.globals X.env.builtins) (fun bi s₄ =>
          ∃ Ia fp wr n₀ Pf St₀ pz F, Value.ref s1.heap.objs.size = .ref Ia ∧ (∀ A' : Around, A'.handled = none → Walks X.prog X.w A' Ia fp wr n₀ Pf St₀) ∧ St₀ 0 s₄.heap ∧ (∀ b ∈ fp, b < s₄.heap.objs.size) ∧ s₄.heap.NoLimit ∧ cStatics ∉ wr ∧
            (∀ href : Heap, (∀ b o, s₄.heap.get? b = some o → href.get? b = some o) →
              QuietGen X.prog X.w (genEnv scope (cloFrom X.env.cells scope.names []) s₄.heap.objs.size code bi X.env) x [ct] (.Name x p1) (List.range s₄.heap.objs.size) wr Pf pz F href) ∧
            (∀ a h₅ tk gs, gs.bare = true → s₄.heap.objs.size < a → h₅.objs.size = a + 1 → (∀ b o, s₄.heap.get? b = some o → h₅.get? b = some o) →
              WalksS X.prog X.w X.A.in4 a (a :: s₄.heap.objs.size :: List.range s₄.heap.objs.size) (s₄.heap.objs.size :: wr) (GenOnlyQ s₄.gens.size) (passing pz n₀ 0).length
                (fun j y => ∃ i, (passing pz n₀ 0)[j]? = some i ∧ F i y) (GenAt X.prog X.w X.A.in4 a s₄.gens.size s₄.heap.objs.size (List.range s₄.heap.objs.size) wr pz n₀ F) →
              GenAt X.prog X.w X.A.in4 a s₄.gens.size s₄.heap.objs.size (List.range s₄.heap.objs.size) wr pz n₀ F 0 { s₄ with gens := s₄.gens.push gs, toks := tk, heap := h₅ } →
              Q' (.ref a) { s₄ with gens := s₄.gens.push gs, toks := tk, heap := h₅ })) X.xe { s1 with heap := h3, toks := tk } := by
      intro code h3 tk ps' hx hsz hP3 hmore ht3
      obtain ⟨bm, ob, e1, e2, e3, e4, e5, e6, e7, e8⟩ := TB.bm
      have hcP : cStatics ≠ P := fun e => by
        obtain ⟨_, hns, _⟩ := I1.nolimit
        obtain ⟨o', es, ep, ho, hd, _⟩ := hns
        rw [e, hPs] at ho
        cases ho
        cases hd
      have hcl : cStatics < s1.heap.objs.size := let ⟨_, hns, _⟩ := I1.nolimit; hns.lt
      have keep3 : ∀ b u, b ≠ P → s1.heap.get? b = some u → h3.get? b = some u := fun b u hb e => hx b u hb (hk2 _ _ e)
      have iP : s1.heap.objs.size ≠ P := fun z => Nat.lt_irrefl _ (z ▸ hPlt)
      have off : ∀ b, b < s1.heap.objs.size → b ∉ [s1.heap.objs.size] := fun b hb hm => by
        have hm' : b = s1.heap.objs.size := by simpa using hm
        exact Nat.ne_of_lt hb hm'
      refine wpAny_builtinsFor (m := X.mg) (by rw [I1.ok.glob]; exact (((I1.mod.glob.keeps I1.bk).keeps hk2).extBut hx TB.gP)) e1 e2 (keep3 _ _ e4 (I1.bk _ _ e5)) e6 e7 e8 ?_
      refine ⟨s1.heap.objs.size, _, _, _, _, _, pzL pb l, (fun i y => ∃ z u, l[i]? = some z ∧ y = .int z u), rfl, WT, ⟨hit.at fun o q => hx _ o iP q, pT.at fun o q => keep3 _ o tP q⟩, ?_, lim2.extBut hx hcP, off _ hcl, ?_, ?_⟩
      · intro b hb
        have hb' : b = s1.heap.objs.size ∨ b = t := by simpa using hb
        show b < h3.objs.size
        rcases hb' with z | z
        · rw [z]
          show s1.heap.objs.size < h3.objs.size
          omega
        · rw [z]
          exact Nat.lt_of_lt_of_le hlt (show s1.heap.objs.size ≤ h3.objs.size by omega)
      · intro href hhref
        refine ⟨fun A' E' i v s₂ m₂ hA hPv hn hm hk => ?_, fun A' E' i v s₂ m₂ hA hPv hp hn hm hk => ?_⟩
        · have hxi' : its[i]? = some v := by simpa using hPv
          obtain ⟨z, t2, hz1, rfl⟩ := int_item rv hxi'
          refine one_if (wpAny_mono (htest _ A' E' z t2 s₂ m₂ rfl hn hm) (fun ok s3 q => ⟨?_, q.2⟩) fun _ _ e => e)
          rw [pzL_some hz1]
          exact q.1
        · have hxi' : its[i]? = some v := by simpa using hPv
          obtain ⟨z, t2, hz1, rfl⟩ := int_item rv hxi'
          exact wpAny_mono (elt_name (scope := scope) rfl S.kind S.loc hn hm hda) (fun y s3 q => ⟨⟨z, t2, hz1, q.1⟩, q.2⟩) fun _ _ e => e
      · intro g h5 tk5 gs hgb hag hsz5 hk5 W5 hat
        rw [hzn] at W5
        refine hQ t l H1 g _ q1 ⟨_, _, _, _, W5.in4_1, ?_, hat.1.typeIs, fun s' hm => ?_⟩
        · rw [hzn] at hat
          exact hat
        · obtain ⟨more, em⟩ := hmore
          have nwr : ∀ b u, s1.heap.get? b = some u → b ∉ h3.objs.size :: [s1.heap.objs.size] := fun b u e hb => by
            have hl := Heap.lt_size e
            rcases List.mem_cons.mp hb with z | z
            · rw [z] at hl
              have h9 : (h3.objs.size : Nat) < s1.heap.objs.size := hl
              omega
            · exact off b hl z
          have J := inv_tab (more := more) (h' := s'.heap) (g' := s'.gens) (d' := s'.drawn) (t' := s'.toks) I1 hP (fun b u hb e => hm.heap b u (nwr b u e) (hk5 b u (keep3 b u hb e)))
            (by rw [← em]; exact hm.heap P _ (nwr P _ hPs) (hk5 P _ hP3)) (AllBare.movedS (I1.bare.push hgb) hm)
          rw [sh_eta s1 s' hm.os] at J
          refine ⟨upd H1 P (.tbl (ps ++ more)), ⟨⟨ps ++ more, upd_same, by rw [← em]; exact ht3⟩, fun b hb => upd_ne hb⟩, J⟩
    refine ⟨lim2, ?_⟩
    cases hf : codeAmong gpos ps.toList with
    | none =>
      refine wpAny_genexprCodeX hcode (cd.code hP2 ht) (cd.tab hP2) hf fun c' h' tk hx hge hlt hco' _ htab' _ => ?_
      obtain ⟨o1, vs, f1, tf, fl, tg, inF, tx, tt, op, _, _, _, _, _, _, _, _, _, htr, _⟩ := hco'
      exact cont _ h' tk _ hx (Nat.le_trans hge (Nat.le_of_lt hlt)) htab'.2 ⟨_, rfl⟩ htr
    | some cv =>
      refine wpAny_genexprCode_hit hcode (cd.code hP2 ht) hf ?_
      exact cont cv h2 s1.toks ps (Heap.ExtBut.refl _ _) (Nat.le_refl _) hP2 ⟨#[], by simp⟩ ht
/-- next((x for x in e if test of x), d) -/
def tNextL (K : PySem.W.Frag) (P : Addr) (pb : Int → Bool) (d : Int) (te : TE) : TE := fun σ H Q => te σ H fun v H1 => ∃ (t : Addr) (l : List Int), v = .ref t ∧ SqL K H1 t (l.map V.int) ∧ TabG H1 P ∧ ∀ r H2, FirstOf pb l d r → Tabbed P H1 H2 → Q (.int r) H2
theorem pe_nextL {c P : Addr} {e ct : Expr} {x : Str} {px gpos p pos dp : Pos} {jd : Nat} {scope : Scope} {pb : Int → Bool} {d : Int} {te : TE} {k : Nat} {p1 : Pos}
    (hr : Room k X.A) (hgn : Gl X "next") (hmn : X.mg "next" = none) (TB : TabB X.base X.mg c P) (hcode : X.env.code = .ref c) (S : GenS X.env scope x) (he0 : PE X e te)
    (htest : TestI X.prog X.w scope x ct pb) (hda : (x == ("__debug__" : Str)) = false := by decide)
    (hs : ∀ v, genFold e X.env v = pure v := by intro _; rfl)
    (he : starEach [.GeneratorExp (.Name x p1) [⟨.Name x px, e, [ct], 0⟩] scope gpos, .Constant (.int d) jd dp] X.env
      = (false, eval (.GeneratorExp (.Name x p1) [⟨.Name x px, e, [ct], 0⟩] scope gpos) X.env) :: starEach [.Constant (.int d) jd dp] X.env := by rfl)
    (he2 : starEach [.Constant (.int d) jd dp] X.env = [(false, eval (.Constant (.int d) jd dp) X.env)] := by rfl) :
    PE X (.Call (.Name "next" p) [.GeneratorExp (.Name x p1) [⟨.Name x px, e, [ct], 0⟩] scope gpos, .Constant (.int d) jd dp] [] pos) (tNextL X.K P pb d te) := by
  refine ⟨fun pins s σ H Q I h => ?_⟩
  refine wpAny_Call_Name_kw (ld_blt I hgn hmn boot_next ?_)
  refine PyProof.Rows.callWith_builtin1 ?_ he (by rw [he2]; rfl)
  rw [he, he2]
  show wpAny _ _ (spliced ((false, eval (.GeneratorExp (.Name x p1) [⟨.Name x px, e, [ct], 0⟩] scope gpos) X.env) :: (false, eval (.Constant (.int d) jd dp) X.env) :: [])) _ _ s
  refine Calls.spliced_cons (gen_name (R := fun t l H1 => ∀ r H2, FirstOf pb l d r → Tabbed P H1 H2 → Q (.int r) H2) hr TB hcode S he0 htest hda hs I h fun t l H1 g s5 hR hG => ?_)
  refine Calls.spliced_cons (wpAny_Constant_int (Calls.spliced_nil ?_))
  obtain ⟨fp, wr, G, St, W, hst5, hT, hI⟩ := hG
  have back : ∀ {s'}, Moved wr G { s5 with toks := s5.toks + 1 } s' → Moved wr G s5 s' := fun m => ⟨m.heap, m.gens, m.drawn, m.os, Nat.le_trans (Nat.le_succ _) m.toks⟩
  refine call_next_walkS W hT (W.frame 0 s5 s5.heap (s5.toks + 1) hst5 (Nat.le_succ _) fun _ _ _ z => z) (fun v s' hn hv hmv => ?_) (fun s' hn hmv => ?_)
  · obtain ⟨H2, hTb, J⟩ := hI s' (back hmv)
    obtain ⟨i, hi, y, u, hy, rfl⟩ := hv
    obtain ⟨z, hz1, hz2, hz3⟩ := passing_first hi
    rw [hy] at hz1
    cases hz1
    exact ⟨.int y, H2, J, ⟨u, rfl⟩, hR y H2 (.inr ⟨i, hy, hz2, hz3⟩) hTb⟩
  · obtain ⟨H2, hTb, J⟩ := hI s' (back hmv)
    exact ⟨.int d, H2, J, ⟨_, rfl⟩, hR d H2 (.inl ⟨passing_nil hn, rfl⟩) hTb⟩
end
end GenNl

set_option Elab.async false
set_option linter.all false
set_option maxRecDepth 100000
set_option maxHeartbeats 2000000
/-! HookG's Hook over a lesser fragment: what the globals name, what is named by that, and so on; a function names its code and its defaults only -/
namespace HookG
open PySem PySem.Spec PyProof.Rows L2 He
def refsW (o : Obj) : List Addr := match o.data with
  | .func fd => refV fd.code ++ refV fd.defaults ++ refV fd.kwdefaults
  | _ => refsD o
def nxtW (g : Addr → Option Obj) (as : List Addr) : List Addr := as.flatMap fun a => match g a with
  | some o => refsW o
  | none => []
def levW (g : Addr → Option Obj) : Nat → List Addr → List Addr
  | 0, as => as
  | n + 1, as => as ++ levW g n (nxtW g as)
def asW (g : Addr → Option Obj) (n : Nat) : List Addr := levW g n [mainGlobals] ++ [cStatics]
end HookG

set_option Elab.async false
set_option linter.all false
set_option maxRecDepth 100000
set_option maxHeartbeats 2000000
/-! HookW's Hook with defs that hold generator expressions: their code objects, the tables of these, empty at the start and left out of the fragment -/
namespace HookT
open PySem PySem.Spec PyProof.Rows L2 He HookG
/-- the code object of the function at a -/
def codA (K : PySem.W.Frag) (a : Addr) : Addr := match K.lookup a with
  | some ⟨_, _, .func fd, _⟩ => (match fd.code with
    | .ref c => c
    | _ => 0)
  | _ => 0
theorem code_of {K : PySem.W.Frag} {x qual : Str} {params : Arguments} {body : List Stmt} {scope : Scope} {dvs : List V} {kws : List (Str × V)} {f : Addr} {fd : FuncData} (F : FunD K x qual params body scope dvs kws f fd) : fd.code = .ref (codA K f) := by
  obtain ⟨oc, od, dV, kV, doc, pm, an, cdv, ct, osl, rfl, lk, hcd, _, _⟩ := F.ex
  obtain ⟨c, rfl⟩ := codeIn_ref hcd
  unfold codA
  rw [lk] <;> rfl
/-- FunD.ok with the code object known -/
theorem okC {P : Program} {w : World} {K : PySem.W.Frag} {mg : Str → Option Value} {base : Heap} {x qual : Str} {params : Arguments} {body : List Stmt} {scope : Scope} {dvs : List V} {kws : List (Str × V)} {f : Addr} {fd : FuncData} {CX : CXT} {N ps : List Str} {k : Nat} {sp : Sp}
    (F : FunD K x qual params body scope dvs kws f fd) (S : FnScope N ps scope) (len : ∀ vs H Q E, sp vs H Q E → vs.length = ps.length)
    (hbody : ∀ (A : Around) (outer : List Env) (s : Shared) (H : Hp) (vs : List V) (Q : VK) (E : XK), Room k (A.deeper (envOfC qual scope s.heap.objs.size f fd.code)) → sp vs H Q E →
      ∃ t, PSs (cxOf CX P w K mg base N qual scope f fd.code A outer s H E) body t ∧ t { nx := fun _ H' => Q .non H', rt := Q } (start N vs) H) : FnOk P w K mg base CX (k + 1) f fd ps sp := by
  obtain ⟨oc, od, dV, kV, doc, pm, an, cdv, ct, osl, rfl, lk, hcd, _, _⟩ := F.ex
  exact fn_of lk hcd S len fun A outer s H vs Q E hr hsp => hbody A outer s H vs Q E hr hsp
def cTA (K : PySem.W.Frag) (p : At) : Addr × Addr := (codA K (p.adr K), tabOf K (codA K (p.adr K)))
structure SaysGT (fa : List Fa) (fn : List GD) (tf : List At) (ex : PySem.W.Frag → Bool) (h : Heap) (K : PySem.W.Frag) : Prop where
  g : SaysG fa fn ex K
  hd : ∀ p ∈ tf, PySem.W.codeHdIn K (cTA K p).1 (cTA K p).2 = true
  out : ∀ p ∈ tf, K.lookup (cTA K p).2 = none
  empty : ∀ p ∈ tf, h.get? (cTA K p).2 = some { cls := .none, data := .fields #[] }
def tabsB (g : Addr → Option Obj) (tf : List At) (K : PySem.W.Frag) : Bool := tf.all fun p => PySem.W.codeHdIn K (cTA K p).1 (cTA K p).2 && (match g (cTA K p).2 with
  | some o => emptyTab o
  | none => false)
abbrev AlGT : Type := AlG × Bool
def obsGT (n : Nat) (fa : List Fa) (fn : List GD) (tf : List At) (ex : PySem.W.Frag → Bool) (g : Addr → Option Obj) : AlGT := (obsG fa fn ex (frT g (asW g n)), tabsB g tf (frT g (asW g n)))
theorem saysGT_of {n : Nat} {fa : List Fa} {fn : List GD} {tf : List At} {ex : PySem.W.Frag → Bool} {h : Heap} (e : obsGT n fa fn tf ex h.get? = (valG fn, true)) : SaysGT fa fn tf ex h (frT h.get? (asW h.get? n)) := by
  have e1 : obsG fa fn ex (frT h.get? (asW h.get? n)) = valG fn := congrArg (fun z : AlGT => z.1) e
  have e2 : tabsB h.get? tf (frT h.get? (asW h.get? n)) = true := congrArg (fun z : AlGT => z.2) e
  have key : ∀ p ∈ tf, PySem.W.codeHdIn (frT h.get? (asW h.get? n)) (cTA (frT h.get? (asW h.get? n)) p).1 (cTA (frT h.get? (asW h.get? n)) p).2 = true ∧ ∃ o, h.get? (cTA (frT h.get? (asW h.get? n)) p).2 = some o ∧ emptyTab o = true := fun p hp => by
    obtain ⟨h3, h4⟩ := ba (List.all_eq_true.mp e2 p hp)
    refine ⟨h3, ?_⟩
    cases q : h.get? (cTA (frT h.get? (asW h.get? n)) p).2 with
    | none =>
      rw [q] at h4
      cases h4
    | some o =>
      rw [q] at h4
      exact ⟨o, rfl, h4⟩
  exact ⟨e1, fun p hp => (key p hp).1, fun p hp => by
    obtain ⟨_, o, q, z⟩ := key p hp
    exact frT_none q z, fun p hp => by
    obtain ⟨_, o, q, z⟩ := key p hp
    rw [q, emptyTab_eq z]⟩
def hookT (n : Nat) (fa : List Fa) (fn : List GD) (tf : List At) (ex : PySem.W.Frag → Bool) : PySem.W.Hook where
  α := AlGT
  obs := fun s => obsGT n fa fn tf ex s.heap.get?
  val := fun _ => (valG fn, true)
  says := fun _ h => ∃ K : PySem.W.Frag, K.In h ∧ SaysGT fa fn tf ex h K
  of := fun _ _ e => ⟨_, frT_in, saysGT_of e⟩
  keeps := fun _ _ _ ⟨K, hK, c⟩ k => ⟨K, PySem.W.Frag.In.keeps hK k, ⟨c.g, c.hd, c.out, fun p hp => k _ _ (c.empty p hp)⟩⟩
theorem obsGT_eq {n : Nat} {fa : List Fa} {fn : List GD} {tf : List At} {ex : PySem.W.Frag → Bool} {g : Addr → Option Obj} {s : Shared} (h : ∀ a, g a = s.heap.get? a) : obsGT n fa fn tf ex g = (hookT n fa fn tf ex).obs s := by
  have e : g = s.heap.get? := funext h
  rw [e] <;> rfl
/-- a table at the start -/
theorem tabG0 {H : Hp} {P : Addr} (h : H P = some (.tbl #[])) : GxR.TabG H P := ⟨#[], h, True.intro⟩
end HookT

set_option Elab.async false
set_option linter.all false
set_option maxRecDepth 100000
set_option maxHeartbeats 2000000
/-! any of a list of ints -/
namespace OwnF
open PySem PySem.Spec PyProof.Rows L2 SlX OwnR
section
variable {X : Cx}
end
end OwnF

set_option Elab.async false
set_option linter.all false
set_option maxRecDepth 100000
set_option maxHeartbeats 2000000
/-! a comprehension over enumerate(t), t a tuple -/
namespace EnumT
open PySem PySem.Spec PyProof.Rows L2
theorem lc_enumT {K : PySem.W.Frag} {a : Addr} {xs : List V} {g : TG} {tt : TT} {te : TE} {vs : List Nat} {σ : L2.St} {H1 : Hp} {D : Addr} {Qd : Hp → Prop} (Pv : Nat → Hp → Prop) (h0 : Pv 0 (upd H1 D (.lst []))) (hq : ∀ i H, i ≤ xs.length → Pv i H → SqT K H a xs)
    (hs : ∀ (i : Nat) (x : V) (T : Addr) (H : Hp), xs[i]? = some x → Pv i H → H T = none → g (.ref T) (wipe σ vs) (upd H T (.tup [.int (i : Nat), x])) fun σ2 H2 => wipe σ2 vs = wipe σ vs ∧ tt σ2 H2 fun b H3 =>
      if b = true then te σ2 H3 fun y H4 => ∃ acc, H4 D = some (.lst acc) ∧ acc.length < sizeLine ∧ Pv (i + 1) (upd H4 D (.lst (acc ++ [y]))) else Pv (i + 1) H3) (hd : ∀ H, Pv xs.length H → Qd H) :
    ∃ W : Nat → Nat → Hp → Prop, (∃ m, W 0 m (upd H1 D (.lst []))) ∧ ∀ i m H, W i m H →
      ((IteT K a).stop i H ∧ Qd H) ∨ ((IteT K a).go i H ∧ ∃ Nx : Hp → Prop, (∀ H', Nx H' → ∃ m', m' < m ∧ W (i + 1) m' H') ∧ ∀ x H', (IteT K a).yld i H x H' → g x (wipe σ vs) H' fun σ2 H2 => wipe σ2 vs = wipe σ vs ∧ tt σ2 H2 fun b H3 =>
        if b = true then te σ2 H3 fun y H4 => ∃ acc, H4 D = some (.lst acc) ∧ acc.length < sizeLine ∧ Nx (upd H4 D (.lst (acc ++ [y]))) else Nx H3) := by
  refine ⟨fun i m H => m = xs.length - i ∧ i ≤ xs.length ∧ Pv i H, ⟨xs.length, by simp, Nat.zero_le _, h0⟩, ?_⟩
  rintro i m H ⟨rfl, hi, p⟩
  have qx := hq i H hi p
  by_cases hlt : i < xs.length
  · have hx : xs[i]? = some xs[i] := List.getElem?_eq_getElem hlt
    refine .inr ⟨⟨xs, _, qx, hx⟩, Pv (i + 1), fun H' p' => ⟨xs.length - (i + 1), by omega, rfl, hlt, p'⟩, fun v H' y => ?_⟩
    obtain ⟨T, x', rfl, hT, rfl, f1⟩ := y
    exact hs i x' T H (f1 xs qx) p hT
  · have e : i = xs.length := by omega
    subst e
    exact .inl ⟨⟨xs, qx, rfl⟩, hd H p⟩
end EnumT

set_option Elab.async false
set_option linter.all false
set_option maxRecDepth 100000
set_option maxHeartbeats 2000000
/-! tuple(x) of an instance with own __iter__ (an iterator over a tuple) and own __len__ -/
namespace OwnR
open PySem PySem.Spec PyProof.Rows L2 SlX
section
variable {X : Cx} {CX : CXT} {pins : List (Addr × Obj)} {σ : L2.St} {H : Hp} {s : Shared} {C g gl t it q : Addr} {n i : Nat} {sp spl : Sp} {E : XK}
end
section
variable {X : Cx} {C g gl : Addr} {n : Nat} {sp spl : Sp} {fd fdl : FuncData} {ps psl : List Str}
end
end OwnR

set_option Elab.async false
set_option linter.all false
set_option maxRecDepth 100000
set_option maxHeartbeats 4000000
/-! tuple * int, the int 1, too: the same tuple -/
namespace RepT
open PySem PySem.Spec PyProof.Rows L2
theorem tuple_mul1 (l : Addr) (items : Array Value) (n : Nat) (dd : Option Addr) (sl : Array (Option Value)) (u : Tok) :
    Meets (Builtin.«tuple.__mul__» ⟨[.ref l, .int 1 u], []⟩) (fun _ R s => s.heap.get? l = some { cls := .type "tuple", dict := dd, data := .seq items n, slots := sl } ∧ R (.ok (.ret (Value.ref l))) s) :=
  .of_wp fun prog w A R s h => by
    obtain ⟨hp, g, d, tk, os⟩ := s
    obtain ⟨hl, h⟩ := h
    have f1 := AutoSeq1.idx_int
    have hT : Shared.TypeIs ⟨hp, g, d, tk, os⟩ (.ref l) "tuple" := ⟨_, hl, rfl⟩
    have c1 : (items.isEmpty || (1 : Int) == 1) = true := by rw [show ((1 : Int) == 1) = true from rfl, Bool.or_true]
    wp_walk using AutoSeq1.wpAny_loadPart' hl, wpAny_typeOf hT
    repeat (first
      | (refine wpAny_ite_true (by rw [c1]) ?_; wp_walk using AutoSeq1.wpAny_loadPart' hl, wpAny_typeOf hT))
    exact ⟨_, rfl, h⟩
def rRep1 (K : PySem.W.Frag) : R2 := fun x y H Q => (∃ l xs, x = .ref l ∧ y = .int 1 ∧ SqT K H l xs ∧ Q (.ref l) H) ∨ rRepT K x y H Q
theorem op_rep1 {X : Cx} : OpR X (binaryOp .Mult) (rRep1 X.K) := by
  intro pins s σ H x y v u Q I rx ry h
  rcases h with h | h
  · obtain ⟨l, xs, rfl, rfl, hT, q⟩ := h
    cases rx
    obtain ⟨t, rfl⟩ := ry
    obtain ⟨its, r, ⟨⟨cls, dd, data, sl⟩, ho, hc, n, hd⟩, hs⟩ := I.tuple hT
    simp only at hc hd
    subst hc hd
    refine wpAny_binaryOp_repeat_ref (T := "tuple") (U := "int") (by decide) ⟨_, ho, rfl⟩ (fun s' => typeIs_int s' 1 t) noFill_tuple_mul F.fills_int_mul F.slot_int_rmul repeat_tuple F.slot_int_index.lookup
      (call_meets F.slot_int_rmul (typeIs_int s 1 t) F.entry_int_rmul (F.args_int_rmul_2 _ _) (int_rmul_tuple 1 t l its.toArray n dd sl)
        ⟨ho, rfl, ⟨_, ho, rfl⟩, call_meets F.slot_tuple_mul ⟨_, ho, rfl⟩ F.entry_tuple_mul (F.args_tuple_mul_2 _ _) (tuple_mul1 l its.toArray n dd sl t) ⟨ho, ?_⟩⟩)
    exact ⟨.ref l, H, I, rfl, q⟩
  · exact op_repT pins s σ H x y v u Q I rx ry h
end RepT

set_option Elab.async false
set_option linter.all false
set_option maxRecDepth 100000
set_option maxHeartbeats 4000000
/-! tuple * int, the int 0, too: an empty tuple -/
namespace RepZ
open PySem PySem.Spec PyProof.Rows L2 RepT
theorem tuple_mul0 (l : Addr) (items : Array Value) (n : Nat) (dd : Option Addr) (sl : Array (Option Value)) (u : Tok) (hne : items.isEmpty = false) :
    Meets (Builtin.«tuple.__mul__» ⟨[.ref l, .int 0 u], []⟩) (fun _ R s => s.heap.get? l = some { cls := .type "tuple", dict := dd, data := .seq items n, slots := sl } ∧
      R (.ok (.ret (Value.ref s.heap.objs.size))) { s with heap := s.heap.push { cls := Value.type "tuple", data := Data.seq #[] }, toks := s.toks }) :=
  .of_wp fun prog w A R s h => by
    obtain ⟨hp, g, d, tk, os⟩ := s
    obtain ⟨hl, h⟩ := h
    have f1 := AutoSeq1.idx_int
    have c1 : (items.isEmpty || (0 : Int) == 1) = false := by rw [hne]; rfl
    have c2 : (decide ((0 : Int) ≤ 0) || items.isEmpty) = true := by rw [decide_eq_true (Int.le_refl 0)]; rfl
    wp_walk using AutoSeq1.wpAny_loadPart' hl
    repeat (first
      | (refine wpAny_ite_false (decide_eq_false (by rw [c1]; exact Bool.false_ne_true)) ?_; wp_walk using AutoSeq1.wpAny_loadPart' hl)
      | (refine wpAny_ite_true (by rw [c2]) ?_; wp_walk using AutoSeq1.wpAny_loadPart' hl))
    exact ⟨_, rfl, h⟩
def rRep0 (K : PySem.W.Frag) : R2 := fun x y H Q => (∃ l xs, x = .ref l ∧ y = .int 0 ∧ SqT K H l xs ∧ xs ≠ [] ∧ ∀ p, H p = none → Q (.ref p) (upd H p (.tup []))) ∨ rRep1 K x y H Q
theorem op_rep0 {X : Cx} : OpR X (binaryOp .Mult) (rRep0 X.K) := by
  intro pins s σ H x y v u Q I rx ry h
  rcases h with h | h
  · obtain ⟨l, xs, rfl, rfl, hT, hne, q⟩ := h
    cases rx
    obtain ⟨t, rfl⟩ := ry
    obtain ⟨its, r, ⟨⟨cls, dd, data, sl⟩, ho, hc, n, hd⟩, hs⟩ := I.tuple hT
    simp only at hc hd
    subst hc hd
    have hl := r.length
    have he : its.toArray.isEmpty = false := by
      rw [List.isEmpty_toArray]
      cases its with
      | nil =>
        exact absurd (List.length_eq_zero_iff.mp (by simpa using hl)) hne
      | cons => rfl
    refine wpAny_binaryOp_repeat_ref (T := "tuple") (U := "int") (by decide) ⟨_, ho, rfl⟩ (fun s' => typeIs_int s' 0 t) noFill_tuple_mul F.fills_int_mul F.slot_int_rmul repeat_tuple F.slot_int_index.lookup
      (call_meets F.slot_int_rmul (typeIs_int s 0 t) F.entry_int_rmul (F.args_int_rmul_2 _ _) (int_rmul_tuple 0 t l its.toArray n dd sl)
        ⟨ho, rfl, ⟨_, ho, rfl⟩, call_meets F.slot_tuple_mul ⟨_, ho, rfl⟩ F.entry_tuple_mul (F.args_tuple_mul_2 _ _) (tuple_mul0 l its.toArray n dd sl t he) ⟨ho, ?_⟩⟩)
    refine ⟨.ref s.heap.objs.size, _, I.laid (t' := s.toks) (o := .tup []) (fun b ob q => Heap.get?_push_of_some _ q) (Nat.le_refl _) ?_, rfl, q _ (I.hok.fresh (Nat.le_refl _))⟩
    exact ⟨Nat.zero_le _, [], .nil, IsTup.new _ _⟩
  · exact op_rep1 pins s σ H x y v u Q I rx ry h
/-- (c,) * n -/
theorem rep_any {K : PySem.W.Frag} {p0 : Addr} {H : Hp} {n : Nat} {k c : Int} {Q : VK} (h0 : H p0 = some (.tup ([c].map V.int))) (hk : k = (n : Int)) (h2 : n ≤ 1000) (q : ∀ p H', (∀ b o, H b = some o → H' b = some o) → H' p = some (.tup ((List.replicate n c).map V.int)) → Q (.ref p) H') : rRep0 K (.ref p0) (.int k) H Q := by
  subst hk
  have h := SqT.of (K := K) h0
  have up : ∀ p o, H p = none → ∀ b u, H b = some u → upd H p o b = some u := fun p o hp b u e => by
    rw [upd_ne fun z => by rw [z, hp] at e; cases e]
    exact e
  by_cases e0 : n = 0
  · subst e0
    exact .inl ⟨p0, _, rfl, rfl, h, by simp, fun p hp => q p _ (up p _ hp) upd_same⟩
  by_cases e : n = 1
  · subst e
    exact .inr (.inl ⟨p0, _, rfl, rfl, h, q p0 H (fun _ _ e => e) h0⟩)
  · refine .inr (.inr ⟨p0, (n : Int), _, rfl, rfl, h, by simp, by omega, by omega, by simp, fun p hp => q p _ (up p _ hp) ?_⟩)
    rw [upd_same, Int.toNat_natCast]
    show some (HO.tup (List.replicate n [V.int c]).flatten) = some (HO.tup ((List.replicate n (c : Int)).map V.int))
    rw [List.flatten_replicate_singleton, List.map_replicate]
end RepZ

set_option Elab.async false
set_option linter.all false
set_option maxRecDepth 100000
set_option maxHeartbeats 2000000
/-! zip of a list and a tuple -/
namespace ZipX
open PySem PySem.Spec PyProof.Rows L2 RZ
def StX (a b z TI TO i1 i2 : Addr) (i : Nat) (h : Heap) : Prop := IsZip h z TI TO .none ∧ IsPair h TI (.ref i1) (.ref i2) ∧ (∃ x y, IsPair h TO x y) ∧ h.IsListIter i1 a i ∧ h.IsTupleIter i2 b i
section
variable {prog : Program} {w : World} {A : Around} {E : Value → Shared → Prop} {s : Shared}
end
end ZipX

set_option Elab.async false
set_option linter.all false
set_option maxRecDepth 100000
/-! x *= n for ints -/
namespace AugM
open PySem PySem.Spec PyProof.Rows L2 MyR
variable {X : Cx}
theorem ip_mulW : PIp X .Mult (fun x y H Q => ∃ i j, x = .int i ∧ y = .int j ∧ CMulW i j ∧ Q (.int (i * j)) H) := by
  intro pins s σ H x y v u Q I r1 r2 h
  obtain ⟨i, j, e1, e2, hc, q⟩ := h
  subst e1; subst e2
  obtain ⟨t, rfl⟩ := r1
  obtain ⟨t', rfl⟩ := r2
  exact PyProof.Rows.imul_int ⟨.int _, H, I.tok _, ⟨_, rfl⟩, q⟩ hc.ok
end AugM

set_option Elab.async false
set_option linter.all false
set_option maxRecDepth 100000
set_option maxHeartbeats 2000000
/-! l.count(x) of data, sorted(set) of pairs of ints -/
namespace TupC
open PySem PySem.Spec PyProof.Rows L2
section
variable {X : Cx}
end
section
variable {P : Program} {w : World} {A : Around} {E : Value → Shared → Prop} {s : Shared}
end
section
variable {X : Cx}
end
end TupC

set_option Elab.async false
set_option linter.all false
set_option maxRecDepth 100000
/-! max(t) of a tuple of ints -/
namespace MaxT
open PySem PySem.Spec PyProof.Rows L2
section
variable {prog : Program} {w : World} {A : Around} {E : Value → Shared → Prop} {s : Shared}
end
section
variable {X : Cx}
end
end MaxT

set_option Elab.async false
set_option linter.all false
set_option maxRecDepth 100000
set_option maxHeartbeats 4000000
namespace K77
open PySem PySem.Spec PyProof.Rows L2 SlX OwnR OwnF
theorem hu64 {k : Nat} {A : Around} (hr : Room k A) : A.units + 64 < cLine := hr.units
theorem same_upd0 {H : Hp} {p : Addr} {o : HO} (h : H p = none) : Same H (upd H p o) := fun b x e => by
  rw [upd_ne (ne_of_none e h)]
  exact e
def topS (i : Nat) : Stmt := PySem.Challenge.pw_sourceforms_k77_whole_discriminants.main.body.getD i (.Pass ⟨0, 0, 0, 0⟩)
abbrev FnM (K : PySem.W.Frag) (x q : Str) (st : Stmt) (f : Addr) (fd : FuncData) : Prop := FunD K x q (defArgs st) (defBody st) (defScope st) [] [] f fd
abbrev FnP (K : PySem.W.Frag) (x : Str) (st : Stmt) (f : Addr) (fd : FuncData) : Prop := FunD K x x (defArgs st) (defBody st) (defScope st) [] [] f fd
abbrev s_is_whole : Stmt := topS 12
abbrev N_is_whole : List Str := ["value"]
theorem sc_is_whole : FnScope N_is_whole ["value"] (defScope s_is_whole) := ⟨rfl, rfl, rfl, by decide +kernel, rfl, by decide +kernel, by decide +kernel⟩
abbrev s_is_short : Stmt := topS 13
abbrev N_is_short : List Str := ["value"]
theorem sc_is_short : FnScope N_is_short ["value"] (defScope s_is_short) := ⟨rfl, rfl, rfl, by decide +kernel, rfl, by decide +kernel, by decide +kernel⟩
abbrev s_are_short : Stmt := topS 15
abbrev N_are_short : List Str := ["value", "entry"]
theorem sc_are_short : FnScope N_are_short ["value"] (defScope s_are_short) := ⟨rfl, rfl, rfl, by decide +kernel, rfl, by decide +kernel, by decide +kernel⟩
abbrev s_shared_of : Stmt := topS 18
abbrev N_shared_of : List Str := ["numbers", "found", "number"]
theorem sc_shared_of : FnScope N_shared_of ["numbers"] (defScope s_shared_of) := ⟨rfl, rfl, rfl, by decide +kernel, rfl, by decide +kernel, by decide +kernel⟩
abbrev s_first_of : Stmt := topS 19
abbrev N_first_of : List Str := ["numbers"]
theorem sc_first_of : FnScope N_first_of ["numbers"] (defScope s_first_of) := ⟨rfl, rfl, rfl, by decide +kernel, rfl, by decide +kernel, by decide +kernel⟩
abbrev s_primitive_of : Stmt := topS 20
abbrev N_primitive_of : List Str := ["numbers", "part", "number"]
theorem sc_primitive_of : FnScope N_primitive_of ["numbers"] (defScope s_primitive_of) := ⟨rfl, rfl, rfl, by decide +kernel, rfl, by decide +kernel, by decide +kernel⟩
abbrev s_raised_to : Stmt := topS 21
abbrev N_raised_to : List Str := ["number", "many", "found", "turn"]
theorem sc_raised_to : FnScope N_raised_to ["number", "many"] (defScope s_raised_to) := ⟨rfl, rfl, rfl, by decide +kernel, rfl, by decide +kernel, by decide +kernel⟩
abbrev s_swapped_head : Stmt := topS 25
abbrev N_swapped_head : List Str := ["rows", "place", "heads", "at"]
theorem sc_swapped_head : FnScope N_swapped_head ["rows", "place"] (defScope s_swapped_head) := ⟨rfl, rfl, rfl, by decide +kernel, rfl, by decide +kernel, by decide +kernel⟩
abbrev s_whole_determinant : Stmt := topS 26
abbrev N_whole_determinant : List Str := ["rows", "left", "sign", "last", "row", "place", "head", "at", "entry", "taken"]
theorem sc_whole_determinant : FnScope N_whole_determinant ["rows"] (defScope s_whole_determinant) := ⟨rfl, rfl, rfl, by decide +kernel, rfl, by decide +kernel, by decide +kernel⟩
abbrev s_product_in : Stmt := topS 29
abbrev N_product_in : List Str := ["one", "other"]
theorem sc_product_in : FnScope N_product_in ["one", "other"] (defScope s_product_in) := ⟨rfl, rfl, rfl, by decide +kernel, rfl, by decide +kernel, by decide +kernel⟩
abbrev s_joined_entries : Stmt := topS 30
abbrev N_joined_entries : List Str := ["one", "other", "found", "place", "at"]
theorem sc_joined_entries : FnScope N_joined_entries ["one", "other"] (defScope s_joined_entries) := ⟨rfl, rfl, rfl, by decide +kernel, rfl, by decide +kernel, by decide +kernel⟩
abbrev s_derived_in : Stmt := topS 34
abbrev N_derived_in : List Str := ["entries", "one", "other", "found", "turn", "at", "entry"]
theorem sc_derived_in : FnScope N_derived_in ["entries", "one", "other"] (defScope s_derived_in) := ⟨rfl, rfl, rfl, by decide +kernel, rfl, by decide +kernel, by decide +kernel⟩
abbrev s_is_zero_in : Stmt := topS 35
abbrev N_is_zero_in : List Str := ["entries"]
theorem sc_is_zero_in : FnScope N_is_zero_in ["entries"] (defScope s_is_zero_in) := ⟨rfl, rfl, rfl, by decide +kernel, rfl, by decide +kernel, by decide +kernel⟩
abbrev s_are_entries : Stmt := topS 39
abbrev N_are_entries : List Str := ["value"]
theorem sc_are_entries : FnScope N_are_entries ["value"] (defScope s_are_entries) := ⟨rfl, rfl, rfl, by decide +kernel, rfl, by decide +kernel, by decide +kernel⟩
abbrev s_form_of : Stmt := topS 41
abbrev N_form_of : List Str := ["entries"]
theorem sc_form_of : FnScope N_form_of ["entries"] (defScope s_form_of) := ⟨rfl, rfl, rfl, by decide +kernel, rfl, by decide +kernel, by decide +kernel⟩
abbrev s_require_form : Stmt := topS 42
abbrev N_require_form : List Str := ["value"]
theorem sc_require_form : FnScope N_require_form ["value"] (defScope s_require_form) := ⟨rfl, rfl, rfl, by decide +kernel, rfl, by decide +kernel, by decide +kernel⟩
abbrev s_require_two : Stmt := topS 47
abbrev N_require_two : List Str := ["one", "other"]
theorem sc_require_two : FnScope N_require_two ["one", "other"] (defScope s_require_two) := ⟨rfl, rfl, rfl, by decide +kernel, rfl, by decide +kernel, by decide +kernel⟩
abbrev s_sylvester_in : Stmt := topS 48
abbrev N_sylvester_in : List Str := ["one", "other", "m", "n", "rows", "i"]
theorem sc_sylvester_in : FnScope N_sylvester_in ["one", "other"] (defScope s_sylvester_in) := ⟨rfl, rfl, rfl, by decide +kernel, rfl, by decide +kernel, by decide +kernel⟩
abbrev s_resultant_in : Stmt := topS 49
abbrev N_resultant_in : List Str := ["one", "other"]
theorem sc_resultant_in : FnScope N_resultant_in ["one", "other"] (defScope s_resultant_in) := ⟨rfl, rfl, rfl, by decide +kernel, rfl, by decide +kernel, by decide +kernel⟩
abbrev s_require_sylvester : Stmt := topS 50
abbrev N_require_sylvester : List Str := ["one", "other"]
theorem sc_require_sylvester : FnScope N_require_sylvester ["one", "other"] (defScope s_require_sylvester) := ⟨rfl, rfl, rfl, by decide +kernel, rfl, by decide +kernel, by decide +kernel⟩
abbrev s_resultant : Stmt := topS 51
abbrev N_resultant : List Str := ["one", "other"]
theorem sc_resultant : FnScope N_resultant ["one", "other"] (defScope s_resultant) := ⟨rfl, rfl, rfl, by decide +kernel, rfl, by decide +kernel, by decide +kernel⟩
abbrev s_discriminant_in : Stmt := topS 52
abbrev N_discriminant_in : List Str := ["entries", "degree", "whole", "sign"]
theorem sc_discriminant_in : FnScope N_discriminant_in ["entries"] (defScope s_discriminant_in) := ⟨rfl, rfl, rfl, by decide +kernel, rfl, by decide +kernel, by decide +kernel⟩
abbrev s_discriminant : Stmt := topS 53
abbrev N_discriminant : List Str := ["form"]
theorem sc_discriminant : FnScope N_discriminant ["form"] (defScope s_discriminant) := ⟨rfl, rfl, rfl, by decide +kernel, rfl, by decide +kernel, by decide +kernel⟩
abbrev s_cut_line : Stmt := topS 54
abbrev N_cut_line : List Str := ["numbers", "place"]
theorem sc_cut_line : FnScope N_cut_line ["numbers"] (defScope s_cut_line) := ⟨rfl, rfl, rfl, by decide +kernel, rfl, by decide +kernel, by decide +kernel⟩
abbrev s_rest_of : Stmt := topS 55
abbrev N_rest_of : List Str := ["one", "other", "left", "first", "longer", "number", "taken"]
theorem sc_rest_of : FnScope N_rest_of ["one", "other"] (defScope s_rest_of) := ⟨rfl, rfl, rfl, by decide +kernel, rfl, by decide +kernel, by decide +kernel⟩
abbrev s_shared_part : Stmt := topS 56
abbrev N_shared_part : List Str := ["one", "other"]
theorem sc_shared_part : FnScope N_shared_part ["one", "other"] (defScope s_shared_part) := ⟨rfl, rfl, rfl, by decide +kernel, rfl, by decide +kernel, by decide +kernel⟩
abbrev s_exact_quotient : Stmt := topS 57
abbrev N_exact_quotient : List Str := ["one", "other", "left", "found", "factor", "longer", "number", "taken"]
theorem sc_exact_quotient : FnScope N_exact_quotient ["one", "other"] (defScope s_exact_quotient) := ⟨rfl, rfl, rfl, by decide +kernel, rfl, by decide +kernel, by decide +kernel⟩
abbrev s_slope_of : Stmt := topS 58
abbrev N_slope_of : List Str := ["one", "top", "at", "number"]
theorem sc_slope_of : FnScope N_slope_of ["one"] (defScope s_slope_of) := ⟨rfl, rfl, rfl, by decide +kernel, rfl, by decide +kernel, by decide +kernel⟩
abbrev s_ahead_of : Stmt := topS 59
abbrev N_ahead_of : List Str := ["entries"]
theorem sc_ahead_of : FnScope N_ahead_of ["entries"] (defScope s_ahead_of) := ⟨rfl, rfl, rfl, by decide +kernel, rfl, by decide +kernel, by decide +kernel⟩
abbrev s_parts_in : Stmt := topS 60
abbrev N_parts_in : List Str := ["entries", "found", "often", "whole", "rest", "left", "both", "part", "ahead", "many"]
theorem sc_parts_in : FnScope N_parts_in ["entries"] (defScope s_parts_in) := ⟨rfl, rfl, rfl, by decide +kernel, rfl, by decide +kernel, by decide +kernel⟩
abbrev s_plain_entries : Stmt := topS 61
abbrev N_plain_entries : List Str := ["entries", "found", "part"]
theorem sc_plain_entries : FnScope N_plain_entries ["entries"] (defScope s_plain_entries) := ⟨rfl, rfl, rfl, by decide +kernel, rfl, by decide +kernel, by decide +kernel⟩
abbrev s_require_live : Stmt := topS 62
abbrev N_require_live : List Str := ["form"]
theorem sc_require_live : FnScope N_require_live ["form"] (defScope s_require_live) := ⟨rfl, rfl, rfl, by decide +kernel, rfl, by decide +kernel, by decide +kernel⟩
abbrev s_plain_part : Stmt := topS 63
abbrev N_plain_part : List Str := ["form"]
theorem sc_plain_part : FnScope N_plain_part ["form"] (defScope s_plain_part) := ⟨rfl, rfl, rfl, by decide +kernel, rfl, by decide +kernel, by decide +kernel⟩
abbrev s_law_dice : Stmt := topS 65
abbrev N_law_dice : List Str := ["_law_script", "_law_spot", "_law_cell", "_law_left"]
theorem sc_law_dice : FnScope N_law_dice ["_law_script", "_law_spot"] (defScope s_law_dice) := ⟨rfl, rfl, rfl, by decide +kernel, rfl, by decide +kernel, by decide +kernel⟩
abbrev s_law_roll : Stmt := topS 66
abbrev N_law_roll : List Str := ["_law_dice_here", "_law_total", "_law_found", "_law_one", "_law_two"]
theorem sc_law_roll : FnScope N_law_roll ["_law_dice_here", "_law_total"] (defScope s_law_roll) := ⟨rfl, rfl, rfl, by decide +kernel, rfl, by decide +kernel, by decide +kernel⟩
abbrev s_law_near : Stmt := topS 67
abbrev N_law_near : List Str := ["_law_dice_here", "_law_most"]
theorem sc_law_near : FnScope N_law_near ["_law_dice_here", "_law_most"] (defScope s_law_near) := ⟨rfl, rfl, rfl, by decide +kernel, rfl, by decide +kernel, by decide +kernel⟩
abbrev s_law_gcd : Stmt := topS 68
abbrev N_law_gcd : List Str := ["_law_one", "_law_other"]
theorem sc_law_gcd : FnScope N_law_gcd ["_law_one", "_law_other"] (defScope s_law_gcd) := ⟨rfl, rfl, rfl, by decide +kernel, rfl, by decide +kernel, by decide +kernel⟩
abbrev s_law_shared : Stmt := topS 69
abbrev N_law_shared : List Str := ["_law_numbers", "_law_found", "_law_number"]
theorem sc_law_shared : FnScope N_law_shared ["_law_numbers"] (defScope s_law_shared) := ⟨rfl, rfl, rfl, by decide +kernel, rfl, by decide +kernel, by decide +kernel⟩
abbrev s_law_raised : Stmt := topS 70
abbrev N_law_raised : List Str := ["_law_number", "_law_times", "_law_found", "_law_turn"]
theorem sc_law_raised : FnScope N_law_raised ["_law_number", "_law_times"] (defScope s_law_raised) := ⟨rfl, rfl, rfl, by decide +kernel, rfl, by decide +kernel, by decide +kernel⟩
abbrev s_law_plus : Stmt := topS 71
abbrev N_law_plus : List Str := ["_law_one", "_law_other", "_law_first", "_law_second"]
theorem sc_law_plus : FnScope N_law_plus ["_law_one", "_law_other"] (defScope s_law_plus) := ⟨rfl, rfl, rfl, by decide +kernel, rfl, by decide +kernel, by decide +kernel⟩
abbrev s_law_scaled : Stmt := topS 72
abbrev N_law_scaled : List Str := ["_law_form_here", "_law_factor", "_law_entry"]
theorem sc_law_scaled : FnScope N_law_scaled ["_law_form_here", "_law_factor"] (defScope s_law_scaled) := ⟨rfl, rfl, rfl, by decide +kernel, rfl, by decide +kernel, by decide +kernel⟩
abbrev s_law_product : Stmt := topS 73
abbrev N_law_product : List Str := ["_law_one", "_law_other", "_law_found", "_law_place", "_law_at", "_law_first", "_law_second"]
theorem sc_law_product : FnScope N_law_product ["_law_one", "_law_other"] (defScope s_law_product) := ⟨rfl, rfl, rfl, by decide +kernel, rfl, by decide +kernel, by decide +kernel⟩
abbrev s_law_all_product : Stmt := topS 74
abbrev N_law_all_product : List Str := ["_law_forms", "_law_found", "_law_form_here"]
theorem sc_law_all_product : FnScope N_law_all_product ["_law_forms"] (defScope s_law_all_product) := ⟨rfl, rfl, rfl, by decide +kernel, rfl, by decide +kernel, by decide +kernel⟩
abbrev s_law_power : Stmt := topS 75
abbrev N_law_power : List Str := ["_law_pair", "_law_times", "_law_found", "_law_turn"]
theorem sc_law_power : FnScope N_law_power ["_law_pair", "_law_times"] (defScope s_law_power) := ⟨rfl, rfl, rfl, by decide +kernel, rfl, by decide +kernel, by decide +kernel⟩
abbrev s_law_by_x : Stmt := topS 76
abbrev N_law_by_x : List Str := ["_law_form_here", "_law_at", "_law_entry"]
theorem sc_law_by_x : FnScope N_law_by_x ["_law_form_here"] (defScope s_law_by_x) := ⟨rfl, rfl, rfl, by decide +kernel, rfl, by decide +kernel, by decide +kernel⟩
abbrev s_law_by_y : Stmt := topS 77
abbrev N_law_by_y : List Str := ["_law_form_here", "_law_at", "_law_entry"]
theorem sc_law_by_y : FnScope N_law_by_y ["_law_form_here"] (defScope s_law_by_y) := ⟨rfl, rfl, rfl, by decide +kernel, rfl, by decide +kernel, by decide +kernel⟩
abbrev s_law_changed : Stmt := topS 78
abbrev N_law_changed : List Str := ["_law_form_here", "_law_table_here", "_law_found", "_law_entry", "_law_at", "_law_piece"]
theorem sc_law_changed : FnScope N_law_changed ["_law_form_here", "_law_table_here"] (defScope s_law_changed) := ⟨rfl, rfl, rfl, by decide +kernel, rfl, by decide +kernel, by decide +kernel⟩
abbrev s_law_plain : Stmt := topS 79
abbrev N_law_plain : List Str := ["_law_form_here", "_law_part", "_law_first", "_law_entry"]
theorem sc_law_plain : FnScope N_law_plain ["_law_form_here"] (defScope s_law_plain) := ⟨rfl, rfl, rfl, by decide +kernel, rfl, by decide +kernel, by decide +kernel⟩
abbrev s_law_line : Stmt := topS 80
abbrev N_law_line : List Str := ["_law_point_here"]
theorem sc_law_line : FnScope N_law_line ["_law_point_here"] (defScope s_law_line) := ⟨rfl, rfl, rfl, by decide +kernel, rfl, by decide +kernel, by decide +kernel⟩
abbrev s_law_point : Stmt := topS 81
abbrev N_law_point : List Str := ["_law_dice_here", "_law_most", "_law_one", "_law_other"]
theorem sc_law_point : FnScope N_law_point ["_law_dice_here", "_law_most"] (defScope s_law_point) := ⟨rfl, rfl, rfl, by decide +kernel, rfl, by decide +kernel, by decide +kernel⟩
abbrev s_law_small_form : Stmt := topS 82
abbrev N_law_small_form : List Str := ["_law_dice_here", "_law_degree", "_law_most", "_law_place"]
theorem sc_law_small_form : FnScope N_law_small_form ["_law_dice_here", "_law_degree", "_law_most"] (defScope s_law_small_form) := ⟨rfl, rfl, rfl, by decide +kernel, rfl, by decide +kernel, by decide +kernel⟩
abbrev s_law_form : Stmt := topS 83
abbrev N_law_form : List Str := ["_law_dice_here", "_law_degree", "_law_way", "_law_turn", "_law_line_here", "_law_often", "_law_found", "_law_place"]
theorem sc_law_form : FnScope N_law_form ["_law_dice_here", "_law_degree"] (defScope s_law_form) := ⟨rfl, rfl, rfl, by decide +kernel, rfl, by decide +kernel, by decide +kernel⟩
abbrev s_law_table : Stmt := topS 84
abbrev N_law_table : List Str := ["_law_dice_here", "_law_most", "_law_found", "_law_row"]
theorem sc_law_table : FnScope N_law_table ["_law_dice_here", "_law_most"] (defScope s_law_table) := ⟨rfl, rfl, rfl, by decide +kernel, rfl, by decide +kernel, by decide +kernel⟩
abbrev s_law_det : Stmt := topS 85
abbrev N_law_det : List Str := ["_law_table_here"]
theorem sc_law_det : FnScope N_law_det ["_law_table_here"] (defScope s_law_det) := ⟨rfl, rfl, rfl, by decide +kernel, rfl, by decide +kernel, by decide +kernel⟩
abbrev s_law_det_of : Stmt := topS 86
abbrev N_law_det_of : List Str := ["_law_rows", "_law_left", "_law_sign", "_law_last", "_law_row", "_law_place", "_law_heads", "_law_at", "_law_head", "_law_to", "_law_top", "_law_lead", "_law_entry", "_law_taken"]
theorem sc_law_det_of : FnScope N_law_det_of ["_law_rows"] (defScope s_law_det_of) := ⟨rfl, rfl, rfl, by decide +kernel, rfl, by decide +kernel, by decide +kernel⟩
abbrev s_law_two_rows : Stmt := topS 87
abbrev N_law_two_rows : List Str := ["_law_one", "_law_other", "_law_m", "_law_n", "_law_found", "_law_at"]
theorem sc_law_two_rows : FnScope N_law_two_rows ["_law_one", "_law_other"] (defScope s_law_two_rows) := ⟨rfl, rfl, rfl, by decide +kernel, rfl, by decide +kernel, by decide +kernel⟩
abbrev s_law_is_due : Stmt := topS 88
abbrev N_law_is_due : List Str := ["_law_form_here", "_law_told", "_law_degree", "_law_sign"]
theorem sc_law_is_due : FnScope N_law_is_due ["_law_form_here", "_law_told"] (defScope s_law_is_due) := ⟨rfl, rfl, rfl, by decide +kernel, rfl, by decide +kernel, by decide +kernel⟩
abbrev s_law_form_right : Stmt := topS 89
abbrev N_law_form_right : List Str := ["_law_dice_here", "_law_form_here", "_law_degree", "_law_told", "_law_table_here", "_law_other", "_law_both"]
theorem sc_law_form_right : FnScope N_law_form_right ["_law_dice_here"] (defScope s_law_form_right) := ⟨rfl, rfl, rfl, by decide +kernel, rfl, by decide +kernel, by decide +kernel⟩
abbrev s_law_lines_right : Stmt := topS 90
abbrev N_law_lines_right : List Str := ["_law_dice_here", "_law_lines", "_law_turn", "_law_due", "_law_at", "_law_one", "_law_other", "_law_more", "_law_less", "_law_here"]
theorem sc_law_lines_right : FnScope N_law_lines_right ["_law_dice_here"] (defScope s_law_lines_right) := ⟨rfl, rfl, rfl, by decide +kernel, rfl, by decide +kernel, by decide +kernel⟩
abbrev s_law : Stmt := topS 91
abbrev N_law : List Str := ["_law_script", "_law_spot", "_law_dice_here", "_law_forms", "_law_form_here"]
theorem sc_law : FnScope N_law ["_law_script"] (defScope s_law) := ⟨rfl, rfl, rfl, by decide +kernel, rfl, by decide +kernel, by decide +kernel⟩
abbrev s_Told_init : Stmt := inClass (topS 38) 1
abbrev N_Told_init : List Str := ["self", "row"]
theorem sc_Told_init : FnScope N_Told_init ["self", "row"] (defScope s_Told_init) := ⟨rfl, rfl, rfl, by decide +kernel, rfl, by decide +kernel, by decide +kernel⟩
abbrev s_Form_init : Stmt := inClass (topS 40) 1
abbrev N_Form_init : List Str := ["self", "entries"]
theorem sc_Form_init : FnScope N_Form_init ["self", "entries"] (defScope s_Form_init) := ⟨rfl, rfl, rfl, by decide +kernel, rfl, by decide +kernel, by decide +kernel⟩
abbrev s_Form_entries : Stmt := inClass (topS 40) 4
abbrev N_Form_entries : List Str := ["self"]
theorem sc_Form_entries : FnScope N_Form_entries ["self"] (defScope s_Form_entries) := ⟨rfl, rfl, rfl, by decide +kernel, rfl, by decide +kernel, by decide +kernel⟩
abbrev s_Form_degree : Stmt := inClass (topS 40) 5
abbrev N_Form_degree : List Str := ["self"]
theorem sc_Form_degree : FnScope N_Form_degree ["self"] (defScope s_Form_degree) := ⟨rfl, rfl, rfl, by decide +kernel, rfl, by decide +kernel, by decide +kernel⟩
abbrev s_Form_is_zero : Stmt := inClass (topS 40) 6
abbrev N_Form_is_zero : List Str := ["self"]
theorem sc_Form_is_zero : FnScope N_Form_is_zero ["self"] (defScope s_Form_is_zero) := ⟨rfl, rfl, rfl, by decide +kernel, rfl, by decide +kernel, by decide +kernel⟩
abbrev s_Form_eq : Stmt := inClass (topS 40) 18
abbrev s_Form_len : Stmt := inClass (topS 40) 19
abbrev s_Form_iter : Stmt := inClass (topS 40) 20
/-- where the defs stand, what the names of the module are -/
structure Facts (K : PySem.W.Frag) (mg : Str → Option Value) where
  f_is_whole : Addr
  fd_is_whole : FuncData
  F_is_whole : FnP K "is_whole" s_is_whole f_is_whole fd_is_whole
  g_is_whole : mg "is_whole" = some (.ref f_is_whole)
  b_is_whole : Binds K fd_is_whole ["value"] []
  f_is_short : Addr
  fd_is_short : FuncData
  F_is_short : FnP K "is_short" s_is_short f_is_short fd_is_short
  g_is_short : mg "is_short" = some (.ref f_is_short)
  b_is_short : Binds K fd_is_short ["value"] []
  f_are_short : Addr
  fd_are_short : FuncData
  F_are_short : FnP K "are_short" s_are_short f_are_short fd_are_short
  g_are_short : mg "are_short" = some (.ref f_are_short)
  b_are_short : Binds K fd_are_short ["value"] []
  f_shared_of : Addr
  fd_shared_of : FuncData
  F_shared_of : FnP K "shared_of" s_shared_of f_shared_of fd_shared_of
  g_shared_of : mg "shared_of" = some (.ref f_shared_of)
  b_shared_of : Binds K fd_shared_of ["numbers"] []
  f_first_of : Addr
  fd_first_of : FuncData
  F_first_of : FnP K "first_of" s_first_of f_first_of fd_first_of
  g_first_of : mg "first_of" = some (.ref f_first_of)
  b_first_of : Binds K fd_first_of ["numbers"] []
  f_primitive_of : Addr
  fd_primitive_of : FuncData
  F_primitive_of : FnP K "primitive_of" s_primitive_of f_primitive_of fd_primitive_of
  g_primitive_of : mg "primitive_of" = some (.ref f_primitive_of)
  b_primitive_of : Binds K fd_primitive_of ["numbers"] []
  f_raised_to : Addr
  fd_raised_to : FuncData
  F_raised_to : FnP K "raised_to" s_raised_to f_raised_to fd_raised_to
  g_raised_to : mg "raised_to" = some (.ref f_raised_to)
  b_raised_to : Binds K fd_raised_to ["number", "many"] []
  f_swapped_head : Addr
  fd_swapped_head : FuncData
  F_swapped_head : FnP K "swapped_head" s_swapped_head f_swapped_head fd_swapped_head
  g_swapped_head : mg "swapped_head" = some (.ref f_swapped_head)
  b_swapped_head : Binds K fd_swapped_head ["rows", "place"] []
  f_whole_determinant : Addr
  fd_whole_determinant : FuncData
  F_whole_determinant : FnP K "whole_determinant" s_whole_determinant f_whole_determinant fd_whole_determinant
  g_whole_determinant : mg "whole_determinant" = some (.ref f_whole_determinant)
  b_whole_determinant : Binds K fd_whole_determinant ["rows"] []
  f_product_in : Addr
  fd_product_in : FuncData
  F_product_in : FnP K "product_in" s_product_in f_product_in fd_product_in
  g_product_in : mg "product_in" = some (.ref f_product_in)
  b_product_in : Binds K fd_product_in ["one", "other"] []
  f_joined_entries : Addr
  fd_joined_entries : FuncData
  F_joined_entries : FnP K "joined_entries" s_joined_entries f_joined_entries fd_joined_entries
  g_joined_entries : mg "joined_entries" = some (.ref f_joined_entries)
  b_joined_entries : Binds K fd_joined_entries ["one", "other"] []
  f_derived_in : Addr
  fd_derived_in : FuncData
  F_derived_in : FnP K "derived_in" s_derived_in f_derived_in fd_derived_in
  g_derived_in : mg "derived_in" = some (.ref f_derived_in)
  b_derived_in : Binds K fd_derived_in ["entries", "one", "other"] []
  f_is_zero_in : Addr
  fd_is_zero_in : FuncData
  F_is_zero_in : FnP K "is_zero_in" s_is_zero_in f_is_zero_in fd_is_zero_in
  g_is_zero_in : mg "is_zero_in" = some (.ref f_is_zero_in)
  b_is_zero_in : Binds K fd_is_zero_in ["entries"] []
  f_are_entries : Addr
  fd_are_entries : FuncData
  F_are_entries : FnP K "are_entries" s_are_entries f_are_entries fd_are_entries
  g_are_entries : mg "are_entries" = some (.ref f_are_entries)
  b_are_entries : Binds K fd_are_entries ["value"] []
  f_form_of : Addr
  fd_form_of : FuncData
  F_form_of : FnP K "form_of" s_form_of f_form_of fd_form_of
  g_form_of : mg "form_of" = some (.ref f_form_of)
  b_form_of : Binds K fd_form_of ["entries"] []
  f_require_form : Addr
  fd_require_form : FuncData
  F_require_form : FnP K "require_form" s_require_form f_require_form fd_require_form
  g_require_form : mg "require_form" = some (.ref f_require_form)
  b_require_form : Binds K fd_require_form ["value"] []
  f_require_two : Addr
  fd_require_two : FuncData
  F_require_two : FnP K "require_two" s_require_two f_require_two fd_require_two
  g_require_two : mg "require_two" = some (.ref f_require_two)
  b_require_two : Binds K fd_require_two ["one", "other"] []
  f_sylvester_in : Addr
  fd_sylvester_in : FuncData
  F_sylvester_in : FnP K "sylvester_in" s_sylvester_in f_sylvester_in fd_sylvester_in
  g_sylvester_in : mg "sylvester_in" = some (.ref f_sylvester_in)
  b_sylvester_in : Binds K fd_sylvester_in ["one", "other"] []
  f_resultant_in : Addr
  fd_resultant_in : FuncData
  F_resultant_in : FnP K "resultant_in" s_resultant_in f_resultant_in fd_resultant_in
  g_resultant_in : mg "resultant_in" = some (.ref f_resultant_in)
  b_resultant_in : Binds K fd_resultant_in ["one", "other"] []
  f_require_sylvester : Addr
  fd_require_sylvester : FuncData
  F_require_sylvester : FnP K "require_sylvester" s_require_sylvester f_require_sylvester fd_require_sylvester
  g_require_sylvester : mg "require_sylvester" = some (.ref f_require_sylvester)
  b_require_sylvester : Binds K fd_require_sylvester ["one", "other"] []
  f_resultant : Addr
  fd_resultant : FuncData
  F_resultant : FnP K "resultant" s_resultant f_resultant fd_resultant
  g_resultant : mg "resultant" = some (.ref f_resultant)
  b_resultant : Binds K fd_resultant ["one", "other"] []
  f_discriminant_in : Addr
  fd_discriminant_in : FuncData
  F_discriminant_in : FnP K "discriminant_in" s_discriminant_in f_discriminant_in fd_discriminant_in
  g_discriminant_in : mg "discriminant_in" = some (.ref f_discriminant_in)
  b_discriminant_in : Binds K fd_discriminant_in ["entries"] []
  f_discriminant : Addr
  fd_discriminant : FuncData
  F_discriminant : FnP K "discriminant" s_discriminant f_discriminant fd_discriminant
  g_discriminant : mg "discriminant" = some (.ref f_discriminant)
  b_discriminant : Binds K fd_discriminant ["form"] []
  f_cut_line : Addr
  fd_cut_line : FuncData
  F_cut_line : FnP K "cut_line" s_cut_line f_cut_line fd_cut_line
  g_cut_line : mg "cut_line" = some (.ref f_cut_line)
  b_cut_line : Binds K fd_cut_line ["numbers"] []
  f_rest_of : Addr
  fd_rest_of : FuncData
  F_rest_of : FnP K "rest_of" s_rest_of f_rest_of fd_rest_of
  g_rest_of : mg "rest_of" = some (.ref f_rest_of)
  b_rest_of : Binds K fd_rest_of ["one", "other"] []
  f_shared_part : Addr
  fd_shared_part : FuncData
  F_shared_part : FnP K "shared_part" s_shared_part f_shared_part fd_shared_part
  g_shared_part : mg "shared_part" = some (.ref f_shared_part)
  b_shared_part : Binds K fd_shared_part ["one", "other"] []
  f_exact_quotient : Addr
  fd_exact_quotient : FuncData
  F_exact_quotient : FnP K "exact_quotient" s_exact_quotient f_exact_quotient fd_exact_quotient
  g_exact_quotient : mg "exact_quotient" = some (.ref f_exact_quotient)
  b_exact_quotient : Binds K fd_exact_quotient ["one", "other"] []
  f_slope_of : Addr
  fd_slope_of : FuncData
  F_slope_of : FnP K "slope_of" s_slope_of f_slope_of fd_slope_of
  g_slope_of : mg "slope_of" = some (.ref f_slope_of)
  b_slope_of : Binds K fd_slope_of ["one"] []
  f_ahead_of : Addr
  fd_ahead_of : FuncData
  F_ahead_of : FnP K "ahead_of" s_ahead_of f_ahead_of fd_ahead_of
  g_ahead_of : mg "ahead_of" = some (.ref f_ahead_of)
  b_ahead_of : Binds K fd_ahead_of ["entries"] []
  f_parts_in : Addr
  fd_parts_in : FuncData
  F_parts_in : FnP K "parts_in" s_parts_in f_parts_in fd_parts_in
  g_parts_in : mg "parts_in" = some (.ref f_parts_in)
  b_parts_in : Binds K fd_parts_in ["entries"] []
  f_plain_entries : Addr
  fd_plain_entries : FuncData
  F_plain_entries : FnP K "plain_entries" s_plain_entries f_plain_entries fd_plain_entries
  g_plain_entries : mg "plain_entries" = some (.ref f_plain_entries)
  b_plain_entries : Binds K fd_plain_entries ["entries"] []
  f_require_live : Addr
  fd_require_live : FuncData
  F_require_live : FnP K "require_live" s_require_live f_require_live fd_require_live
  g_require_live : mg "require_live" = some (.ref f_require_live)
  b_require_live : Binds K fd_require_live ["form"] []
  f_plain_part : Addr
  fd_plain_part : FuncData
  F_plain_part : FnP K "plain_part" s_plain_part f_plain_part fd_plain_part
  g_plain_part : mg "plain_part" = some (.ref f_plain_part)
  b_plain_part : Binds K fd_plain_part ["form"] []
  f_law_dice : Addr
  fd_law_dice : FuncData
  F_law_dice : FnP K "_law_dice" s_law_dice f_law_dice fd_law_dice
  g_law_dice : mg "_law_dice" = some (.ref f_law_dice)
  b_law_dice : Binds K fd_law_dice ["_law_script", "_law_spot"] []
  f_law_roll : Addr
  fd_law_roll : FuncData
  F_law_roll : FnP K "_law_roll" s_law_roll f_law_roll fd_law_roll
  g_law_roll : mg "_law_roll" = some (.ref f_law_roll)
  b_law_roll : Binds K fd_law_roll ["_law_dice_here", "_law_total"] []
  f_law_near : Addr
  fd_law_near : FuncData
  F_law_near : FnP K "_law_near" s_law_near f_law_near fd_law_near
  g_law_near : mg "_law_near" = some (.ref f_law_near)
  b_law_near : Binds K fd_law_near ["_law_dice_here", "_law_most"] []
  f_law_gcd : Addr
  fd_law_gcd : FuncData
  F_law_gcd : FnP K "_law_gcd" s_law_gcd f_law_gcd fd_law_gcd
  g_law_gcd : mg "_law_gcd" = some (.ref f_law_gcd)
  b_law_gcd : Binds K fd_law_gcd ["_law_one", "_law_other"] []
  f_law_shared : Addr
  fd_law_shared : FuncData
  F_law_shared : FnP K "_law_shared" s_law_shared f_law_shared fd_law_shared
  g_law_shared : mg "_law_shared" = some (.ref f_law_shared)
  b_law_shared : Binds K fd_law_shared ["_law_numbers"] []
  f_law_raised : Addr
  fd_law_raised : FuncData
  F_law_raised : FnP K "_law_raised" s_law_raised f_law_raised fd_law_raised
  g_law_raised : mg "_law_raised" = some (.ref f_law_raised)
  b_law_raised : Binds K fd_law_raised ["_law_number", "_law_times"] []
  f_law_plus : Addr
  fd_law_plus : FuncData
  F_law_plus : FnP K "_law_plus" s_law_plus f_law_plus fd_law_plus
  g_law_plus : mg "_law_plus" = some (.ref f_law_plus)
  b_law_plus : Binds K fd_law_plus ["_law_one", "_law_other"] []
  f_law_scaled : Addr
  fd_law_scaled : FuncData
  F_law_scaled : FnP K "_law_scaled" s_law_scaled f_law_scaled fd_law_scaled
  g_law_scaled : mg "_law_scaled" = some (.ref f_law_scaled)
  b_law_scaled : Binds K fd_law_scaled ["_law_form_here", "_law_factor"] []
  f_law_product : Addr
  fd_law_product : FuncData
  F_law_product : FnP K "_law_product" s_law_product f_law_product fd_law_product
  g_law_product : mg "_law_product" = some (.ref f_law_product)
  b_law_product : Binds K fd_law_product ["_law_one", "_law_other"] []
  f_law_all_product : Addr
  fd_law_all_product : FuncData
  F_law_all_product : FnP K "_law_all_product" s_law_all_product f_law_all_product fd_law_all_product
  g_law_all_product : mg "_law_all_product" = some (.ref f_law_all_product)
  b_law_all_product : Binds K fd_law_all_product ["_law_forms"] []
  f_law_power : Addr
  fd_law_power : FuncData
  F_law_power : FnP K "_law_power" s_law_power f_law_power fd_law_power
  g_law_power : mg "_law_power" = some (.ref f_law_power)
  b_law_power : Binds K fd_law_power ["_law_pair", "_law_times"] []
  f_law_by_x : Addr
  fd_law_by_x : FuncData
  F_law_by_x : FnP K "_law_by_x" s_law_by_x f_law_by_x fd_law_by_x
  g_law_by_x : mg "_law_by_x" = some (.ref f_law_by_x)
  b_law_by_x : Binds K fd_law_by_x ["_law_form_here"] []
  f_law_by_y : Addr
  fd_law_by_y : FuncData
  F_law_by_y : FnP K "_law_by_y" s_law_by_y f_law_by_y fd_law_by_y
  g_law_by_y : mg "_law_by_y" = some (.ref f_law_by_y)
  b_law_by_y : Binds K fd_law_by_y ["_law_form_here"] []
  f_law_changed : Addr
  fd_law_changed : FuncData
  F_law_changed : FnP K "_law_changed" s_law_changed f_law_changed fd_law_changed
  g_law_changed : mg "_law_changed" = some (.ref f_law_changed)
  b_law_changed : Binds K fd_law_changed ["_law_form_here", "_law_table_here"] []
  f_law_plain : Addr
  fd_law_plain : FuncData
  F_law_plain : FnP K "_law_plain" s_law_plain f_law_plain fd_law_plain
  g_law_plain : mg "_law_plain" = some (.ref f_law_plain)
  b_law_plain : Binds K fd_law_plain ["_law_form_here"] []
  f_law_line : Addr
  fd_law_line : FuncData
  F_law_line : FnP K "_law_line" s_law_line f_law_line fd_law_line
  g_law_line : mg "_law_line" = some (.ref f_law_line)
  b_law_line : Binds K fd_law_line ["_law_point_here"] []
  f_law_point : Addr
  fd_law_point : FuncData
  F_law_point : FnP K "_law_point" s_law_point f_law_point fd_law_point
  g_law_point : mg "_law_point" = some (.ref f_law_point)
  b_law_point : Binds K fd_law_point ["_law_dice_here", "_law_most"] []
  f_law_small_form : Addr
  fd_law_small_form : FuncData
  F_law_small_form : FnP K "_law_small_form" s_law_small_form f_law_small_form fd_law_small_form
  g_law_small_form : mg "_law_small_form" = some (.ref f_law_small_form)
  b_law_small_form : Binds K fd_law_small_form ["_law_dice_here", "_law_degree", "_law_most"] []
  f_law_form : Addr
  fd_law_form : FuncData
  F_law_form : FnP K "_law_form" s_law_form f_law_form fd_law_form
  g_law_form : mg "_law_form" = some (.ref f_law_form)
  b_law_form : Binds K fd_law_form ["_law_dice_here", "_law_degree"] []
  f_law_table : Addr
  fd_law_table : FuncData
  F_law_table : FnP K "_law_table" s_law_table f_law_table fd_law_table
  g_law_table : mg "_law_table" = some (.ref f_law_table)
  b_law_table : Binds K fd_law_table ["_law_dice_here", "_law_most"] []
  f_law_det : Addr
  fd_law_det : FuncData
  F_law_det : FnP K "_law_det" s_law_det f_law_det fd_law_det
  g_law_det : mg "_law_det" = some (.ref f_law_det)
  b_law_det : Binds K fd_law_det ["_law_table_here"] []
  f_law_det_of : Addr
  fd_law_det_of : FuncData
  F_law_det_of : FnP K "_law_det_of" s_law_det_of f_law_det_of fd_law_det_of
  g_law_det_of : mg "_law_det_of" = some (.ref f_law_det_of)
  b_law_det_of : Binds K fd_law_det_of ["_law_rows"] []
  f_law_two_rows : Addr
  fd_law_two_rows : FuncData
  F_law_two_rows : FnP K "_law_two_rows" s_law_two_rows f_law_two_rows fd_law_two_rows
  g_law_two_rows : mg "_law_two_rows" = some (.ref f_law_two_rows)
  b_law_two_rows : Binds K fd_law_two_rows ["_law_one", "_law_other"] []
  f_law_is_due : Addr
  fd_law_is_due : FuncData
  F_law_is_due : FnP K "_law_is_due" s_law_is_due f_law_is_due fd_law_is_due
  g_law_is_due : mg "_law_is_due" = some (.ref f_law_is_due)
  b_law_is_due : Binds K fd_law_is_due ["_law_form_here", "_law_told"] []
  f_law_form_right : Addr
  fd_law_form_right : FuncData
  F_law_form_right : FnP K "_law_form_right" s_law_form_right f_law_form_right fd_law_form_right
  g_law_form_right : mg "_law_form_right" = some (.ref f_law_form_right)
  b_law_form_right : Binds K fd_law_form_right ["_law_dice_here"] []
  f_law_lines_right : Addr
  fd_law_lines_right : FuncData
  F_law_lines_right : FnP K "_law_lines_right" s_law_lines_right f_law_lines_right fd_law_lines_right
  g_law_lines_right : mg "_law_lines_right" = some (.ref f_law_lines_right)
  b_law_lines_right : Binds K fd_law_lines_right ["_law_dice_here"] []
  f_law : Addr
  fd_law : FuncData
  F_law : FnP K "law" s_law f_law fd_law
  g_law : mg "law" = some (.ref f_law)
  b_law : Binds K fd_law ["_law_script"] []
  f_Told_init : Addr
  fd_Told_init : FuncData
  F_Told_init : FnM K "__init__" "Told.__init__" s_Told_init f_Told_init fd_Told_init
  b_Told_init : Binds K fd_Told_init ["self", "row"] []
  f_Form_init : Addr
  fd_Form_init : FuncData
  F_Form_init : FnM K "__init__" "Form.__init__" s_Form_init f_Form_init fd_Form_init
  b_Form_init : Binds K fd_Form_init ["self", "entries"] []
  f_Form_entries : Addr
  fd_Form_entries : FuncData
  F_Form_entries : FnM K "entries" "Form.entries" s_Form_entries f_Form_entries fd_Form_entries
  b_Form_entries : Binds K fd_Form_entries ["self"] []
  f_Form_degree : Addr
  fd_Form_degree : FuncData
  F_Form_degree : FnM K "degree" "Form.degree" s_Form_degree f_Form_degree fd_Form_degree
  b_Form_degree : Binds K fd_Form_degree ["self"] []
  f_Form_is_zero : Addr
  fd_Form_is_zero : FuncData
  F_Form_is_zero : FnM K "is_zero" "Form.is_zero" s_Form_is_zero f_Form_is_zero fd_Form_is_zero
  b_Form_is_zero : Binds K fd_Form_is_zero ["self"] []
  f_Form_eq : Addr
  fd_Form_eq : FuncData
  F_Form_eq : FnM K "__eq__" "Form.__eq__" s_Form_eq f_Form_eq fd_Form_eq
  b_Form_eq : Binds K fd_Form_eq ["self", "other"] []
  f_Form_len : Addr
  fd_Form_len : FuncData
  F_Form_len : FnM K "__len__" "Form.__len__" s_Form_len f_Form_len fd_Form_len
  b_Form_len : Binds K fd_Form_len ["self"] []
  f_Form_iter : Addr
  fd_Form_iter : FuncData
  F_Form_iter : FnM K "__iter__" "Form.__iter__" s_Form_iter f_Form_iter fd_Form_iter
  b_Form_iter : Binds K fd_Form_iter ["self"] []
  C_Told : Addr
  g_Told : mg "Told" = some (.ref C_Told)
  oc_Told : OwnF.OC K C_Told
  mk_Told : Mk K C_Told f_Told_init
  a_own_row : Addr
  sl_own_row : SlX.Slot1 K C_Told "own_row" a_own_row 0
  C_Form : Addr
  g_Form : mg "Form" = some (.ref C_Form)
  oc_Form : OwnF.OC K C_Form
  mk_Form : Mk K C_Form f_Form_init
  a_own_entries : Addr
  sl_own_entries : SlX.Slot1 K C_Form "own_entries" a_own_entries 0
  mt_Told_init : HookG.Mt K C_Told "__init__" f_Told_init
  mt_Form_init : HookG.Mt K C_Form "__init__" f_Form_init
  p_Form_entries : Addr
  pr_Form_entries : HookG.Pr K C_Form "entries" p_Form_entries f_Form_entries
  p_Form_degree : Addr
  pr_Form_degree : HookG.Pr K C_Form "degree" p_Form_degree f_Form_degree
  p_Form_is_zero : Addr
  pr_Form_is_zero : HookG.Pr K C_Form "is_zero" p_Form_is_zero f_Form_is_zero
  mt_Form_eq : HookG.Mt K C_Form "__eq__" f_Form_eq
  mt_Form_len : HookG.Mt K C_Form "__len__" f_Form_len
  mt_Form_iter : HookG.Mt K C_Form "__iter__" f_Form_iter
  kit_Told_Form : PySem.W.kitOne K (.ref C_Told) (.ref C_Form) = some false
  kit_Form_Told : PySem.W.kitOne K (.ref C_Form) (.ref C_Told) = some false
  z_abs : mg "abs" = none
  z_all : mg "all" = none
  z_any : mg "any" = none
  z_bool : mg "bool" = none
  z_enumerate : mg "enumerate" = none
  z_int : mg "int" = none
  z_isinstance : mg "isinstance" = none
  z_iter : mg "iter" = none
  z_len : mg "len" = none
  z_list : mg "list" = none
  z_max : mg "max" = none
  z_min : mg "min" = none
  z_next : mg "next" = none
  z_range : mg "range" = none
  z_sorted : mg "sorted" = none
  z_tuple : mg "tuple" = none
  z_zip : mg "zip" = none
  m_gcd : mg "gcd" = some (.builtin "math.gcd")
  c_GREATEST : ∃ t, mg "GREATEST" = some (.int 1000000000000000000000000000000000000000000000000000000000000 t)
  c_MAX_DEGREE : ∃ t, mg "MAX_DEGREE" = some (.int 40 t)
  c_MAX_SUM : ∃ t, mg "MAX_SUM" = some (.int 24 t)
  c_MAX_DISCRIMINANT : ∃ t, mg "MAX_DISCRIMINANT" = some (.int 12 t)
  c_first_of : Addr
  P_first_of : Addr
  code_first_of : fd_first_of.code = .ref c_first_of
  tab_first_of : (c_first_of, P_first_of) = HookT.cTA K (HookG.At.glo "first_of")
/-! ### for the head -/
def d_is_whole : HookG.GD := ⟨.glo "is_whole", "is_whole", "is_whole", defArgs s_is_whole, defBody s_is_whole, defScope s_is_whole⟩
def d_is_short : HookG.GD := ⟨.glo "is_short", "is_short", "is_short", defArgs s_is_short, defBody s_is_short, defScope s_is_short⟩
def d_are_short : HookG.GD := ⟨.glo "are_short", "are_short", "are_short", defArgs s_are_short, defBody s_are_short, defScope s_are_short⟩
def d_shared_of : HookG.GD := ⟨.glo "shared_of", "shared_of", "shared_of", defArgs s_shared_of, defBody s_shared_of, defScope s_shared_of⟩
def d_first_of : HookG.GD := ⟨.glo "first_of", "first_of", "first_of", defArgs s_first_of, defBody s_first_of, defScope s_first_of⟩
def d_primitive_of : HookG.GD := ⟨.glo "primitive_of", "primitive_of", "primitive_of", defArgs s_primitive_of, defBody s_primitive_of, defScope s_primitive_of⟩
def d_raised_to : HookG.GD := ⟨.glo "raised_to", "raised_to", "raised_to", defArgs s_raised_to, defBody s_raised_to, defScope s_raised_to⟩
def d_swapped_head : HookG.GD := ⟨.glo "swapped_head", "swapped_head", "swapped_head", defArgs s_swapped_head, defBody s_swapped_head, defScope s_swapped_head⟩
def d_whole_determinant : HookG.GD := ⟨.glo "whole_determinant", "whole_determinant", "whole_determinant", defArgs s_whole_determinant, defBody s_whole_determinant, defScope s_whole_determinant⟩
def d_product_in : HookG.GD := ⟨.glo "product_in", "product_in", "product_in", defArgs s_product_in, defBody s_product_in, defScope s_product_in⟩
def d_joined_entries : HookG.GD := ⟨.glo "joined_entries", "joined_entries", "joined_entries", defArgs s_joined_entries, defBody s_joined_entries, defScope s_joined_entries⟩
def d_derived_in : HookG.GD := ⟨.glo "derived_in", "derived_in", "derived_in", defArgs s_derived_in, defBody s_derived_in, defScope s_derived_in⟩
def d_is_zero_in : HookG.GD := ⟨.glo "is_zero_in", "is_zero_in", "is_zero_in", defArgs s_is_zero_in, defBody s_is_zero_in, defScope s_is_zero_in⟩
def d_are_entries : HookG.GD := ⟨.glo "are_entries", "are_entries", "are_entries", defArgs s_are_entries, defBody s_are_entries, defScope s_are_entries⟩
def d_form_of : HookG.GD := ⟨.glo "form_of", "form_of", "form_of", defArgs s_form_of, defBody s_form_of, defScope s_form_of⟩
def d_require_form : HookG.GD := ⟨.glo "require_form", "require_form", "require_form", defArgs s_require_form, defBody s_require_form, defScope s_require_form⟩
def d_require_two : HookG.GD := ⟨.glo "require_two", "require_two", "require_two", defArgs s_require_two, defBody s_require_two, defScope s_require_two⟩
def d_sylvester_in : HookG.GD := ⟨.glo "sylvester_in", "sylvester_in", "sylvester_in", defArgs s_sylvester_in, defBody s_sylvester_in, defScope s_sylvester_in⟩
def d_resultant_in : HookG.GD := ⟨.glo "resultant_in", "resultant_in", "resultant_in", defArgs s_resultant_in, defBody s_resultant_in, defScope s_resultant_in⟩
def d_require_sylvester : HookG.GD := ⟨.glo "require_sylvester", "require_sylvester", "require_sylvester", defArgs s_require_sylvester, defBody s_require_sylvester, defScope s_require_sylvester⟩
def d_resultant : HookG.GD := ⟨.glo "resultant", "resultant", "resultant", defArgs s_resultant, defBody s_resultant, defScope s_resultant⟩
def d_discriminant_in : HookG.GD := ⟨.glo "discriminant_in", "discriminant_in", "discriminant_in", defArgs s_discriminant_in, defBody s_discriminant_in, defScope s_discriminant_in⟩
def d_discriminant : HookG.GD := ⟨.glo "discriminant", "discriminant", "discriminant", defArgs s_discriminant, defBody s_discriminant, defScope s_discriminant⟩
def d_cut_line : HookG.GD := ⟨.glo "cut_line", "cut_line", "cut_line", defArgs s_cut_line, defBody s_cut_line, defScope s_cut_line⟩
def d_rest_of : HookG.GD := ⟨.glo "rest_of", "rest_of", "rest_of", defArgs s_rest_of, defBody s_rest_of, defScope s_rest_of⟩
def d_shared_part : HookG.GD := ⟨.glo "shared_part", "shared_part", "shared_part", defArgs s_shared_part, defBody s_shared_part, defScope s_shared_part⟩
def d_exact_quotient : HookG.GD := ⟨.glo "exact_quotient", "exact_quotient", "exact_quotient", defArgs s_exact_quotient, defBody s_exact_quotient, defScope s_exact_quotient⟩
def d_slope_of : HookG.GD := ⟨.glo "slope_of", "slope_of", "slope_of", defArgs s_slope_of, defBody s_slope_of, defScope s_slope_of⟩
def d_ahead_of : HookG.GD := ⟨.glo "ahead_of", "ahead_of", "ahead_of", defArgs s_ahead_of, defBody s_ahead_of, defScope s_ahead_of⟩
def d_parts_in : HookG.GD := ⟨.glo "parts_in", "parts_in", "parts_in", defArgs s_parts_in, defBody s_parts_in, defScope s_parts_in⟩
def d_plain_entries : HookG.GD := ⟨.glo "plain_entries", "plain_entries", "plain_entries", defArgs s_plain_entries, defBody s_plain_entries, defScope s_plain_entries⟩
def d_require_live : HookG.GD := ⟨.glo "require_live", "require_live", "require_live", defArgs s_require_live, defBody s_require_live, defScope s_require_live⟩
def d_plain_part : HookG.GD := ⟨.glo "plain_part", "plain_part", "plain_part", defArgs s_plain_part, defBody s_plain_part, defScope s_plain_part⟩
def d_law_dice : HookG.GD := ⟨.glo "_law_dice", "_law_dice", "_law_dice", defArgs s_law_dice, defBody s_law_dice, defScope s_law_dice⟩
def d_law_roll : HookG.GD := ⟨.glo "_law_roll", "_law_roll", "_law_roll", defArgs s_law_roll, defBody s_law_roll, defScope s_law_roll⟩
def d_law_near : HookG.GD := ⟨.glo "_law_near", "_law_near", "_law_near", defArgs s_law_near, defBody s_law_near, defScope s_law_near⟩
def d_law_gcd : HookG.GD := ⟨.glo "_law_gcd", "_law_gcd", "_law_gcd", defArgs s_law_gcd, defBody s_law_gcd, defScope s_law_gcd⟩
def d_law_shared : HookG.GD := ⟨.glo "_law_shared", "_law_shared", "_law_shared", defArgs s_law_shared, defBody s_law_shared, defScope s_law_shared⟩
def d_law_raised : HookG.GD := ⟨.glo "_law_raised", "_law_raised", "_law_raised", defArgs s_law_raised, defBody s_law_raised, defScope s_law_raised⟩
def d_law_plus : HookG.GD := ⟨.glo "_law_plus", "_law_plus", "_law_plus", defArgs s_law_plus, defBody s_law_plus, defScope s_law_plus⟩
def d_law_scaled : HookG.GD := ⟨.glo "_law_scaled", "_law_scaled", "_law_scaled", defArgs s_law_scaled, defBody s_law_scaled, defScope s_law_scaled⟩
def d_law_product : HookG.GD := ⟨.glo "_law_product", "_law_product", "_law_product", defArgs s_law_product, defBody s_law_product, defScope s_law_product⟩
def d_law_all_product : HookG.GD := ⟨.glo "_law_all_product", "_law_all_product", "_law_all_product", defArgs s_law_all_product, defBody s_law_all_product, defScope s_law_all_product⟩
def d_law_power : HookG.GD := ⟨.glo "_law_power", "_law_power", "_law_power", defArgs s_law_power, defBody s_law_power, defScope s_law_power⟩
def d_law_by_x : HookG.GD := ⟨.glo "_law_by_x", "_law_by_x", "_law_by_x", defArgs s_law_by_x, defBody s_law_by_x, defScope s_law_by_x⟩
def d_law_by_y : HookG.GD := ⟨.glo "_law_by_y", "_law_by_y", "_law_by_y", defArgs s_law_by_y, defBody s_law_by_y, defScope s_law_by_y⟩
def d_law_changed : HookG.GD := ⟨.glo "_law_changed", "_law_changed", "_law_changed", defArgs s_law_changed, defBody s_law_changed, defScope s_law_changed⟩
def d_law_plain : HookG.GD := ⟨.glo "_law_plain", "_law_plain", "_law_plain", defArgs s_law_plain, defBody s_law_plain, defScope s_law_plain⟩
def d_law_line : HookG.GD := ⟨.glo "_law_line", "_law_line", "_law_line", defArgs s_law_line, defBody s_law_line, defScope s_law_line⟩
def d_law_point : HookG.GD := ⟨.glo "_law_point", "_law_point", "_law_point", defArgs s_law_point, defBody s_law_point, defScope s_law_point⟩
def d_law_small_form : HookG.GD := ⟨.glo "_law_small_form", "_law_small_form", "_law_small_form", defArgs s_law_small_form, defBody s_law_small_form, defScope s_law_small_form⟩
def d_law_form : HookG.GD := ⟨.glo "_law_form", "_law_form", "_law_form", defArgs s_law_form, defBody s_law_form, defScope s_law_form⟩
def d_law_table : HookG.GD := ⟨.glo "_law_table", "_law_table", "_law_table", defArgs s_law_table, defBody s_law_table, defScope s_law_table⟩
def d_law_det : HookG.GD := ⟨.glo "_law_det", "_law_det", "_law_det", defArgs s_law_det, defBody s_law_det, defScope s_law_det⟩
def d_law_det_of : HookG.GD := ⟨.glo "_law_det_of", "_law_det_of", "_law_det_of", defArgs s_law_det_of, defBody s_law_det_of, defScope s_law_det_of⟩
def d_law_two_rows : HookG.GD := ⟨.glo "_law_two_rows", "_law_two_rows", "_law_two_rows", defArgs s_law_two_rows, defBody s_law_two_rows, defScope s_law_two_rows⟩
def d_law_is_due : HookG.GD := ⟨.glo "_law_is_due", "_law_is_due", "_law_is_due", defArgs s_law_is_due, defBody s_law_is_due, defScope s_law_is_due⟩
def d_law_form_right : HookG.GD := ⟨.glo "_law_form_right", "_law_form_right", "_law_form_right", defArgs s_law_form_right, defBody s_law_form_right, defScope s_law_form_right⟩
def d_law_lines_right : HookG.GD := ⟨.glo "_law_lines_right", "_law_lines_right", "_law_lines_right", defArgs s_law_lines_right, defBody s_law_lines_right, defScope s_law_lines_right⟩
def d_law : HookG.GD := ⟨.glo "law", "law", "law", defArgs s_law, defBody s_law, defScope s_law⟩
def d_Told_init : HookG.GD := ⟨.met "Told" "__init__", "__init__", "Told.__init__", defArgs s_Told_init, defBody s_Told_init, defScope s_Told_init⟩
def d_Form_init : HookG.GD := ⟨.met "Form" "__init__", "__init__", "Form.__init__", defArgs s_Form_init, defBody s_Form_init, defScope s_Form_init⟩
def d_Form_entries : HookG.GD := ⟨.prp "Form" "entries", "entries", "Form.entries", defArgs s_Form_entries, defBody s_Form_entries, defScope s_Form_entries⟩
def d_Form_degree : HookG.GD := ⟨.prp "Form" "degree", "degree", "Form.degree", defArgs s_Form_degree, defBody s_Form_degree, defScope s_Form_degree⟩
def d_Form_is_zero : HookG.GD := ⟨.prp "Form" "is_zero", "is_zero", "Form.is_zero", defArgs s_Form_is_zero, defBody s_Form_is_zero, defScope s_Form_is_zero⟩
def d_Form_eq : HookG.GD := ⟨.met "Form" "__eq__", "__eq__", "Form.__eq__", defArgs s_Form_eq, defBody s_Form_eq, defScope s_Form_eq⟩
def d_Form_len : HookG.GD := ⟨.met "Form" "__len__", "__len__", "Form.__len__", defArgs s_Form_len, defBody s_Form_len, defScope s_Form_len⟩
def d_Form_iter : HookG.GD := ⟨.met "Form" "__iter__", "__iter__", "Form.__iter__", defArgs s_Form_iter, defBody s_Form_iter, defScope s_Form_iter⟩
def fnL : List HookG.GD := [d_is_whole, d_is_short, d_are_short, d_shared_of, d_first_of, d_primitive_of, d_raised_to, d_swapped_head, d_whole_determinant, d_product_in, d_joined_entries, d_derived_in, d_is_zero_in, d_are_entries, d_form_of, d_require_form, d_require_two, d_sylvester_in, d_resultant_in, d_require_sylvester, d_resultant, d_discriminant_in, d_discriminant, d_cut_line, d_rest_of, d_shared_part, d_exact_quotient, d_slope_of, d_ahead_of, d_parts_in, d_plain_entries, d_require_live, d_plain_part, d_law_dice, d_law_roll, d_law_near, d_law_gcd, d_law_shared, d_law_raised, d_law_plus, d_law_scaled, d_law_product, d_law_all_product, d_law_power, d_law_by_x, d_law_by_y, d_law_changed, d_law_plain, d_law_line, d_law_point, d_law_small_form, d_law_form, d_law_table, d_law_det, d_law_det_of, d_law_two_rows, d_law_is_due, d_law_form_right, d_law_lines_right, d_law, d_Told_init, d_Form_init, d_Form_entries, d_Form_degree, d_Form_is_zero, d_Form_eq, d_Form_len, d_Form_iter]
def faL : List He.Fa := [.glo "is_whole", .glo "is_short", .glo "are_short", .glo "shared_of", .glo "first_of", .glo "primitive_of", .glo "raised_to", .glo "swapped_head", .glo "whole_determinant", .glo "product_in", .glo "joined_entries", .glo "derived_in", .glo "is_zero_in", .glo "are_entries", .glo "form_of", .glo "require_form", .glo "require_two", .glo "sylvester_in", .glo "resultant_in", .glo "require_sylvester", .glo "resultant", .glo "discriminant_in", .glo "discriminant", .glo "cut_line", .glo "rest_of", .glo "shared_part", .glo "exact_quotient", .glo "slope_of", .glo "ahead_of", .glo "parts_in", .glo "plain_entries", .glo "require_live", .glo "plain_part", .glo "_law_dice", .glo "_law_roll", .glo "_law_near", .glo "_law_gcd", .glo "_law_shared", .glo "_law_raised", .glo "_law_plus", .glo "_law_scaled", .glo "_law_product", .glo "_law_all_product", .glo "_law_power", .glo "_law_by_x", .glo "_law_by_y", .glo "_law_changed", .glo "_law_plain", .glo "_law_line", .glo "_law_point", .glo "_law_small_form", .glo "_law_form", .glo "_law_table", .glo "_law_det", .glo "_law_det_of", .glo "_law_two_rows", .glo "_law_is_due", .glo "_law_form_right", .glo "_law_lines_right", .glo "law", .glo "Told", .glo "Form", .free "abs", .free "all", .free "any", .free "bool", .free "enumerate", .free "int", .free "isinstance", .free "iter", .free "len", .free "list", .free "max", .free "min", .free "next", .free "range", .free "sorted", .free "tuple", .free "zip", .int "GREATEST" 1000000000000000000000000000000000000000000000000000000000000, .int "MAX_DEGREE" 40, .int "MAX_SUM" 24, .int "MAX_DISCRIMINANT" 12, .mkr "Told", .mkr "Form"]
def tfL : List HookG.At := [(HookG.At.glo "first_of")]
def exL (K : PySem.W.Frag) : Bool := He.eqO (PySem.W.nsIn K mainGlobals "gcd") (some (some (.builtin "math.gcd"))) && (OwnF.ocB K "Told" && (HookG.slotB K "Told" "own_row" 0 && (OwnF.ocB K "Form" && (HookG.slotB K "Form" "own_entries" 0 && (HookG.mtB K "Told" "__init__" && (HookG.mtB K "Form" "__init__" && (HookG.prB K "Form" "entries" && (HookG.prB K "Form" "degree" && (HookG.prB K "Form" "is_zero" && (HookG.mtB K "Form" "__eq__" && (HookG.mtB K "Form" "__len__" && (HookG.mtB K "Form" "__iter__" && (HookG.dO (PySem.W.kitOne K (.ref (He.ga K "Told")) (.ref (He.ga K "Form"))) (some false) && (HookG.dO (PySem.W.kitOne K (.ref (He.ga K "Form")) (.ref (He.ga K "Told"))) (some false)))))))))))))))
theorem facts_of {K : PySem.W.Frag} {h : Heap} {mg : Str → Option Value} (X : K.In h) (G : h.Ns mainGlobals mg) (c : HookG.SaysG faL fnL exL K) : Nonempty (Facts K mg) := by
  have ex := c.more
  unfold exL at ex
  obtain ⟨ex_0, ex⟩ := He.ba ex
  obtain ⟨ex_1, ex⟩ := He.ba ex
  obtain ⟨ex_2, ex⟩ := He.ba ex
  obtain ⟨ex_3, ex⟩ := He.ba ex
  obtain ⟨ex_4, ex⟩ := He.ba ex
  obtain ⟨ex_5, ex⟩ := He.ba ex
  obtain ⟨ex_6, ex⟩ := He.ba ex
  obtain ⟨ex_7, ex⟩ := He.ba ex
  obtain ⟨ex_8, ex⟩ := He.ba ex
  obtain ⟨ex_9, ex⟩ := He.ba ex
  obtain ⟨ex_10, ex⟩ := He.ba ex
  obtain ⟨ex_11, ex⟩ := He.ba ex
  obtain ⟨ex_12, ex⟩ := He.ba ex
  obtain ⟨ex_13, ex⟩ := He.ba ex
  obtain ⟨fd_is_whole, F_is_whole⟩ := c.def_ 0 (d := d_is_whole) rfl
  obtain ⟨fd_is_short, F_is_short⟩ := c.def_ 1 (d := d_is_short) rfl
  obtain ⟨fd_are_short, F_are_short⟩ := c.def_ 2 (d := d_are_short) rfl
  obtain ⟨fd_shared_of, F_shared_of⟩ := c.def_ 3 (d := d_shared_of) rfl
  obtain ⟨fd_first_of, F_first_of⟩ := c.def_ 4 (d := d_first_of) rfl
  obtain ⟨fd_primitive_of, F_primitive_of⟩ := c.def_ 5 (d := d_primitive_of) rfl
  obtain ⟨fd_raised_to, F_raised_to⟩ := c.def_ 6 (d := d_raised_to) rfl
  obtain ⟨fd_swapped_head, F_swapped_head⟩ := c.def_ 7 (d := d_swapped_head) rfl
  obtain ⟨fd_whole_determinant, F_whole_determinant⟩ := c.def_ 8 (d := d_whole_determinant) rfl
  obtain ⟨fd_product_in, F_product_in⟩ := c.def_ 9 (d := d_product_in) rfl
  obtain ⟨fd_joined_entries, F_joined_entries⟩ := c.def_ 10 (d := d_joined_entries) rfl
  obtain ⟨fd_derived_in, F_derived_in⟩ := c.def_ 11 (d := d_derived_in) rfl
  obtain ⟨fd_is_zero_in, F_is_zero_in⟩ := c.def_ 12 (d := d_is_zero_in) rfl
  obtain ⟨fd_are_entries, F_are_entries⟩ := c.def_ 13 (d := d_are_entries) rfl
  obtain ⟨fd_form_of, F_form_of⟩ := c.def_ 14 (d := d_form_of) rfl
  obtain ⟨fd_require_form, F_require_form⟩ := c.def_ 15 (d := d_require_form) rfl
  obtain ⟨fd_require_two, F_require_two⟩ := c.def_ 16 (d := d_require_two) rfl
  obtain ⟨fd_sylvester_in, F_sylvester_in⟩ := c.def_ 17 (d := d_sylvester_in) rfl
  obtain ⟨fd_resultant_in, F_resultant_in⟩ := c.def_ 18 (d := d_resultant_in) rfl
  obtain ⟨fd_require_sylvester, F_require_sylvester⟩ := c.def_ 19 (d := d_require_sylvester) rfl
  obtain ⟨fd_resultant, F_resultant⟩ := c.def_ 20 (d := d_resultant) rfl
  obtain ⟨fd_discriminant_in, F_discriminant_in⟩ := c.def_ 21 (d := d_discriminant_in) rfl
  obtain ⟨fd_discriminant, F_discriminant⟩ := c.def_ 22 (d := d_discriminant) rfl
  obtain ⟨fd_cut_line, F_cut_line⟩ := c.def_ 23 (d := d_cut_line) rfl
  obtain ⟨fd_rest_of, F_rest_of⟩ := c.def_ 24 (d := d_rest_of) rfl
  obtain ⟨fd_shared_part, F_shared_part⟩ := c.def_ 25 (d := d_shared_part) rfl
  obtain ⟨fd_exact_quotient, F_exact_quotient⟩ := c.def_ 26 (d := d_exact_quotient) rfl
  obtain ⟨fd_slope_of, F_slope_of⟩ := c.def_ 27 (d := d_slope_of) rfl
  obtain ⟨fd_ahead_of, F_ahead_of⟩ := c.def_ 28 (d := d_ahead_of) rfl
  obtain ⟨fd_parts_in, F_parts_in⟩ := c.def_ 29 (d := d_parts_in) rfl
  obtain ⟨fd_plain_entries, F_plain_entries⟩ := c.def_ 30 (d := d_plain_entries) rfl
  obtain ⟨fd_require_live, F_require_live⟩ := c.def_ 31 (d := d_require_live) rfl
  obtain ⟨fd_plain_part, F_plain_part⟩ := c.def_ 32 (d := d_plain_part) rfl
  obtain ⟨fd_law_dice, F_law_dice⟩ := c.def_ 33 (d := d_law_dice) rfl
  obtain ⟨fd_law_roll, F_law_roll⟩ := c.def_ 34 (d := d_law_roll) rfl
  obtain ⟨fd_law_near, F_law_near⟩ := c.def_ 35 (d := d_law_near) rfl
  obtain ⟨fd_law_gcd, F_law_gcd⟩ := c.def_ 36 (d := d_law_gcd) rfl
  obtain ⟨fd_law_shared, F_law_shared⟩ := c.def_ 37 (d := d_law_shared) rfl
  obtain ⟨fd_law_raised, F_law_raised⟩ := c.def_ 38 (d := d_law_raised) rfl
  obtain ⟨fd_law_plus, F_law_plus⟩ := c.def_ 39 (d := d_law_plus) rfl
  obtain ⟨fd_law_scaled, F_law_scaled⟩ := c.def_ 40 (d := d_law_scaled) rfl
  obtain ⟨fd_law_product, F_law_product⟩ := c.def_ 41 (d := d_law_product) rfl
  obtain ⟨fd_law_all_product, F_law_all_product⟩ := c.def_ 42 (d := d_law_all_product) rfl
  obtain ⟨fd_law_power, F_law_power⟩ := c.def_ 43 (d := d_law_power) rfl
  obtain ⟨fd_law_by_x, F_law_by_x⟩ := c.def_ 44 (d := d_law_by_x) rfl
  obtain ⟨fd_law_by_y, F_law_by_y⟩ := c.def_ 45 (d := d_law_by_y) rfl
  obtain ⟨fd_law_changed, F_law_changed⟩ := c.def_ 46 (d := d_law_changed) rfl
  obtain ⟨fd_law_plain, F_law_plain⟩ := c.def_ 47 (d := d_law_plain) rfl
  obtain ⟨fd_law_line, F_law_line⟩ := c.def_ 48 (d := d_law_line) rfl
  obtain ⟨fd_law_point, F_law_point⟩ := c.def_ 49 (d := d_law_point) rfl
  obtain ⟨fd_law_small_form, F_law_small_form⟩ := c.def_ 50 (d := d_law_small_form) rfl
  obtain ⟨fd_law_form, F_law_form⟩ := c.def_ 51 (d := d_law_form) rfl
  obtain ⟨fd_law_table, F_law_table⟩ := c.def_ 52 (d := d_law_table) rfl
  obtain ⟨fd_law_det, F_law_det⟩ := c.def_ 53 (d := d_law_det) rfl
  obtain ⟨fd_law_det_of, F_law_det_of⟩ := c.def_ 54 (d := d_law_det_of) rfl
  obtain ⟨fd_law_two_rows, F_law_two_rows⟩ := c.def_ 55 (d := d_law_two_rows) rfl
  obtain ⟨fd_law_is_due, F_law_is_due⟩ := c.def_ 56 (d := d_law_is_due) rfl
  obtain ⟨fd_law_form_right, F_law_form_right⟩ := c.def_ 57 (d := d_law_form_right) rfl
  obtain ⟨fd_law_lines_right, F_law_lines_right⟩ := c.def_ 58 (d := d_law_lines_right) rfl
  obtain ⟨fd_law, F_law⟩ := c.def_ 59 (d := d_law) rfl
  obtain ⟨fd_Told_init, F_Told_init⟩ := c.def_ 60 (d := d_Told_init) rfl
  obtain ⟨fd_Form_init, F_Form_init⟩ := c.def_ 61 (d := d_Form_init) rfl
  obtain ⟨fd_Form_entries, F_Form_entries⟩ := c.def_ 62 (d := d_Form_entries) rfl
  obtain ⟨fd_Form_degree, F_Form_degree⟩ := c.def_ 63 (d := d_Form_degree) rfl
  obtain ⟨fd_Form_is_zero, F_Form_is_zero⟩ := c.def_ 64 (d := d_Form_is_zero) rfl
  obtain ⟨fd_Form_eq, F_Form_eq⟩ := c.def_ 65 (d := d_Form_eq) rfl
  obtain ⟨fd_Form_len, F_Form_len⟩ := c.def_ 66 (d := d_Form_len) rfl
  obtain ⟨fd_Form_iter, F_Form_iter⟩ := c.def_ 67 (d := d_Form_iter) rfl
  exact ⟨{ f_is_whole := _, fd_is_whole := _, F_is_whole := F_is_whole, b_is_whole := (F_is_whole.bindsN fun _ _ _ _ _ _ us hl => match us, hl with | [_], _ => rfl), g_is_whole := He.glo_ok X G (c.fact 0 (f := .glo "is_whole") rfl), f_is_short := _, fd_is_short := _, F_is_short := F_is_short, b_is_short := (F_is_short.bindsN fun _ _ _ _ _ _ us hl => match us, hl with | [_], _ => rfl), g_is_short := He.glo_ok X G (c.fact 1 (f := .glo "is_short") rfl), f_are_short := _, fd_are_short := _, F_are_short := F_are_short, b_are_short := (F_are_short.bindsN fun _ _ _ _ _ _ us hl => match us, hl with | [_], _ => rfl), g_are_short := He.glo_ok X G (c.fact 2 (f := .glo "are_short") rfl), f_shared_of := _, fd_shared_of := _, F_shared_of := F_shared_of, b_shared_of := (F_shared_of.bindsN fun _ _ _ _ _ _ us hl => match us, hl with | [_], _ => rfl), g_shared_of := He.glo_ok X G (c.fact 3 (f := .glo "shared_of") rfl), f_first_of := _, fd_first_of := _, F_first_of := F_first_of, b_first_of := (F_first_of.bindsN fun _ _ _ _ _ _ us hl => match us, hl with | [_], _ => rfl), g_first_of := He.glo_ok X G (c.fact 4 (f := .glo "first_of") rfl), f_primitive_of := _, fd_primitive_of := _, F_primitive_of := F_primitive_of, b_primitive_of := (F_primitive_of.bindsN fun _ _ _ _ _ _ us hl => match us, hl with | [_], _ => rfl), g_primitive_of := He.glo_ok X G (c.fact 5 (f := .glo "primitive_of") rfl), f_raised_to := _, fd_raised_to := _, F_raised_to := F_raised_to, b_raised_to := (F_raised_to.bindsN fun _ _ _ _ _ _ us hl => match us, hl with | [_, _], _ => rfl), g_raised_to := He.glo_ok X G (c.fact 6 (f := .glo "raised_to") rfl), f_swapped_head := _, fd_swapped_head := _, F_swapped_head := F_swapped_head, b_swapped_head := (F_swapped_head.bindsN fun _ _ _ _ _ _ us hl => match us, hl with | [_, _], _ => rfl), g_swapped_head := He.glo_ok X G (c.fact 7 (f := .glo "swapped_head") rfl), f_whole_determinant := _, fd_whole_determinant := _, F_whole_determinant := F_whole_determinant, b_whole_determinant := (F_whole_determinant.bindsN fun _ _ _ _ _ _ us hl => match us, hl with | [_], _ => rfl), g_whole_determinant := He.glo_ok X G (c.fact 8 (f := .glo "whole_determinant") rfl), f_product_in := _, fd_product_in := _, F_product_in := F_product_in, b_product_in := (F_product_in.bindsN fun _ _ _ _ _ _ us hl => match us, hl with | [_, _], _ => rfl), g_product_in := He.glo_ok X G (c.fact 9 (f := .glo "product_in") rfl), f_joined_entries := _, fd_joined_entries := _, F_joined_entries := F_joined_entries, b_joined_entries := (F_joined_entries.bindsN fun _ _ _ _ _ _ us hl => match us, hl with | [_, _], _ => rfl), g_joined_entries := He.glo_ok X G (c.fact 10 (f := .glo "joined_entries") rfl), f_derived_in := _, fd_derived_in := _, F_derived_in := F_derived_in, b_derived_in := (F_derived_in.bindsN fun _ _ _ _ _ _ us hl => match us, hl with | [_, _, _], _ => rfl), g_derived_in := He.glo_ok X G (c.fact 11 (f := .glo "derived_in") rfl), f_is_zero_in := _, fd_is_zero_in := _, F_is_zero_in := F_is_zero_in, b_is_zero_in := (F_is_zero_in.bindsN fun _ _ _ _ _ _ us hl => match us, hl with | [_], _ => rfl), g_is_zero_in := He.glo_ok X G (c.fact 12 (f := .glo "is_zero_in") rfl), f_are_entries := _, fd_are_entries := _, F_are_entries := F_are_entries, b_are_entries := (F_are_entries.bindsN fun _ _ _ _ _ _ us hl => match us, hl with | [_], _ => rfl), g_are_entries := He.glo_ok X G (c.fact 13 (f := .glo "are_entries") rfl), f_form_of := _, fd_form_of := _, F_form_of := F_form_of, b_form_of := (F_form_of.bindsN fun _ _ _ _ _ _ us hl => match us, hl with | [_], _ => rfl), g_form_of := He.glo_ok X G (c.fact 14 (f := .glo "form_of") rfl), f_require_form := _, fd_require_form := _, F_require_form := F_require_form, b_require_form := (F_require_form.bindsN fun _ _ _ _ _ _ us hl => match us, hl with | [_], _ => rfl), g_require_form := He.glo_ok X G (c.fact 15 (f := .glo "require_form") rfl), f_require_two := _, fd_require_two := _, F_require_two := F_require_two, b_require_two := (F_require_two.bindsN fun _ _ _ _ _ _ us hl => match us, hl with | [_, _], _ => rfl), g_require_two := He.glo_ok X G (c.fact 16 (f := .glo "require_two") rfl), f_sylvester_in := _, fd_sylvester_in := _, F_sylvester_in := F_sylvester_in, b_sylvester_in := (F_sylvester_in.bindsN fun _ _ _ _ _ _ us hl => match us, hl with | [_, _], _ => rfl), g_sylvester_in := He.glo_ok X G (c.fact 17 (f := .glo "sylvester_in") rfl), f_resultant_in := _, fd_resultant_in := _, F_resultant_in := F_resultant_in, b_resultant_in := (F_resultant_in.bindsN fun _ _ _ _ _ _ us hl => match us, hl with | [_, _], _ => rfl), g_resultant_in := He.glo_ok X G (c.fact 18 (f := .glo "resultant_in") rfl), f_require_sylvester := _, fd_require_sylvester := _, F_require_sylvester := F_require_sylvester, b_require_sylvester := (F_require_sylvester.bindsN fun _ _ _ _ _ _ us hl => match us, hl with | [_, _], _ => rfl), g_require_sylvester := He.glo_ok X G (c.fact 19 (f := .glo "require_sylvester") rfl), f_resultant := _, fd_resultant := _, F_resultant := F_resultant, b_resultant := (F_resultant.bindsN fun _ _ _ _ _ _ us hl => match us, hl with | [_, _], _ => rfl), g_resultant := He.glo_ok X G (c.fact 20 (f := .glo "resultant") rfl), f_discriminant_in := _, fd_discriminant_in := _, F_discriminant_in := F_discriminant_in, b_discriminant_in := (F_discriminant_in.bindsN fun _ _ _ _ _ _ us hl => match us, hl with | [_], _ => rfl), g_discriminant_in := He.glo_ok X G (c.fact 21 (f := .glo "discriminant_in") rfl), f_discriminant := _, fd_discriminant := _, F_discriminant := F_discriminant, b_discriminant := (F_discriminant.bindsN fun _ _ _ _ _ _ us hl => match us, hl with | [_], _ => rfl), g_discriminant := He.glo_ok X G (c.fact 22 (f := .glo "discriminant") rfl), f_cut_line := _, fd_cut_line := _, F_cut_line := F_cut_line, b_cut_line := (F_cut_line.bindsN fun _ _ _ _ _ _ us hl => match us, hl with | [_], _ => rfl), g_cut_line := He.glo_ok X G (c.fact 23 (f := .glo "cut_line") rfl), f_rest_of := _, fd_rest_of := _, F_rest_of := F_rest_of, b_rest_of := (F_rest_of.bindsN fun _ _ _ _ _ _ us hl => match us, hl with | [_, _], _ => rfl), g_rest_of := He.glo_ok X G (c.fact 24 (f := .glo "rest_of") rfl), f_shared_part := _, fd_shared_part := _, F_shared_part := F_shared_part, b_shared_part := (F_shared_part.bindsN fun _ _ _ _ _ _ us hl => match us, hl with | [_, _], _ => rfl), g_shared_part := He.glo_ok X G (c.fact 25 (f := .glo "shared_part") rfl), f_exact_quotient := _, fd_exact_quotient := _, F_exact_quotient := F_exact_quotient, b_exact_quotient := (F_exact_quotient.bindsN fun _ _ _ _ _ _ us hl => match us, hl with | [_, _], _ => rfl), g_exact_quotient := He.glo_ok X G (c.fact 26 (f := .glo "exact_quotient") rfl), f_slope_of := _, fd_slope_of := _, F_slope_of := F_slope_of, b_slope_of := (F_slope_of.bindsN fun _ _ _ _ _ _ us hl => match us, hl with | [_], _ => rfl), g_slope_of := He.glo_ok X G (c.fact 27 (f := .glo "slope_of") rfl), f_ahead_of := _, fd_ahead_of := _, F_ahead_of := F_ahead_of, b_ahead_of := (F_ahead_of.bindsN fun _ _ _ _ _ _ us hl => match us, hl with | [_], _ => rfl), g_ahead_of := He.glo_ok X G (c.fact 28 (f := .glo "ahead_of") rfl), f_parts_in := _, fd_parts_in := _, F_parts_in := F_parts_in, b_parts_in := (F_parts_in.bindsN fun _ _ _ _ _ _ us hl => match us, hl with | [_], _ => rfl), g_parts_in := He.glo_ok X G (c.fact 29 (f := .glo "parts_in") rfl), f_plain_entries := _, fd_plain_entries := _, F_plain_entries := F_plain_entries, b_plain_entries := (F_plain_entries.bindsN fun _ _ _ _ _ _ us hl => match us, hl with | [_], _ => rfl), g_plain_entries := He.glo_ok X G (c.fact 30 (f := .glo "plain_entries") rfl), f_require_live := _, fd_require_live := _, F_require_live := F_require_live, b_require_live := (F_require_live.bindsN fun _ _ _ _ _ _ us hl => match us, hl with | [_], _ => rfl), g_require_live := He.glo_ok X G (c.fact 31 (f := .glo "require_live") rfl), f_plain_part := _, fd_plain_part := _, F_plain_part := F_plain_part, b_plain_part := (F_plain_part.bindsN fun _ _ _ _ _ _ us hl => match us, hl with | [_], _ => rfl), g_plain_part := He.glo_ok X G (c.fact 32 (f := .glo "plain_part") rfl), f_law_dice := _, fd_law_dice := _, F_law_dice := F_law_dice, b_law_dice := (F_law_dice.bindsN fun _ _ _ _ _ _ us hl => match us, hl with | [_, _], _ => rfl), g_law_dice := He.glo_ok X G (c.fact 33 (f := .glo "_law_dice") rfl), f_law_roll := _, fd_law_roll := _, F_law_roll := F_law_roll, b_law_roll := (F_law_roll.bindsN fun _ _ _ _ _ _ us hl => match us, hl with | [_, _], _ => rfl), g_law_roll := He.glo_ok X G (c.fact 34 (f := .glo "_law_roll") rfl), f_law_near := _, fd_law_near := _, F_law_near := F_law_near, b_law_near := (F_law_near.bindsN fun _ _ _ _ _ _ us hl => match us, hl with | [_, _], _ => rfl), g_law_near := He.glo_ok X G (c.fact 35 (f := .glo "_law_near") rfl), f_law_gcd := _, fd_law_gcd := _, F_law_gcd := F_law_gcd, b_law_gcd := (F_law_gcd.bindsN fun _ _ _ _ _ _ us hl => match us, hl with | [_, _], _ => rfl), g_law_gcd := He.glo_ok X G (c.fact 36 (f := .glo "_law_gcd") rfl), f_law_shared := _, fd_law_shared := _, F_law_shared := F_law_shared, b_law_shared := (F_law_shared.bindsN fun _ _ _ _ _ _ us hl => match us, hl with | [_], _ => rfl), g_law_shared := He.glo_ok X G (c.fact 37 (f := .glo "_law_shared") rfl), f_law_raised := _, fd_law_raised := _, F_law_raised := F_law_raised, b_law_raised := (F_law_raised.bindsN fun _ _ _ _ _ _ us hl => match us, hl with | [_, _], _ => rfl), g_law_raised := He.glo_ok X G (c.fact 38 (f := .glo "_law_raised") rfl), f_law_plus := _, fd_law_plus := _, F_law_plus := F_law_plus, b_law_plus := (F_law_plus.bindsN fun _ _ _ _ _ _ us hl => match us, hl with | [_, _], _ => rfl), g_law_plus := He.glo_ok X G (c.fact 39 (f := .glo "_law_plus") rfl), f_law_scaled := _, fd_law_scaled := _, F_law_scaled := F_law_scaled, b_law_scaled := (F_law_scaled.bindsN fun _ _ _ _ _ _ us hl => match us, hl with | [_, _], _ => rfl), g_law_scaled := He.glo_ok X G (c.fact 40 (f := .glo "_law_scaled") rfl), f_law_product := _, fd_law_product := _, F_law_product := F_law_product, b_law_product := (F_law_product.bindsN fun _ _ _ _ _ _ us hl => match us, hl with | [_, _], _ => rfl), g_law_product := He.glo_ok X G (c.fact 41 (f := .glo "_law_product") rfl), f_law_all_product := _, fd_law_all_product := _, F_law_all_product := F_law_all_product, b_law_all_product := (F_law_all_product.bindsN fun _ _ _ _ _ _ us hl => match us, hl with | [_], _ => rfl), g_law_all_product := He.glo_ok X G (c.fact 42 (f := .glo "_law_all_product") rfl), f_law_power := _, fd_law_power := _, F_law_power := F_law_power, b_law_power := (F_law_power.bindsN fun _ _ _ _ _ _ us hl => match us, hl with | [_, _], _ => rfl), g_law_power := He.glo_ok X G (c.fact 43 (f := .glo "_law_power") rfl), f_law_by_x := _, fd_law_by_x := _, F_law_by_x := F_law_by_x, b_law_by_x := (F_law_by_x.bindsN fun _ _ _ _ _ _ us hl => match us, hl with | [_], _ => rfl), g_law_by_x := He.glo_ok X G (c.fact 44 (f := .glo "_law_by_x") rfl), f_law_by_y := _, fd_law_by_y := _, F_law_by_y := F_law_by_y, b_law_by_y := (F_law_by_y.bindsN fun _ _ _ _ _ _ us hl => match us, hl with | [_], _ => rfl), g_law_by_y := He.glo_ok X G (c.fact 45 (f := .glo "_law_by_y") rfl), f_law_changed := _, fd_law_changed := _, F_law_changed := F_law_changed, b_law_changed := (F_law_changed.bindsN fun _ _ _ _ _ _ us hl => match us, hl with | [_, _], _ => rfl), g_law_changed := He.glo_ok X G (c.fact 46 (f := .glo "_law_changed") rfl), f_law_plain := _, fd_law_plain := _, F_law_plain := F_law_plain, b_law_plain := (F_law_plain.bindsN fun _ _ _ _ _ _ us hl => match us, hl with | [_], _ => rfl), g_law_plain := He.glo_ok X G (c.fact 47 (f := .glo "_law_plain") rfl), f_law_line := _, fd_law_line := _, F_law_line := F_law_line, b_law_line := (F_law_line.bindsN fun _ _ _ _ _ _ us hl => match us, hl with | [_], _ => rfl), g_law_line := He.glo_ok X G (c.fact 48 (f := .glo "_law_line") rfl), f_law_point := _, fd_law_point := _, F_law_point := F_law_point, b_law_point := (F_law_point.bindsN fun _ _ _ _ _ _ us hl => match us, hl with | [_, _], _ => rfl), g_law_point := He.glo_ok X G (c.fact 49 (f := .glo "_law_point") rfl), f_law_small_form := _, fd_law_small_form := _, F_law_small_form := F_law_small_form, b_law_small_form := (F_law_small_form.bindsN fun _ _ _ _ _ _ us hl => match us, hl with | [_, _, _], _ => rfl), g_law_small_form := He.glo_ok X G (c.fact 50 (f := .glo "_law_small_form") rfl), f_law_form := _, fd_law_form := _, F_law_form := F_law_form, b_law_form := (F_law_form.bindsN fun _ _ _ _ _ _ us hl => match us, hl with | [_, _], _ => rfl), g_law_form := He.glo_ok X G (c.fact 51 (f := .glo "_law_form") rfl), f_law_table := _, fd_law_table := _, F_law_table := F_law_table, b_law_table := (F_law_table.bindsN fun _ _ _ _ _ _ us hl => match us, hl with | [_, _], _ => rfl), g_law_table := He.glo_ok X G (c.fact 52 (f := .glo "_law_table") rfl), f_law_det := _, fd_law_det := _, F_law_det := F_law_det, b_law_det := (F_law_det.bindsN fun _ _ _ _ _ _ us hl => match us, hl with | [_], _ => rfl), g_law_det := He.glo_ok X G (c.fact 53 (f := .glo "_law_det") rfl), f_law_det_of := _, fd_law_det_of := _, F_law_det_of := F_law_det_of, b_law_det_of := (F_law_det_of.bindsN fun _ _ _ _ _ _ us hl => match us, hl with | [_], _ => rfl), g_law_det_of := He.glo_ok X G (c.fact 54 (f := .glo "_law_det_of") rfl), f_law_two_rows := _, fd_law_two_rows := _, F_law_two_rows := F_law_two_rows, b_law_two_rows := (F_law_two_rows.bindsN fun _ _ _ _ _ _ us hl => match us, hl with | [_, _], _ => rfl), g_law_two_rows := He.glo_ok X G (c.fact 55 (f := .glo "_law_two_rows") rfl), f_law_is_due := _, fd_law_is_due := _, F_law_is_due := F_law_is_due, b_law_is_due := (F_law_is_due.bindsN fun _ _ _ _ _ _ us hl => match us, hl with | [_, _], _ => rfl), g_law_is_due := He.glo_ok X G (c.fact 56 (f := .glo "_law_is_due") rfl), f_law_form_right := _, fd_law_form_right := _, F_law_form_right := F_law_form_right, b_law_form_right := (F_law_form_right.bindsN fun _ _ _ _ _ _ us hl => match us, hl with | [_], _ => rfl), g_law_form_right := He.glo_ok X G (c.fact 57 (f := .glo "_law_form_right") rfl), f_law_lines_right := _, fd_law_lines_right := _, F_law_lines_right := F_law_lines_right, b_law_lines_right := (F_law_lines_right.bindsN fun _ _ _ _ _ _ us hl => match us, hl with | [_], _ => rfl), g_law_lines_right := He.glo_ok X G (c.fact 58 (f := .glo "_law_lines_right") rfl), f_law := _, fd_law := _, F_law := F_law, b_law := (F_law.bindsN fun _ _ _ _ _ _ us hl => match us, hl with | [_], _ => rfl), g_law := He.glo_ok X G (c.fact 59 (f := .glo "law") rfl), f_Told_init := _, fd_Told_init := _, F_Told_init := F_Told_init, b_Told_init := (F_Told_init.bindsN fun _ _ _ _ _ _ us hl => match us, hl with | [_, _], _ => rfl), f_Form_init := _, fd_Form_init := _, F_Form_init := F_Form_init, b_Form_init := (F_Form_init.bindsN fun _ _ _ _ _ _ us hl => match us, hl with | [_, _], _ => rfl), f_Form_entries := _, fd_Form_entries := _, F_Form_entries := F_Form_entries, b_Form_entries := (F_Form_entries.bindsN fun _ _ _ _ _ _ us hl => match us, hl with | [_], _ => rfl), f_Form_degree := _, fd_Form_degree := _, F_Form_degree := F_Form_degree, b_Form_degree := (F_Form_degree.bindsN fun _ _ _ _ _ _ us hl => match us, hl with | [_], _ => rfl), f_Form_is_zero := _, fd_Form_is_zero := _, F_Form_is_zero := F_Form_is_zero, b_Form_is_zero := (F_Form_is_zero.bindsN fun _ _ _ _ _ _ us hl => match us, hl with | [_], _ => rfl), f_Form_eq := _, fd_Form_eq := _, F_Form_eq := F_Form_eq, b_Form_eq := (F_Form_eq.bindsN fun _ _ _ _ _ _ us hl => match us, hl with | [_, _], _ => rfl), f_Form_len := _, fd_Form_len := _, F_Form_len := F_Form_len, b_Form_len := (F_Form_len.bindsN fun _ _ _ _ _ _ us hl => match us, hl with | [_], _ => rfl), f_Form_iter := _, fd_Form_iter := _, F_Form_iter := F_Form_iter, b_Form_iter := (F_Form_iter.bindsN fun _ _ _ _ _ _ us hl => match us, hl with | [_], _ => rfl), C_Told := He.ga K "Told", g_Told := He.glo_ok X G (c.fact 60 (f := .glo "Told") rfl), mk_Told := He.mkr_ok (c.fact 83 (f := .mkr "Told") rfl), C_Form := He.ga K "Form", g_Form := He.glo_ok X G (c.fact 61 (f := .glo "Form") rfl), mk_Form := He.mkr_ok (c.fact 84 (f := .mkr "Form") rfl), z_abs := He.free_ok X G (c.fact 62 (f := .free "abs") rfl), z_all := He.free_ok X G (c.fact 63 (f := .free "all") rfl), z_any := He.free_ok X G (c.fact 64 (f := .free "any") rfl), z_bool := He.free_ok X G (c.fact 65 (f := .free "bool") rfl), z_enumerate := He.free_ok X G (c.fact 66 (f := .free "enumerate") rfl), z_int := He.free_ok X G (c.fact 67 (f := .free "int") rfl), z_isinstance := He.free_ok X G (c.fact 68 (f := .free "isinstance") rfl), z_iter := He.free_ok X G (c.fact 69 (f := .free "iter") rfl), z_len := He.free_ok X G (c.fact 70 (f := .free "len") rfl), z_list := He.free_ok X G (c.fact 71 (f := .free "list") rfl), z_max := He.free_ok X G (c.fact 72 (f := .free "max") rfl), z_min := He.free_ok X G (c.fact 73 (f := .free "min") rfl), z_next := He.free_ok X G (c.fact 74 (f := .free "next") rfl), z_range := He.free_ok X G (c.fact 75 (f := .free "range") rfl), z_sorted := He.free_ok X G (c.fact 76 (f := .free "sorted") rfl), z_tuple := He.free_ok X G (c.fact 77 (f := .free "tuple") rfl), z_zip := He.free_ok X G (c.fact 78 (f := .free "zip") rfl), c_GREATEST := He.int_ok X G (c.fact 79 (f := .int "GREATEST" 1000000000000000000000000000000000000000000000000000000000000) rfl), c_MAX_DEGREE := He.int_ok X G (c.fact 80 (f := .int "MAX_DEGREE" 40) rfl), c_MAX_SUM := He.int_ok X G (c.fact 81 (f := .int "MAX_SUM" 24) rfl), c_MAX_DISCRIMINANT := He.int_ok X G (c.fact 82 (f := .int "MAX_DISCRIMINANT" 12) rfl), c_first_of := HookT.codA K ((HookG.At.glo "first_of").adr K), P_first_of := He.tabOf K (HookT.codA K ((HookG.At.glo "first_of").adr K)), code_first_of := HookT.code_of F_first_of, tab_first_of := rfl, m_gcd := PySem.W.mg_of X G (He.eqO_ok ex_0), oc_Told := OwnF.ocB_ok ex_1, a_own_row := _, sl_own_row := HookG.slotB_ok ex_2 (by decide), oc_Form := OwnF.ocB_ok ex_3, a_own_entries := _, sl_own_entries := HookG.slotB_ok ex_4 (by decide), mt_Told_init := HookG.mtB_ok ex_5, mt_Form_init := HookG.mtB_ok ex_6, p_Form_entries := _, pr_Form_entries := HookG.prB_ok ex_7, p_Form_degree := _, pr_Form_degree := HookG.prB_ok ex_8, p_Form_is_zero := _, pr_Form_is_zero := HookG.prB_ok ex_9, mt_Form_eq := HookG.mtB_ok ex_10, mt_Form_len := HookG.mtB_ok ex_11, mt_Form_iter := HookG.mtB_ok ex_12, kit_Told_Form := HookG.dO_ok ex_13, kit_Form_Told := HookG.dO_ok ex }⟩

end K77

set_option Elab.async false
set_option linter.all false
set_option maxRecDepth 100000
set_option maxHeartbeats 0
namespace K77
open PySem PySem.Spec PyProof.Rows L2
abbrev R : PySem.W.OpenRow := PySem.W.OpenLaw.row PySem.Challenge.rw_sourceforms_k77_whole_discriminants
abbrev hk : PySem.W.Hook := HookT.hookT 5 faL fnL tfL exL
def ob (s : PySem.W.SharedT) : HookT.AlGT := HookT.obsGT 5 faL fnL tfL exL (HandSHeadRun.getT s)
theorem ob_eq (s : PySem.W.SharedT) : ob s = hk.obs s.abs := HookT.obsGT_eq (HandSHeadRun.getT_eq s)
def loose0 : List Str := ["_wall", "LetterError", "InvalidForm", "InvalidTable", "InvalidPoint", "InvalidOperation", "InvalidNumber", "TooMany", "GREATEST", "is_whole", "is_short", "is_from", "are_short", "require_short", "require_from", "shared_of", "first_of", "primitive_of", "raised_to", "is_change", "require_change", "swapped_head", "whole_determinant", "MAX_DEGREE", "product_in", "joined_entries", "power_in", "value_in", "changed_in", "derived_in"]
def loose1 : List Str := ["is_zero_in", "first_index", "quotient_in", "Told", "are_entries", "Form", "form_of", "require_form", "sum_in", "MAX_SUM", "MAX_DISCRIMINANT", "require_two", "sylvester_in", "resultant_in", "require_sylvester", "resultant", "discriminant_in", "discriminant", "cut_line", "rest_of", "shared_part", "exact_quotient", "slope_of", "ahead_of", "parts_in", "plain_entries", "require_live", "plain_part", "_law_dice", "_law_roll"]
def loose2 : List Str := ["_law_near", "_law_gcd", "_law_shared", "_law_raised", "_law_plus", "_law_scaled", "_law_product", "_law_all_product", "_law_power", "_law_by_x", "_law_by_y", "_law_changed", "_law_plain", "_law_line", "_law_point", "_law_small_form", "_law_form", "_law_table", "_law_det", "_law_det_of", "_law_two_rows", "_law_is_due", "_law_form_right", "_law_lines_right"]
def loose : List Str := loose0 ++ loose1 ++ loose2
theorem run (w : World) : HandSHeadRun.RunEqI R (PySem.W.view R.prog [0, 91]) hk ob 12000 loose w := by
  show (_ : Option _) = _
  kernel_rfl
end K77

set_option Elab.async false
set_option linter.all false
set_option maxRecDepth 100000
/-! products of forms: the plain law -/
namespace K77
/-- the entry at a place, 0 behind the end -/
def co (l : List Int) (k : Nat) : Int := l.getD k 0
/-- the entries of a product -/
def cv : List Int → (Nat → Int) → Nat → Int
  | [], _, _ => 0
  | x :: xs, g, k => x * g k + (match k with
    | 0 => 0
    | k + 1 => cv xs g k)
theorem cv_nil (g : Nat → Int) (k : Nat) : cv [] g k = 0 := rfl
theorem cv_zero (x : Int) (xs : List Int) (g : Nat → Int) : cv (x :: xs) g 0 = x * g 0 := by show x * g 0 + 0 = _; omega
theorem cv_succ (x : Int) (xs : List Int) (g : Nat → Int) (k : Nat) : cv (x :: xs) g (k + 1) = x * g (k + 1) + cv xs g k := rfl
theorem cv_congr {g h : Nat → Int} : ∀ (l : List Int) (k : Nat), (∀ i, i ≤ k → g i = h i) → cv l g k = cv l h k
  | [], _, _ => rfl
  | x :: xs, 0, e => by rw [cv_zero, cv_zero, e 0 (Nat.le_refl _)]
  | x :: xs, k + 1, e => by rw [cv_succ, cv_succ, e (k + 1) (Nat.le_refl _), cv_congr xs k fun i hi => e i (by omega)]
theorem cv_ext {g h : Nat → Int} (l : List Int) (e : ∀ i, g i = h i) (k : Nat) : cv l g k = cv l h k := cv_congr l k fun i _ => e i
theorem cv_add (l : List Int) (g h : Nat → Int) : ∀ k, cv l (fun i => g i + h i) k = cv l g k + cv l h k := by
  induction l with
  | nil => intro k; rfl
  | cons x xs ih =>
    intro k
    cases k with
    | zero => rw [cv_zero, cv_zero, cv_zero, Int.mul_add]
    | succ k => rw [cv_succ, cv_succ, cv_succ, ih, Int.mul_add]; omega
theorem cv_mul (l : List Int) (c : Int) (g : Nat → Int) : ∀ k, cv l (fun i => c * g i) k = c * cv l g k := by
  induction l with
  | nil => intro k; show (0 : Int) = c * 0; rw [Int.mul_zero]
  | cons x xs ih =>
    intro k
    cases k with
    | zero => rw [cv_zero, cv_zero]; rw [← Int.mul_assoc, Int.mul_comm x c, Int.mul_assoc]
    | succ k => rw [cv_succ, cv_succ, ih, Int.mul_add, ← Int.mul_assoc, Int.mul_comm x c, Int.mul_assoc]
theorem cv_zeroF (l : List Int) : ∀ k, cv l (fun _ => 0) k = 0 := by
  induction l with
  | nil => intro k; rfl
  | cons x xs ih =>
    intro k
    cases k with
    | zero => rw [cv_zero, Int.mul_zero]
    | succ k => rw [cv_succ, ih, Int.mul_zero]; rfl
/-- what is moved by one place -/
def sh (g : Nat → Int) : Nat → Int
  | 0 => 0
  | k + 1 => g k
theorem cv_sh (l : List Int) (g : Nat → Int) : ∀ k, cv l (sh g) k = sh (cv l g) k := by
  induction l with
  | nil => intro k; cases k <;> rfl
  | cons x xs ih =>
    intro k
    cases k with
    | zero => rw [cv_zero]; show x * 0 = 0; rw [Int.mul_zero]
    | succ k =>
      rw [cv_succ, ih]
      show x * g k + sh (cv xs g) k = cv (x :: xs) g k
      cases k with
      | zero => rw [cv_zero]; show x * g 0 + 0 = x * g 0; omega
      | succ k => rw [cv_succ] <;> rfl
theorem cv_cons (x : Int) (xs : List Int) (g : Nat → Int) (k : Nat) : cv (x :: xs) g k = x * g k + sh (cv xs g) k := by
  cases k with
  | zero => rw [cv_zero]; show x * g 0 = x * g 0 + 0; omega
  | succ k => rw [cv_succ] <;> rfl
theorem co_cons (x : Int) (xs : List Int) (k : Nat) : co (x :: xs) k = (if k = 0 then x else 0) + sh (co xs) k := by
  cases k with
  | zero => show x = x + 0; omega
  | succ k =>
    show co xs k = (if k + 1 = 0 then x else 0) + co xs k
    rw [if_neg (by omega)]
    omega
/-- a constant times -/
theorem cv_one (l : List Int) : ∀ k, cv l (fun i => if i = 0 then 1 else 0) k = co l k := by
  induction l with
  | nil => intro k; rfl
  | cons x xs ih =>
    intro k
    cases k with
    | zero => rw [cv_zero, if_pos rfl, Int.mul_one]; rfl
    | succ k => rw [cv_succ, if_neg (by omega), Int.mul_zero, ih]; show 0 + co xs k = co xs k; omega
theorem cv_delta (l : List Int) (x : Int) (k : Nat) : cv l (fun i => if i = 0 then x else 0) k = x * co l k := by
  rw [← cv_one l k, ← cv_mul]
  refine cv_ext l (fun i => ?_) k
  by_cases h : i = 0
  · rw [if_pos h, if_pos h, Int.mul_one]
  · rw [if_neg h, if_neg h, Int.mul_zero]
theorem cv_comm (l m : List Int) : ∀ k, cv l (co m) k = cv m (co l) k := by
  induction l with
  | nil =>
    intro k
    rw [show cv m (co []) k = cv m (fun _ => 0) k from cv_ext m (fun i => rfl) k, cv_zeroF]
    rfl
  | cons x xs ih =>
    intro k
    rw [cv_cons, cv_ext m (h := fun i => (if i = 0 then x else 0) + sh (co xs) i) (fun i => co_cons x xs i), cv_add, cv_delta, cv_sh]
    congr 1
    cases k with
    | zero => rfl
    | succ k => exact ih k
theorem cv_far {g : Nat → Int} {b : Nat} (hb : 1 ≤ b) (hg : ∀ i, b ≤ i → g i = 0) : ∀ (l : List Int) (k : Nat), l.length + b ≤ k + 1 → cv l g k = 0
  | [], _, _ => rfl
  | x :: xs, 0, h => by rw [List.length_cons] at h; omega
  | x :: xs, k + 1, h => by
    rw [List.length_cons] at h
    rw [cv_succ, hg _ (by omega), Int.mul_zero, cv_far hb hg xs k (by omega)]
    rfl
/-- the first n values -/
def tb (n : Nat) (f : Nat → Int) : List Int := (List.range n).map f
theorem tb_len (n : Nat) (f : Nat → Int) : (tb n f).length = n := by
  unfold tb
  rw [List.length_map, List.length_range]
theorem co_tb {n : Nat} {f : Nat → Int} (k : Nat) : co (tb n f) k = if k < n then f k else 0 := by
  unfold co tb
  rw [List.getD_eq_getElem?_getD, List.getElem?_map]
  by_cases h : k < n
  · rw [List.getElem?_range h, if_pos h]
    rfl
  · rw [List.getElem?_eq_none (by rw [List.length_range]; omega), if_neg h]
    rfl
theorem co_far {l : List Int} {i : Nat} (h : l.length ≤ i) : co l i = 0 := by
  unfold co
  rw [List.getD_eq_getElem?_getD, List.getElem?_eq_none h]
  rfl
theorem co_get {l : List Int} {i : Nat} (h : i < l.length) : co l i = l[i] := by
  unfold co
  rw [List.getD_eq_getElem?_getD, List.getElem?_eq_getElem h]
  rfl
theorem co_inj {l m : List Int} (hl : l.length = m.length) (h : ∀ i, co l i = co m i) : l = m := by
  refine List.ext_getElem hl fun i h1 h2 => ?_
  rw [← co_get h1, ← co_get h2, h]
theorem tb_co (l : List Int) : tb l.length (co l) = l := co_inj (tb_len _ _) fun i => by
  rw [co_tb]
  split
  · rfl
  · exact (co_far (by omega)).symm
/-- the product of two forms -/
def ml (l m : List Int) : List Int := tb (l.length + m.length - 1) (cv l (co m))
theorem ml_len (l m : List Int) : (ml l m).length = l.length + m.length - 1 := tb_len _ _
theorem co_ml {l m : List Int} (hm : m ≠ []) (k : Nat) : co (ml l m) k = cv l (co m) k := by
  unfold ml
  rw [co_tb]
  by_cases h : k < l.length + m.length - 1
  · rw [if_pos h]
  · rw [if_neg h]
    have h1 : 0 < m.length := List.length_pos_iff.mpr hm
    exact (cv_far (b := m.length) (by omega) (fun i hi => co_far hi) l k (by omega)).symm
theorem ml_comm (l m : List Int) : ml l m = ml m l := by
  unfold ml
  rw [Nat.add_comm]
  unfold tb
  exact List.map_congr_left fun k _ => cv_comm l m k
theorem cv_assoc (n m : List Int) (hn : n ≠ []) (hm : m ≠ []) : ∀ (l : List Int) (k : Nat), cv (ml l m) (co n) k = cv l (co (ml m n)) k := by
  intro l
  induction l with
  | nil =>
    intro k
    rw [cv_comm, cv_ext n (h := fun _ => 0) (fun i => by rw [co_ml hm]; rfl), cv_zeroF]
    rfl
  | cons x xs ih =>
    intro k
    rw [cv_comm, cv_ext n (h := fun i => x * co m i + sh (co (ml xs m)) i) (fun i => by
      rw [co_ml hm, cv_cons]
      congr 1
      cases i with
      | zero => rfl
      | succ i => exact (co_ml hm i).symm), cv_add, cv_mul, cv_sh, cv_cons]
    rw [show cv n (co m) k = co (ml m n) k by rw [co_ml hn, cv_comm]]
    congr 1
    cases k with
    | zero => rfl
    | succ k => 
      show cv n (co (ml xs m)) k = cv xs (co (ml m n)) k
      rw [← ih k, cv_comm]
theorem ml_ne {l m : List Int} (hl : l ≠ []) (hm : m ≠ []) : ml l m ≠ [] := by
  intro e
  have h := ml_len l m
  rw [e] at h
  have h1 : 0 < m.length := List.length_pos_iff.mpr hm
  have h2 : 0 < l.length := List.length_pos_iff.mpr hl
  have : 0 = l.length + m.length - 1 := h
  omega
theorem ml_assoc {l m n : List Int} (hl : l ≠ []) (hm : m ≠ []) (hn : n ≠ []) : ml (ml l m) n = ml l (ml m n) := by
  have h1 : 0 < m.length := List.length_pos_iff.mpr hm
  have h2 : 0 < l.length := List.length_pos_iff.mpr hl
  have h3 : 0 < n.length := List.length_pos_iff.mpr hn
  refine co_inj (by rw [ml_len, ml_len, ml_len, ml_len]; omega) fun k => ?_
  rw [co_ml hn, co_ml (ml_ne hm hn), cv_assoc n m hn hm]
/-- entry by entry -/
def pl (l m : List Int) : List Int := List.zipWith (· + ·) l m
theorem pl_len {l m : List Int} (h : l.length = m.length) : (pl l m).length = l.length := by
  unfold pl
  rw [List.length_zipWith, h, Nat.min_self]
end K77

set_option Elab.async false
set_option linter.all false
set_option maxRecDepth 100000
/-! the contents of forms -/
namespace K77
theorem least (P : Nat → Prop) (n : Nat) (h : P n) : ∃ m, P m ∧ ∀ k, P k → m ≤ k := by
  induction n using Nat.strongRecOn with
  | _ n ih =>
    by_cases c : ∃ k, k < n ∧ P k
    · obtain ⟨k, hk, pk⟩ := c
      exact ih k hk pk
    · exact ⟨n, h, fun k pk => Nat.le_of_not_lt fun z => c ⟨k, z, pk⟩⟩
structure Prm (p : Nat) : Prop where
  gt : 1 < p
  pr : ∀ a b : Nat, p ∣ a * b → p ∣ a ∨ p ∣ b
theorem prm_of {n : Nat} (h : n ≠ 1) : ∃ p, Prm p ∧ p ∣ n := by
  obtain ⟨d, ⟨d1, dn⟩, hmin⟩ := least (fun d => 1 < d ∧ d ∣ n) (if n = 0 then 2 else n) (by
    by_cases c : n = 0
    · rw [if_pos c, c]
      exact ⟨by omega, Nat.dvd_zero _⟩
    · rw [if_neg c]
      exact ⟨by omega, Nat.dvd_refl _⟩)
  refine ⟨d, ⟨d1, fun a b hab => ?_⟩, dn⟩
  by_cases c : d ∣ a
  · exact .inl c
  · refine .inr ?_
    have g0 : 0 < Nat.gcd d a := Nat.gcd_pos_of_pos_left a (by omega)
    have g1 : Nat.gcd d a ∣ n := Nat.dvd_trans (Nat.gcd_dvd_left d a) dn
    have g2 : Nat.gcd d a = 1 := by
      by_cases z : Nat.gcd d a = 1
      · exact z
      · have h1 := hmin _ ⟨show 1 < Nat.gcd d a by omega, g1⟩
        have h2 : Nat.gcd d a ≤ d := Nat.le_of_dvd (by omega) (Nat.gcd_dvd_left d a)
        have h3 : Nat.gcd d a = d := by omega
        exact absurd (h3 ▸ Nat.gcd_dvd_right d a) c
    have g3 : Nat.Coprime d a := g2
    exact g3.dvd_of_dvd_mul_left hab
theorem Prm.int {p : Nat} (h : Prm p) {x y : Int} (d : (p : Int) ∣ x * y) : (p : Int) ∣ x ∨ (p : Int) ∣ y := by
  have e := Int.natAbs_dvd_natAbs.mpr d
  rw [Int.natAbs_mul] at e
  rcases h.pr _ _ e with e | e
  · exact .inl (Int.natAbs_dvd_natAbs.mp e)
  · exact .inr (Int.natAbs_dvd_natAbs.mp e)
theorem cv_dvd {p : Int} {g : Nat → Int} : ∀ (l : List Int) (k : Nat), (∀ t, t ≤ k → p ∣ g t) → p ∣ cv l g k
  | [], _, _ => Int.dvd_zero p
  | x :: xs, 0, h => by
    rw [cv_zero]
    exact Int.dvd_mul_of_dvd_right (h 0 (Nat.le_refl _))
  | x :: xs, k + 1, h => by
    rw [cv_succ]
    exact Int.dvd_add (Int.dvd_mul_of_dvd_right (h _ (Nat.le_refl _))) (cv_dvd xs k fun t ht => h t (by omega))
theorem gauss {p : Nat} (hp : Prm p) {g : Nat → Int} {j : Nat} (h1 : ∀ t, t < j → (p : Int) ∣ g t) (h2 : ¬ (p : Int) ∣ g j) : ∀ l : List Int, (∃ x ∈ l, ¬ (p : Int) ∣ x) → ∃ k, ¬ (p : Int) ∣ cv l g k
  | [], h => by
    obtain ⟨x, hx, _⟩ := h
    cases hx
  | x :: xs, h => by
    by_cases c : (p : Int) ∣ x
    · obtain ⟨y, hy, hd⟩ := h
      have hy2 : y ∈ xs := by
        rcases List.mem_cons.mp hy with e | e
        · rw [e] at hd
          exact absurd c hd
        · exact e
      obtain ⟨k, hk⟩ := gauss hp h1 h2 xs ⟨y, hy2, hd⟩
      refine ⟨k + 1, fun z => hk ?_⟩
      rw [cv_succ] at z
      exact (Int.dvd_add_right (Int.dvd_mul_of_dvd_left c)).mp z
    · refine ⟨j, fun z => ?_⟩
      cases j with
      | zero =>
        rw [cv_zero] at z
        rcases hp.int z with e | e
        · exact c e
        · exact h2 e
      | succ j =>
        rw [cv_succ] at z
        have := (Int.dvd_add_left (cv_dvd xs j fun t ht => h1 t (by omega))).mp z
        rcases hp.int this with e | e
        · exact c e
        · exact h2 e
/-- the greatest common divisor of all -/
def cont : List Int → Nat
  | [] => 0
  | x :: xs => Nat.gcd x.natAbs (cont xs)
theorem cont_dvd : ∀ (l : List Int) (x : Int), x ∈ l → (cont l : Int) ∣ x
  | y :: ys, x, h => by
    rcases List.mem_cons.mp h with e | e
    · rw [e]
      exact Int.natAbs_dvd_natAbs.mp (by show Nat.gcd _ _ ∣ _; exact Nat.gcd_dvd_left _ _)
    · have := cont_dvd ys x e
      exact Int.dvd_trans (Int.natAbs_dvd_natAbs.mp (by show Nat.gcd _ _ ∣ cont ys; exact Nat.gcd_dvd_right _ _)) this
theorem dvd_cont {d : Nat} : ∀ l : List Int, (∀ x ∈ l, (d : Int) ∣ x) → d ∣ cont l
  | [], _ => Nat.dvd_zero d
  | y :: ys, h => Nat.dvd_gcd (Int.natAbs_dvd_natAbs.mpr (h y List.mem_cons_self)) (dvd_cont ys fun x hx => h x (List.mem_cons_of_mem _ hx))
theorem cont_scale (c : Int) : ∀ l : List Int, cont (l.map (c * ·)) = c.natAbs * cont l
  | [] => rfl
  | x :: xs => by
    show Nat.gcd (c * x).natAbs (cont (xs.map (c * ·))) = c.natAbs * Nat.gcd x.natAbs (cont xs)
    rw [cont_scale c xs, Int.natAbs_mul, Nat.gcd_mul_left]
theorem cont_zero {l : List Int} (h : cont l = 0) : ∀ x ∈ l, x = 0 := fun x hx => by
  have := cont_dvd l x hx
  rw [h] at this
  exact Int.zero_dvd.mp this
theorem co_mem {l : List Int} {k : Nat} : co l k = 0 ∨ co l k ∈ l := by
  by_cases h : k < l.length
  · rw [co_get h]
    exact .inr (List.getElem_mem h)
  · exact .inl (co_far (by omega))
theorem cont_one {l m : List Int} (hm : m ≠ []) (h1 : cont l = 1) (h2 : cont m = 1) : cont (ml l m) = 1 := by
  by_cases c : cont (ml l m) = 1
  · exact c
  · obtain ⟨p, hp, hd⟩ := prm_of c
    have key : ∀ n : List Int, cont n = 1 → ∃ x ∈ n, ¬ (p : Int) ∣ x := fun n hn => by
      by_cases z : ∃ x ∈ n, ¬ (p : Int) ∣ x
      · exact z
      · have h3 : p ∣ cont n := dvd_cont n fun x hx => Classical.byContradiction fun q => z ⟨x, hx, q⟩
        rw [hn] at h3
        have := Nat.le_of_dvd (by omega) h3
        have := hp.gt
        omega
    obtain ⟨y, hy, hyd⟩ := key m h2
    obtain ⟨j0, hj0, ej⟩ := List.mem_iff_getElem.mp hy
    obtain ⟨j, hj, hmin⟩ := least (fun j => ¬ (p : Int) ∣ co m j) j0 (by
      show ¬ (p : Int) ∣ co m j0
      rw [co_get hj0, ej]
      exact hyd)
    obtain ⟨k, hk⟩ := gauss hp (g := co m) (j := j) (fun t ht => Classical.byContradiction fun z => by
      have := hmin t z
      omega) hj l (key l h1)
    refine absurd ?_ hk
    rw [← co_ml hm]
    rcases co_mem (l := ml l m) (k := k) with e | e
    · rw [e]
      exact Int.dvd_zero _
    · exact Int.dvd_trans (Int.natCast_dvd_natCast.mpr hd) (cont_dvd _ _ e)
/-- each form is its content times a form of the content 1, or all 0 -/
theorem cont_split {l : List Int} {d : Int} (h : d.natAbs = cont l) (h0 : cont l ≠ 0) : ∃ m, l = m.map (d * ·) ∧ cont m = 1 := by
  have hd : ∀ x ∈ l, d ∣ x := fun x hx => Int.natAbs_dvd_natAbs.mp (by rw [h]; exact Int.natAbs_dvd_natAbs.mpr (cont_dvd l x hx))
  have d0 : d ≠ 0 := fun e => by rw [e] at h; exact h0 h.symm
  refine ⟨l.map (· / d), ?_, ?_⟩
  · rw [List.map_map]
    conv => lhs; rw [← List.map_id l]
    exact List.map_congr_left fun x hx => (Int.mul_ediv_cancel' (hd x hx)).symm
  · have e : l = (l.map (· / d)).map (d * ·) := by
      rw [List.map_map]
      conv => lhs; rw [← List.map_id l]
      exact List.map_congr_left fun x hx => (Int.mul_ediv_cancel' (hd x hx)).symm
    have e2 := cont_scale d (l.map (· / d))
    rw [← e, h] at e2
    have hp : 0 < cont l := by omega
    exact Nat.eq_of_mul_eq_mul_left hp (by rw [← e2, Nat.mul_one])
theorem co_map (c : Int) (l : List Int) (k : Nat) : co (l.map (c * ·)) k = c * co l k := by
  by_cases h : k < l.length
  · rw [co_get (by rw [List.length_map]; exact h), co_get h, List.getElem_map]
  · rw [co_far (by rw [List.length_map]; omega), co_far (by omega), Int.mul_zero]
theorem ml_scale (c : Int) {l m : List Int} (hm : m ≠ []) : ml (l.map (c * ·)) m = (ml l m).map (c * ·) :=
  co_inj (by rw [List.length_map, ml_len, ml_len, List.length_map]) fun k => by
    rw [co_map, co_ml hm, co_ml hm, cv_comm, cv_comm l, ← cv_mul]
    exact cv_ext m (fun i => co_map c l i) k
theorem cont_ml {l m : List Int} (hl : l ≠ []) (hm : m ≠ []) : cont (ml l m) = cont l * cont m := by
  have zer : ∀ a b : List Int, b ≠ [] → cont a = 0 → cont (ml a b) = 0 := fun a b hb ha => by
    have hz : a = a.map ((0 : Int) * ·) := by
      conv => lhs; rw [← List.map_id a]
      exact List.map_congr_left fun x hx => by rw [cont_zero ha x hx]; rfl
    rw [hz, ml_scale 0 hb, cont_scale]
    exact Nat.zero_mul _
  by_cases c1 : cont l = 0
  · rw [zer l m hm c1, c1, Nat.zero_mul]
  · by_cases c2 : cont m = 0
    · rw [ml_comm, zer m l hl c2, c2, Nat.mul_zero]
    · obtain ⟨a, ea, ca⟩ := cont_split (d := (cont l : Int)) rfl c1
      obtain ⟨b, eb, cb⟩ := cont_split (d := (cont m : Int)) rfl c2
      have hb : b ≠ [] := fun e => by rw [e] at eb; exact hm eb
      have ha : a ≠ [] := fun e => by rw [e] at ea; exact hl ea
      have e : ml l m = ((ml a b).map ((cont l : Int) * ·)).map ((cont m : Int) * ·) := by
        rw [← ml_scale _ hb, ← ea, ml_comm l b, ← ml_scale _ hl, ← eb, ml_comm]
      rw [e, cont_scale, cont_scale, cont_one hb ca cb, Nat.mul_one, Nat.mul_comm]
      rfl
end K77

set_option Elab.async false
set_option linter.all false
set_option maxRecDepth 100000
set_option maxHeartbeats 4000000
namespace K77
open PySem PySem.Spec PyProof.Rows L2 MyR SlX OwnR OwnF
/-- an int of at most sixty digits -/
def Sho (i : Int) : Prop := i.natAbs < 10 ^ 60
theorem Same.rf (H : Hp) : Same H H := fun _ _ h => h
@[elab_as_elim] theorem gen_upd {G : Hp → Prop} (H : Hp) (p : Addr) (o : HO) (n : H p = none) (h : ∀ H', Same H H' → H' p = some o → G H') : G (upd H p o) := h _ (same_upd0 n) upd_same
section
variable {P : Program} {w : World} {K : PySem.W.Frag} {mg : Str → Option Value} {base : Heap}
def spWhole : Sp := fun vs H Q _ => ∃ i : Int, vs = [.int i] ∧ Q (.bl true) H
theorem ok_is_whole (T : Facts K mg) : FnOk P w K mg base CX0 1 T.f_is_whole T.fd_is_whole ["value"] spWhole := by
  refine T.F_is_whole.ok sc_is_whole (fun vs H Q E h => ?_) (fun cdv A outer s H vs Q E hr h => ?_)
  · obtain ⟨i, rfl, _⟩ := h
    rfl
  · obtain ⟨i, rfl, q⟩ := h
    refine ⟨_, (PSs.nox (pss_one (ps_ret (pe_and (pe_callB call_isi (by rfl) T.z_isinstance (by decide +kernel) (pa_cons (pv 0) (pa_cons (pe_bltn (v := .ty "int") (by rfl) T.z_int (by decide +kernel) rfl) pa_nil))) (pe_one (pe_not (pe_callB call_isi (by rfl) T.z_isinstance (by decide +kernel) (pa_cons (pv 0) (pa_cons (pe_bltn (v := .ty "bool") (by rfl) T.z_bool (by decide +kernel) rfl) pa_nil))))))))), ?_⟩
    refine ⟨_, rfl, .int i, .ty "int", .type "int", .type "int", true, rfl, .ty "int", .base (.int i), kit_ty (show kitB "int" "int" = some true by decide +kernel), true, rfl, iteT ?_⟩
    exact ⟨_, rfl, .int i, .ty "bool", .type "int", .type "bool", false, rfl, .ty "bool", .base (.int i), kit_ty (show kitB "int" "bool" = some false by decide +kernel), false, rfl, q⟩
def spShort : Sp := fun vs H Q _ => ∃ i : Int, vs = [.int i] ∧ Sho i ∧ Q (.bl true) H
theorem ok_is_short (T : Facts K mg) : FnOk P w K mg base CX0 2 T.f_is_short T.fd_is_short ["value"] spShort := by
  have G_is_whole : FnOk P w K mg base CX0 1 T.f_is_whole T.fd_is_whole ["value"] spWhole := ok_is_whole T
  refine T.F_is_short.ok sc_is_short (fun vs H Q E h => ?_) (fun cdv A outer s H vs Q E hr h => ?_)
  · obtain ⟨i, rfl, _⟩ := h
    rfl
  · obtain ⟨i, rfl, hi, q⟩ := h
    have e60 : (10 : Nat) ^ 60 = 1000000000000000000000000000000000000000000000000000000000000 := by decide
    unfold Sho at hi
    rw [e60] at hi
    refine ⟨_, (PSs.nox (pss_one (ps_ret (pe_and (pe_call G_is_whole hr (by rfl) T.g_is_whole T.F_is_whole.kp T.b_is_whole .nil pass0 (pa_cons (pv 0) pa_nil)) (pe_one (pe_chain op_lt op_lt (pe_un un_neg (pe_glob (v := .int 1000000000000000000000000000000000000000000000000000000000000) (by rfl) T.c_GREATEST.choose_spec ⟨_, rfl⟩)) (pv 0) (pe_glob (v := .int 1000000000000000000000000000000000000000000000000000000000000) (by rfl) T.c_GREATEST.choose_spec ⟨_, rfl⟩))))))), ?_⟩
    refine ⟨_, rfl, i, rfl, true, rfl, iteT ⟨_, rfl, _, rfl, _, i, rfl, rfl, true, ?_, iteT ⟨i, _, rfl, rfl, ?_⟩⟩⟩
    · show V.bl (decide (-1000000000000000000000000000000000000000000000000000000000000 < i)) = V.bl true
      rw [decide_eq_true (by omega)]
    · show Q (V.bl (decide (i < 1000000000000000000000000000000000000000000000000000000000000))) H
      rw [decide_eq_true (by omega)]
      exact q
/-- a tuple of ints -/
abbrev tp (ns : List Int) : HO := .tup (ns.map V.int)
def spAreShort : Sp := fun vs H Q _ => ∃ (t : Addr) (ns : List Int), vs = [.ref t] ∧ H t = some (tp ns) ∧ ns.length ≤ 1000 ∧ (∀ x ∈ ns, Sho x) ∧ ∀ H', Same H H' → Q (.bl true) H'
theorem ok_are_short (T : Facts K mg) : FnOk P w K mg base CX0 3 T.f_are_short T.fd_are_short ["value"] spAreShort := by
  have G_is_short : FnOk P w K mg base CX0 2 T.f_is_short T.fd_is_short ["value"] spShort := ok_is_short T
  refine T.F_are_short.ok sc_are_short (fun vs H Q E h => ?_) (fun cdv A outer s H vs Q E hr h => ?_)
  · obtain ⟨t, ns, rfl, _⟩ := h
    rfl
  · obtain ⟨t, ns, rfl, ht, hl, hs, q⟩ := h
    refine ⟨_, (PSs.nox (pss_one (ps_ret (pe_and (pe_callB call_isi (by rfl) T.z_isinstance (by decide +kernel) (pa_cons (pv 0) (pa_cons (pe_bltn (v := .ty "tuple") (by rfl) T.z_tuple (by decide +kernel) rfl) pa_nil))) (pe_one (pe_callB (cr_all (by rfl)) (by rfl) T.z_all (by decide +kernel) (pa_cons (pe_lc (own := [("entry", 1)]) (g := (gName 1)) (tt := tYes) (by rfl) sc_are_short.nd (pi_tup (pv 0)) (blkOk_by (N := N_are_short) (sc := defScope s_are_short) (by decide +kernel)) (fun _ _ _ _ _ => (pg_name (i := 1) sc_are_short.nd rfl (.inl rfl))) (fun _ _ _ _ _ => pts_nil) (fun _ _ _ _ _ => (pe_call G_is_short hr (by rfl) T.g_is_short T.F_is_short.kp T.b_is_short .nil pass0 (pa_cons (pv 1) pa_nil)))) pa_nil))))))), ?_⟩
    refine ⟨_, rfl, .ref t, .ty "tuple", .type "tuple", .type "tuple", true, rfl, .ty "tuple", .base (.tup ht), kit_ty (show kitB "tuple" "tuple" = some true by decide +kernel), true, rfl, iteT ?_⟩
    refine ⟨_, rfl, t, rfl, ⟨_, SqT.of ht⟩, fun D hD => lc_tup (xs := ns.map V.int) (fun i H' => H' = upd H D (.lst (List.replicate i (V.bl true)))) rfl (fun i H' hi hP => ?_) (fun i x H' hi hP => ?_) (fun H' hP => ?_)⟩
    · rw [hP]
      exact SqT.of (same_upd0 hD _ _ ht)
    · subst hP
      rw [List.getElem?_map] at hi
      obtain ⟨y, hy, rfl⟩ := Option.map_eq_some_iff.mp hi
      have hlt : i < ns.length := (List.getElem?_eq_some_iff.mp hy).1
      refine ⟨rfl, ⟨_, rfl, y, rfl, hs y (List.mem_of_getElem? hy), _, upd_same, ?_, ?_⟩⟩
      · rw [List.length_replicate]
        exact small1000 (by omega)
      · rw [upd_upd, List.replicate_succ']
    · subst hP
      rw [List.length_map]
      refine ⟨D, List.replicate ns.length true, rfl, SqL.of (by rw [upd_same, List.map_replicate]), ?_⟩
      have e : (List.replicate ns.length true).all id = true := by
        rw [List.all_eq_true]
        intro x hx
        rw [(List.mem_replicate.mp hx).2]
        rfl
      rw [e]
      exact q _ (same_upd0 hD)
def spAreEntries : Sp := fun vs H Q _ => ∃ (t : Addr) (ns : List Int), vs = [.ref t] ∧ H t = some (tp ns) ∧ 1 ≤ ns.length ∧ ns.length ≤ 41 ∧ (∀ x ∈ ns, Sho x) ∧ ∀ H', Same H H' → Q (.bl true) H'
theorem ok_are_entries (T : Facts K mg) : FnOk P w K mg base CX0 4 T.f_are_entries T.fd_are_entries ["value"] spAreEntries := by
  have G_are_short : FnOk P w K mg base CX0 3 T.f_are_short T.fd_are_short ["value"] spAreShort := ok_are_short T
  refine T.F_are_entries.ok sc_are_entries (fun vs H Q E h => ?_) (fun cdv A outer s H vs Q E hr h => ?_)
  · obtain ⟨t, ns, rfl, _⟩ := h
    rfl
  · obtain ⟨t, ns, rfl, ht, h1, h41, hs, q⟩ := h
    refine ⟨_, (PSs.nox (pss_one (ps_ret (pe_and (pe_call G_are_short hr (by rfl) T.g_are_short T.F_are_short.kp T.b_are_short .nil pass0 (pa_cons (pv 0) pa_nil)) (pe_one (pe_chain op_le op_le pe_int (pe_callB call_len_seq (by rfl) T.z_len (by decide +kernel) (pa_cons (pv 0) pa_nil)) (pe_op op_add (pe_glob (v := .int 40) (by rfl) T.c_MAX_DEGREE.choose_spec ⟨_, rfl⟩) pe_int))))))), ?_⟩
    refine ⟨_, rfl, t, ns, rfl, ht, by omega, hs, fun H1 s1 => ⟨true, rfl, iteT ?_⟩⟩
    have ht1 := s1 _ _ ht
    refine ⟨_, rfl, t, _, rfl, .inr (SqT.of ht1), 1, _, rfl, rfl, true, ?_, iteT ⟨_, _, rfl, rfl, _, _, rfl, rfl, ?_⟩⟩
    · rw [List.length_map]
      show V.bl (decide ((1 : Int) ≤ (ns.length : Int))) = V.bl true
      rw [decide_eq_true (by omega)]
    · rw [List.length_map]
      show Q (V.bl (decide ((ns.length : Int) ≤ 40 + 1))) H1
      rw [decide_eq_true (by omega)]
      exact q H1 s1
/-! ### making a form -/
/-- a form with these entries -/
def Fo (C : Addr) (H : Hp) (a : Addr) (ns : List Int) : Prop := ∃ dx t, H a = some (SlO a C dx [some (.ref t)]) ∧ H dx = some (.xd []) ∧ H t = some (tp ns)
theorem Fo.same {C a : Addr} {H H' : Hp} {ns : List Int} (h : Fo C H a ns) (s : Same H H') : Fo C H' a ns := by
  obtain ⟨dx, t, h1, h2, h3⟩ := h
  exact ⟨dx, t, s _ _ h1, s _ _ h2, s _ _ h3⟩
theorem Fo.slt {C a : Addr} {H : Hp} {ns : List Int} (h : Fo C H a ns) : ∃ dx t, Slt H a C dx [some (.ref t)] ∧ H t = some (tp ns) := by
  obtain ⟨dx, t, h1, h2, h3⟩ := h
  exact ⟨dx, t, .inr ⟨h1, h2⟩, h3⟩
/-- Told(row) -/
def spTold (C : Addr) : Sp := fun vs H Q _ => ∃ (x dx : Addr) (v : V), vs = [.ref x, v] ∧ Slt H x C dx [] ∧ Q .non (slH H x C dx [some v])
theorem ok_Told_init (T : Facts K mg) : FnOk P w K mg base CX0 1 T.f_Told_init T.fd_Told_init ["self", "row"] (spTold T.C_Told) := by
  refine T.F_Told_init.ok sc_Told_init (fun vs H Q E h => ?_) (fun cdv A outer s H vs Q E hr h => ?_)
  · obtain ⟨x, dx, v, rfl, _⟩ := h
    rfl
  · obtain ⟨x, dx, v, rfl, hx, q⟩ := h
    refine ⟨_, (PSs.nox (pss_one (ps_sl (pv 0) (pv 1)))), ?_⟩
    exact ⟨_, rfl, _, rfl, x, T.C_Told, dx, T.a_own_row, [], 0, rfl, hx, T.oc_Told.scl, T.sl_own_row, q⟩
/-- Form(entries) -/
def spForm (CT CF : Addr) : Sp := fun vs H Q _ => ∃ (x dx y t : Addr), vs = [.ref x, .ref y] ∧ Slt H x CF dx [] ∧ ((∃ dy, Slt H y CT dy [some (.ref t)]) ∨ ∃ ns, y = t ∧ H t = some (tp ns) ∧ 1 ≤ ns.length ∧ ns.length ≤ 41 ∧ ∀ z ∈ ns, Sho z) ∧ ∀ H', Same H H' → Q .non (slH H' x CF dx [some (.ref t)])
theorem Slt.same {C a dx : Addr} {vs : List (Option V)} {H H' : Hp} (h : Slt H a C dx vs) (s : Same H H') : Slt H' a C dx vs := by
  rcases h with ⟨h1, h2⟩ | ⟨h1, h2⟩
  · exact .inl ⟨s _ _ h1, h2⟩
  · exact .inr ⟨s _ _ h1, s _ _ h2⟩
theorem ok_Form_init (T : Facts K mg) : FnOk P w K mg base CX0 5 T.f_Form_init T.fd_Form_init ["self", "entries"] (spForm T.C_Told T.C_Form) := by
  have G_are_entries : FnOk P w K mg base CX0 4 T.f_are_entries T.fd_are_entries ["value"] spAreEntries := ok_are_entries T
  refine T.F_Form_init.ok sc_Form_init (fun vs H Q E h => ?_) (fun cdv A outer s H vs Q E hr h => ?_)
  · obtain ⟨x, dx, y, t, rfl, _⟩ := h
    rfl
  · obtain ⟨x, dx, y, t, rfl, hx, hy, q⟩ := h
    refine ⟨_, (PSs.nox (pss_cons (ps_if (pw_and (pt_not (pt_val (pe_callB (call_isiF T.C_Told) (by rfl) T.z_isinstance (by decide +kernel) (pa_cons (pv 1) (pa_cons (pe_glob (v := .ref T.C_Told) (by rfl) T.g_Told rfl) pa_nil))))) (pw_and1 (pt_not (pt_val (pe_call G_are_entries hr (by rfl) T.g_are_entries T.F_are_entries.kp T.b_are_entries .nil pass0 (pa_cons (pv 1) pa_nil)))))).pt
      (pss_one ps_never)
      pss_nil)
    (pss_one (ps_sl (pv 0) (pe_ifExp (pt_val (pe_callB (call_isiF T.C_Told) (by rfl) T.z_isinstance (by decide +kernel) (pa_cons (pv 1) (pa_cons (pe_glob (v := .ref T.C_Told) (by rfl) T.g_Told rfl) pa_nil)))) (pe_sl (pv 1)) (pv 1)))))), ?_⟩
    rcases hy with ⟨dy, hy⟩ | ⟨ns, rfl, ht, h1, h41, hs⟩
    · refine ⟨_, rfl, .inr ⟨y, T.C_Told, dy, _, .ref T.C_Told, true, rfl, rfl, fun w r => r, hy, T.oc_Told.scl, T.oc_Told.sis, T.oc_Told.kself, true, rfl, iteF ?_⟩⟩
      refine ⟨_, rfl, .inr ⟨y, T.C_Told, dy, _, .ref T.C_Told, true, rfl, rfl, fun w r => r, hy, T.oc_Told.scl, T.oc_Told.sis, T.oc_Told.kself, true, rfl, iteT ?_⟩⟩
      refine ⟨_, rfl, y, T.C_Told, dy, T.a_own_row, _, 0, .ref t, rfl, hy, T.oc_Told.scl, T.sl_own_row, rfl, ?_⟩
      exact ⟨_, rfl, x, T.C_Form, dx, T.a_own_entries, [], 0, rfl, hx, T.oc_Form.scl, T.sl_own_entries, q H (Same.rf H)⟩
    · refine ⟨_, rfl, .inl ⟨.ref y, .ref T.C_Told, .type "tuple", .ref T.C_Told, false, rfl, .own _, .base (.tup ht), T.oc_Told.ktup, false, rfl, iteT ?_⟩⟩
      refine ⟨_, rfl, y, ns, rfl, ht, h1, h41, hs, fun H1 s1 => ⟨true, rfl, iteF ?_⟩⟩
      refine ⟨_, rfl, .inl ⟨.ref y, .ref T.C_Told, .type "tuple", .ref T.C_Told, false, rfl, .own _, .base (.tup (s1 _ _ ht)), T.oc_Told.ktup, false, rfl, iteF ?_⟩⟩
      exact ⟨_, rfl, _, rfl, x, T.C_Form, dx, T.a_own_entries, [], 0, rfl, Slt.same hx s1, T.oc_Form.scl, T.sl_own_entries, q H1 s1⟩
/-- what making leaves -/
theorem made {C x dx : Addr} {v : V} {H' H0 : Hp} (hx : H0 x = none) (hdx : H0 dx = none) (hne : dx ≠ x) (s : Same (upd (upd H0 dx (.own x)) x (.ins C dx [])) H') : Same H0 (slH H' x C dx [some v]) := fun b o e => by
  have h1 : b ≠ x := ne_of_none e hx
  have h2 : b ≠ dx := ne_of_none e hdx
  rw [slH_ne h1 h2]
  exact s _ _ (by rw [upd_ne h1, upd_ne h2]; exact e)
/-- what is made of a row -/
def spMake (C : Addr) : Sp := fun vs H Q _ => ∃ (t : Addr) (ns : List Int), vs = [.ref t] ∧ H t = some (tp ns) ∧ ∀ p H', Same H H' → H p = none → Fo C H' p ns → Q (.ref p) H'
theorem ok_form_of (T : Facts K mg) : FnOk P w K mg base CX0 7 T.f_form_of T.fd_form_of ["entries"] (spMake T.C_Form) := by
  have G_Told_init : FnOk P w K mg base CX0 1 T.f_Told_init T.fd_Told_init ["self", "row"] (spTold T.C_Told) := ok_Told_init T
  have G_Form_init : FnOk P w K mg base CX0 5 T.f_Form_init T.fd_Form_init ["self", "entries"] (spForm T.C_Told T.C_Form) := ok_Form_init T
  refine T.F_form_of.ok sc_form_of (fun vs H Q E h => ?_) (fun cdv A outer s H vs Q E hr h => ?_)
  · obtain ⟨t, ns, rfl, _⟩ := h
    rfl
  · obtain ⟨t, ns, rfl, ht, q⟩ := h
    refine ⟨_, (PSs.nox (pss_one (ps_ret (pe_make T.mk_Form G_Form_init (hr.mono (by decide)) (by rfl) T.g_Form T.b_Form_init .nil pass0 (pa_cons (pe_make T.mk_Told G_Told_init (hr.mono (by decide)) (by rfl) T.g_Told T.b_Told_init .nil pass0 (pa_cons (pv 0) pa_nil)) pa_nil))))), ?_⟩
    refine ⟨_, rfl, fun x dx hx hdx hne => ⟨x, dx, .ref t, rfl, .inl ⟨upd_same, rfl⟩, rfl, ?_⟩⟩
    have s1 : Same H (slH (upd (upd H dx (.own x)) x (.ins T.C_Told dx [])) x T.C_Told dx [some (.ref t)]) := made hx hdx hne (Same.rf _)
    have y1 : Slt (slH (upd (upd H dx (.own x)) x (.ins T.C_Told dx [])) x T.C_Told dx [some (.ref t)]) x T.C_Told dx [some (.ref t)] := slH_slt hne
    generalize slH (upd (upd H dx (.own x)) x (.ins T.C_Told dx [])) x T.C_Told dx [some (.ref t)] = H1 at s1 y1 ⊢
    refine fun x2 dx2 hx2 hdx2 hne2 => ⟨x2, dx2, x, t, rfl, .inl ⟨upd_same, rfl⟩, .inl ⟨dx, ?_⟩, fun H2 s2 => ⟨rfl, ?_⟩⟩
    · exact slt_upd (slt_upd y1 hdx2) (by rw [upd_ne (Ne.symm hne2)]; exact hx2)
    · have s3 : Same H1 (slH H2 x2 T.C_Form dx2 [some (.ref t)]) := made hx2 hdx2 hne2 s2
      have hx0 : H x2 = none := by
        cases e : H x2 with
        | none => rfl
        | some o =>
          have := s1 _ _ e
          rw [hx2] at this
          cases this
      refine q x2 _ (fun b o e => s3 _ _ (s1 _ _ e)) hx0 ⟨dx2, t, upd_same, ?_, s3 _ _ (s1 _ _ ht)⟩
      unfold slH
      rw [upd_ne hne2, upd_same]
end
end K77

set_option Elab.async false
set_option linter.all false
set_option maxRecDepth 100000
set_option maxHeartbeats 4000000
namespace K77
open PySem PySem.Spec PyProof.Rows L2 MyR SlX OwnR OwnF
theorem cv_snoc (x : Int) (g : Nat → Int) : ∀ (l : List Int) (k : Nat), cv (l ++ [x]) g k = cv l g k + (if l.length ≤ k then x * g (k - l.length) else 0)
  | [], k => by
    show cv (x :: []) g k = 0 + (if 0 ≤ k then x * g (k - 0) else 0)
    rw [if_pos (Nat.zero_le k), Nat.sub_zero]
    cases k with
    | zero => rw [cv_zero]; omega
    | succ k => rw [cv_succ]; show x * g (k + 1) + 0 = 0 + x * g (k + 1); omega
  | y :: ys, 0 => by
    show cv (y :: (ys ++ [x])) g 0 = cv (y :: ys) g 0 + (if ys.length + 1 ≤ 0 then _ else 0)
    rw [cv_zero, cv_zero, if_neg (by omega)]
    omega
  | y :: ys, k + 1 => by
    show cv (y :: (ys ++ [x])) g (k + 1) = cv (y :: ys) g (k + 1) + (if ys.length + 1 ≤ k + 1 then x * g (k + 1 - (ys.length + 1)) else 0)
    rw [cv_succ, cv_succ, cv_snoc x g ys k, Nat.add_sub_add_right]
    by_cases h : ys.length ≤ k
    · rw [if_pos h, if_pos (by omega)]; omega
    · rw [if_neg h, if_neg (by omega)]; omega
/-- the entries so far: i rows, and j places of the next one -/
def J (xs : List Int) (g : Nat → Int) (i j k : Nat) : Int := cv (xs.take i) g k + (if i ≤ k ∧ k < i + j then co xs i * g (k - i) else 0)
theorem J_0 {xs : List Int} {g : Nat → Int} {i k : Nat} : J xs g i 0 k = cv (xs.take i) g k := by
  unfold J
  rw [if_neg (by omega)]
  omega
theorem J_step {xs : List Int} {g : Nat → Int} {i j k : Nat} : (if k = i + j then J xs g i j (i + j) + co xs i * g j else J xs g i j k) = J xs g i (j + 1) k := by
  unfold J
  by_cases h : k = i + j
  · subst h
    rw [if_pos rfl, if_neg (by omega), if_pos (by omega), Nat.add_sub_cancel_left]
    omega
  · rw [if_neg h]
    by_cases c : i ≤ k ∧ k < i + j
    · rw [if_pos c, if_pos (by omega)]
    · rw [if_neg c, if_neg (by omega)]
theorem J_end {xs ys : List Int} {i k : Nat} (hi : i < xs.length) : J xs (co ys) i ys.length k = cv (xs.take (i + 1)) (co ys) k := by
  unfold J
  have e : xs.take (i + 1) = xs.take i ++ [xs[i]] := by rw [List.take_add_one, List.getElem?_eq_getElem hi]; rfl
  have hl : (xs.take i).length = i := by rw [List.length_take]; omega
  rw [e, cv_snoc, hl, co_get hi]
  congr 1
  by_cases c : i ≤ k
  · by_cases d : k < i + ys.length
    · rw [if_pos ⟨c, d⟩, if_pos c]
    · rw [if_neg (by omega), if_pos c, co_far (by omega), Int.mul_zero]
  · rw [if_neg (by omega), if_neg c]
def tab (L : Nat) (f : Nat → Int) : List V := (List.range L).map fun k => V.int (f k)
theorem tab_tb (L : Nat) (f : Nat → Int) : tab L f = (tb L f).map V.int := by
  unfold tab tb
  rw [List.map_map]
  rfl
theorem tab_len (L : Nat) (f : Nat → Int) : (tab L f).length = L := by
  unfold tab
  rw [List.length_map, List.length_range]
theorem tab_get {L : Nat} {f : Nat → Int} {k : Nat} (h : k < L) : (tab L f)[k]? = some (.int (f k)) := by
  unfold tab
  rw [List.getElem?_map, List.getElem?_range h]
  rfl
theorem tab_ext {L : Nat} {f g : Nat → Int} (h : ∀ k, k < L → f k = g k) : tab L f = tab L g := by
  unfold tab
  exact List.map_congr_left fun k hk => by rw [h k (List.mem_range.mp hk)]
theorem tab_none {L : Nat} {f : Nat → Int} {k : Nat} (h : L ≤ k) : (tab L f)[k]? = none := List.getElem?_eq_none (by rw [tab_len]; exact h)
theorem tab_set {L : Nat} {f : Nat → Int} {j : Nat} {v : Int} : (tab L f).set j (.int v) = tab L (fun k => if k = j then v else f k) := by
  apply List.ext_getElem?
  intro k
  by_cases hk : k < L
  · rw [tab_get hk]
    by_cases e : k = j
    · subst e
      rw [List.getElem?_set_self (by rw [tab_len]; exact hk), if_pos rfl]
    · rw [List.getElem?_set_ne (Ne.symm e), tab_get hk, if_neg e]
  · rw [tab_none (Nat.le_of_not_lt hk), List.getElem?_eq_none (by rw [List.length_set, tab_len]; exact Nat.le_of_not_lt hk)]
theorem tab_rep (n : Nat) : List.replicate n (V.int 0) = tab n fun _ => 0 := by
  unfold tab
  rw [List.map_const', List.length_range]
theorem ix_at {n : Nat} {z : Int} {j : Nat} (e : z = (j : Int)) (h : j < n) : ixN n z = some j := by
  rw [e]
  exact Evl.ixN_nat h
theorem at_of {xs : List V} {z : Int} {j : Nat} {v : V} (e : z = (j : Int)) (h : xs[j]? = some v) : atI xs z = some v := by
  rw [e]
  exact atI_nat h
/-- ints of less than 400 bits -/
def sm (x : Int) : Prop := x.natAbs < 2 ^ 4000
theorem sm_mul {x y : Int} (hx : sm x) (hy : sm y) : CMulW x y := wide_mul hx hy (by decide) (by decide) (by decide)
theorem get_int {xs : List Int} {i : Nat} (h : i < xs.length) : (xs.map V.int)[i]? = some (.int (co xs i)) := by
  rw [List.getElem?_map, List.getElem?_eq_getElem h, co_get h]
  rfl
theorem sm_co {xs : List Int} {i : Nat} (h : ∀ x ∈ xs, sm x) (hi : i < xs.length) : sm (co xs i) := by
  rw [co_get hi]
  exact h _ (List.getElem_mem hi)
section
variable {P : Program} {w : World} {K : PySem.W.Frag} {mg : Str → Option Value} {base : Heap}
def spJoin (K : PySem.W.Frag) : Sp := fun vs H Q _ => ∃ (a b : Addr) (xs ys : List Int), vs = [.ref a, .ref b] ∧ H a = some (tp xs) ∧ H b = some (tp ys) ∧ xs ≠ [] ∧ ys ≠ [] ∧ xs.length ≤ 100 ∧ ys.length ≤ 100 ∧ (∀ x ∈ xs, sm x) ∧ (∀ x ∈ ys, sm x) ∧ ∀ p H', Same H H' → H p = none → H' p = some (tp (ml xs ys)) → Q (.ref p) H'
theorem ok_joined_entries (T : Facts K mg) : FnOk P w K mg base CX0 1 T.f_joined_entries T.fd_joined_entries ["one", "other"] (spJoin K) := by
  refine T.F_joined_entries.ok sc_joined_entries (fun vs H Q E h => ?_) (fun cdv A outer s H vs Q E hr h => ?_)
  · obtain ⟨a, b, xs, ys, rfl, _⟩ := h
    rfl
  · obtain ⟨a, b, xs, ys, rfl, ha, hb, nx, ny, lx, ly, hx, hy, q⟩ := h
    have px : 0 < xs.length := List.length_pos_iff.mpr nx
    have py : 0 < ys.length := List.length_pos_iff.mpr ny
    refine ⟨_, (PSs.nox (pss_cons (ps_setLc (i := 2) (own := [("place", 3)]) (g := (gName 3)) (tt := tYes) rfl sc_joined_entries.nd rfl rfl (sw_true rfl rfl rfl (by decide +kernel)) (pi_range1 (by rfl) T.z_range (pa_cons (pe_op op_sub (pe_op op_add (pe_callB call_len_seq (by rfl) T.z_len (by decide +kernel) (pa_cons (pv 0) pa_nil)) (pe_callB call_len_seq (by rfl) T.z_len (by decide +kernel) (pa_cons (pv 1) pa_nil))) pe_int) pa_nil)) (blkOk_by (N := N_joined_entries) (sc := defScope s_joined_entries) (by decide +kernel)) (fun _ _ _ _ _ => (pg_name (i := 3) sc_joined_entries.nd rfl (.inl rfl))) (fun _ _ _ _ _ => pts_nil) (fun _ _ _ _ _ => pe_int))
    (pss_cons (ps_for PassesOwn.never (by rfl) (pi_range1 (by rfl) T.z_range (pa_cons (pe_callB call_len_seq (by rfl) T.z_len (by decide +kernel) (pa_cons (pv 0) pa_nil)) pa_nil)) (pg_name (i := 4) sc_joined_entries.nd rfl (.inl rfl))
      (pss_one (ps_for PassesOwn.never (by rfl) (pi_range1 (by rfl) T.z_range (pa_cons (pe_callB call_len_seq (by rfl) T.z_len (by decide +kernel) (pa_cons (pv 1) pa_nil)) pa_nil)) (pg_name (i := 3) sc_joined_entries.nd rfl (.inl rfl))
        (pss_one (ps_asg (pe_op op_add (pe_ix ix_list (pv 2) (pe_op op_add (pv 4) (pv 3)) (fun _ _ => rfl)) (pe_op op_mulW (pe_ix ix_tup (pv 0) (pv 4) (fun _ _ => rfl)) (pe_ix ix_tup (pv 1) (pv 3) (fun _ _ => rfl)))) (pg_sub (pv 2) (pe_op op_add (pv 4) (pv 3)) set_list))))))
    (pss_one (ps_ret (pe_tupleOf (by rfl) T.z_tuple (pv 2))))))), ?_⟩
    refine ⟨_, rfl, a, _, rfl, .inr (SqT.of ha), _, rfl, b, _, rfl, .inr (SqT.of hb), ?_⟩
    rw [List.length_map, List.length_map]
    obtain ⟨N, hN⟩ : ∃ N, N = xs.length + ys.length - 1 := ⟨_, rfl⟩
    have eN : (((xs.length : Int) + (ys.length : Int) - 1)).toNat = N := by omega
    refine ⟨_, _, rfl, rfl, _, _, rfl, rfl, _, rfl, (by show -(2 ^ 62) ≤ (xs.length : Int) + (ys.length : Int) - 1; omega), (by show (xs.length : Int) + (ys.length : Int) - 1 < 2 ^ 62; omega), fun D hD => lc_range (n := _) (fun j H' => H' = upd H D (.lst (List.replicate j (V.int 0)))) rfl (fun j H' hj hP => ?_) (fun H' hP => ?_)⟩
    · subst hP
      have hj2 : j < N := by rw [← eN]; exact hj
      refine ⟨rfl, ⟨_, upd_same, ?_, ?_⟩⟩
      · rw [List.length_replicate]
        exact small1000 (by omega)
      · rw [upd_upd, List.replicate_succ']
    · subst hP
      show _
      rw [show List.replicate (((xs.length : Int) + (ys.length : Int) - 1)).toNat (V.int 0) = tab N (fun k => cv (xs.take 0) (co ys) k) by rw [eN, tab_rep]; rfl]
      have sD : ∀ o, Same H (upd H D o) := fun o => same_upd0 hD
      refine ⟨_, rfl, a, _, rfl, .inr (SqT.of (sD _ _ _ ha)), ?_⟩
      rw [List.length_map]
      refine ⟨xs.length, rfl, by omega, by omega, for_range (n := (xs.length : Int).toNat) (fun i σ H' => ∃ y3 y4, σ = [some (.ref a), some (.ref b), some (.ref D), y3, y4] ∧ H' = upd H D (.lst (tab N fun k => cv (xs.take i) (co ys) k))) ⟨none, none, rfl, rfl⟩ (fun i σ H' hi hP => ?_) (fun σ H' hP => ?_)⟩
      · obtain ⟨y3, y4, rfl, rfl⟩ := hP
        have hi2 : i < xs.length := by omega
        refine ⟨_, rfl, b, _, rfl, .inr (SqT.of (sD _ _ _ hb)), ?_⟩
        rw [List.length_map, tab_ext (g := J xs (co ys) i 0) fun k hk => J_0.symm]
        refine ⟨ys.length, rfl, by omega, by omega, for_range (n := (ys.length : Int).toNat) (fun j σ H' => ∃ y3, σ = [some (.ref a), some (.ref b), some (.ref D), y3, some (.int (0 + (i : Int)))] ∧ H' = upd H D (.lst (tab N (J xs (co ys) i j)))) ⟨y3, rfl, rfl⟩ (fun j σ H' hj hP => ?_) (fun σ H' hP => ?_)⟩
        · obtain ⟨y3, rfl, rfl⟩ := hP
          have hj2 : j < ys.length := by omega
          have e1 : (0 : Int) + (i : Int) + (0 + (j : Int)) = ((i + j : Nat) : Int) := by omega
          have e2 : (0 : Int) + (i : Int) = ((i : Nat) : Int) := by omega
          have e3 : (0 : Int) + (j : Int) = ((j : Nat) : Int) := by omega
          refine ⟨_, rfl, _, rfl, _, rfl, _, _, rfl, rfl, D, _, _, _, rfl, rfl, SqL.of upd_same, at_of e1 (tab_get (by omega)), _, rfl, _, rfl, a, _, _, _, rfl, rfl, SqT.of (sD _ _ _ ha), at_of e2 (get_int hi2), _, rfl, _, rfl, b, _, _, _, rfl, rfl, SqT.of (sD _ _ _ hb), at_of e3 (get_int hj2), _, _, rfl, rfl, sm_mul (sm_co hx hi2) (sm_co hy hj2), _, _, rfl, rfl, ?_⟩
          refine ⟨_, rfl, _, rfl, _, rfl, _, _, rfl, rfl, D, _, _, (i + j), rfl, rfl, upd_same, ?_, ?_⟩
          · rw [tab_len]
            exact ix_at e1 (by omega)
          · refine ⟨_, rfl, ?_⟩
            rw [upd_upd]
            show upd H D (.lst ((tab N (J xs (co ys) i j)).set (i + j) (.int (J xs (co ys) i j (i + j) + co xs i * co ys j)))) = _
            rw [tab_set, tab_ext fun k hk => J_step]
        · obtain ⟨y3, rfl, rfl⟩ := hP
          refine ⟨_, _, rfl, ?_⟩
          rw [Int.toNat_natCast, tab_ext fun k hk => J_end hi2]
      · obtain ⟨y3, y4, rfl, rfl⟩ := hP
        rw [Int.toNat_natCast, List.take_length, tab_tb]
        refine ⟨_, rfl, ?_⟩
        refine .inl ⟨D, _, rfl, SqL.of upd_same, fun p hp => ?_⟩
        refine q p _ ((sD _).trans (same_upd0 hp)) (Same.free (sD _) hp) ?_
        rw [upd_same, hN]
        rfl
end
end K77

set_option Elab.async false
set_option linter.all false
set_option maxRecDepth 100000
set_option maxHeartbeats 4000000
namespace K77
open PySem PySem.Spec PyProof.Rows L2 StX RZ MyR SlX OwnR OwnF
/-- a comprehension over zip of two tuples of one length -/
theorem lc_zipT {K : PySem.W.Frag} {a b : Addr} {xs ys : List V} {g : TG} {tt : TT} {te : TE} {vs : List Nat} {σ : L2.St} {H1 : Hp} {D : Addr} {Qd : Hp → Prop} (hl : xs.length = ys.length) (Pv : Nat → Hp → Prop) (h0 : Pv 0 (upd H1 D (.lst []))) (hq : ∀ i H, i ≤ xs.length → Pv i H → SqT K H a xs ∧ SqT K H b ys)
    (hs : ∀ (i : Nat) (x y : V) (T : Addr) (H : Hp), xs[i]? = some x → ys[i]? = some y → Pv i H → H T = none → g (.ref T) (wipe σ vs) (upd H T (.tup [x, y])) fun σ2 H2 => wipe σ2 vs = wipe σ vs ∧ tt σ2 H2 fun b H3 =>
      if b = true then te σ2 H3 fun y H4 => ∃ acc, H4 D = some (.lst acc) ∧ acc.length < sizeLine ∧ Pv (i + 1) (upd H4 D (.lst (acc ++ [y]))) else Pv (i + 1) H3) (hd : ∀ H, Pv xs.length H → Qd H) :
    ∃ W : Nat → Nat → Hp → Prop, (∃ m, W 0 m (upd H1 D (.lst []))) ∧ ∀ i m H, W i m H →
      ((ItzT K a b).stop i H ∧ Qd H) ∨ ((ItzT K a b).go i H ∧ ∃ Nx : Hp → Prop, (∀ H', Nx H' → ∃ m', m' < m ∧ W (i + 1) m' H') ∧ ∀ x H', (ItzT K a b).yld i H x H' → g x (wipe σ vs) H' fun σ2 H2 => wipe σ2 vs = wipe σ vs ∧ tt σ2 H2 fun b H3 =>
        if b = true then te σ2 H3 fun y H4 => ∃ acc, H4 D = some (.lst acc) ∧ acc.length < sizeLine ∧ Nx (upd H4 D (.lst (acc ++ [y]))) else Nx H3) := by
  refine ⟨fun i m H => m = xs.length - i ∧ i ≤ xs.length ∧ Pv i H, ⟨xs.length, by simp, Nat.zero_le _, h0⟩, ?_⟩
  rintro i m H ⟨rfl, hi, p⟩
  obtain ⟨qx, qy⟩ := hq i H hi p
  by_cases hlt : i < xs.length
  · have hlt2 : i < ys.length := by omega
    have hx : xs[i]? = some xs[i] := List.getElem?_eq_getElem hlt
    have hy : ys[i]? = some ys[i] := List.getElem?_eq_getElem hlt2
    refine .inr ⟨⟨xs, ys, _, _, qx, qy, hx, hy⟩, Pv (i + 1), fun H' p' => ⟨xs.length - (i + 1), by omega, rfl, hlt, p'⟩, fun v H' y => ?_⟩
    obtain ⟨T, x', y', rfl, hT, rfl, f1, f2⟩ := y
    exact hs i x' y' T H (f1 xs qx) (f2 ys qy) p hT
  · have e : i = xs.length := by omega
    subst e
    exact .inl ⟨⟨xs, ys, qx, qy, Or.inl (Nat.le_refl _)⟩, hd H p⟩
/-- the sign of the first entry that is not 0 -/
def sg : List Int → Int
  | [] => 1
  | x :: xs => if x = 0 then sg xs else if 0 < x then 1 else -1
theorem sg_cases : ∀ l : List Int, sg l = 1 ∨ sg l = -1
  | [] => .inl rfl
  | x :: xs => by
    unfold sg
    split
    · exact sg_cases xs
    · split
      · exact .inl rfl
      · exact .inr rfl
def part (l : List Int) : Int := (cont l : Int) * sg l
theorem part_abs (l : List Int) : (part l).natAbs = cont l := by
  unfold part
  rw [Int.natAbs_mul]
  rcases sg_cases l with e | e <;> rw [e] <;> simp
theorem sm_cont {l : List Int} (h : ∀ x ∈ l, sm x) : cont l < 2 ^ 4000 := by
  by_cases c : ∃ x ∈ l, x ≠ 0
  · obtain ⟨x, hx, h0⟩ := c
    have h1 := Int.natAbs_dvd_natAbs.mpr (cont_dvd l x hx)
    have h2 := Nat.le_of_dvd (Int.natAbs_pos.mpr h0) h1
    exact Nat.lt_of_le_of_lt h2 (h x hx)
  · have hz : ∀ l : List Int, (∀ x ∈ l, x = 0) → cont l = 0 := by
      intro l
      induction l with
      | nil => intro _; rfl
      | cons y ys ih =>
        intro hl
        show Nat.gcd y.natAbs (cont ys) = 0
        rw [ih fun x hx => hl x (List.mem_cons_of_mem _ hx), hl y List.mem_cons_self]
        rfl
    rw [hz l fun x hx => Classical.byContradiction fun q => c ⟨x, hx, q⟩]
    decide
theorem sm_part {l : List Int} (h : ∀ x ∈ l, sm x) : sm (part l) := by
  show (part l).natAbs < _
  rw [part_abs]
  exact sm_cont h
/-- divided by its content, the first entry that is not 0 above 0 -/
def prim (l : List Int) : List Int := if part l = 0 then l else l.map fun x => x.fdiv (part l)
theorem tb_map (f : Int → Int) (l : List Int) : (tb l.length fun k => f (co l k)) = l.map f := by
  conv => rhs; rw [← tb_co l]
  unfold tb
  rw [List.map_map]
  rfl
section
variable {P : Program} {w : World} {K : PySem.W.Frag} {mg : Str → Option Value} {base : Heap}
def spZero : Sp := fun vs H Q _ => ∃ (t : Addr) (ns : List Int), vs = [.ref t] ∧ H t = some (tp ns) ∧ Q (.bl (!ns.any (· != 0))) H
theorem ok_is_zero_in (T : Facts K mg) : FnOk P w K mg base CX0 1 T.f_is_zero_in T.fd_is_zero_in ["entries"] spZero := by
  refine T.F_is_zero_in.ok sc_is_zero_in (fun vs H Q E h => ?_) (fun cdv A outer s H vs Q E hr h => ?_)
  · obtain ⟨t, ns, rfl, _⟩ := h
    rfl
  · obtain ⟨t, ns, rfl, ht, q⟩ := h
    refine ⟨_, (PSs.nox (pss_one (ps_ret (pe_not (pe_callB (cr_anyTI (by rfl)) (by rfl) T.z_any (by decide +kernel) (pa_cons (pv 0) pa_nil)))))), ?_⟩
    exact ⟨_, rfl, t, ns, rfl, SqT.of ht, _, rfl, q⟩
def spPrim : Sp := fun vs H Q _ => ∃ (t : Addr) (ns : List Int), vs = [.ref t] ∧ H t = some (tp ns) ∧ ns.length ≤ 1000 ∧ (∀ x ∈ ns, sm x) ∧ ∀ p H', Same H H' → H' p = some (tp (prim ns)) → Q (.ref p) H'
/-- the sum of one row and a multiple of the other -/
def zs (c : Int) (xs ys : List Int) : List Int := List.zipWith (fun x y => x + c * y) xs ys
end
end K77

set_option Elab.async false
set_option linter.all false
set_option maxRecDepth 100000
set_option maxHeartbeats 4000000
namespace K77
open PySem PySem.Spec PyProof.Rows L2 StX RZ MyR SlX OwnR OwnF
/-! ### == of tuples of ints -/
theorem dpAll_ints {K : PySem.W.Frag} {H : Hp} : ∀ ns : List Int, DpAll K H (ns.map V.int) (ns.map PyData.int)
  | [] => .nil
  | n :: r => .cons (.int n) (dpAll_ints r)
theorem lay_ints : ∀ ns : List Int, PyData.canLayAll0 (ns.map PyData.int) = true
  | [] => rfl
  | n :: r => by
    show (PyData.canLay0 (.int n) && PyData.canLayAll0 (r.map PyData.int)) = true
    rw [lay_ints r]
    rfl
theorem depth_ints : ∀ ns : List Int, PyData.depthAll (ns.map PyData.int) = 0
  | [] => rfl
  | n :: r => by
    show max (PyData.depth (.int n)) (PyData.depthAll (r.map PyData.int)) = 0
    rw [depth_ints r]
    rfl
theorem shaped_tints (ns : List Int) : SeqAt.shaped (.tuple (ns.map PyData.int)) = true := by
  unfold SeqAt.shaped
  rw [show PyData.canLay0 (.tuple (ns.map PyData.int)) = PyData.canLayAll0 (ns.map PyData.int) from rfl, lay_ints]
  rw [show PyData.depth (.tuple (ns.map PyData.int)) = PyData.depthAll (ns.map PyData.int) + 1 from rfl, depth_ints]
  rfl
/-! ### the properties, the operators -/
section
variable {P : Program} {w : World} {K : PySem.W.Frag} {mg : Str → Option Value} {base : Heap}
def spEnt (C : Addr) : Sp := fun vs H Q _ => ∃ (a : Addr) (ns : List Int), vs = [.ref a] ∧ Fo C H a ns ∧ ∀ t, H t = some (tp ns) → Q (.ref t) H
theorem ok_Form_entries (T : Facts K mg) : FnOk P w K mg base CX0 1 T.f_Form_entries T.fd_Form_entries ["self"] (spEnt T.C_Form) := by
  refine T.F_Form_entries.ok sc_Form_entries (fun vs H Q E h => ?_) (fun cdv A outer s H vs Q E hr h => ?_)
  · obtain ⟨a, ns, rfl, _⟩ := h
    rfl
  · obtain ⟨a, ns, rfl, fa, q⟩ := h
    obtain ⟨dx, t, ha, ht⟩ := fa.slt
    refine ⟨_, (PSs.nox (pss_one (ps_ret (pe_sl (pv 0))))), ?_⟩
    exact ⟨_, rfl, a, T.C_Form, dx, T.a_own_entries, _, 0, .ref t, rfl, ha, T.oc_Form.scl, T.sl_own_entries, rfl, q t ht⟩
def spDeg (C : Addr) : Sp := fun vs H Q _ => ∃ (a : Addr) (ns : List Int), vs = [.ref a] ∧ Fo C H a ns ∧ Q (.int ((ns.length : Int) - 1)) H
theorem ok_Form_degree (T : Facts K mg) : FnOk P w K mg base CX0 1 T.f_Form_degree T.fd_Form_degree ["self"] (spDeg T.C_Form) := by
  refine T.F_Form_degree.ok sc_Form_degree (fun vs H Q E h => ?_) (fun cdv A outer s H vs Q E hr h => ?_)
  · obtain ⟨a, ns, rfl, _⟩ := h
    rfl
  · obtain ⟨a, ns, rfl, fa, q⟩ := h
    obtain ⟨dx, t, ha, ht⟩ := fa.slt
    refine ⟨_, (PSs.nox (pss_one (ps_ret (pe_op op_sub (pe_callB call_len_seq (by rfl) T.z_len (by decide +kernel) (pa_cons (pe_sl (pv 0)) pa_nil)) pe_int)))), ?_⟩
    refine ⟨_, rfl, a, T.C_Form, dx, T.a_own_entries, _, 0, .ref t, rfl, ha, T.oc_Form.scl, T.sl_own_entries, rfl, t, _, rfl, .inr (SqT.of ht), _, _, rfl, rfl, ?_⟩
    rw [List.length_map]
    exact q
def spIsZ (C : Addr) : Sp := fun vs H Q _ => ∃ (a : Addr) (ns : List Int), vs = [.ref a] ∧ Fo C H a ns ∧ Q (.bl (!ns.any (· != 0))) H
theorem ok_Form_is_zero (T : Facts K mg) : FnOk P w K mg base CX0 2 T.f_Form_is_zero T.fd_Form_is_zero ["self"] (spIsZ T.C_Form) := by
  have G_is_zero_in : FnOk P w K mg base CX0 1 T.f_is_zero_in T.fd_is_zero_in ["entries"] spZero := ok_is_zero_in T
  refine T.F_Form_is_zero.ok sc_Form_is_zero (fun vs H Q E h => ?_) (fun cdv A outer s H vs Q E hr h => ?_)
  · obtain ⟨a, ns, rfl, _⟩ := h
    rfl
  · obtain ⟨a, ns, rfl, fa, q⟩ := h
    obtain ⟨dx, t, ha, ht⟩ := fa.slt
    refine ⟨_, (PSs.nox (pss_one (ps_ret (pe_call G_is_zero_in hr (by rfl) T.g_is_zero_in T.F_is_zero_in.kp T.b_is_zero_in .nil pass0 (pa_cons (pe_sl (pv 0)) pa_nil))))), ?_⟩
    exact ⟨_, rfl, a, T.C_Form, dx, T.a_own_entries, _, 0, .ref t, rfl, ha, T.oc_Form.scl, T.sl_own_entries, rfl, t, ns, rfl, ht, q⟩
/-- what is asked of a form's row -/
structure Rw (ns : List Int) : Prop where
  ne : ns ≠ []
  len : ns.length ≤ 100
  sm : ∀ x ∈ ns, sm x
/-- isinstance(x, Form), x a form -/
theorem isi_form {X : Cx} {C b dy : Addr} {vs : List (Option V)} {H : Hp} {Q : VK} (c : OC X.K C) (hb : Slt H b C dy vs) (q : Q (.bl true) H) : rIsi X.K [.ref b, .ref C] H Q ∨ rIsiSl X.K (.ref C) [.ref b, .ref C] H Q :=
  .inr ⟨b, C, dy, vs, .ref C, true, rfl, rfl, fun w r => r, hb, c.scl, c.sis, c.kself, q⟩
end
end K77

set_option Elab.async false
set_option linter.all false
set_option maxRecDepth 100000
set_option maxHeartbeats 4000000
namespace K77
open PySem PySem.Spec PyProof.Rows L2 StX RZ MyR SlX OwnR OwnF
theorem eqvAll_ints : ∀ xs ys : List Int, PyData.eqvAll (xs.map PyData.int) (ys.map PyData.int) = decide (xs = ys)
  | [], [] => rfl
  | [], _ :: _ => rfl
  | _ :: _, [] => rfl
  | x :: xs, y :: ys => by
    show (PyData.eqv (.int x) (.int y) && PyData.eqvAll (xs.map PyData.int) (ys.map PyData.int)) = _
    rw [eqvAll_ints xs ys]
    show ((x == y) && decide (xs = ys)) = decide (x :: xs = y :: ys)
    by_cases h : x = y
    · by_cases k : xs = ys
      · subst h k
        simp
      · rw [decide_eq_false k, decide_eq_false fun z => k (List.cons.inj z).2, Bool.and_false]
    · rw [decide_eq_false fun z => h (List.cons.inj z).1, beq_eq_false_iff_ne.mpr h, Bool.false_and]
theorem eqv_ints (xs ys : List Int) : PyData.eqv (.tuple (xs.map PyData.int)) (.tuple (ys.map PyData.int)) = decide (xs = ys) := eqvAll_ints xs ys
theorem ne_ints {K : PySem.W.Frag} {H : Hp} {a b : Addr} {xs ys : List Int} {Q : VK} (ha : SqT K H a (xs.map V.int)) (hb : SqT K H b (ys.map V.int)) (q : Q (.bl (!decide (xs = ys))) H) : rNeD K (.ref a) (.ref b) H Q := by
  refine ⟨_, _, .tup ha (dpAll_ints xs), .tup hb (dpAll_ints ys), shaped_tints xs, shaped_tints ys, ?_⟩
  rw [eqv_ints]
  exact q
section
variable {P : Program} {w : World} {K : PySem.W.Frag} {mg : Str → Option Value} {base : Heap}
end
end K77

set_option Elab.async false
set_option linter.all false
set_option maxRecDepth 100000
set_option maxHeartbeats 4000000
namespace K77
open PySem PySem.Spec PyProof.Rows L2 StX RZ MyR SlX OwnR OwnF
abbrev dice (x y z : Int) : HO := .lst [.int x, .int y, .int z]
/-- all but the dice is as it was -/
def Sx (a : Addr) (H H' : Hp) : Prop := ∀ b o, b ≠ a → H b = some o → H' b = some o
def Dc (H : Hp) (a : Addr) : Prop := ∃ x y z, H a = some (dice x y z)
theorem Sx.refl (a : Addr) (H : Hp) : Sx a H H := fun _ _ _ h => h
theorem Sx.trans {a : Addr} {H H1 H2 : Hp} (s : Sx a H H1) (t : Sx a H1 H2) : Sx a H H2 := fun b o n h => t b o n (s b o n h)
theorem Sx.of {a : Addr} {H H' : Hp} (s : Same H H') : Sx a H H' := fun b o _ h => s b o h
theorem Sx.upd {a : Addr} {H : Hp} {o : HO} : Sx a H (upd H a o) := fun b u n h => by
  rw [upd_ne n]
  exact h
theorem Dc.same {a : Addr} {H H' : Hp} (d : Dc H a) (s : Same H H') : Dc H' a := by
  obtain ⟨x, y, z, e⟩ := d
  exact ⟨x, y, z, s _ _ e⟩
theorem Dc.ne {a p : Addr} {H : Hp} (d : Dc H a) (n : H p = none) : p ≠ a := fun e => by
  obtain ⟨x, y, z, h⟩ := d
  rw [e, h] at n
  cases n
theorem Sx.free {a p : Addr} {H H' : Hp} (s : Sx a H H') (n : H' p = none) (ne : p ≠ a) : H p = none := by
  cases q : H p with
  | none => rfl
  | some o =>
    rw [s p o ne q] at n
    cases n
section
variable {P : Program} {w : World} {K : PySem.W.Frag} {mg : Str → Option Value} {base : Heap}
theorem cp16 : CPow 10 16 := ⟨by decide, by decide, by decide⟩
theorem cp60 : CPow 10 60 := ⟨by decide, by decide, by decide⟩
theorem cw60 : CMulW (10 ^ Int.toNat 60) (10 ^ Int.toNat 60) := by
  unfold CMulW
  decide +kernel
theorem pos60 : (0 : Int) < 10 ^ Int.toNat 60 * 10 ^ Int.toNat 60 := by decide +kernel
theorem pos_m : (0 : Int) < 1152921504606846697 := by decide
theorem sz3 : 3 ≤ sizeLine := by decide
def spDice (K : PySem.W.Frag) : Sp := fun vs H Q _ => ∃ (a : Addr) (ns : List Int) (k : Nat), vs = [.ref a, .int k] ∧ SqL K H a (ns.map V.int) ∧ ∀ p x y z, H p = none → Q (.ref p) (upd H p (dice x y z))
theorem ok_law_dice (T : Facts K mg) : FnOk P w K mg base CX0 1 T.f_law_dice T.fd_law_dice ["_law_script", "_law_spot"] (spDice K) := by
  refine T.F_law_dice.ok sc_law_dice (fun vs H Q E h => ?_) (fun cdv A outer s H vs Q E hr h => ?_)
  · obtain ⟨a, ns, k, rfl, _⟩ := h
    rfl
  · obtain ⟨a, ns, k, rfl, hS, q⟩ := h
    refine ⟨_, (PSs.nox (pss_cons (ps_set (i := 2) sc_law_dice.nd rfl (.inl rfl) (pe_ifExp (pt_cmpR op_lt (pv 1) (pe_callB call_len_seq (by rfl) T.z_len (by decide +kernel) (pa_cons (pv 0) pa_nil)) (nomark _)) (pe_callTy call_int1 (by rfl) T.z_int (by decide +kernel) (pa_cons (pe_ix ix_list (pv 0) (pv 1) (fun _ _ => rfl)) pa_nil)) (pe_op op_add (pe_op op_mul pe_int (pv 1)) pe_int)))
    (pss_cons (ps_set (i := 3) sc_law_dice.nd rfl (.inl rfl) (pe_op op_mod (pe_callB (call_max2 (by rfl)) (by rfl) T.z_max (by decide +kernel) (pa_cons pe_int (pa_cons (pe_op op_sub (pe_callB call_abs (by rfl) T.z_abs (by decide +kernel) (pa_cons (pv 2) pa_nil)) (pe_op op_pow pe_int pe_int)) pa_nil))) (pe_op op_mulW (pe_op op_pow pe_int pe_int) (pe_op op_pow pe_int pe_int))))
    (pss_one (ps_ret (pe_lst (pa_cons (pv 3) (pa_cons (pe_op op_add (pe_op op_add (pe_op op_add (pe_op op_mul (pe_op op_mod (pe_callB call_abs (by rfl) T.z_abs (by decide +kernel) (pa_cons (pv 2) pa_nil)) pe_int) pe_int) (pe_op op_mul pe_int (pv 1))) (pe_op op_mul pe_int (pe_callTy call_int1 (by rfl) T.z_int (by decide +kernel) (pa_cons (pe_cmpR op_lt (pv 2) pe_int (nomark _)) pa_nil)))) pe_int) (pa_cons pe_int pa_nil))))))))), ?_⟩
    refine ⟨.int k, rfl, .ref a, rfl, a, ns.map V.int, rfl, .inl hS, k, _, rfl, rfl, _, rfl, ?_⟩
    rw [List.length_map]
    by_cases h1 : (k : Int) < (ns.length : Int)
    · rw [decide_eq_true h1]
      have hj : k < ns.length := by omega
      refine iteT ⟨.ref a, rfl, .int k, rfl, a, ns.map V.int, k, .int ns[k], rfl, rfl, hS, atI_nat (by rw [List.getElem?_map, List.getElem?_eq_getElem hj]; rfl), .inl ⟨_, rfl, ?_⟩⟩
      refine ⟨.int ns[k], rfl, _, rfl, 10, 16, rfl, rfl, cp16, _, _, rfl, rfl, 0, _, rfl, 10, 60, rfl, rfl, cp60, 10, 60, rfl, rfl, cp60, _, _, rfl, rfl, cw60, _, _, rfl, rfl, pos60, ?_⟩
      refine ⟨_, rfl, .int ns[k], rfl, _, rfl, _, _, rfl, rfl, pos_m, _, _, rfl, rfl, .inr ⟨by decide, by decide⟩, .int k, rfl, _, _, rfl, rfl, .inl ⟨by decide, by decide⟩, _, _, rfl, rfl, .int ns[k], rfl, _, _, rfl, rfl, .inr ⟨_, rfl, _, _, rfl, rfl, .inl ⟨by decide, by decide⟩, _, _, rfl, rfl, _, _, rfl, rfl, ?_⟩⟩
      exact ⟨sz3, fun p hp => q p _ _ _ hp⟩
    · rw [decide_eq_false h1]
      refine iteF ⟨.int k, rfl, _, _, rfl, rfl, .inl ⟨by decide, by decide⟩, _, _, rfl, rfl, ?_⟩
      refine ⟨_, rfl, _, rfl, 10, 16, rfl, rfl, cp16, _, _, rfl, rfl, 0, _, rfl, 10, 60, rfl, rfl, cp60, 10, 60, rfl, rfl, cp60, _, _, rfl, rfl, cw60, _, _, rfl, rfl, pos60, ?_⟩
      refine ⟨_, rfl, _, rfl, _, rfl, _, _, rfl, rfl, pos_m, _, _, rfl, rfl, .inr ⟨by decide, by decide⟩, .int k, rfl, _, _, rfl, rfl, .inl ⟨by decide, by decide⟩, _, _, rfl, rfl, _, rfl, _, _, rfl, rfl, .inr ⟨_, rfl, _, _, rfl, rfl, .inl ⟨by decide, by decide⟩, _, _, rfl, rfl, _, _, rfl, rfl, ?_⟩⟩
      exact ⟨sz3, fun p hp => q p _ _ _ hp⟩
def spRoll : Sp := fun vs H Q _ => ∃ (a : Addr) (x y z n : Int), vs = [.ref a, .int n] ∧ H a = some (dice x y z) ∧ 0 < n ∧ n.natAbs.log2 < 9000 ∧ ∀ r x' z', 0 ≤ r → r < n → Q (.int r) (upd H a (dice x' y z'))
theorem ok_law_roll (T : Facts K mg) : FnOk P w K mg base CX0 1 T.f_law_roll T.fd_law_roll ["_law_dice_here", "_law_total"] spRoll := by
  refine T.F_law_roll.ok sc_law_roll (fun vs H Q E h => ?_) (fun cdv A outer s H vs Q E hr h => ?_)
  · obtain ⟨a, x, y, z, n, rfl, _⟩ := h
    rfl
  · obtain ⟨a, x, y, z, n, rfl, hd, h0, h1, q⟩ := h
    have hS : SqL K H a [.int x, .int y, .int z] := SqL.of hd
    refine ⟨_, (PSs.nox (pss_cons (ps_if (pt_cmpR op_gt (pe_ix ix_list (pv 0) pe_int (fun _ _ => rfl)) pe_int (nomark _))
      (pss_cons (ps_set (i := 2) sc_law_roll.nd rfl (.inl rfl) (pe_op op_mod (pe_callTy call_int1 (by rfl) T.z_int (by decide +kernel) (pa_cons (pe_ix ix_list (pv 0) pe_int (fun _ _ => rfl)) pa_nil)) (pv 1)))
      (pss_cons (ps_asg (pe_op op_fdivW (pe_ix ix_list (pv 0) pe_int (fun _ _ => rfl)) (pv 1)) (pg_sub (pv 0) pe_int set_list))
      (pss_one (ps_ret (pv 2)))))
      pss_nil)
    (pss_cons (ps_asg (pe_op op_add (pe_ix ix_list (pv 0) pe_int (fun _ _ => rfl)) pe_int) (pg_sub (pv 0) pe_int set_list))
    (pss_cons (ps_set (i := 3) sc_law_roll.nd rfl (.inl rfl) (pe_op op_mod (pe_callTy call_int1 (by rfl) T.z_int (by decide +kernel) (pa_cons (pe_op op_add (pe_ix ix_list (pv 0) pe_int (fun _ _ => rfl)) (pe_op op_mul pe_int (pe_ix ix_list (pv 0) pe_int (fun _ _ => rfl)))) pa_nil)) pe_int))
    (pss_cons (ps_set (i := 4) sc_law_roll.nd rfl (.inl rfl) (pe_op op_add (pe_op op_mul (pe_op op_mod (pe_callTy call_int1 (by rfl) T.z_int (by decide +kernel) (pa_cons (pe_op op_add (pe_op op_mul (pv 3) (pv 3)) (pe_op op_mul pe_int (pe_ix ix_list (pv 0) pe_int (fun _ _ => rfl)))) pa_nil)) pe_int) pe_int) (pv 3)))
    (pss_one (ps_ret (pe_op op_mod (pe_callTy call_int1 (by rfl) T.z_int (by decide +kernel) (pa_cons (pe_op op_fdivW (pv 4) pe_int) pa_nil)) (pv 1))))))))), ?_⟩
    refine ⟨.ref a, rfl, a, _, 0, .int x, rfl, rfl, hS, atI_nat (j := 0) rfl, x, 0, rfl, rfl, decide (0 < x), rfl, ite2 (fun _ => ?_) (fun _ => ?_)⟩
    · refine ⟨.ref a, rfl, a, _, 0, .int x, rfl, rfl, hS, atI_nat (j := 0) rfl, .inl ⟨x, rfl, .int n, rfl, x, n, rfl, rfl, h0, ?_⟩⟩
      refine ⟨.ref a, rfl, a, _, 0, .int x, rfl, rfl, hS, atI_nat (j := 0) rfl, .int n, rfl, x, n, rfl, rfl, ⟨h0, h1⟩, ?_⟩
      refine ⟨.ref a, rfl, a, _, 0, 0, rfl, rfl, hd, rfl, ?_⟩
      exact ⟨_, rfl, q (x % n) (x / n) z (Int.emod_nonneg _ (by omega)) (Int.emod_lt_of_pos _ h0)⟩
    · refine ⟨.ref a, rfl, a, _, 2, .int z, rfl, rfl, hS, atI_nat (j := 2) rfl, z, 1, rfl, rfl, ?_⟩
      refine ⟨.ref a, rfl, a, _, 2, 2, rfl, rfl, hd, rfl, ?_⟩
      have hd' : (upd H a (dice x y (z + 1))) a = some (dice x y (z + 1)) := upd_same
      have hS' : SqL K (upd H a (dice x y (z + 1))) a [.int x, .int y, .int (z + 1)] := SqL.of hd'
      refine ⟨.ref a, rfl, a, _, 1, .int y, rfl, rfl, hS', atI_nat (j := 1) rfl, .ref a, rfl, a, _, 2, .int (z + 1), rfl, rfl, hS', atI_nat (j := 2) rfl, _, _, rfl, rfl, .inl ⟨by decide, by decide⟩, _, _, rfl, rfl, .inl ⟨_, rfl, _, _, rfl, rfl, (by decide : (0 : Int) < 2305843009213691579), ?_⟩⟩
      have b0 := Int.emod_nonneg (y + 92821991 * (z + 1)) (show (2305843009213691579 : Int) ≠ 0 by decide)
      have b1 := Int.emod_lt_of_pos (y + 92821991 * (z + 1)) (show (0 : Int) < 2305843009213691579 by decide)
      refine ⟨_, rfl, _, rfl, _, _, rfl, rfl, .inl ⟨Int.lt_of_lt_of_le (by decide) b0, Int.lt_trans b1 (by decide)⟩, .ref a, rfl, a, _, 2, .int (z + 1), rfl, rfl, hS', atI_nat (j := 2) rfl, _, _, rfl, rfl, .inl ⟨by decide, by decide⟩, _, _, rfl, rfl, .inl ⟨_, rfl, _, _, rfl, rfl, (by decide : (0 : Int) < 2305843009213692227), _, _, rfl, rfl, .inr ⟨by decide, by decide⟩, _, rfl, _, _, rfl, rfl, ?_⟩⟩
      refine ⟨_, rfl, _, _, rfl, rfl, ⟨by decide, by decide +kernel⟩, .inl ⟨_, rfl, .int n, rfl, _, _, rfl, rfl, h0, ?_⟩⟩
      exact q _ x (z + 1) (Int.emod_nonneg _ (by omega)) (Int.emod_lt_of_pos _ h0)
def spRoll2 : Sp := fun vs H Q _ => ∃ (a : Addr) (n : Int), vs = [.ref a, .int n] ∧ Dc H a ∧ 0 < n ∧ n.natAbs.log2 < 9000 ∧ ∀ (r : Nat) H', (r : Int) < n → Sx a H H' → Dc H' a → Q (.int r) H'
theorem roll2 : ∀ vs H Q E, spRoll2 vs H Q E → spRoll vs H Q E := fun vs H Q E h => by
  obtain ⟨a, n, rfl, ⟨x, y, z, e⟩, h0, h1, q⟩ := h
  refine ⟨a, x, y, z, n, rfl, e, h0, h1, fun r x' z' r0 r1 => ?_⟩
  obtain ⟨j, rfl⟩ := Int.eq_ofNat_of_zero_le r0
  exact q j _ r1 Sx.upd ⟨x', y, z', upd_same⟩
def spNear : Sp := fun vs H Q _ => ∃ (a : Addr) (m : Int), vs = [.ref a, .int m] ∧ Dc H a ∧ 0 ≤ m ∧ m ≤ 10 ^ 15 ∧ ∀ r H', -m ≤ r → r ≤ m → Sx a H H' → Dc H' a → Q (.int r) H'
theorem ok_law_near (T : Facts K mg) : FnOk P w K mg base CX0 2 T.f_law_near T.fd_law_near ["_law_dice_here", "_law_most"] spNear := by
  have G_law_roll : FnOk P w K mg base CX0 1 T.f_law_roll T.fd_law_roll ["_law_dice_here", "_law_total"] spRoll2 := (ok_law_roll T).imp roll2
  refine T.F_law_near.ok sc_law_near (fun vs H Q E h => ?_) (fun cdv A outer s H vs Q E hr h => ?_)
  · obtain ⟨a, m, rfl, _⟩ := h
    rfl
  · obtain ⟨a, m, rfl, hd, h0, h1, q⟩ := h
    refine ⟨_, (PSs.nox (pss_one (ps_ret (pe_op op_sub (pe_call G_law_roll hr (by rfl) T.g_law_roll T.F_law_roll.kp T.b_law_roll .nil pass0 (pa_cons (pv 0) (pa_cons (pe_op op_add (pe_op op_mul pe_int (pv 1)) pe_int) pa_nil))) (pv 1))))), ?_⟩
    have e15 : (10 : Int) ^ 15 = 1000000000000000 := by decide
    rw [e15] at h1
    refine ⟨_, rfl, _, rfl, _, _, rfl, rfl, .inl ⟨by decide, by decide⟩, _, _, rfl, rfl, a, _, rfl, hd, (by show 0 < 2 * m + 1; omega), ?_, fun r H' hr s d => ⟨_, rfl, _, _, rfl, rfl, ?_⟩⟩
    · refine Nat.lt_trans (PySem.Flt.log2_lt_of (k := 60) (by decide) ?_) (by decide)
      show (2 * m + 1).natAbs < 2 ^ 60
      omega
    · have hr' : (r : Int) < 2 * m + 1 := hr
      exact q _ H' (by omega) (by omega) s d
/-! ### the law's own gcd -/
def spLGcd : Sp := fun vs H Q _ => ∃ t b : Int, vs = [.int t, .int b] ∧ Q (.int ((Nat.gcd t.natAbs b.natAbs : Nat) : Int)) H
def yOf : L2.St → Nat
  | [_, some (.int y)] => y.toNat
  | _ => 0
theorem abs_nat (i : Int) : (if i < 0 then -i else i) = (i.natAbs : Int) := by split <;> omega
theorem ok_law_gcd (T : Facts K mg) : FnOk P w K mg base CX0 1 T.f_law_gcd T.fd_law_gcd ["_law_one", "_law_other"] spLGcd := by
  refine T.F_law_gcd.ok sc_law_gcd (fun vs H Q E h => ?_) (fun cdv A outer s H vs Q E hr h => ?_)
  · obtain ⟨t, b, rfl, _⟩ := h
    rfl
  · obtain ⟨t, b, rfl, q⟩ := h
    refine ⟨_, (PSs.nox (pss_cons (ps_par (i := 0) (j := 1) (by rfl) sc_law_gcd.nd rfl rfl (by decide) rfl rfl (pa_cons (pe_callB call_abs (by rfl) T.z_abs (by decide +kernel) (pa_cons (pv 0) pa_nil)) (pa_cons (pe_callB call_abs (by rfl) T.z_abs (by decide +kernel) (pa_cons (pv 1) pa_nil)) pa_nil)) (by rfl))
    (pss_cons (ps_while PassesOwn.never (pt_cmpR op_gt (pv 1) pe_int (nomark _))
      (pss_one (ps_par (i := 0) (j := 1) (by rfl) sc_law_gcd.nd rfl rfl (by decide) rfl rfl (pa_cons (pv 1) (pa_cons (pe_op op_mod (pe_callTy call_int1 (by rfl) T.z_int (by decide +kernel) (pa_cons (pv 0) pa_nil)) (pv 1)) pa_nil)) (by rfl))))
    (pss_one (ps_ret (pv 0)))))), ?_⟩
    refine ⟨_, rfl, t, rfl, _, rfl, b, rfl, _, _, rfl, ?_⟩
    rw [abs_nat, abs_nat]
    refine while_by (fun σ H' => ∃ x y : Nat, σ = [some (.int x), some (.int y)] ∧ Nat.gcd x y = Nat.gcd t.natAbs b.natAbs ∧ H' = H) (fun σ _ => yOf σ) ⟨_, _, rfl, rfl, rfl⟩ (fun σ H' hP => ?_) (fun σ H' Q1 Q2 hQ h => ?_)
    · obtain ⟨x, y, rfl, hg, rfl⟩ := hP
      refine ⟨_, rfl, _, _, rfl, rfl, _, rfl, ?_⟩
      by_cases c : 0 < (y : Int)
      · rw [decide_eq_true c]
        refine iteT ⟨_, rfl, _, rfl, .inl ⟨_, rfl, _, rfl, _, _, rfl, rfl, c, _, _, rfl, ?_⟩⟩
        have e : (x : Int) % (y : Int) = ((x % y : Nat) : Int) := (Int.natCast_emod x y).symm
        refine ⟨⟨y, x % y, ?_, ?_, rfl⟩, ?_⟩
        · show [some (V.int y), some (V.int ((x : Int) % (y : Int)))] = _
          rw [e]
        · rw [← hg, Nat.gcd_comm x y, Nat.gcd_rec y x, Nat.gcd_comm]
        · show ((x : Int) % (y : Int)).toNat < (y : Int).toNat
          rw [e]
          have := Nat.mod_lt x (show y > 0 by omega)
          omega
      · rw [decide_eq_false c]
        have ey : y = 0 := by omega
        subst ey
        refine iteF ⟨_, rfl, ?_⟩
        rw [← hg, Nat.gcd_zero_right] at q
        exact q
    · obtain ⟨v, e, x1, x2, e1, e2, k, e3, h⟩ := h
      exact ⟨v, e, x1, x2, e1, e2, k, e3, hQ _ _ h⟩
end
end K77

set_option Elab.async false
set_option linter.all false
set_option maxRecDepth 100000
set_option maxHeartbeats 4000000
namespace K77
open PySem PySem.Spec PyProof.Rows L2 StX RZ MyR SlX OwnR OwnF
theorem cont_snoc (x : Int) : ∀ l : List Int, cont (l ++ [x]) = Nat.gcd (cont l) x.natAbs
  | [] => by
    show Nat.gcd x.natAbs 0 = Nat.gcd 0 x.natAbs
    rw [Nat.gcd_zero_right, Nat.gcd_zero_left]
  | y :: ys => by
    show Nat.gcd y.natAbs (cont (ys ++ [x])) = Nat.gcd (Nat.gcd y.natAbs (cont ys)) x.natAbs
    rw [cont_snoc x ys, Nat.gcd_assoc]
theorem take_snoc {xs : List Int} {i : Nat} (h : i < xs.length) : xs.take (i + 1) = xs.take i ++ [co xs i] := by
  rw [List.take_add_one, List.getElem?_eq_getElem h, co_get h]
  rfl
theorem int_get {xs : List Int} {i : Nat} {x : V} (h : (xs.map V.int)[i]? = some x) : i < xs.length ∧ x = .int (co xs i) := by
  have hi : i < xs.length := by
    have := (List.getElem?_eq_some_iff.mp h).1
    rw [List.length_map] at this
    exact this
  rw [get_int hi] at h
  cases h
  exact ⟨hi, rfl⟩
theorem tab_snoc (n : Nat) (f : Nat → Int) : tab n f ++ [V.int (f n)] = tab (n + 1) f := by
  unfold tab
  rw [List.range_succ, List.map_append]
  rfl
theorem zs_tb {c : Int} {xs ys : List Int} (hl : xs.length = ys.length) : (tb xs.length fun k => co xs k + c * co ys k) = zs c xs ys := by
  refine co_inj (by rw [tb_len]; unfold zs; rw [List.length_zipWith, hl, Nat.min_self]) fun k => ?_
  rw [co_tb]
  unfold zs
  by_cases hk : k < xs.length
  · rw [if_pos hk, co_get (l := List.zipWith _ _ _) (by rw [List.length_zipWith]; omega), List.getElem_zipWith, co_get hk, co_get (by omega)]
  · rw [if_neg hk, co_far (by rw [List.length_zipWith]; omega)]
section
variable {P : Program} {w : World} {K : PySem.W.Frag} {mg : Str → Option Value} {base : Heap}
def spShared : Sp := fun vs H Q _ => ∃ (t : Addr) (ns : List Int), vs = [.ref t] ∧ H t = some (tp ns) ∧ Q (.int (cont ns : Nat)) H
def spSharedC (K : PySem.W.Frag) : Sp := fun vs H Q _ => ∃ (t : Addr) (ns : List Int), vs = [.ref t] ∧ (SqT K H t (ns.map V.int) ∨ SqL K H t (ns.map V.int)) ∧ Q (.int (cont ns : Nat)) H
theorem ok_law_sharedC (T : Facts K mg) : FnOk P w K mg base CX0 2 T.f_law_shared T.fd_law_shared ["_law_numbers"] (spSharedC K) := by
  have G_law_gcd : FnOk P w K mg base CX0 1 T.f_law_gcd T.fd_law_gcd ["_law_one", "_law_other"] spLGcd := ok_law_gcd T
  refine T.F_law_shared.ok sc_law_shared (fun vs H Q E h => ?_) (fun cdv A outer s H vs Q E hr h => ?_)
  · obtain ⟨t, ns, rfl, _⟩ := h
    rfl
  · obtain ⟨t, ns, rfl, ht, q⟩ := h
    refine ⟨_, (PSs.nox (pss_cons (ps_set (i := 1) sc_law_shared.nd rfl (.inl rfl) pe_int)
    (pss_cons (ps_for PassesOwn.never (by rfl) (SeqE.PI_or (pi_tup (pv 0)) (pi_list (pv 0))) (pg_name (i := 2) sc_law_shared.nd rfl (.inl rfl))
      (pss_one (ps_set (i := 1) sc_law_shared.nd rfl (.inl rfl) (pe_call G_law_gcd hr (by rfl) T.g_law_gcd T.F_law_gcd.kp T.b_law_gcd .nil pass0 (pa_cons (pv 1) (pa_cons (pv 2) pa_nil))))))
    (pss_one (ps_ret (pv 1)))))), ?_⟩
    rcases ht with ht | ht
    · refine .inl ⟨_, rfl, t, rfl, ⟨_, ht⟩, for_tup (xs := ns.map V.int) (fun i σ H' => ∃ y, σ = [some (.ref t), some (.int ((cont (ns.take i) : Nat) : Int)), y] ∧ H' = H) ⟨none, rfl, rfl⟩ (fun i σ H' _ hP => by rw [hP.choose_spec.2]; exact ht) (fun i x σ H' hx hP => ?_) (fun σ H' hP => ?_)⟩
      · obtain ⟨y, rfl, rfl⟩ := hP
        obtain ⟨hi, rfl⟩ := int_get hx
        refine ⟨_, rfl, _, rfl, _, _, rfl, some (.int (co ns i)), ?_, rfl⟩
        rw [take_snoc hi, cont_snoc]
        rfl
      · obtain ⟨y, rfl, rfl⟩ := hP
        rw [List.length_map, List.take_length]
        exact ⟨_, rfl, q⟩
    · refine .inr ⟨_, rfl, t, rfl, ⟨_, ht⟩, for_list (xs := ns.map V.int) (fun i σ H' => ∃ y, σ = [some (.ref t), some (.int ((cont (ns.take i) : Nat) : Int)), y] ∧ H' = H) ⟨none, rfl, rfl⟩ (fun i σ H' _ hP => by rw [hP.choose_spec.2]; exact ht) (fun i x σ H' hx hP => ?_) (fun σ H' hP => ?_)⟩
      · obtain ⟨y, rfl, rfl⟩ := hP
        obtain ⟨hi, rfl⟩ := int_get hx
        refine ⟨_, rfl, _, rfl, _, _, rfl, some (.int (co ns i)), ?_, rfl⟩
        rw [take_snoc hi, cont_snoc]
        rfl
      · obtain ⟨y, rfl, rfl⟩ := hP
        rw [List.length_map, List.take_length]
        exact ⟨_, rfl, q⟩
theorem ok_law_shared (T : Facts K mg) : FnOk P w K mg base CX0 2 T.f_law_shared T.fd_law_shared ["_law_numbers"] spShared := (ok_law_sharedC T).imp fun vs H Q E h => by
  obtain ⟨t, ns, rfl, ht, q⟩ := h
  exact ⟨t, ns, rfl, .inl (SqT.of ht), q⟩
def spPlus : Sp := fun vs H Q _ => ∃ (t u : Addr) (xs ys : List Int), vs = [.ref t, .ref u] ∧ H t = some (tp xs) ∧ H u = some (tp ys) ∧ xs.length = ys.length ∧ xs.length ≤ 100 ∧ ∀ p H', Same H H' → H p = none → H' p = some (tp (zs 1 xs ys)) → Q (.ref p) H'
theorem ok_law_plus (T : Facts K mg) : FnOk P w K mg base CX0 1 T.f_law_plus T.fd_law_plus ["_law_one", "_law_other"] spPlus := by
  refine T.F_law_plus.ok sc_law_plus (fun vs H Q E h => ?_) (fun cdv A outer s H vs Q E hr h => ?_)
  · obtain ⟨t, u, xs, ys, rfl, _⟩ := h
    rfl
  · obtain ⟨t, u, xs, ys, rfl, ht, hu, hl, hlt, q⟩ := h
    refine ⟨_, (PSs.nox (pss_one (ps_ret (pe_tupleOf (by rfl) T.z_tuple (pe_lc (own := [("_law_first", 2), ("_law_second", 3)]) (g := (gTup K 2 (gCons (gName 2) (gCons (gName 3) gNil)))) (tt := tYes) (by rfl) sc_law_plus.nd (pi_zipA (by rfl) T.z_zip (pa_cons (pv 0) (pa_cons (pv 1) pa_nil))) (blkOk_by (N := N_law_plus) (sc := defScope s_law_plus) (by decide +kernel)) (fun _ _ _ _ _ => (pg_tup (by rfl) (pgs_cons (pg_name (i := 2) sc_law_plus.nd rfl (.inl rfl)) (pgs_cons (pg_name (i := 3) sc_law_plus.nd rfl (.inl rfl)) pgs_nil)))) (fun _ _ _ _ _ => pts_nil) (fun _ _ _ _ _ => (pe_op op_add (pv 2) (pv 3)))))))), ?_⟩
    refine ⟨_, rfl, _, rfl, t, u, _, _, rfl, .inr ⟨SqT.of ht, SqT.of hu, fun D hD => ?_⟩⟩
    refine lc_zipT (xs := xs.map V.int) (ys := ys.map V.int) (by rw [List.length_map, List.length_map, hl]) (fun j H' => Same H H' ∧ H' D = some (.lst (tab j fun k => co xs k + 1 * co ys k))) ⟨same_upd0 hD, upd_same⟩ (fun j H' _ hP => ⟨SqT.of (hP.1 _ _ ht), SqT.of (hP.1 _ _ hu)⟩) (fun j x y A H' hx hy hP hA => ?_) (fun H' hP => ?_)
    · obtain ⟨sH, hD'⟩ := hP
      obtain ⟨hj, rfl⟩ := int_get hx
      obtain ⟨_, rfl⟩ := int_get hy
      have sA := same_upd0 (o := .tup [.int (co xs j), .int (co ys j)]) hA
      refine ⟨A, _, rfl, SqT.of upd_same, rfl, _, _, rfl, _, _, rfl, rfl, rfl, _, rfl, _, rfl, _, _, rfl, rfl, _, sA _ _ hD', ?_, fun b o e => ?_, ?_⟩
      · rw [tab_len]
        exact small1000 (by omega)
      · rw [upd_ne (ne_of_none e hD)]
        exact sA _ _ (sH _ _ e)
      · rw [upd_same, ← tab_snoc]
        show some (HO.lst (tab j _ ++ [V.int (co xs j + co ys j)])) = some (HO.lst (tab j _ ++ [V.int (co xs j + 1 * co ys j)]))
        rw [Int.one_mul]
    · obtain ⟨sH, hD'⟩ := hP
      rw [List.length_map] at hD'
      refine .inl ⟨D, _, rfl, SqL.of hD', fun p hp2 => ?_⟩
      refine q p _ (sH.trans (same_upd0 hp2)) (Same.free sH hp2) ?_
      rw [upd_same, tab_tb, zs_tb hl]
def spScaled : Sp := fun vs H Q _ => ∃ (t : Addr) (xs : List Int) (c : Int), vs = [.ref t, .int c] ∧ H t = some (tp xs) ∧ xs.length ≤ 100 ∧ (∀ x ∈ xs, sm x) ∧ sm c ∧ ∀ p H', Same H H' → H p = none → H' p = some (tp (xs.map fun x => c * x)) → Q (.ref p) H'
theorem ok_law_scaled (T : Facts K mg) : FnOk P w K mg base CX0 1 T.f_law_scaled T.fd_law_scaled ["_law_form_here", "_law_factor"] spScaled := by
  refine T.F_law_scaled.ok sc_law_scaled (fun vs H Q E h => ?_) (fun cdv A outer s H vs Q E hr h => ?_)
  · obtain ⟨t, xs, c, rfl, _⟩ := h
    rfl
  · obtain ⟨t, xs, c, rfl, ht, hl, hs, hc, q⟩ := h
    refine ⟨_, (PSs.nox (pss_one (ps_ret (pe_tupleOf (by rfl) T.z_tuple (pe_lc (own := [("_law_entry", 2)]) (g := (gName 2)) (tt := tYes) (by rfl) sc_law_scaled.nd (pi_tup (pv 0)) (blkOk_by (N := N_law_scaled) (sc := defScope s_law_scaled) (by decide +kernel)) (fun _ _ _ _ _ => (pg_name (i := 2) sc_law_scaled.nd rfl (.inl rfl))) (fun _ _ _ _ _ => pts_nil) (fun _ _ _ _ _ => (pe_op op_mulW (pv 1) (pv 2)))))))), ?_⟩
    refine ⟨_, rfl, t, rfl, ⟨_, SqT.of ht⟩, fun D hD => lc_tup (xs := xs.map V.int) (fun j H' => H' = upd H D (.lst (tab j fun k => c * co xs k))) rfl (fun j H' _ hP => ?_) (fun j x H' hx hP => ?_) (fun H' hP => ?_)⟩
    · rw [hP]
      exact SqT.of (same_upd0 hD _ _ ht)
    · subst hP
      obtain ⟨hj, rfl⟩ := int_get hx
      refine ⟨rfl, ⟨_, rfl, _, rfl, _, _, rfl, rfl, sm_mul hc (sm_co hs hj), _, upd_same, ?_, ?_⟩⟩
      · rw [tab_len]
        exact small1000 (by omega)
      · rw [upd_upd, ← tab_snoc]
    · subst hP
      rw [List.length_map, tab_tb, tb_map (fun x => c * x) xs]
      refine .inl ⟨D, _, rfl, SqL.of upd_same, fun p hp2 => ?_⟩
      exact q p _ ((same_upd0 hD).trans (same_upd0 hp2)) (Same.free (same_upd0 hD) hp2) upd_same
end
end K77

set_option Elab.async false
set_option linter.all false
set_option maxRecDepth 100000
set_option maxHeartbeats 4000000
namespace K77
open PySem PySem.Spec PyProof.Rows L2 StX RZ MyR SlX OwnR OwnF EnumT
section
variable {P : Program} {w : World} {K : PySem.W.Frag} {mg : Str → Option Value} {base : Heap}
def spProd : Sp := fun vs H Q _ => ∃ (a b : Addr) (xs ys : List Int), vs = [.ref a, .ref b] ∧ H a = some (tp xs) ∧ H b = some (tp ys) ∧ xs ≠ [] ∧ ys ≠ [] ∧ xs.length ≤ 100 ∧ ys.length ≤ 100 ∧ (∀ x ∈ xs, sm x) ∧ (∀ x ∈ ys, sm x) ∧ ∀ p H', Same H H' → H p = none → H' p = some (tp (ml xs ys)) → Q (.ref p) H'
theorem ok_law_product (T : Facts K mg) : FnOk P w K mg base CX0 1 T.f_law_product T.fd_law_product ["_law_one", "_law_other"] spProd := by
  refine T.F_law_product.ok sc_law_product (fun vs H Q E h => ?_) (fun cdv A outer s H vs Q E hr h => ?_)
  · obtain ⟨a, b, xs, ys, rfl, _⟩ := h
    rfl
  · obtain ⟨a, b, xs, ys, rfl, ha, hb, nx, ny, lx, ly, hx, hy, q⟩ := h
    have px : 0 < xs.length := List.length_pos_iff.mpr nx
    have py : 0 < ys.length := List.length_pos_iff.mpr ny
    refine ⟨_, (PSs.nox (pss_cons (ps_setLc (i := 2) (own := [("_law_place", 3)]) (g := (gName 3)) (tt := tYes) rfl sc_law_product.nd rfl rfl (sw_true rfl rfl rfl (by decide +kernel)) (pi_range1 (by rfl) T.z_range (pa_cons (pe_op op_sub (pe_op op_add (pe_callB call_len_seq (by rfl) T.z_len (by decide +kernel) (pa_cons (pv 0) pa_nil)) (pe_callB call_len_seq (by rfl) T.z_len (by decide +kernel) (pa_cons (pv 1) pa_nil))) pe_int) pa_nil)) (blkOk_by (N := N_law_product) (sc := defScope s_law_product) (by decide +kernel)) (fun _ _ _ _ _ => (pg_name (i := 3) sc_law_product.nd rfl (.inl rfl))) (fun _ _ _ _ _ => pts_nil) (fun _ _ _ _ _ => pe_int))
    (pss_cons (ps_for PassesOwn.never (by rfl) (pi_enumT (by rfl) T.z_enumerate (pa_cons (pv 0) pa_nil)) (pg_tup (by rfl) (pgs_cons (pg_name (i := 4) sc_law_product.nd rfl (.inl rfl)) (pgs_cons (pg_name (i := 5) sc_law_product.nd rfl (.inl rfl)) pgs_nil)))
      (pss_one (ps_for PassesOwn.never (by rfl) (pi_enumT (by rfl) T.z_enumerate (pa_cons (pv 1) pa_nil)) (pg_tup (by rfl) (pgs_cons (pg_name (i := 3) sc_law_product.nd rfl (.inl rfl)) (pgs_cons (pg_name (i := 6) sc_law_product.nd rfl (.inl rfl)) pgs_nil)))
        (pss_one (ps_asg (pe_op op_add (pe_ix ix_list (pv 2) (pe_op op_add (pv 4) (pv 3)) (fun _ _ => rfl)) (pe_op op_mulW (pv 5) (pv 6))) (pg_sub (pv 2) (pe_op op_add (pv 4) (pv 3)) set_list))))))
    (pss_one (ps_ret (pe_tupleOf (by rfl) T.z_tuple (pv 2))))))), ?_⟩
    refine ⟨_, rfl, a, _, rfl, .inr (SqT.of ha), _, rfl, b, _, rfl, .inr (SqT.of hb), ?_⟩
    rw [List.length_map, List.length_map]
    obtain ⟨N, hN⟩ : ∃ N, N = xs.length + ys.length - 1 := ⟨_, rfl⟩
    have eN : (((xs.length : Int) + (ys.length : Int) - 1)).toNat = N := by omega
    refine ⟨_, _, rfl, rfl, _, _, rfl, rfl, _, rfl, (by show -(2 ^ 62) ≤ (xs.length : Int) + (ys.length : Int) - 1; omega), (by show (xs.length : Int) + (ys.length : Int) - 1 < 2 ^ 62; omega), fun D hD => lc_range (n := _) (fun j H' => H' = upd H D (.lst (List.replicate j (V.int 0)))) rfl (fun j H' hj hP => ?_) (fun H' hP => ?_)⟩
    · subst hP
      have hj2 : j < N := by rw [← eN]; exact hj
      refine ⟨rfl, ⟨_, upd_same, ?_, ?_⟩⟩
      · rw [List.length_replicate]
        exact small1000 (by omega)
      · rw [upd_upd, List.replicate_succ']
    · subst hP
      show _
      rw [show List.replicate (((xs.length : Int) + (ys.length : Int) - 1)).toNat (V.int 0) = tab N (fun k => cv (xs.take 0) (co ys) k) by rw [eN, tab_rep]; rfl]
      have sD : ∀ o, Same H (upd H D o) := fun o => same_upd0 hD
      -- what stands in each turn: the list at D, and what stood before
      refine ⟨_, rfl, a, _, rfl, SqT.of (sD _ _ _ ha), for_enumT (xs := xs.map V.int) (fun i σ H' => ∃ y3 y4 y5 y6, σ = [some (.ref a), some (.ref b), some (.ref D), y3, y4, y5, y6] ∧ Same H H' ∧ H' D = some (.lst (tab N fun k => cv (xs.take i) (co ys) k))) ⟨none, none, none, none, rfl, sD _, upd_same⟩ (fun i σ H' hP => ?_) (fun i x B σ H' hxi hP hB => ?_) (fun σ H' hP => ?_)⟩
      · obtain ⟨y3, y4, y5, y6, _, sH, _⟩ := hP
        exact SqT.of (sH _ _ ha)
      · obtain ⟨y3, y4, y5, y6, rfl, sH, hL⟩ := hP
        obtain ⟨hi2, rfl⟩ := int_get hxi
        refine ⟨B, _, rfl, SqT.of upd_same, rfl, _, _, rfl, _, _, rfl, rfl, ?_⟩
        refine gen_upd H' B _ hB (fun H2 s2 _ => ?_)
        have sH2 := sH.trans s2
        have hL2 := s2 _ _ hL
        rw [tab_ext (g := J xs (co ys) i 0) fun k hk => J_0.symm] at hL2
        refine ⟨_, rfl, b, _, rfl, SqT.of (sH2 _ _ hb), for_enumT (xs := ys.map V.int) (fun j σ H3 => ∃ y3 y6, σ = [some (.ref a), some (.ref b), some (.ref D), y3, some (.int ((i : Nat) : Int)), some (.int (co xs i)), y6] ∧ Same H H3 ∧ H3 D = some (.lst (tab N (J xs (co ys) i j)))) ⟨y3, y6, rfl, sH2, hL2⟩ (fun j σ H3 hP => ?_) (fun j y B2 σ H3 hyj hP hB2 => ?_) (fun σ H3 hP => ?_)⟩
        · obtain ⟨y3, y6, _, sH3, _⟩ := hP
          exact SqT.of (sH3 _ _ hb)
        · obtain ⟨y3, y6, rfl, sH3, hL3⟩ := hP
          obtain ⟨hj2, rfl⟩ := int_get hyj
          refine ⟨B2, _, rfl, SqT.of upd_same, rfl, _, _, rfl, _, _, rfl, rfl, ?_⟩
          refine gen_upd H3 B2 _ hB2 (fun H4 s4 _ => ?_)
          have sH4 := sH3.trans s4
          have hL4 := s4 _ _ hL3
          have e1 : ((i : Nat) : Int) + ((j : Nat) : Int) = ((i + j : Nat) : Int) := by omega
          refine ⟨_, rfl, _, rfl, _, rfl, _, _, rfl, rfl, D, _, _, _, rfl, rfl, SqL.of hL4, at_of e1 (tab_get (by omega)), _, rfl, _, rfl, _, _, rfl, rfl, sm_mul (sm_co hx hi2) (sm_co hy hj2), _, _, rfl, rfl, ?_⟩
          refine ⟨_, rfl, _, rfl, _, rfl, _, _, rfl, rfl, D, _, _, (i + j), rfl, rfl, hL4, ?_, ?_⟩
          · rw [tab_len]
            exact ix_at e1 (by omega)
          · refine ⟨_, _, rfl, fun c o e => ?_, ?_⟩
            · rw [upd_ne (ne_of_none e hD)]
              exact sH4 _ _ e
            · rw [upd_same]
              show some (HO.lst ((tab N (J xs (co ys) i j)).set (i + j) (.int (J xs (co ys) i j (i + j) + co xs i * co ys j)))) = _
              rw [tab_set, tab_ext fun k hk => J_step]
        · obtain ⟨y3, y6, rfl, sH3, hL3⟩ := hP
          rw [List.length_map, tab_ext fun k hk => J_end hi2] at hL3
          exact ⟨_, _, _, _, rfl, sH3, hL3⟩
      · obtain ⟨y3, y4, y5, y6, rfl, sH, hL⟩ := hP
        rw [List.length_map, List.take_length, tab_tb] at hL
        refine ⟨_, rfl, .inl ⟨D, _, rfl, SqL.of hL, fun p hp => ?_⟩⟩
        refine q p _ (sH.trans (same_upd0 hp)) (Same.free sH hp) ?_
        rw [upd_same, hN]
        rfl
/-- the product of the first n -/
def pow (l : List Int) : Nat → List Int
  | 0 => [1]
  | n + 1 => ml (pow l n) l
def spPow : Sp := fun vs H Q _ => ∃ (a : Addr) (xs : List Int) (n : Nat), vs = [.ref a, .int n] ∧ H a = some (tp xs) ∧ xs ≠ [] ∧ xs.length ≤ 100 ∧ (∀ x ∈ xs, sm x) ∧ (∀ i, i < n → pow xs i ≠ [] ∧ (pow xs i).length ≤ 100 ∧ ∀ x ∈ pow xs i, sm x) ∧ n ≤ 100 ∧ ∀ p H', Same H H' → H' p = some (tp (pow xs n)) → Q (.ref p) H'
theorem ok_law_power (T : Facts K mg) : FnOk P w K mg base CX0 2 T.f_law_power T.fd_law_power ["_law_pair", "_law_times"] spPow := by
  have G_law_product : FnOk P w K mg base CX0 1 T.f_law_product T.fd_law_product ["_law_one", "_law_other"] spProd := ok_law_product T
  refine T.F_law_power.ok sc_law_power (fun vs H Q E h => ?_) (fun cdv A outer s H vs Q E hr h => ?_)
  · obtain ⟨a, xs, n, rfl, _⟩ := h
    rfl
  · obtain ⟨a, xs, n, rfl, ha, nx, lx, hx, hp, hn, q⟩ := h
    refine ⟨_, (PSs.nox (pss_cons (ps_set (i := 2) sc_law_power.nd rfl (.inl rfl) (pe_tup (pa_cons pe_int pa_nil)))
    (pss_cons (ps_for PassesOwn.never (by rfl) (pi_range1 (by rfl) T.z_range (pa_cons (pv 1) pa_nil)) (pg_name (i := 3) sc_law_power.nd rfl (.inl rfl))
      (pss_one (ps_set (i := 2) sc_law_power.nd rfl (.inl rfl) (pe_call G_law_product hr (by rfl) T.g_law_product T.F_law_product.kp T.b_law_product .nil pass0 (pa_cons (pv 2) (pa_cons (pv 0) pa_nil))))))
    (pss_one (ps_ret (pv 2)))))), ?_⟩
    refine ⟨(by show 1 ≤ sizeLine; decide), fun p0 n0 => ⟨_, rfl, n, rfl, by omega, by omega, for_range (n := (n : Int).toNat) (fun i σ H' => ∃ r y3, σ = [some (.ref a), some (.int n), some (.ref r), y3] ∧ Same H H' ∧ H' r = some (tp (pow xs i))) ⟨p0, none, rfl, same_upd0 n0, upd_same⟩ (fun i σ H' hi hP => ?_) (fun σ H' hP => ?_)⟩⟩
    · obtain ⟨r, y3, rfl, sH, hr2⟩ := hP
      obtain ⟨h1, h2, h3⟩ := hp i (by omega)
      exact ⟨_, rfl, _, rfl, r, a, _, xs, rfl, hr2, sH _ _ ha, h1, nx, h2, lx, h3, hx, fun p H2 s2 _ hp2 => ⟨p, _, rfl, sH.trans s2, hp2⟩⟩
    · obtain ⟨r, y3, rfl, sH, hr2⟩ := hP
      rw [Int.toNat_natCast] at hr2
      exact ⟨_, rfl, q r H' sH hr2⟩
end
end K77

set_option Elab.async false
set_option linter.all false
set_option maxRecDepth 100000
set_option maxHeartbeats 4000000
namespace K77
open PySem PySem.Spec PyProof.Rows L2 StX RZ MyR SlX OwnR OwnF EnumT
theorem first_of : ∀ ns : List Int, cont ns ≠ 0 → ∃ x r, ns.filter (fun x => x != 0) = x :: r ∧ sg ns = (if 0 < x then 1 else -1)
  | [], h => absurd rfl h
  | y :: ys, h => by
    by_cases c : y = 0
    · have hc : cont ys ≠ 0 := fun e => h (by
        show Nat.gcd y.natAbs (cont ys) = 0
        rw [c, e]
        rfl)
      obtain ⟨x, r, e1, e2⟩ := first_of ys hc
      refine ⟨x, r, ?_, ?_⟩
      · rw [List.filter_cons_of_neg (by rw [c]; decide)]
        exact e1
      · show (if y = 0 then sg ys else _) = _
        rw [if_pos c]
        exact e2
    · refine ⟨y, ys.filter (fun x => x != 0), ?_, ?_⟩
      · rw [List.filter_cons_of_pos (by simpa using c)]
      · show (if y = 0 then sg ys else if 0 < y then 1 else -1) = _
        rw [if_neg c]
section
variable {P : Program} {w : World} {K : PySem.W.Frag} {mg : Str → Option Value} {base : Heap}
theorem ok_law_plain (T : Facts K mg) : FnOk P w K mg base CX0 3 T.f_law_plain T.fd_law_plain ["_law_form_here"] spPrim := by
  have G_law_shared : FnOk P w K mg base CX0 2 T.f_law_shared T.fd_law_shared ["_law_numbers"] spShared := ok_law_shared T
  refine T.F_law_plain.ok sc_law_plain (fun vs H Q E h => ?_) (fun cdv A outer s H vs Q E hr h => ?_)
  · obtain ⟨t, ns, rfl, _⟩ := h
    rfl
  · obtain ⟨t, ns, rfl, ht, hl, hs, q⟩ := h
    refine ⟨_, (PSs.nox (pss_cons (ps_set (i := 1) sc_law_plain.nd rfl (.inr rfl) (pe_call G_law_shared hr (by rfl) T.g_law_shared T.F_law_shared.kp T.b_law_shared .nil pass0 (pa_cons (pv 0) pa_nil)))
    (pss_cons (ps_if (pt_cmpR op_eq (pv 1) pe_int (nomark _))
      (pss_one (ps_ret (pv 0)))
      pss_nil)
    (pss_cons (ps_set (i := 2) sc_law_plain.nd rfl (.inr rfl) (pe_ix ix_list (pe_lc (own := [("_law_entry", 3)]) (g := (gName 3)) (by rfl) sc_law_plain.nd (pi_tup (pv 0)) (blkOk_by (N := N_law_plain) (sc := defScope s_law_plain) (by decide +kernel)) (fun _ _ _ _ _ => (pg_name (i := 3) sc_law_plain.nd rfl (.inl rfl))) (fun _ _ _ _ _ => (pts_one (pt_cmpR op_ne (pv 3) pe_int (nomark _)))) (fun _ _ _ _ _ => (pv 3))) pe_int (fun _ _ => rfl)))
    (pss_one (ps_ret (pe_tupleOf (by rfl) T.z_tuple (pe_lc (own := [("_law_entry", 3)]) (g := (gName 3)) (tt := tYes) (by rfl) sc_law_plain.nd (pi_tup (pv 0)) (blkOk_by (N := N_law_plain) (sc := defScope s_law_plain) (by decide +kernel)) (fun _ _ _ _ _ => (pg_name (i := 3) sc_law_plain.nd rfl (.inl rfl))) (fun _ _ _ _ _ => pts_nil) (fun _ _ _ _ _ => (pe_op op_fdivZ (pv 3) (pe_ifExp (pt_cmpR op_gt (pv 2) pe_int (nomark _)) (pv 1) (pe_op op_sub pe_int (pv 1))))))))))))), ?_⟩
    refine ⟨_, rfl, t, ns, rfl, ht, _, rfl, rfl, _, rfl, ?_⟩
    by_cases c : cont ns = 0
    · rw [decide_eq_true (show V.int ((cont ns : Nat) : Int) = V.int 0 by rw [c]; rfl)]
      refine iteT ⟨_, rfl, q t H (Same.rf H) ?_⟩
      unfold prim
      rw [if_pos (by unfold part; rw [c]; exact Int.zero_mul _)]
      exact ht
    · rw [decide_eq_false fun z => c (Int.natCast_eq_zero.mp (V.int.inj z))]
      obtain ⟨x0, r0, e1, e2⟩ := first_of ns c
      have hpart : part ns = if 0 < x0 then ((cont ns : Nat) : Int) else 0 - ((cont ns : Nat) : Int) := by
        unfold part
        rw [e2]
        split
        · exact Int.mul_one _
        · rw [Int.mul_neg, Int.mul_one, Int.zero_sub]
      have hp0 : part ns ≠ 0 := fun e => c (by rw [← part_abs, e]; rfl)
      have hcd : CDivZ 0 (part ns) := ⟨hp0, Nat.lt_trans (PySem.Flt.log2_lt_of (k := 4000) (by decide) (sm_part hs)) (by decide)⟩
      refine iteF ⟨_, rfl, t, rfl, ⟨_, SqT.of ht⟩, fun D hD => lc_tup (xs := ns.map V.int) (fun j H' => Same H H' ∧ H' D = some (.lst (((ns.take j).filter (fun x => x != 0)).map V.int))) ⟨same_upd0 hD, upd_same⟩ (fun j H' _ hP => SqT.of (hP.1 _ _ ht)) (fun j x H' hx hP => ?_) (fun H1 hP => ?_)⟩
      · obtain ⟨sH, hL⟩ := hP
        obtain ⟨hj, rfl⟩ := int_get hx
        refine ⟨rfl, _, rfl, rfl, _, rfl, ?_⟩
        rw [take_snoc hj, List.filter_append]
        by_cases d : co ns j = 0
        · rw [decide_eq_true (show V.int (co ns j) = V.int 0 by rw [d])]
          refine iteF ⟨sH, ?_⟩
          rw [hL, List.filter_cons_of_neg (by rw [d]; decide), List.filter_nil, List.append_nil]
        · rw [decide_eq_false fun z => d (V.int.inj z)]
          refine iteT ⟨_, rfl, _, hL, ?_, fun b o e => ?_, ?_⟩
          · have h1 := List.length_filter_le (fun x => x != 0) (ns.take j)
            rw [List.length_take] at h1
            rw [List.length_map]
            exact small1000 (by omega)
          · rw [upd_ne (ne_of_none e hD)]
            exact sH _ _ e
          · rw [upd_same, List.filter_cons_of_pos (by simpa using d), List.filter_nil, List.map_append]
            rfl
      · obtain ⟨s1, hL⟩ := hP
        rw [List.length_map, List.take_length, e1] at hL
        refine ⟨D, _, _, .int x0, rfl, rfl, SqL.of hL, atI_nat (j := 0) rfl, ?_⟩
        have ht1 := s1 _ _ ht
        refine ⟨_, rfl, t, rfl, ⟨_, SqT.of ht1⟩, fun D2 hD2 => lc_tup (xs := ns.map V.int) (fun j H' => H' = upd H1 D2 (.lst (tab j fun k => (co ns k).fdiv (part ns)))) rfl (fun j H' _ hP => ?_) (fun j x H' hx hP => ?_) (fun H' hP => ?_)⟩
        · rw [hP]
          exact SqT.of (same_upd0 hD2 _ _ ht1)
        · subst hP
          obtain ⟨hj, rfl⟩ := int_get hx
          refine ⟨rfl, _, rfl, _, rfl, x0, 0, rfl, rfl, _, rfl, ?_⟩
          have fin : ∀ v : Int, v = part ns → True := fun _ _ => True.intro
          by_cases d : 0 < x0
          · rw [decide_eq_true d]
            rw [if_pos d] at hpart
            rw [hpart] at hcd
            refine iteT ⟨_, rfl, _, _, rfl, rfl, hcd, _, upd_same, ?_, ?_⟩
            · rw [tab_len]
              exact small1000 (by omega)
            · rw [upd_upd, ← tab_snoc, hpart]
          · rw [decide_eq_false d]
            rw [if_neg d] at hpart
            rw [hpart] at hcd
            refine iteF ⟨_, rfl, _, _, rfl, rfl, _, _, rfl, rfl, hcd, _, upd_same, ?_, ?_⟩
            · rw [tab_len]
              exact small1000 (by omega)
            · rw [upd_upd, ← tab_snoc, hpart]
        · subst hP
          rw [List.length_map, tab_tb, tb_map (fun x => x.fdiv (part ns)) ns]
          refine .inl ⟨D2, _, rfl, SqL.of upd_same, fun p hp2 => ?_⟩
          refine q p _ (s1.trans ((same_upd0 hD2).trans (same_upd0 hp2))) ?_
          rw [upd_same]
          unfold prim
          rw [if_neg hp0]
end
end K77

set_option Elab.async false
set_option linter.all false
set_option maxRecDepth 100000
set_option maxHeartbeats 4000000
namespace K77
open PySem PySem.Spec PyProof.Rows L2 StX RZ MyR SlX OwnR OwnF EnumT
theorem prim_len (l : List Int) : (prim l).length = l.length := by
  unfold prim
  split
  · rfl
  · rw [List.length_map]
theorem prim_mem {l : List Int} {b : Nat} (h : ∀ x ∈ l, x.natAbs ≤ b) : ∀ x ∈ prim l, x.natAbs ≤ b := by
  intro x hx
  unfold prim at hx
  by_cases c : part l = 0
  · rw [if_pos c] at hx
    exact h x hx
  · rw [if_neg c] at hx
    obtain ⟨y, hy, rfl⟩ := List.mem_map.mp hx
    have hd : part l ∣ y := Int.natAbs_dvd_natAbs.mp (by rw [part_abs]; exact Int.natAbs_dvd_natAbs.mpr (cont_dvd l y hy))
    obtain ⟨k, rfl⟩ := hd
    show ((part l * k).fdiv (part l)).natAbs ≤ b
    rw [Int.mul_fdiv_cancel_left _ c]
    refine Nat.le_trans ?_ (h _ hy)
    rw [Int.natAbs_mul]
    exact Nat.le_mul_of_pos_left _ (Int.natAbs_pos.mpr c)
section
variable {P : Program} {w : World} {K : PySem.W.Frag} {mg : Str → Option Value} {base : Heap}
theorem dc_ne {H : Hp} {d p : Addr} {xs : List V} (hd : Dc H d) (hp : H p = some (.tup xs)) : p ≠ d := fun e => by
  obtain ⟨x, y, z, h⟩ := hd
  rw [e, h] at hp
  cases hp
def spLine : Sp := fun vs H Q _ => ∃ (t : Addr) (u v : Int), vs = [.ref t] ∧ H t = some (tp [u, v]) ∧ ∀ p, H p = none → Q (.ref p) (upd H p (tp [v, 0 - u]))
theorem ok_law_line (T : Facts K mg) : FnOk P w K mg base CX0 1 T.f_law_line T.fd_law_line ["_law_point_here"] spLine := by
  refine T.F_law_line.ok sc_law_line (fun vs H Q E h => ?_) (fun cdv A outer s H vs Q E hr h => ?_)
  · obtain ⟨t, u, v, rfl, _⟩ := h
    rfl
  · obtain ⟨t, u, v, rfl, ht, q⟩ := h
    refine ⟨_, (PSs.nox (pss_one (ps_ret (pe_tup (pa_cons (pe_ix ix_tup (pv 0) pe_int (fun _ _ => rfl)) (pa_cons (pe_op op_sub pe_int (pe_ix ix_tup (pv 0) pe_int (fun _ _ => rfl))) pa_nil)))))), ?_⟩
    exact ⟨_, rfl, t, _, 1, _, rfl, rfl, SqT.of ht, atI_nat (j := 1) rfl, _, rfl, t, _, 0, _, rfl, rfl, SqT.of ht, atI_nat (j := 0) rfl, _, _, rfl, rfl, (by show 2 ≤ sizeLine; decide), fun p hp => q p hp⟩
/-- a drawn point -/
def spPoint : Sp := fun vs H Q _ => ∃ (d : Addr) (m : Nat), vs = [.ref d, .int m] ∧ Dc H d ∧ 1 ≤ m ∧ m ≤ 1000 ∧ ∀ p H' u v, Sx d H H' → Dc H' d → H' p = some (tp [u, v]) → u.natAbs ≤ m → v.natAbs ≤ m → Q (.ref p) H'
theorem ok_law_point (T : Facts K mg) : FnOk P w K mg base CX0 4 T.f_law_point T.fd_law_point ["_law_dice_here", "_law_most"] spPoint := by
  have G_law_near : FnOk P w K mg base CX0 2 T.f_law_near T.fd_law_near ["_law_dice_here", "_law_most"] spNear := ok_law_near T
  have G_law_plain : FnOk P w K mg base CX0 3 T.f_law_plain T.fd_law_plain ["_law_form_here"] spPrim := ok_law_plain T
  refine T.F_law_point.ok sc_law_point (fun vs H Q E h => ?_) (fun cdv A outer s H vs Q E hr h => ?_)
  · obtain ⟨d, m, rfl, _⟩ := h
    rfl
  · obtain ⟨d, m, rfl, hd, h1, h2, q⟩ := h
    refine ⟨_, (PSs.nox (pss_cons (ps_par (i := 2) (j := 3) (by rfl) sc_law_point.nd rfl rfl (by decide) rfl rfl (pa_cons (pe_call G_law_near (hr.mono (by decide)) (by rfl) T.g_law_near T.F_law_near.kp T.b_law_near .nil pass0 (pa_cons (pv 0) (pa_cons (pv 1) pa_nil))) (pa_cons (pe_call G_law_near (hr.mono (by decide)) (by rfl) T.g_law_near T.F_law_near.kp T.b_law_near .nil pass0 (pa_cons (pv 0) (pa_cons (pv 1) pa_nil))) pa_nil)) (by rfl))
    (pss_one (ps_ret (pe_ifExp (pt_cmpR (op_neD (hu64 hr)) (pe_tup (pa_cons (pv 2) (pa_cons (pv 3) pa_nil))) (pe_tup (pa_cons pe_int (pa_cons pe_int pa_nil))) (nomark _)) (pe_call G_law_plain hr (by rfl) T.g_law_plain T.F_law_plain.kp T.b_law_plain .nil pass0 (pa_cons (pe_tup (pa_cons (pv 2) (pa_cons (pv 3) pa_nil))) pa_nil)) (pe_tup (pa_cons pe_int (pa_cons pe_int pa_nil)))))))), ?_⟩
    have e15 : (10 : Int) ^ 15 = 1000000000000000 := by decide
    have z2 : 2 ≤ sizeLine := by decide
    refine ⟨_, rfl, _, rfl, d, m, rfl, hd, by omega, by rw [e15]; omega, fun u H1 u1 u2 s1 d1 => ⟨_, rfl, _, rfl, d, m, rfl, d1, by omega, by rw [e15]; omega, fun v H2 v1 v2 s2 d2 => ⟨_, _, rfl, ?_⟩⟩⟩
    have s12 := s1.trans s2
    refine ⟨_, rfl, _, rfl, z2, fun p1 n1 => gen_upd H2 p1 (tp [u, v]) n1 fun H3 s3 f3 => ⟨z2, fun p2 n2 => gen_upd H3 p2 (tp [0, 0]) n2 fun H4 s4 f4 => ?_⟩⟩
    refine ne_ints (xs := [u, v]) (ys := [0, 0]) (SqT.of (s4 _ _ f3)) (SqT.of f4) ?_
    have d4 := d2.same (s3.trans s4)
    have s14 : Sx d H H4 := s12.trans (Sx.of (s3.trans s4))
    by_cases c : [u, v] = [0, 0]
    · rw [decide_eq_true c]
      refine ⟨_, rfl, iteF ⟨z2, fun p3 n3 => gen_upd H4 p3 (tp [1, 0]) n3 fun H5 s5 f5 => ?_⟩⟩
      exact q p3 H5 1 0 (s14.trans (Sx.of s5)) (d4.same s5) f5 (by show 1 ≤ m; omega) (by show 0 ≤ m; omega)
    · rw [decide_eq_false c]
      refine ⟨_, rfl, iteT ⟨_, rfl, _, rfl, z2, fun p3 n3 => gen_upd H4 p3 (tp [u, v]) n3 fun H5 s5 f5 => ?_⟩⟩
      have hb : ∀ x ∈ [u, v], x.natAbs ≤ m := fun x hx => by
        simp only [List.mem_cons, List.not_mem_nil, or_false] at hx
        rcases hx with e | e <;> rw [e] <;> omega
      refine ⟨p3, [u, v], rfl, f5, by show 2 ≤ 1000; omega, fun x hx => Nat.lt_of_le_of_lt (hb x hx) (Nat.lt_of_le_of_lt h2 (by decide)), fun p H6 s6 hp => ?_⟩
      have hl := prim_len [u, v]
      have hm := prim_mem hb
      generalize prim [u, v] = r at hp hl hm
      match r, hl with
      | [x, y], _ => exact q p H6 x y (s14.trans (Sx.of (s5.trans s6))) (d4.same (s5.trans s6)) hp (hm x (by simp)) (hm y (by simp))
/-- a drawn form -/
def spSmall : Sp := fun vs H Q _ => ∃ (d : Addr) (n m : Nat), vs = [.ref d, .int n, .int m] ∧ Dc H d ∧ n ≤ 40 ∧ m ≤ 1000000000000 ∧ ∀ p H' l, Sx d H H' → Dc H' d → H' p = some (tp l) → l.length = n + 1 → (∀ x ∈ l, x.natAbs ≤ m) → Q (.ref p) H'
theorem ok_law_small_form (T : Facts K mg) : FnOk P w K mg base CX0 3 T.f_law_small_form T.fd_law_small_form ["_law_dice_here", "_law_degree", "_law_most"] spSmall := by
  have G_law_near : FnOk P w K mg base CX0 2 T.f_law_near T.fd_law_near ["_law_dice_here", "_law_most"] spNear := ok_law_near T
  refine T.F_law_small_form.ok sc_law_small_form (fun vs H Q E h => ?_) (fun cdv A outer s H vs Q E hr h => ?_)
  · obtain ⟨d, n, m, rfl, _⟩ := h
    rfl
  · obtain ⟨d, n, m, rfl, hd, hn, hm, q⟩ := h
    refine ⟨_, (PSs.nox (pss_one (ps_ret (pe_tupleOf (by rfl) T.z_tuple (pe_lc (own := [("_law_place", 3)]) (g := (gName 3)) (tt := tYes) (by rfl) sc_law_small_form.nd (pi_range1 (by rfl) T.z_range (pa_cons (pe_op op_add (pv 1) pe_int) pa_nil)) (blkOk_by (N := N_law_small_form) (sc := defScope s_law_small_form) (by decide +kernel)) (fun _ _ _ _ _ => (pg_name (i := 3) sc_law_small_form.nd rfl (.inl rfl))) (fun _ _ _ _ _ => pts_nil) (fun _ _ _ _ _ => (pe_call G_law_near hr (by rfl) T.g_law_near T.F_law_near.kp T.b_law_near .nil pass0 (pa_cons (pv 0) (pa_cons (pv 2) pa_nil))))))))), ?_⟩
    have e15 : (10 : Int) ^ 15 = 1000000000000000 := by decide
    refine ⟨_, rfl, _, _, rfl, rfl, _, rfl, (by show -(2 ^ 62) ≤ (n : Int) + 1; omega), (by show (n : Int) + 1 < 2 ^ 62; omega), fun D hD => lc_range (n := ((n : Int) + 1).toNat) (fun j H' => Sx d H H' ∧ Dc H' d ∧ ∃ l : List Int, H' D = some (.lst (l.map V.int)) ∧ l.length = j ∧ ∀ x ∈ l, x.natAbs ≤ m) ⟨Sx.of (same_upd0 hD), hd.same (same_upd0 hD), [], upd_same, rfl, fun x hx => by cases hx⟩ (fun j H' hj hP => ?_) (fun H' hP => ?_)⟩
    · obtain ⟨sH, dH, l, hL, hl, hb⟩ := hP
      have nD : D ≠ d := hd.ne hD
      refine ⟨rfl, _, rfl, _, rfl, d, m, rfl, dH, by omega, by rw [e15]; omega, fun r H2 r1 r2 s2 d2 => ⟨_, s2 D _ nD hL, ?_, fun b o hb2 e => ?_, ?_, l ++ [r], ?_, ?_, fun x hx => ?_⟩⟩
      · rw [List.length_map]
        exact small1000 (by omega)
      · rw [upd_ne (ne_of_none e hD)]
        exact (sH.trans s2) b o hb2 e
      · obtain ⟨x, y, z, e⟩ := d2
        exact ⟨x, y, z, by rw [upd_ne (Ne.symm nD)]; exact e⟩
      · rw [upd_same, List.map_append]
        rfl
      · rw [List.length_append, hl]
        rfl
      · rcases List.mem_append.mp hx with e | e
        · exact hb x e
        · rw [List.mem_singleton.mp e]
          omega
    · obtain ⟨sH, dH, l, hL, hl, hb⟩ := hP
      refine .inl ⟨D, _, rfl, SqL.of hL, fun p hp2 => ?_⟩
      exact q p _ l (sH.trans (Sx.of (same_upd0 hp2))) (dH.same (same_upd0 hp2)) upd_same (by omega) hb
end
end K77

set_option Elab.async false
set_option linter.all false
set_option maxRecDepth 100000
/-! how large the entries of products are -/
namespace K77
/-- the sum of the first n absolute values -/
def sN : Nat → (Nat → Int) → Nat
  | 0, _ => 0
  | n + 1, f => sN n f + (f n).natAbs
/-- the sum of the absolute values of the entries -/
def nm (l : List Int) : Nat := (l.map Int.natAbs).sum
theorem sN_add (f g : Nat → Int) : ∀ n, sN n (fun k => f k + g k) ≤ sN n f + sN n g
  | 0 => Nat.le_refl _
  | n + 1 => by
    have h1 := sN_add f g n
    have h2 := Int.natAbs_add_le (f n) (g n)
    show sN n (fun k => f k + g k) + (f n + g n).natAbs ≤ sN n f + (f n).natAbs + (sN n g + (g n).natAbs)
    omega
theorem sN_mul (c : Int) (f : Nat → Int) : ∀ n, sN n (fun k => c * f k) = c.natAbs * sN n f
  | 0 => rfl
  | n + 1 => by
    show sN n (fun k => c * f k) + (c * f n).natAbs = c.natAbs * (sN n f + (f n).natAbs)
    rw [sN_mul c f n, Int.natAbs_mul, Nat.mul_add]
theorem sN_sh (f : Nat → Int) : ∀ n, sN n (sh f) ≤ sN n f
  | 0 => Nat.le_refl _
  | 1 => Nat.zero_le _
  | n + 2 => by
    have key : ∀ n, sN (n + 1) (sh f) = sN n f := by
      intro n
      induction n with
      | zero => rfl
      | succ n ih =>
        show sN (n + 1) (sh f) + (f n).natAbs = sN n f + (f n).natAbs
        rw [ih]
    rw [key]
    exact Nat.le_add_right _ _
theorem sN_cv (g : Nat → Int) (n : Nat) : ∀ l : List Int, sN n (cv l g) ≤ nm l * sN n g
  | [] => by
    have : sN n (cv [] g) = 0 := by
      induction n with
      | zero => rfl
      | succ n ih => show sN n (cv [] g) + (0 : Int).natAbs = 0; rw [ih]; rfl
    omega
  | x :: xs => by
    have h1 := sN_cv g n xs
    have e : sN n (cv (x :: xs) g) = sN n (fun k => x * g k + sh (cv xs g) k) := by
      rw [show cv (x :: xs) g = fun k => x * g k + sh (cv xs g) k from funext (cv_cons x xs g)]
    have h2 := sN_add (fun k => x * g k) (sh (cv xs g)) n
    have h3 := sN_sh (cv xs g) n
    rw [e]
    rw [sN_mul] at h2
    show _ ≤ (x.natAbs + nm xs) * sN n g
    rw [Nat.add_mul]
    omega
theorem nm_snoc (l : List Int) (x : Int) : nm (l ++ [x]) = nm l + x.natAbs := by
  unfold nm
  rw [List.map_append, List.sum_append]
  simp
theorem nm_tb (f : Nat → Int) : ∀ n, nm (tb n f) = sN n f
  | 0 => rfl
  | n + 1 => by
    have e : tb (n + 1) f = tb n f ++ [f n] := by
      unfold tb
      rw [List.range_succ, List.map_append]
      rfl
    rw [e, nm_snoc, nm_tb f n]
    rfl
theorem nm_mem : ∀ {l : List Int} {x : Int}, x ∈ l → x.natAbs ≤ nm l
  | y :: ys, x, h => by
    show x.natAbs ≤ y.natAbs + nm ys
    rcases List.mem_cons.mp h with e | e
    · rw [e]; omega
    · have := nm_mem e; omega
theorem sN_co (l : List Int) (n : Nat) : sN n (co l) ≤ nm l := by
  by_cases h : n ≤ l.length
  · have mono : ∀ k, sN n (co l) ≤ sN (n + k) (co l) := by
      intro k
      induction k with
      | zero => exact Nat.le_refl _
      | succ k ih => exact Nat.le_trans ih (Nat.le_add_right _ _)
    have h1 := mono (l.length - n)
    rw [show n + (l.length - n) = l.length by omega] at h1
    rw [← nm_tb (co l) l.length, tb_co] at h1
    exact h1
  · have far : ∀ k, sN (l.length + k) (co l) = sN l.length (co l) := by
      intro k
      induction k with
      | zero => rfl
      | succ k ih =>
        show sN (l.length + k) (co l) + (co l (l.length + k)).natAbs = _
        rw [ih, co_far (by omega)]
        rfl
    have h1 := far (n - l.length)
    rw [show l.length + (n - l.length) = n by omega] at h1
    rw [h1, ← nm_tb (co l) l.length, tb_co]
    exact Nat.le_refl _
theorem nm_ml (l m : List Int) : nm (ml l m) ≤ nm l * nm m := by
  unfold ml
  rw [nm_tb]
  exact Nat.le_trans (sN_cv _ _ l) (Nat.mul_le_mul (Nat.le_refl _) (sN_co m _))
theorem nm_pl : ∀ (l m : List Int), nm (pl l m) ≤ nm l + nm m
  | [], _ => Nat.zero_le _
  | _ :: _, [] => Nat.zero_le _
  | x :: xs, y :: ys => by
    have h1 := nm_pl xs ys
    have h2 := Int.natAbs_add_le x y
    show (x + y).natAbs + nm (pl xs ys) ≤ x.natAbs + nm xs + (y.natAbs + nm ys)
    omega
theorem nm_scale (c : Int) : ∀ l : List Int, nm (l.map (c * ·)) = c.natAbs * nm l
  | [] => rfl
  | x :: xs => by
    show (c * x).natAbs + nm (xs.map (c * ·)) = c.natAbs * (x.natAbs + nm xs)
    rw [nm_scale c xs, Int.natAbs_mul, Nat.mul_add]
theorem nm_le {b : Nat} : ∀ {l : List Int}, (∀ x ∈ l, x.natAbs ≤ b) → nm l ≤ l.length * b
  | [], _ => Nat.zero_le _
  | x :: xs, h => by
    have h1 := nm_le (l := xs) fun y hy => h y (List.mem_cons_of_mem _ hy)
    have h2 := h x List.mem_cons_self
    show x.natAbs + nm xs ≤ (xs.length + 1) * b
    rw [Nat.succ_mul]
    omega
end K77

set_option Elab.async false
set_option linter.all false
set_option maxRecDepth 100000
set_option maxHeartbeats 4000000
namespace K77
open PySem PySem.Spec PyProof.Rows L2 StX RZ MyR SlX OwnR OwnF EnumT
section
variable {P : Program} {w : World} {K : PySem.W.Frag} {mg : Str → Option Value} {base : Heap}
end
end K77

set_option Elab.async false
set_option linter.all false
set_option maxRecDepth 100000
set_option maxHeartbeats 4000000
namespace K77
open PySem PySem.Spec PyProof.Rows L2 StX RZ MyR SlX OwnR OwnF EnumT
/-- the product of the first i rows -/
def allP (ls : List (List Int)) (i : Nat) : List Int := (ls.take i).foldl ml [1]
theorem allP_succ {ls : List (List Int)} {i : Nat} (h : i < ls.length) : allP ls (i + 1) = ml (allP ls i) ls[i] := by
  unfold allP
  rw [List.take_add_one, List.getElem?_eq_getElem h, List.foldl_append]
  rfl
section
variable {P : Program} {w : World} {K : PySem.W.Frag} {mg : Str → Option Value} {base : Heap}
def spAll : Sp := fun vs H Q _ => ∃ (l : Addr) (rs : List Addr) (ls : List (List Int)), vs = [.ref l] ∧ H l = some (.lst (rs.map V.ref)) ∧ rs.length = ls.length ∧ (∀ i (h : i < ls.length) (h' : i < rs.length), H rs[i] = some (tp ls[i]) ∧ Rw ls[i]) ∧ (∀ i, i < ls.length → Rw (allP ls i)) ∧ ∀ p H', Same H H' → H' p = some (tp (allP ls ls.length)) → Q (.ref p) H'
theorem ok_law_all_product (T : Facts K mg) : FnOk P w K mg base CX0 2 T.f_law_all_product T.fd_law_all_product ["_law_forms"] spAll := by
  have G_law_product : FnOk P w K mg base CX0 1 T.f_law_product T.fd_law_product ["_law_one", "_law_other"] spProd := ok_law_product T
  refine T.F_law_all_product.ok sc_law_all_product (fun vs H Q E h => ?_) (fun cdv A outer s H vs Q E hr h => ?_)
  · obtain ⟨l, rs, ls, rfl, _⟩ := h
    rfl
  · obtain ⟨l, rs, ls, rfl, hl, hlen, hrow, hall, q⟩ := h
    refine ⟨_, (PSs.nox (pss_cons (ps_set (i := 1) sc_law_all_product.nd rfl (.inl rfl) (pe_tup (pa_cons pe_int pa_nil)))
    (pss_cons (ps_for PassesOwn.never (by rfl) (pi_list (pv 0)) (pg_name (i := 2) sc_law_all_product.nd rfl (.inl rfl))
      (pss_one (ps_set (i := 1) sc_law_all_product.nd rfl (.inl rfl) (pe_call G_law_product hr (by rfl) T.g_law_product T.F_law_product.kp T.b_law_product .nil pass0 (pa_cons (pv 1) (pa_cons (pv 2) pa_nil))))))
    (pss_one (ps_ret (pv 1)))))), ?_⟩
    refine ⟨(by show 1 ≤ sizeLine; decide), fun p0 n0 => ⟨_, rfl, l, rfl, ⟨_, SqL.of (same_upd0 n0 _ _ hl)⟩, for_list (xs := rs.map V.ref) (fun i σ H' => ∃ r y, σ = [some (.ref l), some (.ref r), y] ∧ Same H H' ∧ H' r = some (tp (allP ls i))) ⟨p0, none, rfl, same_upd0 n0, upd_same⟩ (fun i σ H' _ hP => ?_) (fun i x σ H' hx hP => ?_) (fun σ H' hP => ?_)⟩⟩
    · obtain ⟨r, y, _, sH, _⟩ := hP
      exact SqL.of (sH _ _ hl)
    · obtain ⟨r, y, rfl, sH, hr2⟩ := hP
      rw [List.getElem?_map] at hx
      obtain ⟨b, hb, rfl⟩ := Option.map_eq_some_iff.mp hx
      obtain ⟨h1, e1⟩ := List.getElem?_eq_some_iff.mp hb
      have h2 : i < ls.length := by omega
      obtain ⟨hb2, rb⟩ := hrow i h2 h1
      rw [e1] at hb2
      have ra := hall i h2
      exact ⟨_, rfl, _, rfl, r, b, _, ls[i], rfl, hr2, sH _ _ hb2, ra.ne, rb.ne, ra.len, rb.len, ra.sm, rb.sm, fun p H2 s2 _ hp2 => ⟨p, _, rfl, sH.trans s2, by rw [allP_succ h2]; exact hp2⟩⟩
    · obtain ⟨r, y, rfl, sH, hr2⟩ := hP
      rw [List.length_map, hlen] at hr2
      exact ⟨_, rfl, q r H' sH hr2⟩
end
end K77

set_option Elab.async false
set_option linter.all false
set_option maxRecDepth 100000
/-! the primitive row of a primitive row -/
namespace K77
end K77

set_option Elab.async false
set_option linter.all false
set_option maxRecDepth 100000
/-! sums of rows, rows of 0 -/
namespace K77
theorem zs_one : ∀ xs ys : List Int, zs 1 xs ys = pl xs ys
  | [], _ => rfl
  | _ :: _, [] => rfl
  | x :: xs, y :: ys => by
    show (x + 1 * y) :: zs 1 xs ys = (x + y) :: pl xs ys
    rw [zs_one xs ys, Int.one_mul]
theorem map_mul_comm (c : Int) (l : List Int) : (l.map fun x => x * c) = l.map fun x => c * x := List.map_congr_left fun x _ => Int.mul_comm x c
end K77

set_option Elab.async false
set_option linter.all false
set_option maxRecDepth 100000
/-! values of forms; a form is told by its values -/
namespace K77
/-- the value at x, y of the first n entries -/
def evF : Nat → (Nat → Int) → Int → Int → Int
  | 0, _, _, _ => 0
  | n + 1, g, x, y => x * evF n g x y + g n * y ^ n
def ev (l : List Int) (x y : Int) : Int := evF l.length (co l) x y
theorem evF_congr {g h : Nat → Int} {x y : Int} : ∀ n, (∀ i, i < n → g i = h i) → evF n g x y = evF n h x y
  | 0, _ => rfl
  | n + 1, e => by
    show x * evF n g x y + g n * y ^ n = x * evF n h x y + h n * y ^ n
    rw [evF_congr n fun i hi => e i (by omega), e n (by omega)]
theorem evF_add (g h : Nat → Int) (x y : Int) : ∀ n, evF n (fun i => g i + h i) x y = evF n g x y + evF n h x y
  | 0 => rfl
  | n + 1 => by
    show x * evF n (fun i => g i + h i) x y + (g n + h n) * y ^ n = (x * evF n g x y + g n * y ^ n) + (x * evF n h x y + h n * y ^ n)
    rw [evF_add g h x y n, Int.mul_add, Int.add_mul]
    omega
theorem evF_mul (c : Int) (g : Nat → Int) (x y : Int) : ∀ n, evF n (fun i => c * g i) x y = c * evF n g x y
  | 0 => by show (0 : Int) = c * 0; rw [Int.mul_zero]
  | n + 1 => by
    show x * evF n (fun i => c * g i) x y + (c * g n) * y ^ n = c * (x * evF n g x y + g n * y ^ n)
    rw [evF_mul c g x y n, Int.mul_add, Int.mul_assoc, ← Int.mul_assoc x c, Int.mul_comm x c, Int.mul_assoc]
theorem evF_sh (g : Nat → Int) (x y : Int) : ∀ n, evF (n + 1) (sh g) x y = y * evF n g x y
  | 0 => by
    show x * 0 + (0 : Int) * y ^ 0 = y * 0
    rw [Int.mul_zero, Int.zero_mul, Int.mul_zero]
    rfl
  | n + 1 => by
    show x * evF (n + 1) (sh g) x y + g n * y ^ (n + 1) = y * (x * evF n g x y + g n * y ^ n)
    rw [evF_sh g x y n, Int.mul_add, Int.pow_succ, ← Int.mul_assoc, Int.mul_comm x y, Int.mul_assoc, Int.mul_comm (y ^ n) y, ← Int.mul_assoc (g n), Int.mul_comm (g n) y, Int.mul_assoc y (g n)]
theorem evF_far {g : Nat → Int} (x y : Int) {n : Nat} (h : ∀ i, n ≤ i → g i = 0) : ∀ k, evF (n + k) g x y = x ^ k * evF n g x y
  | 0 => by rw [Nat.add_zero, Int.pow_zero, Int.one_mul]
  | k + 1 => by
    show x * evF (n + k) g x y + g (n + k) * y ^ (n + k) = _
    rw [evF_far x y h k, h _ (by omega), Int.zero_mul, Int.add_zero, Int.pow_succ, ← Int.mul_assoc, Int.mul_comm x]
theorem evF_zero (x y : Int) : ∀ n, evF n (fun _ => 0) x y = 0
  | 0 => rfl
  | n + 1 => by
    show x * evF n (fun _ => 0) x y + 0 * y ^ n = 0
    rw [evF_zero x y n, Int.mul_zero, Int.zero_mul]
    rfl
theorem ev_ml : ∀ {l m : List Int}, l ≠ [] → m ≠ [] → ∀ x y, ev (ml l m) x y = ev l x y * ev m x y := by
  intro l
  induction l with
  | nil => intro m h; exact absurd rfl h
  | cons a l ih =>
    intro m hl hm x y
    have hM : 0 < m.length := List.length_pos_iff.mpr hm
    have e0 : ev (ml (a :: l) m) x y = evF (l.length + m.length) (cv (a :: l) (co m)) x y := by
      unfold ev
      rw [ml_len, show (a :: l).length + m.length - 1 = l.length + m.length by rw [List.length_cons]; omega]
      exact evF_congr _ fun i _ => co_ml hm i
    rw [e0]
    have e1 : evF (l.length + m.length) (cv (a :: l) (co m)) x y = a * evF (l.length + m.length) (co m) x y + evF (l.length + m.length) (sh (cv l (co m))) x y := by
      rw [← evF_mul, ← evF_add]
      exact evF_congr _ fun i _ => cv_cons a l (co m) i
    rw [e1, show l.length + m.length = m.length + l.length by omega, evF_far x y (fun i hi => co_far hi) l.length]
    have e2 : ev (a :: l) x y = a * x ^ l.length + y * evF l.length (co l) x y := by
      unfold ev
      rw [List.length_cons]
      rw [show evF (l.length + 1) (co (a :: l)) x y = evF (l.length + 1) (fun i => a * (if i = 0 then 1 else 0) + sh (co l) i) x y from evF_congr _ fun i _ => by
        rw [co_cons]
        by_cases h : i = 0
        · rw [if_pos h, if_pos h, Int.mul_one]
        · rw [if_neg h, if_neg h, Int.mul_zero], evF_add, evF_mul, evF_sh]
      congr 1
      congr 1
      have h1 : evF (1 + l.length) (fun i => if i = 0 then (1 : Int) else 0) x y = x ^ l.length * evF 1 (fun i => if i = 0 then (1 : Int) else 0) x y := evF_far x y (n := 1) (fun i hi => if_neg (by omega)) l.length
      rw [show l.length + 1 = 1 + l.length by omega, h1]
      show x ^ l.length * (x * 0 + (if 0 = 0 then 1 else 0) * y ^ 0) = _
      rw [if_pos rfl, Int.mul_zero, Int.pow_zero, Int.mul_one, Int.zero_add, Int.mul_one]
    rw [e2]
    by_cases c : l = []
    · subst c
      show a * (x ^ 0 * evF m.length (co m) x y) + evF (m.length + 0) (sh (cv [] (co m))) x y = (a * x ^ 0 + y * 0) * ev m x y
      rw [show evF (m.length + 0) (sh (cv [] (co m))) x y = evF m.length (fun _ => 0) x y from evF_congr _ fun i _ => by cases i <;> rfl, evF_zero, Int.pow_zero, Int.one_mul, Int.mul_one, Int.mul_zero, Int.add_zero, Int.add_zero]
      rfl
    · have hL : 0 < l.length := List.length_pos_iff.mpr c
      have e3 : evF (m.length + l.length) (sh (cv l (co m))) x y = y * (ev l x y * ev m x y) := by
        rw [show m.length + l.length = (l.length + m.length - 1) + 1 by omega, evF_sh, ← ih c hm x y]
        congr 1
        unfold ev
        rw [ml_len]
        exact evF_congr _ fun i _ => (co_ml hm i).symm
      rw [e3]
      show a * (x ^ l.length * ev m x y) + y * (ev l x y * ev m x y) = (a * x ^ l.length + y * ev l x y) * ev m x y
      rw [Int.add_mul, Int.mul_assoc, Int.mul_assoc]
theorem ev_cons (a : Int) (l : List Int) (x y : Int) : ev (a :: l) x y = a * x ^ l.length + y * ev l x y := by
  unfold ev
  rw [List.length_cons]
  rw [show evF (l.length + 1) (co (a :: l)) x y = evF (l.length + 1) (fun i => a * (if i = 0 then 1 else 0) + sh (co l) i) x y from evF_congr _ fun i _ => by
    rw [co_cons]
    by_cases h : i = 0
    · rw [if_pos h, if_pos h, Int.mul_one]
    · rw [if_neg h, if_neg h, Int.mul_zero], evF_add, evF_mul, evF_sh]
  congr 1
  congr 1
  have h1 : evF (1 + l.length) (fun i => if i = 0 then (1 : Int) else 0) x y = x ^ l.length * evF 1 (fun i => if i = 0 then (1 : Int) else 0) x y := evF_far x y (n := 1) (fun i hi => if_neg (by omega)) l.length
  rw [show l.length + 1 = 1 + l.length by omega, h1]
  show x ^ l.length * (x * 0 + (if 0 = 0 then 1 else 0) * y ^ 0) = _
  rw [if_pos rfl, Int.mul_zero, Int.pow_zero, Int.mul_one, Int.zero_add, Int.mul_one]
/-- only the form with zeros has the value 0 everywhere -/
theorem evF_inj {g : Nat → Int} {M : Int} : ∀ n, (∀ i, i < n → (g i).natAbs < M.natAbs) → evF n g M 1 = 0 → ∀ i, i < n → g i = 0
  | 0, _, _, i, hi => absurd hi (Nat.not_lt_zero i)
  | n + 1, hb, e, i, hi => by
    have e' : M * evF n g M 1 + g n * 1 ^ n = 0 := e
    rw [Int.one_pow, Int.mul_one] at e'
    have hd : M ∣ g n := ⟨-evF n g M 1, by rw [Int.mul_neg]; omega⟩
    have hn : g n = 0 := Int.natAbs_eq_zero.mp (Nat.eq_zero_of_dvd_of_lt (Int.natAbs_dvd_natAbs.mpr hd) (hb n (by omega)))
    have hM : M ≠ 0 := fun z => by
      have := hb n (by omega)
      rw [z] at this
      exact absurd this (by simp)
    rw [hn, Int.add_zero] at e'
    have e2 : evF n g M 1 = 0 := (Int.mul_eq_zero.mp e').resolve_left hM
    by_cases c : i = n
    · rw [c]; exact hn
    · exact evF_inj n (fun j hj => hb j (by omega)) e2 i (by omega)
theorem ev_inj {l m : List Int} (hl : l.length = m.length) (h : ∀ x y, ev l x y = ev m x y) : l = m := by
  refine co_inj hl fun i => ?_
  by_cases c : i < l.length
  · have key := evF_inj (g := fun i => co l i + -1 * co m i) (M := ((nm l + nm m + 1 : Nat) : Int)) l.length (fun i _ => by
      rw [Int.natAbs_natCast]
      have h1 : (co l i).natAbs ≤ nm l := by
        rcases co_mem (l := l) (k := i) with e | e
        · rw [e]; exact Nat.zero_le _
        · exact nm_mem e
      have h2 : (co m i).natAbs ≤ nm m := by
        rcases co_mem (l := m) (k := i) with e | e
        · rw [e]; exact Nat.zero_le _
        · exact nm_mem e
      show (co l i + -1 * co m i).natAbs < _
      omega) (by
      rw [evF_add, evF_mul]
      have := h ((nm l + nm m + 1 : Nat) : Int) 1
      unfold ev at this
      rw [← hl] at this
      rw [this]
      omega) i c
    have key' : co l i + -1 * co m i = 0 := key
    omega
  · rw [co_far (by omega), co_far (by omega)]
end K77

set_option Elab.async false
set_option linter.all false
set_option maxRecDepth 100000
set_option maxHeartbeats 4000000
namespace K77
open PySem PySem.Spec PyProof.Rows L2 StX RZ MyR SlX OwnR OwnF EnumT
/-! ### drawn forms -/
/-- a row of a degree, with its size -/
structure Bd (l : List Int) (n b : Nat) : Prop where
  len : l.length = n + 1
  nm : nm l ≤ b
theorem Bd.ne {l : List Int} {n b : Nat} (h : Bd l n b) : l ≠ [] := fun e => by
  have := h.len
  rw [e] at this
  cases this
theorem Bd.mono {l : List Int} {n b c : Nat} (h : Bd l n b) (k : b ≤ c) : Bd l n c := ⟨h.len, Nat.le_trans h.nm k⟩
theorem Bd.mem {l : List Int} {n b : Nat} (h : Bd l n b) : ∀ x ∈ l, x.natAbs ≤ b := fun x hx => Nat.le_trans (nm_mem hx) h.nm
theorem Bd.rw {l : List Int} {n b : Nat} (h : Bd l n b) (hn : n ≤ 99) (hb : b < 2 ^ 4000) : Rw l := ⟨h.ne, by rw [h.len]; omega, fun x hx => Nat.lt_of_le_of_lt (h.mem x hx) hb⟩
theorem bd_ml {l m : List Int} {n k b c : Nat} (h : Bd l n b) (g : Bd m k c) : Bd (ml l m) (n + k) (b * c) :=
  ⟨by rw [ml_len, h.len, g.len]; omega, Nat.le_trans (nm_ml l m) (Nat.mul_le_mul h.nm g.nm)⟩
theorem bd_one : Bd [1] 0 1 := ⟨rfl, Nat.le_refl _⟩
theorem bd_line {u v : Int} {m : Nat} (hu : u.natAbs ≤ m) (hv : v.natAbs ≤ m) : Bd [v, 0 - u] 1 (2 * m) := ⟨rfl, by
  show v.natAbs + ((0 - u).natAbs + 0) ≤ _
  omega⟩
theorem bd_pair {u v : Int} {m : Nat} (hu : u.natAbs ≤ m) (hv : v.natAbs ≤ m) : Bd [u, v] 1 (2 * m) := ⟨rfl, by
  show u.natAbs + (v.natAbs + 0) ≤ _
  omega⟩
theorem bd_small {l : List Int} {n m : Nat} (hl : l.length = n + 1) (h : ∀ x ∈ l, x.natAbs ≤ m) : Bd l n ((n + 1) * m) := ⟨hl, by
  have := nm_le h
  rw [hl] at this
  exact this⟩
theorem bd_pow {l : List Int} {b : Nat} (h : Bd l 1 b) : ∀ i, Bd (pow l i) i (b ^ i)
  | 0 => bd_one
  | i + 1 => by
    rw [Nat.pow_succ]
    exact bd_ml (bd_pow h i) h
theorem bd_all {ls : List (List Int)} {b : Nat} (h : ∀ l ∈ ls, Bd l 1 b) : ∀ i, i ≤ ls.length → Bd (allP ls i) i (b ^ i)
  | 0, _ => bd_one
  | i + 1, hi => by
    rw [Nat.pow_succ, allP_succ hi]
    exact bd_ml (bd_all h i (by omega)) (h _ (List.getElem_mem hi))
theorem bd_zs {l m : List Int} {n b c : Nat} (h : Bd l n b) (g : Bd m n c) : Bd (zs 1 l m) n (b + c) := by
  rw [zs_one]
  exact ⟨by rw [pl_len (by rw [h.len, g.len]), h.len], Nat.le_trans (nm_pl l m) (Nat.add_le_add h.nm g.nm)⟩
theorem bd_scale {l : List Int} {n b d : Nat} {c : Int} (h : Bd l n b) (hc : c.natAbs ≤ d) : Bd (l.map (c * ·)) n (d * b) := ⟨by rw [List.length_map, h.len], by
  rw [nm_scale]
  exact Nat.mul_le_mul hc h.nm⟩
theorem p6 {i : Nat} (h : i ≤ 8) : 6 ^ i ≤ 1679616 := Nat.le_trans (Nat.pow_le_pow_right (by decide) h) (by decide)
theorem iteI {i j : Int} {A B : Prop} (h1 : i = j → A) (h2 : i ≠ j → B) : if decide (V.int i = V.int j) = true then A else B := by
  by_cases h : i = j
  · rw [decide_eq_true (by rw [h])]
    exact iteT (h1 h)
  · rw [decide_eq_false fun z => h (V.int.inj z)]
    exact iteF (h2 h)
section
variable {P : Program} {w : World} {K : PySem.W.Frag} {mg : Str → Option Value} {base : Heap}
def spDrawn : Sp := fun vs H Q _ => ∃ (d : Addr) (n : Nat), vs = [.ref d, .int n] ∧ Dc H d ∧ n ≤ 8 ∧ ∀ p H' l, Sx d H H' → Dc H' d → H' p = some (tp l) → Bd l n (10 ^ 14) → Q (.ref p) H'
theorem ok_law_form (T : Facts K mg) : FnOk P w K mg base CX0 5 T.f_law_form T.fd_law_form ["_law_dice_here", "_law_degree"] spDrawn := by
  have G_law_roll : FnOk P w K mg base CX0 1 T.f_law_roll T.fd_law_roll ["_law_dice_here", "_law_total"] spRoll2 := (ok_law_roll T).imp roll2
  have G_law_near : FnOk P w K mg base CX0 2 T.f_law_near T.fd_law_near ["_law_dice_here", "_law_most"] spNear := ok_law_near T
  have G_law_plus := ok_law_plus (P := P) (w := w) (base := base) T
  have G_law_scaled := ok_law_scaled (P := P) (w := w) (base := base) T
  have G_law_product := ok_law_product (P := P) (w := w) (base := base) T
  have G_law_all_product := ok_law_all_product (P := P) (w := w) (base := base) T
  have G_law_power := ok_law_power (P := P) (w := w) (base := base) T
  have G_law_line := ok_law_line (P := P) (w := w) (base := base) T
  have G_law_point := ok_law_point (P := P) (w := w) (base := base) T
  have G_law_small_form := ok_law_small_form (P := P) (w := w) (base := base) T
  refine T.F_law_form.ok sc_law_form (fun vs H Q E h => ?_) (fun cdv A outer s H vs Q E hr h => ?_)
  · obtain ⟨d, n, rfl, _⟩ := h
    rfl
  · obtain ⟨d, n, rfl, hd, hn, q⟩ := h
    have e15 : (10 : Int) ^ 15 = 1000000000000000 := by decide
    have e14 : (10 : Nat) ^ 14 = 100000000000000 := by decide
    rw [e14] at q
    have lg : ∀ i : Nat, i < 100 → (i : Int).natAbs.log2 < 9000 := fun i hi => Nat.lt_trans (PySem.Flt.log2_lt_of (k := 10) (by decide) (by show i < 2 ^ 10; omega)) (by decide)
    refine ⟨_, (PSs.nox (pss_cons (ps_set (i := 2) sc_law_form.nd rfl (.inl rfl) (pe_call G_law_roll (hr.mono (by decide)) (by rfl) T.g_law_roll T.F_law_roll.kp T.b_law_roll .nil pass0 (pa_cons (pv 0) (pa_cons pe_int pa_nil))))
    (pss_cons (ps_if (pt_cmpR op_eq (pv 2) pe_int (nomark _))
      (pss_one (ps_ret (pe_call G_law_all_product (hr.mono (by decide)) (by rfl) T.g_law_all_product T.F_law_all_product.kp T.b_law_all_product .nil pass0 (pa_cons (pe_lc (own := [("_law_turn", 3)]) (g := (gName 3)) (tt := tYes) (by rfl) sc_law_form.nd (pi_range1 (by rfl) T.z_range (pa_cons (pv 1) pa_nil)) (blkOk_by (N := N_law_form) (sc := defScope s_law_form) (by decide +kernel)) (fun _ _ _ _ _ => (pg_name (i := 3) sc_law_form.nd rfl (.inl rfl))) (fun _ _ _ _ _ => pts_nil) (fun _ _ _ _ _ => (pe_call G_law_line (hr.mono (by decide)) (by rfl) T.g_law_line T.F_law_line.kp T.b_law_line .nil pass0 (pa_cons (pe_call G_law_point hr (by rfl) T.g_law_point T.F_law_point.kp T.b_law_point .nil pass0 (pa_cons (pv 0) (pa_cons pe_int pa_nil))) pa_nil)))) pa_nil))))
      pss_nil)
    (pss_cons (ps_if (pt_cmpR op_eq (pv 2) pe_int (nomark _))
      (pss_cons (ps_par (i := 4) (j := 5) (by rfl) sc_law_form.nd rfl rfl (by decide) rfl rfl (pa_cons (pe_call G_law_line (hr.mono (by decide)) (by rfl) T.g_law_line T.F_law_line.kp T.b_law_line .nil pass0 (pa_cons (pe_call G_law_point hr (by rfl) T.g_law_point T.F_law_point.kp T.b_law_point .nil pass0 (pa_cons (pv 0) (pa_cons pe_int pa_nil))) pa_nil)) (pa_cons (pe_call G_law_roll (hr.mono (by decide)) (by rfl) T.g_law_roll T.F_law_roll.kp T.b_law_roll .nil pass0 (pa_cons (pv 0) (pa_cons (pe_op op_add (pv 1) pe_int) pa_nil))) pa_nil)) (by rfl))
      (pss_one (ps_ret (pe_call G_law_product (hr.mono (by decide)) (by rfl) T.g_law_product T.F_law_product.kp T.b_law_product .nil pass0 (pa_cons (pe_call G_law_power (hr.mono (by decide)) (by rfl) T.g_law_power T.F_law_power.kp T.b_law_power .nil pass0 (pa_cons (pv 4) (pa_cons (pv 5) pa_nil))) (pa_cons (pe_call G_law_small_form (hr.mono (by decide)) (by rfl) T.g_law_small_form T.F_law_small_form.kp T.b_law_small_form .nil pass0 (pa_cons (pv 0) (pa_cons (pe_op op_sub (pv 1) (pv 5)) (pa_cons pe_int pa_nil)))) pa_nil))))))
      pss_nil)
    (pss_cons (ps_if (pt_cmpR op_eq (pv 2) pe_int (nomark _))
      (pss_cons (ps_set (i := 6) sc_law_form.nd rfl (.inl rfl) (pe_tupleOf (by rfl) T.z_tuple (pe_lc (own := [("_law_place", 7)]) (g := (gName 7)) (tt := tYes) (by rfl) sc_law_form.nd (pi_range1 (by rfl) T.z_range (pa_cons (pe_op op_add (pv 1) pe_int) pa_nil)) (blkOk_by (N := N_law_form) (sc := defScope s_law_form) (by decide +kernel)) (fun _ _ _ _ _ => (pg_name (i := 7) sc_law_form.nd rfl (.inl rfl))) (fun _ _ _ _ _ => pts_nil) (fun _ _ _ _ _ => pe_int))))
      (pss_cons (ps_for PassesOwn.never (by rfl) (pi_range1 (by rfl) T.z_range (pa_cons (pe_op op_add pe_int (pe_call G_law_roll (hr.mono (by decide)) (by rfl) T.g_law_roll T.F_law_roll.kp T.b_law_roll .nil pass0 (pa_cons (pv 0) (pa_cons pe_int pa_nil)))) pa_nil)) (pg_name (i := 3) sc_law_form.nd rfl (.inl rfl))
        (pss_one (ps_set (i := 6) sc_law_form.nd rfl (.inl rfl) (pe_call G_law_plus (hr.mono (by decide)) (by rfl) T.g_law_plus T.F_law_plus.kp T.b_law_plus .nil pass0 (pa_cons (pv 6) (pa_cons (pe_call G_law_scaled (hr.mono (by decide)) (by rfl) T.g_law_scaled T.F_law_scaled.kp T.b_law_scaled .nil pass0 (pa_cons (pe_call G_law_power (hr.mono (by decide)) (by rfl) T.g_law_power T.F_law_power.kp T.b_law_power .nil pass0 (pa_cons (pe_call G_law_point hr (by rfl) T.g_law_point T.F_law_point.kp T.b_law_point .nil pass0 (pa_cons (pv 0) (pa_cons pe_int pa_nil))) (pa_cons (pv 1) pa_nil))) (pa_cons (pe_call G_law_near (hr.mono (by decide)) (by rfl) T.g_law_near T.F_law_near.kp T.b_law_near .nil pass0 (pa_cons (pv 0) (pa_cons pe_int pa_nil))) pa_nil))) pa_nil))))))
      (pss_one (ps_ret (pv 6)))))
      pss_nil)
    (pss_cons (ps_if (pt_cmpR op_eq (pv 2) pe_int (nomark _))
      (pss_one (ps_ret (pe_tupleOf (by rfl) T.z_tuple (pe_lc (own := [("_law_place", 7)]) (g := (gName 7)) (tt := tYes) (by rfl) sc_law_form.nd (pi_range1 (by rfl) T.z_range (pa_cons (pe_op op_add (pv 1) pe_int) pa_nil)) (blkOk_by (N := N_law_form) (sc := defScope s_law_form) (by decide +kernel)) (fun _ _ _ _ _ => (pg_name (i := 7) sc_law_form.nd rfl (.inl rfl))) (fun _ _ _ _ _ => pts_nil) (fun _ _ _ _ _ => (pe_op op_mulW (pe_call G_law_near (hr.mono (by decide)) (by rfl) T.g_law_near T.F_law_near.kp T.b_law_near .nil pass0 (pa_cons (pv 0) (pa_cons pe_int pa_nil))) (pe_call G_law_roll (hr.mono (by decide)) (by rfl) T.g_law_roll T.F_law_roll.kp T.b_law_roll .nil pass0 (pa_cons (pv 0) (pa_cons pe_int pa_nil)))))))))
      pss_nil)
    (pss_cons (ps_if (pw_and (pt_cmpR op_eq (pv 2) pe_int (nomark _)) (pw_and1 (pt_cmpR op_eq (pe_call G_law_roll (hr.mono (by decide)) (by rfl) T.g_law_roll T.F_law_roll.kp T.b_law_roll .nil pass0 (pa_cons (pv 0) (pa_cons pe_int pa_nil))) pe_int (nomark _)))).pt
      (pss_one (ps_ret (pe_tupleOf (by rfl) T.z_tuple (pe_lc (own := [("_law_place", 7)]) (g := (gName 7)) (tt := tYes) (by rfl) sc_law_form.nd (pi_range1 (by rfl) T.z_range (pa_cons (pe_op op_add (pv 1) pe_int) pa_nil)) (blkOk_by (N := N_law_form) (sc := defScope s_law_form) (by decide +kernel)) (fun _ _ _ _ _ => (pg_name (i := 7) sc_law_form.nd rfl (.inl rfl))) (fun _ _ _ _ _ => pts_nil) (fun _ _ _ _ _ => (pe_call G_law_near (hr.mono (by decide)) (by rfl) T.g_law_near T.F_law_near.kp T.b_law_near .nil pass0 (pa_cons (pv 0) (pa_cons (pe_op op_pow pe_int pe_int) pa_nil))))))))
      pss_nil)
    (pss_one (ps_ret (pe_call G_law_small_form (hr.mono (by decide)) (by rfl) T.g_law_small_form T.F_law_small_form.kp T.b_law_small_form .nil pass0 (pa_cons (pv 0) (pa_cons (pv 1) (pa_cons pe_int pa_nil))))))))))))), ?_⟩
    refine ⟨_, rfl, d, 6, rfl, hd, by decide, lg 6 (by decide), fun r H1 hr1 s1 d1 => ⟨_, rfl, rfl, _, rfl, iteI (fun _ => ?_) (fun r0 => ⟨_, rfl, rfl, _, rfl, iteI (fun _ => ?_) (fun r1 => ⟨_, rfl, rfl, _, rfl, iteI (fun _ => ?_) (fun r2 => ⟨_, rfl, rfl, _, rfl, iteI (fun _ => ?_) (fun r3 => ?_)⟩)⟩)⟩)⟩⟩
    · -- lines
      refine ⟨_, rfl, n, rfl, by omega, by omega, fun D hD => lc_range (n := (n : Int).toNat) (fun j H' => Sx d H H' ∧ Dc H' d ∧ ∃ (rs : List Addr) (ls : List (List Int)), H' D = some (.lst (rs.map V.ref)) ∧ rs.length = j ∧ ls.length = j ∧ (∀ i (h : i < ls.length) (h' : i < rs.length), H' rs[i] = some (tp ls[i])) ∧ ∀ l ∈ ls, Bd l 1 6) ⟨s1.trans (Sx.of (same_upd0 hD)), d1.same (same_upd0 hD), [], [], upd_same, rfl, rfl, fun i h _ => absurd h (Nat.not_lt_zero i), fun l h => (nomatch h)⟩ (fun j H' hj hP => ?_) (fun H' hP => ?_)⟩
      · obtain ⟨sH, dH, rs, ls, hL, hl1, hl2, hr, hb⟩ := hP
        refine ⟨rfl, _, rfl, d, 3, rfl, dH, by decide, by decide, fun p H2 u v s2 d2 hp hu hv => ⟨p, u, v, rfl, hp, fun p2 n2 => gen_upd H2 p2 _ n2 fun H3 s3 f3 => ?_⟩⟩
        have nD : D ≠ d := d1.ne hD
        have hL3 := s3 _ _ (s2 D _ nD hL)
        have dD : ∀ a l, H3 a = some (tp l) → a ≠ D := fun a l e z => by
          rw [z, hL3] at e
          cases e
        have d3 := d2.same s3
        refine ⟨_, hL3, by rw [List.length_map, hl1]; exact small1000 (by omega), fun b o hb2 e => ?_, ?_, rs ++ [p2], ls ++ [[v, 0 - u]], by rw [upd_same, List.map_append]; rfl, by rw [List.length_append, hl1]; rfl, by rw [List.length_append, hl2]; rfl, fun i h h' => ?_, fun l hl => ?_⟩
        · rw [upd_ne (ne_of_none (s1 b o hb2 e) hD)]
          exact s3 _ _ (s2 b o hb2 (sH b o hb2 e))
        · obtain ⟨x, y, z, e⟩ := d3
          exact ⟨x, y, z, by rw [upd_ne (Ne.symm nD)]; exact e⟩
        · by_cases c : i < ls.length
          · have e1 : (rs ++ [p2])[i] = rs[i]'(by omega) := List.getElem_append_left _
            have e2 : (ls ++ [[v, 0 - u]])[i] = ls[i] := List.getElem_append_left _
            rw [e1, e2]
            have e3 := s3 _ _ (s2 _ _ (dc_ne dH (hr i c (by omega))) (hr i c (by omega)))
            rw [upd_ne (dD _ _ e3)]
            exact e3
          · have ei : i = ls.length := by rw [List.length_append] at h; simp at h; omega
            subst ei
            have e1 : (rs ++ [p2])[ls.length] = p2 := by rw [List.getElem_append_right (by omega)]; simp [hl1, hl2]
            have e2 : (ls ++ [[v, 0 - u]])[ls.length] = [v, 0 - u] := by rw [List.getElem_append_right (by omega)]; simp
            rw [e1, e2, upd_ne (dD _ _ f3)]
            exact f3
        · rcases List.mem_append.mp hl with e | e
          · exact hb l e
          · rw [List.mem_singleton.mp e]
            exact bd_line hu hv
      · obtain ⟨sH, dH, rs, ls, hL, hl1, hl2, hr, hb⟩ := hP
        have hnn : ls.length = n := by omega
        refine ⟨D, rs, ls, rfl, hL, by omega, fun i h h' => ⟨hr i h h', (hb _ (List.getElem_mem h)).rw (by omega) (by decide)⟩, fun i hi => (bd_all hb i (by omega)).rw (by omega) (Nat.lt_of_le_of_lt (p6 (by omega)) (by decide)), fun p H3 s3 f3 => q p H3 _ (sH.trans (Sx.of s3)) (dH.same s3) f3 ?_⟩
        rw [hnn]
        exact (bd_all hb n (by omega)).mono (Nat.le_trans (p6 hn) (by decide))
    · -- a power of a line, times
      refine ⟨_, rfl, d, 3, rfl, d1, by decide, by decide, fun p H2 u v s2 d2 hp hu hv => ⟨p, u, v, rfl, hp, fun p2 n2 => gen_upd H2 p2 _ n2 fun H3 s3 f3 => ⟨_, rfl, _, rfl, _, _, rfl, rfl, ?_⟩⟩⟩
      have d3 := d2.same s3
      refine ⟨d, _, rfl, d3, by omega, lg (n + 1) (by omega), fun k H4 hk s4 d4 => ⟨_, _, rfl, ?_⟩⟩
      have hk' : k ≤ n := by have : (k : Int) < (n : Int) + 1 := hk; omega
      have f4 := s4 _ _ (dc_ne d3 f3) f3
      have bl : Bd [v, 0 - u] 1 6 := bd_line hu hv
      refine ⟨_, rfl, _, rfl, p2, _, k, rfl, f4, bl.ne, by show 2 ≤ 100; decide, fun x hx => (bl.rw (by decide) (Nat.lt_of_lt_of_le (show 6 < 2 ^ 4 by decide) (Nat.pow_le_pow_right (by decide) (by decide)))).sm x hx, fun i hi => ?_, by omega, fun p5 H5 s5 f5 => ?_⟩
      · have := (bd_pow bl i).rw (by omega) (Nat.lt_of_le_of_lt (p6 (by omega)) (by decide))
        exact ⟨this.ne, this.len, this.sm⟩
      · have d5 := d4.same s5
        refine ⟨_, rfl, _, rfl, _, rfl, _, _, rfl, rfl, d, n - k, 4, by show [V.ref d, V.int ((n : Int) - (k : Int)), V.int 4] = [V.ref d, V.int ((n - k : Nat) : Int), V.int 4]; rw [Int.ofNat_sub hk'], d5, by omega, by decide, fun p6' H6 l6 s6 d6 f6 hl6 hm6 => ?_⟩
        have f5' := s6 _ _ (dc_ne d5 f5) f5
        have b1 := bd_pow bl k
        have b2 := bd_small hl6 hm6
        have r1 := b1.rw (by omega) (Nat.lt_of_le_of_lt (p6 (by omega)) (by decide))
        have r2 := b2.rw (by omega) (Nat.lt_of_le_of_lt (show (n - k + 1) * 4 ≤ 36 by omega) (by decide))
        refine ⟨p5, p6', _, l6, rfl, f5', f6, r1.ne, r2.ne, r1.len, r2.len, r1.sm, r2.sm, fun p7 H7 s7 _ f7 => q p7 H7 _ ((((s1.trans s2).trans (Sx.of s3)).trans s4).trans (((Sx.of s5).trans s6).trans (Sx.of s7))) (d6.same s7) f7 ?_⟩
        have b3 := bd_ml b1 b2
        rw [show k + (n - k) = n by omega] at b3
        exact b3.mono (Nat.le_trans (Nat.mul_le_mul (p6 (by omega)) (show (n - k + 1) * 4 ≤ 36 by omega)) (by decide))
    · -- sums of powers
      refine ⟨_, rfl, _, _, rfl, rfl, _, rfl, by show -(2 ^ 62) ≤ (n : Int) + 1; omega, by show (n : Int) + 1 < 2 ^ 62; omega, fun D hD => lc_range (n := ((n : Int) + 1).toNat) (fun j H' => H' = upd H1 D (.lst (tab j fun _ => 0))) rfl (fun j H' hj hP => ?_) (fun H' hP => ?_)⟩
      · subst hP
        refine ⟨rfl, ⟨_, upd_same, by rw [tab_len]; exact small1000 (by omega), ?_⟩⟩
        rw [upd_upd, ← tab_snoc]
      · subst hP
        rw [show ((n : Int) + 1).toNat = n + 1 by omega, tab_tb]
        refine .inl ⟨D, _, rfl, SqL.of upd_same, fun p hp => gen_upd (upd H1 D _) p _ hp fun H2 s2 f2 => ?_⟩
        have s02 := (same_upd0 (o := HO.lst ((tb (n + 1) fun _ => 0).map V.int)) hD).trans s2
        have d2 := d1.same s02
        have b0 : Bd (tb (n + 1) fun _ => 0) n 0 := ⟨tb_len _ _, by
          rw [nm_tb]
          have : ∀ k, sN k (fun _ => 0) = 0 := by
            intro k
            induction k with
            | zero => rfl
            | succ k ih => show sN k (fun _ => 0) + 0 = 0; rw [ih]
          rw [this]
          exact Nat.le_refl _⟩
        refine ⟨_, rfl, d, 3, rfl, d2, by decide, lg 3 (by decide), fun k H3 hk s3 d3 => ⟨_, _, rfl, rfl, _, rfl, by omega, by omega, ?_⟩⟩
        have f3 := s3 _ _ (dc_ne d2 f2) f2
        have hk3 : (k : Int) < 3 := hk
        refine for_range (n := (1 + (k : Int)).toNat) (fun i σ H' => ∃ r y3 y4 y5 y7 l, σ = [some (.ref d), some (.int n), some (.int (r : Int)), y3, y4, y5, some (.ref y7), none] ∧ Sx d H1 H' ∧ Dc H' d ∧ H' y7 = some (tp l) ∧ Bd l n (i * 6718464)) ⟨_, _, _, _, _, _, rfl, (Sx.of s02).trans s3, d3, f3, b0.mono (Nat.zero_le _)⟩ (fun i σ H' hi hP => ?_) (fun σ H' hP => ?_)
        · obtain ⟨r', y3, y4, y5, y7, l, rfl, sH, dH, hl, bl⟩ := hP
          refine ⟨_, rfl, _, rfl, d, 3, rfl, dH, by decide, by decide, fun p4 H4 u v s4 d4 h4 hu hv => ⟨_, rfl, ?_⟩⟩
          have bp : Bd [u, v] 1 6 := bd_pair hu hv
          refine ⟨p4, _, n, rfl, h4, bp.ne, by show 2 ≤ 100; decide, fun x hx => (bp.rw (by decide) (Nat.lt_of_lt_of_le (show 6 < 2 ^ 4 by decide) (Nat.pow_le_pow_right (by decide) (by decide)))).sm x hx, fun i hi => ?_, by omega, fun p5 H5 s5 f5 => ?_⟩
          · have := (bd_pow bp i).rw (by omega) (Nat.lt_of_le_of_lt (p6 (by omega)) (by decide))
            exact ⟨this.ne, this.len, this.sm⟩
          · have d5 := d4.same s5
            have b5 := bd_pow bp n
            have r5 := b5.rw (by omega) (Nat.lt_of_le_of_lt (p6 (by omega)) (by decide))
            refine ⟨_, rfl, d, 4, rfl, d5, by decide, by rw [e15]; decide, fun c H6 c1 c2 s6 d6 => ?_⟩
            have f6 := s6 _ _ (dc_ne d5 f5) f5
            refine ⟨p5, _, c, rfl, f6, r5.len, r5.sm, Nat.lt_of_le_of_lt (show c.natAbs ≤ 4 by omega) (by decide), fun p7 H7 s7 _ f7 => ?_⟩
            have b7 := bd_scale (d := 4) b5 (show c.natAbs ≤ 4 by omega)
            have hl7 := s7 _ _ (s6 _ _ (dc_ne d5 (s5 _ _ (s4 _ _ (dc_ne dH hl) hl))) (s5 _ _ (s4 _ _ (dc_ne dH hl) hl)))
            refine ⟨_, p7, l, _, rfl, hl7, f7, by rw [bl.len, b7.len], by rw [bl.len]; omega, fun p8 H8 s8 _ f8 => ⟨_, _, _, _, p8, _, rfl, ((sH.trans s4).trans ((Sx.of s5).trans s6)).trans ((Sx.of s7).trans (Sx.of s8)), (d6.same s7).same s8, f8, (bd_zs bl b7).mono ?_⟩⟩
            have : 4 * 6 ^ n ≤ 4 * 1679616 := Nat.mul_le_mul (Nat.le_refl _) (p6 hn)
            rw [Nat.succ_mul]
            omega
        · obtain ⟨r', y3, y4, y5, y7, l, rfl, sH, dH, hl, bl⟩ := hP
          exact ⟨_, rfl, q y7 H' l (s1.trans sH) dH hl (bl.mono (by omega))⟩
    · -- some entries, some zeros
      refine ⟨_, rfl, _, _, rfl, rfl, _, rfl, by show -(2 ^ 62) ≤ (n : Int) + 1; omega, by show (n : Int) + 1 < 2 ^ 62; omega, fun D hD => lc_range (n := ((n : Int) + 1).toNat) (fun j H' => Sx d H1 H' ∧ Dc H' d ∧ ∃ l : List Int, H' D = some (.lst (l.map V.int)) ∧ l.length = j ∧ ∀ x ∈ l, x.natAbs ≤ 3) ⟨Sx.of (same_upd0 hD), d1.same (same_upd0 hD), [], upd_same, rfl, fun x hx => by cases hx⟩ (fun j H' hj hP => ?_) (fun H' hP => ?_)⟩
      · obtain ⟨sH, dH, l, hL, hl, hb⟩ := hP
        have nD : D ≠ d := d1.ne hD
        refine ⟨rfl, _, rfl, d, 3, rfl, dH, by decide, by rw [e15]; decide, fun c H2 c1 c2 s2 d2 => ⟨_, rfl, d, 2, rfl, d2, by decide, lg 2 (by decide), fun k H3 hk s3 d3 => ⟨_, _, rfl, rfl, sm_mul (Nat.lt_of_le_of_lt (show c.natAbs ≤ 3 by omega) (by decide)) (Nat.lt_of_le_of_lt (show ((k : Nat) : Int).natAbs ≤ 2 by have : (k : Int) < 2 := hk; omega) (by decide)), _, s3 D _ nD (s2 D _ nD hL), ?_, fun b o hb2 e => ?_, ?_, l ++ [c * (k : Int)], ?_, ?_, fun x hx => ?_⟩⟩⟩
        · rw [List.length_map]
          exact small1000 (by omega)
        · rw [upd_ne (ne_of_none e hD)]
          exact (sH.trans (s2.trans s3)) b o hb2 e
        · obtain ⟨x, y, z, e⟩ := d3
          exact ⟨x, y, z, by rw [upd_ne (Ne.symm nD)]; exact e⟩
        · rw [upd_same, List.map_append]
          rfl
        · rw [List.length_append, hl]
          rfl
        · rcases List.mem_append.mp hx with e | e
          · exact hb x e
          · rw [List.mem_singleton.mp e]
            have hk2 : (k : Int) < 2 := hk
            rw [Int.natAbs_mul]
            have := Nat.mul_le_mul (show c.natAbs ≤ 3 by omega) (show ((k : Nat) : Int).natAbs ≤ 1 by omega)
            omega
      · obtain ⟨sH, dH, l, hL, hl, hb⟩ := hP
        refine .inl ⟨D, _, rfl, SqL.of hL, fun p hp2 => ?_⟩
        exact q p _ l (s1.trans (sH.trans (Sx.of (same_upd0 hp2)))) (dH.same (same_upd0 hp2)) upd_same ((bd_small (n := n) (by omega) hb).mono (Nat.le_trans (Nat.mul_le_mul (show n + 1 ≤ 9 by omega) (Nat.le_refl _)) (by decide)))
    · -- great entries, or small ones
      have small : ∀ H2, Sx d H H2 → Dc H2 d → spSmall [V.ref d, V.int (n : Int), V.int 6] H2 Q E0 := fun H2 s2 d2 => ⟨d, n, 6, rfl, d2, by omega, by decide, fun p H3 l s3 d3 f3 hl hm => q p H3 l (s2.trans s3) d3 f3 ((bd_small hl hm).mono (by omega))⟩
      refine ⟨_, rfl, rfl, _, rfl, iteI (fun _ => ?_) (fun _ => ?_)⟩
      · refine ⟨_, rfl, d, 4, rfl, d1, by decide, lg 4 (by decide), fun k H2 hk s2 d2 => ⟨rfl, _, rfl, iteI (fun _ => ?_) (fun _ => ?_)⟩⟩
        · -- great entries
          refine ⟨_, rfl, _, _, rfl, rfl, _, rfl, by show -(2 ^ 62) ≤ (n : Int) + 1; omega, by show (n : Int) + 1 < 2 ^ 62; omega, fun D hD => lc_range (n := ((n : Int) + 1).toNat) (fun j H' => Sx d H2 H' ∧ Dc H' d ∧ ∃ l : List Int, H' D = some (.lst (l.map V.int)) ∧ l.length = j ∧ ∀ x ∈ l, x.natAbs ≤ 1000000000000) ⟨Sx.of (same_upd0 hD), d2.same (same_upd0 hD), [], upd_same, rfl, fun x hx => by cases hx⟩ (fun j H' hj hP => ?_) (fun H' hP => ?_)⟩
          · obtain ⟨sH, dH, l, hL, hl, hb⟩ := hP
            have nD : D ≠ d := d2.ne hD
            refine ⟨rfl, _, rfl, 10, 12, rfl, rfl, ⟨by decide, by decide, by decide⟩, d, 1000000000000, rfl, dH, by decide, by rw [e15]; decide, fun r H2 r1 r2 s2 d2 => ⟨_, s2 D _ nD hL, ?_, fun b o hb2 e => ?_, ?_, l ++ [r], ?_, ?_, fun x hx => ?_⟩⟩
            · rw [List.length_map]
              exact small1000 (by omega)
            · rw [upd_ne (ne_of_none e hD)]
              exact (sH.trans s2) b o hb2 e
            · obtain ⟨x, y, z, e⟩ := d2
              exact ⟨x, y, z, by rw [upd_ne (Ne.symm nD)]; exact e⟩
            · rw [upd_same, List.map_append]
              rfl
            · rw [List.length_append, hl]
              rfl
            · rcases List.mem_append.mp hx with e | e
              · exact hb x e
              · rw [List.mem_singleton.mp e]
                omega
          · obtain ⟨sH, dH, l, hL, hl, hb⟩ := hP
            refine .inl ⟨D, _, rfl, SqL.of hL, fun p hp2 => ?_⟩
            exact q p _ l ((s1.trans s2).trans (sH.trans (Sx.of (same_upd0 hp2)))) (dH.same (same_upd0 hp2)) upd_same ((bd_small (n := n) (by omega) hb).mono (Nat.le_trans (Nat.mul_le_mul (show n + 1 ≤ 9 by omega) (Nat.le_refl _)) (by decide)))
        · exact ⟨_, rfl, _, rfl, small H2 (s1.trans s2) d2⟩
      · exact ⟨_, rfl, _, rfl, small H1 s1 d1⟩
end
end K77

set_option Elab.async false
set_option linter.all false
set_option maxRecDepth 100000
set_option maxHeartbeats 4000000
namespace K77
open PySem PySem.Spec PyProof.Rows L2 StX RZ MyR SlX OwnR OwnF EnumT
/-! what is said of forms by those who use them (for other laws: K77u, K77v, K77y hold the same) -/
section
variable {P : Program} {w : World} {K : PySem.W.Frag} {mg : Str → Option Value} {base : Heap}
/-- what is asked of a told row -/
structure Tr (l : List Int) : Prop where
  ne : l ≠ []
  len : l.length ≤ 40
  sho : ∀ x ∈ l, Sho x
theorem Tr.rw {l : List Int} (h : Tr l) : Rw l := ⟨h.ne, by have := h.len; omega, fun x hx => Nat.lt_trans (h.sho x hx) (by decide)⟩
theorem Tr.pos {l : List Int} (h : Tr l) : 1 ≤ l.length := List.length_pos_iff.mpr h.ne
theorem shaped_lints (ns : List Int) : SeqAt.shaped (.list (ns.map PyData.int)) = true := by
  unfold SeqAt.shaped
  rw [show PyData.canLay0 (.list (ns.map PyData.int)) = PyData.canLayAll0 (ns.map PyData.int) from rfl, lay_ints]
  rw [show PyData.depth (.list (ns.map PyData.int)) = PyData.depthAll (ns.map PyData.int) + 1 from rfl, depth_ints]
  rfl
/-- Form(t) -/
theorem made_form {C x dx t : Addr} {l : List Int} {H0 H2 : Hp} (hx : H0 x = none) (hdx : H0 dx = none) (hne : dx ≠ x) (s : Same (upd (upd H0 dx (.own x)) x (.ins C dx [])) H2) (ht : H0 t = some (tp l)) : Same H0 (slH H2 x C dx [some (.ref t)]) ∧ Fo C (slH H2 x C dx [some (.ref t)]) x l := by
  have s3 := made (v := .ref t) hx hdx hne s
  refine ⟨s3, dx, t, upd_same, ?_, s3 _ _ ht⟩
  unfold slH
  rw [upd_ne hne, upd_same]
theorem Fo.sx {C a d : Addr} {H H' : Hp} {ns : List Int} (h : Fo C H a ns) (hd : Dc H d) (s : Sx d H H') : Fo C H' a ns := by
  obtain ⟨dx, t, h1, h2, h3⟩ := h
  obtain ⟨x, y, z, e⟩ := hd
  refine ⟨dx, t, s _ _ (fun q => ?_) h1, s _ _ (fun q => ?_) h2, s _ _ (fun q => ?_) h3⟩
  · rw [q, e] at h1
    cases h1
  · rw [q, e] at h2
    cases h2
  · rw [q, e] at h3
    cases h3
theorem mkF {CT C x dx t : Addr} {H : Hp} {l : List Int} {R : Hp → Prop} (hx : H x = none) (hdx : H dx = none) (hne : dx ≠ x) (ht : H t = some (tp l)) (h1 : 1 ≤ l.length) (h2 : l.length ≤ 41) (hs : ∀ z ∈ l, Sho z) (q : ∀ H', Same H H' → Fo C H' x l → R H') :
    spForm CT C [.ref x, .ref t] (upd (upd H dx (.own x)) x (.ins C dx [])) (fun v H2 => v = .non ∧ R H2) E0 := by
  refine ⟨x, dx, t, t, rfl, .inl ⟨upd_same, rfl⟩, .inr ⟨l, rfl, ?_, h1, h2, hs⟩, fun H2 s2 => ⟨rfl, ?_⟩⟩
  · rw [upd_ne (ne_of_none ht hx), upd_ne (ne_of_none ht hdx)]
    exact ht
  · obtain ⟨s, f⟩ := made_form hx hdx hne s2 ht
    exact q _ s f
theorem Bd.tr {l : List Int} {n b : Nat} (h : Bd l n b) (hn : n ≤ 39) (hb : b < 10 ^ 60) : Tr l := ⟨h.ne, by rw [h.len]; omega, fun x hx => Nat.lt_of_le_of_lt (h.mem x hx) hb⟩
/-- a pair of a form and its row -/
structure Pa (C : Addr) (H : Hp) (v : V) (l : List Int) : Prop where
  tr : Tr l
  at_ : ∃ p f t, v = .ref p ∧ H p = some (.tup [.ref f, .ref t]) ∧ Fo C H f l ∧ H t = some (tp l)
theorem Pa.same {C : Addr} {H H' : Hp} {v : V} {l : List Int} (h : Pa C H v l) (s : Same H H') : Pa C H' v l := by
  obtain ⟨p, f, t, e, h1, h2, h3⟩ := h.at_
  exact ⟨h.tr, p, f, t, e, s _ _ h1, h2.same s, s _ _ h3⟩
theorem ml_one (l : List Int) : ml l [1] = l := by
  refine co_inj (by rw [ml_len]; show l.length + 1 - 1 = _; omega) fun k => ?_
  rw [co_ml (by simp), cv_congr (h := fun i => if i = 0 then 1 else 0) l k fun i _ => by cases i <;> rfl, cv_one]
theorem prop_ent {C a : Addr} {H : Hp} {xs : List Int} {Q : VK} (fa : Fo C H a xs) (q : ∀ t, H t = some (tp xs) → Q (.ref t) H) : ∃ a' dx vs, V.ref a = .ref a' ∧ Slt H a' C dx vs ∧ spEnt C [.ref a'] H Q E0 := by
  obtain ⟨dx, t, ha, _⟩ := fa.slt
  exact ⟨a, dx, _, rfl, ha, a, xs, rfl, fa, q⟩
theorem prop_zero {C a : Addr} {H : Hp} {xs : List Int} {Q : VK} (fa : Fo C H a xs) (q : Q (.bl (!xs.any (· != 0))) H) : ∃ a' dx vs, V.ref a = .ref a' ∧ Slt H a' C dx vs ∧ spIsZ C [.ref a'] H Q E0 := by
  obtain ⟨dx, t, ha, _⟩ := fa.slt
  exact ⟨a, dx, _, rfl, ha, a, xs, rfl, fa, q⟩
theorem prop_deg {C a : Addr} {H : Hp} {xs : List Int} {Q : VK} (fa : Fo C H a xs) (q : Q (.int ((xs.length : Int) - 1)) H) : ∃ a' dx vs, V.ref a = .ref a' ∧ Slt H a' C dx vs ∧ spDeg C [.ref a'] H Q E0 := by
  obtain ⟨dx, t, ha, _⟩ := fa.slt
  exact ⟨a, dx, _, rfl, ha, a, xs, rfl, fa, q⟩
end
end K77

set_option Elab.async false
set_option linter.all false
set_option maxRecDepth 100000
/-! changed forms, derived forms: the plain law -/
namespace K77
theorem ev_zs (c : Int) {l m : List Int} (h : l.length = m.length) (x y : Int) : ev (zs c l m) x y = ev l x y + c * ev m x y := by
  have hz : (zs c l m).length = l.length := by unfold zs; rw [List.length_zipWith, h, Nat.min_self]
  have co_zs : ∀ k, co (zs c l m) k = co l k + c * co m k := fun k => by
    unfold zs
    by_cases hk : k < l.length
    · rw [co_get (by rw [List.length_zipWith]; omega), co_get hk, co_get (by omega), List.getElem_zipWith]
    · rw [co_far (by rw [List.length_zipWith]; omega), co_far (by omega), co_far (by omega), Int.mul_zero]
      rfl
  unfold ev
  rw [hz, ← h, ← evF_mul, ← evF_add]
  exact evF_congr _ fun i _ => co_zs i
theorem ev_map (c : Int) (l : List Int) (x y : Int) : ev (l.map (c * ·)) x y = c * ev l x y := by
  unfold ev
  rw [List.length_map, ← evF_mul]
  exact evF_congr _ fun i _ => co_map c l i
theorem ev_one (x y : Int) : ev [1] x y = 1 := by
  rw [ev_cons]
  show 1 * x ^ 0 + y * 0 = 1
  rw [Int.pow_zero, Int.mul_zero]
  rfl
theorem ev_nil (x y : Int) : ev [] x y = 0 := rfl
theorem pow_ne {l : List Int} (h : l ≠ []) : ∀ n, pow l n ≠ []
  | 0 => by show [1] ≠ []; simp
  | n + 1 => ml_ne (pow_ne h n) h
theorem pow_len {l : List Int} (h : l.length = 2) : ∀ n, (pow l n).length = n + 1
  | 0 => rfl
  | n + 1 => by
    show (ml (pow l n) l).length = _
    rw [ml_len, pow_len h n, h]
    omega
theorem ev_pow {l : List Int} (h : l ≠ []) (x y : Int) : ∀ n, ev (pow l n) x y = ev l x y ^ n
  | 0 => by rw [Int.pow_zero]; exact ev_one x y
  | n + 1 => by
    show ev (ml (pow l n) l) x y = _
    rw [ev_ml (pow_ne h n) h, ev_pow h x y n, Int.pow_succ]
theorem zs_len {c : Int} {l m : List Int} (h : l.length = m.length) : (zs c l m).length = l.length := by unfold zs; rw [List.length_zipWith, h, Nat.min_self]
/-- how the program changes: the entries that are left, what is found, the power of the second row -/
def chg (X Y : List Int) : List Int → List Int → List Int → List Int
  | [], f, _ => f
  | e :: r, f, p => chg X Y r (zs e (ml f X) (ml p Y)) (ml p Y)
theorem chg_len {X Y : List Int} (hX : X.length = 2) (hY : Y.length = 2) : ∀ (r f p : List Int), f ≠ [] → f.length = p.length → (chg X Y r f p).length = f.length + r.length
  | [], f, p, _, _ => rfl
  | e :: r, f, p, nf, h => by
    have pf : 0 < f.length := List.length_pos_iff.mpr nf
    have l1 : (ml f X).length = f.length + 1 := by rw [ml_len, hX]; omega
    have l2 : (ml p Y).length = f.length + 1 := by rw [ml_len, hY, ← h]; omega
    have l3 : (zs e (ml f X) (ml p Y)).length = f.length + 1 := by rw [zs_len (by rw [l1, l2]), l1]
    show (chg X Y r (zs e (ml f X) (ml p Y)) (ml p Y)).length = _
    rw [chg_len hX hY r _ _ (fun z => by rw [z] at l3; cases l3) (by rw [l3, l2]), l3, List.length_cons]
    omega
theorem ev_chg {X Y : List Int} (hX : X.length = 2) (hY : Y.length = 2) (x y : Int) : ∀ (r f p : List Int), f ≠ [] → f.length = p.length →
    ev (chg X Y r f p) x y = ev f x y * ev X x y ^ r.length + ev p x y * ev Y x y * ev r (ev X x y) (ev Y x y)
  | [], f, p, _, _ => by
    show ev f x y = ev f x y * ev X x y ^ 0 + ev p x y * ev Y x y * 0
    rw [Int.pow_zero, Int.mul_one, Int.mul_zero, Int.add_zero]
  | e :: r, f, p, nf, h => by
    have pf : 0 < f.length := List.length_pos_iff.mpr nf
    have np : p ≠ [] := fun z => by rw [z] at h; simp at h; exact nf h
    have nX : X ≠ [] := fun z => by rw [z] at hX; cases hX
    have nY : Y ≠ [] := fun z => by rw [z] at hY; cases hY
    have l1 : (ml f X).length = f.length + 1 := by rw [ml_len, hX]; omega
    have l2 : (ml p Y).length = f.length + 1 := by rw [ml_len, hY, ← h]; omega
    have l3 : (zs e (ml f X) (ml p Y)).length = f.length + 1 := by rw [zs_len (by rw [l1, l2]), l1]
    show ev (chg X Y r (zs e (ml f X) (ml p Y)) (ml p Y)) x y = _
    rw [ev_chg hX hY x y r _ _ (fun z => by rw [z] at l3; cases l3) (by rw [l3, l2]), ev_zs e (by rw [l1, l2]), ev_ml nf nX, ev_ml np nY, ev_cons, List.length_cons, Int.pow_succ]
    generalize ev f x y = a
    generalize ev p x y = b
    generalize ev X x y = u
    generalize ev Y x y = v
    generalize ev r u v = w
    generalize u ^ r.length = z
    grind
/-- the changed form -/
def changed (X Y l : List Int) : List Int := chg X Y l.tail [co l 0] [1]
theorem changed_len {X Y l : List Int} (hX : X.length = 2) (hY : Y.length = 2) (h : l ≠ []) : (changed X Y l).length = l.length := by
  match l, h with
  | a :: r, _ =>
    show (chg X Y r [a] [1]).length = _
    rw [chg_len hX hY r [a] [1] (by simp) rfl]
    show 1 + r.length = r.length + 1
    omega
theorem ev_changed {X Y l : List Int} (hX : X.length = 2) (hY : Y.length = 2) (h : l ≠ []) (x y : Int) : ev (changed X Y l) x y = ev l (ev X x y) (ev Y x y) := by
  match l, h with
  | a :: r, _ =>
    show ev (chg X Y r [a] [1]) x y = _
    rw [ev_chg hX hY x y r [a] [1] (by simp) rfl, ev_one, ev_cons a r, Int.one_mul, ev_cons a []]
    show (a * x ^ 0 + y * 0) * _ + _ = _
    rw [Int.pow_zero, Int.mul_one, Int.mul_zero, Int.add_zero]
/-- how the law changes: the first i entries -/
def chL (X Y l : List Int) : Nat → List Int
  | 0 => List.replicate l.length 0
  | i + 1 => zs 1 (chL X Y l i) ((ml (pow X (l.length - 1 - i)) (pow Y i)).map (co l i * ·))
theorem chL_len {X Y l : List Int} (hX : X.length = 2) (hY : Y.length = 2) : ∀ i, i ≤ l.length → (chL X Y l i).length = l.length
  | 0, _ => List.length_replicate
  | i + 1, h => by
    have l1 := chL_len (l := l) hX hY i (by omega)
    have l2 : ((ml (pow X (l.length - 1 - i)) (pow Y i)).map (co l i * ·)).length = l.length := by
      rw [List.length_map, ml_len, pow_len hX, pow_len hY]
      omega
    show (zs 1 (chL X Y l i) _).length = _
    rw [zs_len (by rw [l1, l2]), l1]
theorem ev_rep (n : Nat) (x y : Int) : ev (List.replicate n 0) x y = 0 := by
  unfold ev
  rw [show evF (List.replicate n (0 : Int)).length (co (List.replicate n 0)) x y = evF (List.replicate n (0 : Int)).length (fun _ => 0) x y from evF_congr _ fun i hi => by
    rw [co_get hi, List.getElem_replicate], evF_zero]
theorem ev_chL {X Y l : List Int} (hX : X.length = 2) (hY : Y.length = 2) (x y : Int) : ∀ i, i < l.length → ev (chL X Y l (i + 1)) x y = ev X x y ^ (l.length - 1 - i) * evF (i + 1) (co l) (ev X x y) (ev Y x y)
  | i, h => by
    have nX : X ≠ [] := fun z => by rw [z] at hX; cases hX
    have nY : Y ≠ [] := fun z => by rw [z] at hY; cases hY
    have l1 := chL_len (l := l) hX hY i (by omega)
    have l2 : ((ml (pow X (l.length - 1 - i)) (pow Y i)).map (co l i * ·)).length = l.length := by
      rw [List.length_map, ml_len, pow_len hX, pow_len hY]
      omega
    have ih : ev (chL X Y l i) x y = ev X x y ^ (l.length - 1 - i) * (ev X x y * evF i (co l) (ev X x y) (ev Y x y)) := by
      match i, h with
      | 0, _ =>
        show ev (List.replicate l.length 0) x y = _ * (_ * 0)
        rw [ev_rep, Int.mul_zero, Int.mul_zero]
      | j + 1, h =>
        rw [ev_chL hX hY x y j (by omega), show l.length - 1 - j = (l.length - 1 - (j + 1)) + 1 by omega, Int.pow_succ, Int.mul_assoc]
    show ev (zs 1 (chL X Y l i) _) x y = ev X x y ^ (l.length - 1 - i) * (ev X x y * evF i (co l) (ev X x y) (ev Y x y) + co l i * ev Y x y ^ i)
    rw [ev_zs 1 (by rw [l1, l2]), ev_map, ev_ml (pow_ne nX _) (pow_ne nY _), ev_pow nX, ev_pow nY, ih]
    generalize ev X x y ^ (l.length - 1 - i) = A
    generalize ev Y x y ^ i = B
    generalize ev X x y = u
    generalize evF i (co l) u (ev Y x y) = w
    grind
theorem chL_all {X Y l : List Int} (hX : X.length = 2) (hY : Y.length = 2) (h : l ≠ []) : chL X Y l l.length = changed X Y l := by
  have pl : 0 < l.length := List.length_pos_iff.mpr h
  refine ev_inj (by rw [chL_len hX hY _ (Nat.le_refl _), changed_len hX hY h]) fun x y => ?_
  rw [ev_changed hX hY h]
  have := ev_chL (l := l) hX hY x y (l.length - 1) (by omega)
  rw [show l.length - 1 + 1 = l.length by omega, Nat.sub_self, Int.pow_zero, Int.one_mul] at this
  exact this
theorem ev2 (a b x y : Int) : ev [a, b] x y = a * x + b * y := by
  rw [ev_cons, ev_cons, ev_nil]
  show a * x ^ 1 + y * (b * x ^ 0 + y * 0) = _
  rw [Int.pow_zero, Int.pow_succ, Int.pow_zero]
  grind
theorem pow_zero {c : Int} : ∀ {n : Nat}, c ^ n = 0 → c = 0
  | 0, h => by rw [Int.pow_zero] at h; cases h
  | n + 1, h => by
    rw [Int.pow_succ] at h
    rcases Int.mul_eq_zero.mp h with e | e
    · exact pow_zero e
    · exact e
theorem ev_zero {l : List Int} (h : ∀ z ∈ l, z = 0) (x y : Int) : ev l x y = 0 := by
  have e : l = List.replicate l.length 0 := List.eq_replicate_iff.mpr ⟨rfl, h⟩
  rw [e, ev_rep]
/-! ### values -/
def vf (x y : Int) : List Int → Int → Int → Int
  | [], f, _ => f
  | e :: r, f, p => vf x y r (f * x + e * p) (p * y)
theorem vf_ev (x y : Int) : ∀ (r : List Int) (f p : Int), vf x y r f p = f * x ^ r.length + p * ev r x y
  | [], f, p => by
    show f = f * x ^ 0 + p * 0
    rw [Int.pow_zero, Int.mul_one, Int.mul_zero, Int.add_zero]
  | e :: r, f, p => by
    show vf x y r (f * x + e * p) (p * y) = _
    rw [vf_ev x y r, ev_cons, List.length_cons, Int.pow_succ]
    generalize x ^ r.length = A
    generalize ev r x y = w
    grind
/-! ### derivatives -/
/-- derived by x, by y -/
def dX (l : List Int) : List Int := tb (l.length - 1) fun k => co l k * ((l.length : Int) - 1 - k)
def dY (l : List Int) : List Int := tb (l.length - 1) fun k => co l (k + 1) * ((k : Int) + 1)
theorem dX_len (l : List Int) : (dX l).length = l.length - 1 := tb_len _ _
theorem dY_len (l : List Int) : (dY l).length = l.length - 1 := tb_len _ _
theorem co_zs' (c : Int) {l m : List Int} (h : l.length = m.length) (k : Nat) : co (zs c l m) k = co l k + c * co m k := by
  unfold zs
  by_cases hk : k < l.length
  · rw [co_get (by rw [List.length_zipWith]; omega), co_get hk, co_get (by omega), List.getElem_zipWith]
  · rw [co_far (by rw [List.length_zipWith]; omega), co_far (by omega), co_far (by omega), Int.mul_zero]
    rfl
def it (f : List Int → List Int) : Nat → List Int → List Int
  | 0, l => l
  | n + 1, l => f (it f n l)
theorem dX_it_len (l : List Int) : ∀ n, (it dX n l).length = l.length - n
  | 0 => rfl
  | n + 1 => by
    show (dX (it dX n l)).length = _
    rw [dX_len, dX_it_len l n]
    omega
theorem dY_it_len (l : List Int) : ∀ n, (it dY n l).length = l.length - n
  | 0 => rfl
  | n + 1 => by
    show (dY (it dY n l)).length = _
    rw [dY_len, dY_it_len l n]
    omega
/-- derived i times by x, j times by y -/
def dd (i j : Nat) (l : List Int) : List Int := it dY j (it dX i l)
/-- the rule of Euler -/
theorem euler {l : List Int} (h : 2 ≤ l.length) : zs 1 (ml [1, 0] (dX l)) (ml [0, 1] (dY l)) = l.map fun x => x * ((l.length : Int) - 1) := by
  have n1 : dX l ≠ [] := fun z => by have := dX_len l; rw [z] at this; have : 0 = l.length - 1 := this; omega
  have n2 : dY l ≠ [] := fun z => by have := dY_len l; rw [z] at this; have : 0 = l.length - 1 := this; omega
  have l1 : (ml [1, 0] (dX l)).length = l.length := by rw [ml_len, dX_len]; show 2 + (l.length - 1) - 1 = _; omega
  have l2 : (ml [0, 1] (dY l)).length = l.length := by rw [ml_len, dY_len]; show 2 + (l.length - 1) - 1 = _; omega
  refine co_inj (by rw [zs_len (by rw [l1, l2]), l1, List.length_map]) fun k => ?_
  rw [co_zs' 1 (by rw [l1, l2]), co_ml n1, co_ml n2, map_mul_comm, co_map, cv_cons, cv_cons]
  unfold dX dY
  rw [co_tb, co_tb]
  cases k with
  | zero =>
    show 1 * _ + 0 + 1 * (0 * _ + 0) = _
    rw [if_pos (by omega)]
    grind
  | succ k =>
    show 1 * _ + (cv [0] _ k) + 1 * (0 * _ + (cv [1] _ k)) = _
    have c0 : ∀ (g : Nat → Int) j, cv [0] g j = 0 := fun g j => by
      cases j with
      | zero => rw [cv_zero, Int.zero_mul]
      | succ j => rw [cv_succ, Int.zero_mul]; rfl
    have c1 : ∀ (g : Nat → Int) j, cv [1] g j = g j := fun g j => by
      cases j with
      | zero => rw [cv_zero, Int.one_mul]
      | succ j => rw [cv_succ, Int.one_mul]; show g (j + 1) + 0 = _; omega
    rw [c0, c1, co_tb]
    by_cases h1 : k + 1 < l.length - 1
    · rw [if_pos h1, if_pos (by omega)]
      have : ((k + 1 : Nat) : Int) = (k : Int) + 1 := by omega
      rw [this]
      grind
    · rw [if_neg h1]
      by_cases h2 : k < l.length - 1
      · rw [if_pos h2, show (l.length : Int) - 1 = (k : Int) + 1 by omega]
        grind
      · rw [if_neg h2, show co l (k + 1) = 0 from co_far (by omega)]
        grind
end K77

set_option Elab.async false
set_option linter.all false
set_option maxRecDepth 100000
set_option maxHeartbeats 4000000
namespace K77
open PySem PySem.Spec PyProof.Rows L2 StX RZ MyR SlX OwnR OwnF EnumT
/-- a comprehension over enumerate of a tuple -/
theorem lc_enumT {K : PySem.W.Frag} {a : Addr} {xs : List V} {g : TG} {tt : TT} {te : TE} {vs : List Nat} {σ : L2.St} {H1 : Hp} {D : Addr} {Qd : Hp → Prop} (Pv : Nat → Hp → Prop) (h0 : Pv 0 (upd H1 D (.lst []))) (hq : ∀ i H, i ≤ xs.length → Pv i H → SqT K H a xs)
    (hs : ∀ (i : Nat) (x : V) (T : Addr) (H : Hp), xs[i]? = some x → Pv i H → H T = none → g (.ref T) (wipe σ vs) (upd H T (.tup [.int (i : Nat), x])) fun σ2 H2 => wipe σ2 vs = wipe σ vs ∧ tt σ2 H2 fun b H3 =>
      if b = true then te σ2 H3 fun y H4 => ∃ acc, H4 D = some (.lst acc) ∧ acc.length < sizeLine ∧ Pv (i + 1) (upd H4 D (.lst (acc ++ [y]))) else Pv (i + 1) H3) (hd : ∀ H, Pv xs.length H → Qd H) :
    ∃ W : Nat → Nat → Hp → Prop, (∃ m, W 0 m (upd H1 D (.lst []))) ∧ ∀ i m H, W i m H →
      ((IteT K a).stop i H ∧ Qd H) ∨ ((IteT K a).go i H ∧ ∃ Nx : Hp → Prop, (∀ H', Nx H' → ∃ m', m' < m ∧ W (i + 1) m' H') ∧ ∀ x H', (IteT K a).yld i H x H' → g x (wipe σ vs) H' fun σ2 H2 => wipe σ2 vs = wipe σ vs ∧ tt σ2 H2 fun b H3 =>
        if b = true then te σ2 H3 fun y H4 => ∃ acc, H4 D = some (.lst acc) ∧ acc.length < sizeLine ∧ Nx (upd H4 D (.lst (acc ++ [y]))) else Nx H3) := by
  refine ⟨fun i m H => m = xs.length - i ∧ i ≤ xs.length ∧ Pv i H, ⟨xs.length, by simp, Nat.zero_le _, h0⟩, ?_⟩
  rintro i m H ⟨rfl, hi, p⟩
  have qx := hq i H hi p
  by_cases hlt : i < xs.length
  · have hx : xs[i]? = some xs[i] := List.getElem?_eq_getElem hlt
    refine .inr ⟨⟨xs, _, qx, hx⟩, Pv (i + 1), fun H' p' => ⟨xs.length - (i + 1), by omega, rfl, hlt, p'⟩, fun v H' y => ?_⟩
    obtain ⟨T, x', rfl, hT, rfl, f1⟩ := y
    exact hs i x' T H (f1 xs qx) p hT
  · have e : i = xs.length := by omega
    subst e
    exact .inl ⟨⟨xs, qx, rfl⟩, hd H p⟩
section
variable {P : Program} {w : World} {K : PySem.W.Frag} {mg : Str → Option Value} {base : Heap}
theorem ok_product_in (T : Facts K mg) : FnOk P w K mg base CX0 2 T.f_product_in T.fd_product_in ["one", "other"] (spJoin K) := by
  have G_joined_entries : FnOk P w K mg base CX0 1 T.f_joined_entries T.fd_joined_entries ["one", "other"] (spJoin K) := ok_joined_entries T
  refine T.F_product_in.ok sc_product_in (fun vs H Q E h => ?_) (fun cdv A outer s H vs Q E hr h => ?_)
  · obtain ⟨a, b, xs, ys, rfl, _⟩ := h
    rfl
  · obtain ⟨a, b, xs, ys, rfl, h⟩ := h
    refine ⟨_, (PSs.nox (pss_one (ps_ret (pe_call G_joined_entries hr (by rfl) T.g_joined_entries T.F_joined_entries.kp T.b_joined_entries .nil pass0 (pa_cons (pv 0) (pa_cons (pv 1) pa_nil)))))), ?_⟩
    exact ⟨_, rfl, _, rfl, a, b, xs, ys, rfl, h⟩
/-! ### values -/
/-- what is asked of a value's letters -/
structure Vb (l : List Int) (x y : Int) (M : Nat) : Prop where
  x : x.natAbs ≤ M
  y : y.natAbs ≤ M
  one : 1 ≤ M
  big : nm l * M ^ l.length < 2 ^ 4000
  pw : M ^ (l.length + 1) < 2 ^ 4000
/-- what stands after i turns -/
def vfs (x y : Int) (l : List Int) : Nat → Int × Int
  | 0 => (0, 1)
  | i + 1 => ((vfs x y l i).1 * x + co l i * (vfs x y l i).2, (vfs x y l i).2 * y)
theorem vfs_vf (x y : Int) (l : List Int) : ∀ i, i ≤ l.length → vf x y (l.drop i) (vfs x y l i).1 (vfs x y l i).2 = vf x y l 0 1
  | 0, _ => rfl
  | i + 1, h => by
    rw [← vfs_vf x y l i (by omega), show l.drop i = co l i :: l.drop (i + 1) by rw [co_get (by omega)]; exact List.drop_eq_getElem_cons (by omega)]
    rfl
theorem vfs_ev (x y : Int) (l : List Int) : (vfs x y l l.length).1 = ev l x y := by
  have := vfs_vf x y l l.length (Nat.le_refl _)
  rw [List.drop_length, vf_ev x y l 0 1, Int.zero_mul, Int.zero_add, Int.one_mul] at this
  exact this
theorem nm_take (l : List Int) (i : Nat) (h : i < l.length) : nm (l.take (i + 1)) = nm (l.take i) + (co l i).natAbs := by
  rw [take_snoc h, nm_snoc]
theorem vfs_bd {l : List Int} {x y : Int} {M : Nat} (h : Vb l x y M) : ∀ i, i ≤ l.length → (vfs x y l i).1.natAbs ≤ nm (l.take i) * M ^ i ∧ (vfs x y l i).2.natAbs ≤ M ^ i
  | 0, _ => ⟨Nat.zero_le _, Nat.le_refl _⟩
  | i + 1, hi => by
    obtain ⟨h1, h2⟩ := vfs_bd h i (by omega)
    show ((vfs x y l i).1 * x + co l i * (vfs x y l i).2).natAbs ≤ _ ∧ ((vfs x y l i).2 * y).natAbs ≤ _
    constructor
    · rw [nm_take l i (by omega), Nat.add_mul]
      refine Nat.le_trans (Int.natAbs_add_le _ _) ?_
      rw [Int.natAbs_mul, Int.natAbs_mul]
      have e1 := Nat.mul_le_mul h1 h.x
      have e2 := Nat.mul_le_mul (Nat.le_refl (co l i).natAbs) (Nat.le_trans h2 (Nat.pow_le_pow_right h.one (Nat.le_succ i)))
      rw [Nat.mul_assoc, ← Nat.pow_succ] at e1
      exact Nat.add_le_add e1 e2
    · rw [Int.natAbs_mul, Nat.pow_succ]
      exact Nat.mul_le_mul h2 h.y
/-! ### changes -/
/-- a table of two rows of two -/
def Tb (H : Hp) (t : Addr) (X Y : List Int) : Prop := ∃ r0 r1, H t = some (.tup [.ref r0, .ref r1]) ∧ H r0 = some (tp X) ∧ H r1 = some (tp Y)
theorem Tb.same {H H' : Hp} {t : Addr} {X Y : List Int} (h : Tb H t X Y) (s : Same H H') : Tb H' t X Y := by
  obtain ⟨r0, r1, h1, h2, h3⟩ := h
  exact ⟨r0, r1, s _ _ h1, s _ _ h2, s _ _ h3⟩
theorem Tb.sx {H H' : Hp} {t d : Addr} {X Y : List Int} (h : Tb H t X Y) (hd : Dc H d) (s : Sx d H H') : Tb H' t X Y := by
  obtain ⟨r0, r1, h1, h2, h3⟩ := h
  exact ⟨r0, r1, s _ _ (dc_ne hd h1) h1, s _ _ (dc_ne hd h2) h2, s _ _ (dc_ne hd h3) h3⟩
/-- short pairs -/
structure Pr2 (X : List Int) : Prop where
  len : X.length = 2
  sho : ∀ x ∈ X, Sho x
theorem sIx_neg {n : Nat} (h : 1 ≤ n) : HT.sIx n n (some (-1)) = n - 1 := by
  unfold HT.sIx
  simp only []
  split <;> omega
theorem cut_tail (xs : List V) (h : 1 ≤ xs.length) : cutV xs (some 1) none = xs.drop 1 := by
  unfold cutV
  have e1 : HT.sIx xs.length 0 (some 1) = 1 := by
    unfold HT.sIx
    simp only []
    split <;> omega
  have e2 : HT.sIx xs.length xs.length none = xs.length := rfl
  rw [e1, e2]
  exact List.take_of_length_le (by rw [List.length_drop]; omega)
theorem cut_init (xs : List V) (h : 1 ≤ xs.length) : cutV xs none (some (-1)) = xs.take (xs.length - 1) := by
  unfold cutV
  have e1 : HT.sIx xs.length 0 none = 0 := rfl
  rw [e1, sIx_neg h, List.drop_zero, Nat.sub_zero]
end
end K77

set_option Elab.async false
set_option linter.all false
set_option maxRecDepth 100000
set_option maxHeartbeats 4000000
namespace K77
open PySem PySem.Spec PyProof.Rows L2 StX RZ MyR SlX OwnR OwnF EnumT
section
variable {P : Program} {w : World} {K : PySem.W.Frag} {mg : Str → Option Value} {base : Heap}
/-- all that is derived on the way is let -/
structure DdOk (i j : Nat) (l : List Int) : Prop where
  len : i + j + 1 ≤ l.length
  le : l.length ≤ 100
  sx : ∀ u, u ≤ i → ∀ z ∈ it dX u l, sm z
  sy : ∀ u, u ≤ j → ∀ z ∈ it dY u (it dX i l), sm z
def spDerived : Sp := fun vs H Q _ => ∃ (a : Addr) (l : List Int) (i j : Nat), vs = [.ref a, .int i, .int j] ∧ H a = some (tp l) ∧ DdOk i j l ∧ ∀ p H', Same H H' → H' p = some (tp (dd i j l)) → Q (.ref p) H'
theorem ecut_init {l : List Int} (h : 1 ≤ l.length) : HO.tup (cutV (l.map V.int) none (some (-1))) = tp (l.take (l.length - 1)) := by
  rw [cut_init _ (by rw [List.length_map]; exact h), ← List.map_take, List.length_map]
theorem ecut_tail {l : List Int} (h : 1 ≤ l.length) : HO.tup (cutV (l.map V.int) (some 1) none) = tp (l.drop 1) := by
  rw [cut_tail _ (by rw [List.length_map]; exact h), ← List.map_drop]
theorem co_take {l : List Int} {n k : Nat} (h : k < n) : co (l.take n) k = co l k := by
  unfold co
  rw [List.getD_eq_getElem?_getD, List.getD_eq_getElem?_getD, List.getElem?_take_of_lt h]
theorem co_drop1 (l : List Int) (k : Nat) : co (l.drop 1) k = co l (k + 1) := by
  unfold co
  rw [List.getD_eq_getElem?_getD, List.getD_eq_getElem?_getD, List.getElem?_drop, Nat.add_comm]
theorem ok_derived_in (T : Facts K mg) : FnOk P w K mg base CX0 1 T.f_derived_in T.fd_derived_in ["entries", "one", "other"] spDerived := by
  refine T.F_derived_in.ok sc_derived_in (fun vs H Q E h => ?_) (fun cdv A outer s H vs Q E hr h => ?_)
  · obtain ⟨a, l, i, j, rfl, _⟩ := h
    rfl
  · obtain ⟨a, l, i, j, rfl, ha, ok, q⟩ := h
    have hlen := ok.len
    have hle := ok.le
    refine ⟨_, (PSs.nox (pss_cons (ps_set (i := 3) sc_derived_in.nd rfl (.inr rfl) (pv 0))
    (pss_cons (ps_for PassesOwn.never (by rfl) (pi_range1 (by rfl) T.z_range (pa_cons (pv 1) pa_nil)) (pg_name (i := 4) sc_derived_in.nd rfl (.inl rfl))
      (pss_one (ps_set (i := 3) sc_derived_in.nd rfl (.inr rfl) (pe_tupleOf (by rfl) T.z_tuple (pe_lc (own := [("at", 5), ("entry", 6)]) (g := (gTup K 2 (gCons (gName 5) (gCons (gName 6) gNil)))) (tt := tYes) (by rfl) sc_derived_in.nd (pi_enumT (by rfl) T.z_enumerate (pa_cons (pe_slice sl_tupA (pv 3) po_none (po_some (pe_un un_neg pe_int))) pa_nil)) (blkOk_by (N := N_derived_in) (sc := defScope s_derived_in) (by decide +kernel)) (fun _ _ _ _ _ => (pg_tup (by rfl) (pgs_cons (pg_name (i := 5) sc_derived_in.nd rfl (.inl rfl)) (pgs_cons (pg_name (i := 6) sc_derived_in.nd rfl (.inl rfl)) pgs_nil)))) (fun _ _ _ _ _ => pts_nil) (fun _ _ _ _ _ => (pe_op op_mulW (pv 6) (pe_op op_sub (pe_op op_sub (pe_callB (call_len_seq : CallR _ _ (Evl.rLenS K)) (by rfl) T.z_len (by decide +kernel) (pa_cons (pv 3) pa_nil)) pe_int) (pv 5)))))))))
    (pss_cons (ps_for PassesOwn.never (by rfl) (pi_range1 (by rfl) T.z_range (pa_cons (pv 2) pa_nil)) (pg_name (i := 4) sc_derived_in.nd rfl (.inl rfl))
      (pss_one (ps_set (i := 3) sc_derived_in.nd rfl (.inr rfl) (pe_tupleOf (by rfl) T.z_tuple (pe_lc (own := [("at", 5), ("entry", 6)]) (g := (gTup K 2 (gCons (gName 5) (gCons (gName 6) gNil)))) (tt := tYes) (by rfl) sc_derived_in.nd (pi_enumT (by rfl) T.z_enumerate (pa_cons (pe_slice sl_tupA (pv 3) (po_some pe_int) po_none) pa_nil)) (blkOk_by (N := N_derived_in) (sc := defScope s_derived_in) (by decide +kernel)) (fun _ _ _ _ _ => (pg_tup (by rfl) (pgs_cons (pg_name (i := 5) sc_derived_in.nd rfl (.inl rfl)) (pgs_cons (pg_name (i := 6) sc_derived_in.nd rfl (.inl rfl)) pgs_nil)))) (fun _ _ _ _ _ => pts_nil) (fun _ _ _ _ _ => (pe_op op_mulW (pv 6) (pe_op op_add (pv 5) pe_int))))))))
    (pss_one (ps_ret (pv 3))))))), ?_⟩
    refine ⟨_, rfl, _, rfl, i, rfl, by omega, by omega, for_range (n := (i : Int).toNat) (fun u σ H' => ∃ fa y4, σ = [some (.ref a), some (.int i), some (.int j), some (.ref fa), y4, none, none] ∧ Same H H' ∧ H' fa = some (tp (it dX u l))) ⟨a, none, rfl, Same.rf H, ha⟩ (fun u σ H1 hu hP => ?_) (fun σ H1 hP => ?_)⟩
    · obtain ⟨fa, y4, rfl, s1, hf⟩ := hP
      have lu := dX_it_len l u
      have hu2 : u < i := by omega
      generalize hm : it dX u l = m at *
      have sm1 : ∀ z ∈ m, sm z := by rw [← hm]; exact ok.sx u (by omega)
      refine ⟨_, rfl, _, rfl, _, rfl, fa, _, rfl, SqT.of hf, fun z => absurd z.2 (by rw [List.length_map, sIx_neg (by omega)]; omega), fun _ p np => ?_⟩
      rw [ecut_init (by omega)]
      refine gen_upd H1 p _ np fun H2 s2 f2 => ⟨p, _, rfl, SqT.of f2, fun D hD => lc_enumT (xs := (m.take (m.length - 1)).map V.int) (fun k H' => Same H2 H' ∧ H' D = some (.lst (tab k fun k => co m k * ((m.length : Int) - 1 - k)))) ⟨same_upd0 hD, upd_same⟩ (fun k H' _ hP => SqT.of (hP.1 _ _ f2)) (fun k x B H' hx hP hB => ?_) (fun H3 hP => ?_)⟩
      · obtain ⟨sH, hL⟩ := hP
        obtain ⟨hk, rfl⟩ := int_get hx
        rw [List.length_take] at hk
        rw [co_take (by omega)]
        refine gen_upd H' B _ hB fun H4 s4 f4 => ⟨B, _, rfl, SqT.of f4, rfl, _, _, rfl, _, _, rfl, rfl, rfl, ?_⟩
        have hfB := (s2.trans (sH.trans s4)) _ _ hf
        refine ⟨_, rfl, _, rfl, fa, _, rfl, .inr (SqT.of hfB), ?_⟩
        rw [List.length_map]
        refine ⟨_, _, rfl, rfl, _, rfl, _, _, rfl, rfl, _, _, rfl, rfl, sm_mul (sm_co sm1 (by omega)) (Nat.lt_of_le_of_lt (show ((m.length : Int) - 1 - (k : Int)).natAbs ≤ 100 by omega) (Nat.lt_of_lt_of_le (show 100 < 2 ^ 7 by decide) (Nat.pow_le_pow_right (by decide) (by decide)))), _, s4 _ _ hL, ?_, fun b o e => ?_, ?_⟩
        · rw [tab_len]
          exact small1000 (by omega)
        · rw [upd_ne (ne_of_none e hD)]
          exact s4 _ _ (sH _ _ e)
        · rw [upd_same, ← tab_snoc]
      · obtain ⟨sH, hL⟩ := hP
        rw [List.length_map, List.length_take, Nat.min_eq_left (by omega), tab_tb] at hL
        refine .inl ⟨D, _, rfl, SqL.of hL, fun p5 n5 => ⟨p5, _, rfl, (s1.trans s2).trans (sH.trans (same_upd0 n5)), ?_⟩⟩
        rw [upd_same]
        show _ = some (tp (dX (it dX u l)))
        rw [hm]
        rfl
    · obtain ⟨fa, y4, rfl, s1, hf⟩ := hP
      rw [Int.toNat_natCast] at hf
      generalize hm0 : it dX i l = l2 at *
      have lu0 : l2.length = l.length - i := by rw [← hm0, dX_it_len]
      refine ⟨_, rfl, j, rfl, by omega, by omega, for_range (n := (j : Int).toNat) (fun u σ H' => ∃ fa y4, σ = [some (.ref a), some (.int i), some (.int j), some (.ref fa), y4, none, none] ∧ Same H H' ∧ H' fa = some (tp (it dY u l2))) ⟨fa, y4, rfl, s1, hf⟩ (fun u σ H1 hu hP => ?_) (fun σ H1 hP => ?_)⟩
      · obtain ⟨fa, y4, rfl, s1, hf⟩ := hP
        have lu := dY_it_len l2 u
        have hu2 : u < j := by omega
        generalize hm : it dY u l2 = m at *
        have sm1 : ∀ z ∈ m, sm z := by rw [← hm, ← hm0]; exact ok.sy u (by omega)
        refine ⟨_, rfl, 1, rfl, fa, _, rfl, SqT.of hf, fun z => absurd z.1 (by
          rw [List.length_map]
          unfold HT.sIx
          simp only []
          split <;> omega), fun _ p np => ?_⟩
        rw [ecut_tail (by omega)]
        refine gen_upd H1 p _ np fun H2 s2 f2 => ⟨p, _, rfl, SqT.of f2, fun D hD => lc_enumT (xs := (m.drop 1).map V.int) (fun k H' => Same H2 H' ∧ H' D = some (.lst (tab k fun k => co m (k + 1) * ((k : Int) + 1)))) ⟨same_upd0 hD, upd_same⟩ (fun k H' _ hP => SqT.of (hP.1 _ _ f2)) (fun k x B H' hx hP hB => ?_) (fun H3 hP => ?_)⟩
        · obtain ⟨sH, hL⟩ := hP
          obtain ⟨hk, rfl⟩ := int_get hx
          rw [List.length_drop] at hk
          rw [co_drop1]
          refine gen_upd H' B _ hB fun H4 s4 f4 => ⟨B, _, rfl, SqT.of f4, rfl, _, _, rfl, _, _, rfl, rfl, rfl, ?_⟩
          refine ⟨_, rfl, _, rfl, _, _, rfl, rfl, _, _, rfl, rfl, sm_mul (sm_co sm1 (by omega)) (Nat.lt_of_le_of_lt (show ((k : Int) + 1).natAbs ≤ 100 by omega) (Nat.lt_of_lt_of_le (show 100 < 2 ^ 7 by decide) (Nat.pow_le_pow_right (by decide) (by decide)))), _, s4 _ _ hL, ?_, fun b o e => ?_, ?_⟩
          · rw [tab_len]
            exact small1000 (by omega)
          · rw [upd_ne (ne_of_none e hD)]
            exact s4 _ _ (sH _ _ e)
          · rw [upd_same, ← tab_snoc]
        · obtain ⟨sH, hL⟩ := hP
          rw [List.length_map, List.length_drop, tab_tb] at hL
          refine .inl ⟨D, _, rfl, SqL.of hL, fun p5 n5 => ⟨p5, _, rfl, (s1.trans s2).trans (sH.trans (same_upd0 n5)), ?_⟩⟩
          rw [upd_same]
          show _ = some (tp (dY (it dY u l2)))
          rw [hm]
          rfl
      · obtain ⟨fa, y4, rfl, s1, hf⟩ := hP
        rw [Int.toNat_natCast] at hf
        refine ⟨_, rfl, q fa H1 s1 ?_⟩
        unfold dd
        rw [hm0]
        exact hf
theorem Pr2.rw {X : List Int} (h : Pr2 X) : Rw X := ⟨fun z => (by have := h.len; rw [z] at this; cases this), (by rw [h.len]; decide), fun x hx => Nat.lt_trans (h.sho x hx) (by decide)⟩
end
end K77

set_option Elab.async false
set_option linter.all false
set_option maxRecDepth 100000
set_option maxHeartbeats 4000000
namespace K77
open PySem PySem.Spec PyProof.Rows L2 StX RZ MyR SlX OwnR OwnF EnumT
/-! ### how large changed and derived forms are -/
theorem bd_zs' {l m : List Int} {n b c : Nat} (e : Int) (h : Bd l n b) (g : Bd m n c) : Bd (zs e l m) n (b + e.natAbs * c) := by
  have hz : zs e l m = zs 1 l (m.map (e * ·)) := by
    refine co_inj (by rw [zs_len (by rw [h.len, g.len]), zs_len (by rw [List.length_map, h.len, g.len])]) fun k => ?_
    rw [co_zs' e (by rw [h.len, g.len]), co_zs' 1 (by rw [List.length_map, h.len, g.len]), co_map, Int.one_mul]
  rw [hz]
  exact bd_zs h (bd_scale g (Nat.le_refl _))
theorem nm_cons (x : Int) (xs : List Int) : nm (x :: xs) = x.natAbs + nm xs := rfl
theorem chg_bd {X Y : List Int} {b : Nat} (hX : Bd X 1 b) (hY : Bd Y 1 b) : ∀ (r f p : List Int) (k S : Nat), Bd f k (S * b ^ k) → Bd p k (b ^ k) → Bd (chg X Y r f p) (k + r.length) ((S + nm r) * b ^ (k + r.length))
  | [], f, p, k, S, hf, hp => hf
  | e :: r, f, p, k, S, hf, hp => by
    have h1 := bd_ml hf hX
    have h2 := bd_ml hp hY
    have h3 := bd_zs' e h1 h2
    have h4 : Bd (zs e (ml f X) (ml p Y)) (k + 1) ((S + e.natAbs) * b ^ (k + 1)) := by
      refine h3.mono (Nat.le_of_eq ?_)
      rw [Nat.add_mul, Nat.pow_succ, Nat.mul_assoc]
    have h5 := chg_bd hX hY r _ _ (k + 1) (S + e.natAbs) h4 (by rw [Nat.pow_succ]; exact h2)
    rw [List.length_cons, nm_cons, show k + (r.length + 1) = k + 1 + r.length by omega, show S + (e.natAbs + nm r) = S + e.natAbs + nm r by omega]
    exact h5
theorem changed_bd {X Y l : List Int} {n b B : Nat} (hX : Bd X 1 b) (hY : Bd Y 1 b) (hl : Bd l n B) : Bd (changed X Y l) n (B * b ^ n) := by
  match l, hl with
  | a :: r, hl =>
    have hr : r.length = n := by have := hl.len; rw [List.length_cons] at this; omega
    have h0 : Bd [a] 0 (a.natAbs * b ^ 0) := ⟨rfl, by show a.natAbs + 0 ≤ _; rw [Nat.pow_zero]; omega⟩
    have := chg_bd hX hY r [a] [1] 0 a.natAbs h0 bd_one
    rw [Nat.zero_add, hr] at this
    exact this.mono (Nat.mul_le_mul (by have := hl.nm; rw [nm_cons] at this; exact this) (Nat.le_refl _))
theorem sN_le_mul {f g : Nat → Int} {c : Nat} : ∀ n, (∀ k, k < n → (f k).natAbs ≤ c * (g k).natAbs) → sN n f ≤ c * sN n g
  | 0, _ => Nat.zero_le _
  | n + 1, h => by
    show sN n f + (f n).natAbs ≤ c * (sN n g + (g n).natAbs)
    have h1 := sN_le_mul n fun k hk => h k (by omega)
    have h2 := h n (by omega)
    rw [Nat.mul_add]
    omega
theorem nm_drop1 (l : List Int) : nm (l.drop 1) ≤ nm l := by
  cases l with
  | nil => exact Nat.le_refl _
  | cons x xs => exact Nat.le_add_left _ _
theorem nm_dX (l : List Int) : nm (dX l) ≤ l.length * nm l := by
  unfold dX
  rw [nm_tb]
  refine Nat.le_trans (sN_le_mul (g := co l) (c := l.length) _ fun k hk => ?_) (Nat.mul_le_mul (Nat.le_refl _) (sN_co l _))
  rw [Int.natAbs_mul, Nat.mul_comm]
  exact Nat.mul_le_mul (by omega) (Nat.le_refl _)
theorem nm_dY (l : List Int) : nm (dY l) ≤ l.length * nm l := by
  unfold dY
  rw [nm_tb]
  refine Nat.le_trans (sN_le_mul (g := co (l.drop 1)) (c := l.length) _ fun k hk => ?_) (Nat.mul_le_mul (Nat.le_refl _) (Nat.le_trans (sN_co (l.drop 1) _) (nm_drop1 l)))
  rw [Int.natAbs_mul, Nat.mul_comm, co_drop1]
  exact Nat.mul_le_mul (by omega) (Nat.le_refl _)
theorem nm_dX_it (l : List Int) : ∀ u, nm (it dX u l) ≤ l.length ^ u * nm l
  | 0 => by rw [Nat.pow_zero, Nat.one_mul]; exact Nat.le_refl _
  | u + 1 => by
    have h1 := nm_dX (it dX u l)
    have h2 := nm_dX_it l u
    rw [dX_it_len] at h1
    show nm (dX (it dX u l)) ≤ _
    rw [Nat.pow_succ, Nat.mul_comm (l.length ^ u), Nat.mul_assoc]
    exact Nat.le_trans h1 (Nat.mul_le_mul (by omega) h2)
theorem nm_dY_it (l : List Int) : ∀ u, nm (it dY u l) ≤ l.length ^ u * nm l
  | 0 => by rw [Nat.pow_zero, Nat.one_mul]; exact Nat.le_refl _
  | u + 1 => by
    have h1 := nm_dY (it dY u l)
    have h2 := nm_dY_it l u
    rw [dY_it_len] at h1
    show nm (dY (it dY u l)) ≤ _
    rw [Nat.pow_succ, Nat.mul_comm (l.length ^ u), Nat.mul_assoc]
    exact Nat.le_trans h1 (Nat.mul_le_mul (by omega) h2)
theorem nm_dd (i j : Nat) (l : List Int) (h : 1 ≤ l.length) : nm (dd i j l) ≤ l.length ^ (i + j) * nm l := by
  unfold dd
  refine Nat.le_trans (nm_dY_it (it dX i l) j) ?_
  rw [dX_it_len]
  refine Nat.le_trans (Nat.mul_le_mul (Nat.pow_le_pow_left (show l.length - i ≤ l.length by omega) j) (nm_dX_it l i)) (Nat.le_of_eq ?_)
  rw [Nat.pow_add, ← Nat.mul_assoc, Nat.mul_comm (l.length ^ j)]
theorem ddOk_of {i j : Nat} {l : List Int} (h : i + j + 1 ≤ l.length) (hl : l.length ≤ 100) (hB : l.length ^ (i + j) * nm l < 2 ^ 4000) : DdOk i j l := by
  have pl : 0 < l.length := by omega
  refine ⟨h, hl, fun u hu z hz => ?_, fun u hu z hz => ?_⟩
  · refine Nat.lt_of_le_of_lt (Nat.le_trans (nm_mem hz) (Nat.le_trans (nm_dX_it l u) ?_)) hB
    exact Nat.mul_le_mul (Nat.pow_le_pow_right pl (by omega)) (Nat.le_refl _)
  · refine Nat.lt_of_le_of_lt (Nat.le_trans (nm_mem hz) (Nat.le_trans (nm_dd i u l pl) ?_)) hB
    exact Nat.mul_le_mul (Nat.pow_le_pow_right pl (by omega)) (Nat.le_refl _)
end K77

set_option Elab.async false
set_option linter.all false
set_option maxRecDepth 100000
set_option maxHeartbeats 4000000
namespace K77
open PySem PySem.Spec PyProof.Rows L2 StX RZ MyR SlX OwnR OwnF EnumT
section
variable {P : Program} {w : World} {K : PySem.W.Frag} {mg : Str → Option Value} {base : Heap}
def spByX : Sp := fun vs H Q _ => ∃ (a : Addr) (m : List Int), vs = [.ref a] ∧ H a = some (tp m) ∧ 1 ≤ m.length ∧ m.length ≤ 100 ∧ (∀ z ∈ m, sm z) ∧ ∀ p H', Same H H' → H' p = some (tp (dX m)) → Q (.ref p) H'
theorem ok_law_by_x (T : Facts K mg) : FnOk P w K mg base CX0 1 T.f_law_by_x T.fd_law_by_x ["_law_form_here"] spByX := by
  refine T.F_law_by_x.ok sc_law_by_x (fun vs H Q E h => ?_) (fun cdv A outer s H vs Q E hr h => ?_)
  · obtain ⟨a, m, rfl, _⟩ := h
    rfl
  · obtain ⟨a, m, rfl, ha, h1, h2, sm1, q⟩ := h
    refine ⟨_, (PSs.nox (pss_one (ps_ret (pe_tupleOf (by rfl) T.z_tuple (pe_lc (own := [("_law_at", 1), ("_law_entry", 2)]) (g := (gTup K 2 (gCons (gName 1) (gCons (gName 2) gNil)))) (tt := tYes) (by rfl) sc_law_by_x.nd (pi_enumT (by rfl) T.z_enumerate (pa_cons (pe_slice sl_tupA (pv 0) po_none (po_some (pe_un un_neg pe_int))) pa_nil)) (blkOk_by (N := N_law_by_x) (sc := defScope s_law_by_x) (by decide +kernel)) (fun _ _ _ _ _ => (pg_tup (by rfl) (pgs_cons (pg_name (i := 1) sc_law_by_x.nd rfl (.inl rfl)) (pgs_cons (pg_name (i := 2) sc_law_by_x.nd rfl (.inl rfl)) pgs_nil)))) (fun _ _ _ _ _ => pts_nil) (fun _ _ _ _ _ => (pe_op op_mulW (pv 2) (pe_op op_sub (pe_op op_sub (pe_callB (call_len_seq : CallR _ _ (Evl.rLenS K)) (by rfl) T.z_len (by decide +kernel) (pa_cons (pv 0) pa_nil)) pe_int) (pv 1))))))))), ?_⟩
    refine ⟨_, rfl, _, rfl, _, rfl, a, _, rfl, SqT.of ha, fun z => absurd z.2 (by rw [List.length_map, sIx_neg (by omega)]; omega), fun _ p np => ?_⟩
    rw [ecut_init (by omega)]
    refine gen_upd H p _ np fun H2 s2 f2 => ⟨p, _, rfl, SqT.of f2, fun D hD => lc_enumT (xs := (m.take (m.length - 1)).map V.int) (fun k H' => Same H2 H' ∧ H' D = some (.lst (tab k fun k => co m k * ((m.length : Int) - 1 - k)))) ⟨same_upd0 hD, upd_same⟩ (fun k H' _ hP => SqT.of (hP.1 _ _ f2)) (fun k x B H' hx hP hB => ?_) (fun H3 hP => ?_)⟩
    · obtain ⟨sH, hL⟩ := hP
      obtain ⟨hk, rfl⟩ := int_get hx
      rw [List.length_take] at hk
      rw [co_take (by omega)]
      refine gen_upd H' B _ hB fun H4 s4 f4 => ⟨B, _, rfl, SqT.of f4, rfl, _, _, rfl, _, _, rfl, rfl, rfl, ?_⟩
      have hfB := (s2.trans (sH.trans s4)) _ _ ha
      refine ⟨_, rfl, _, rfl, a, _, rfl, .inr (SqT.of hfB), ?_⟩
      rw [List.length_map]
      refine ⟨_, _, rfl, rfl, _, rfl, _, _, rfl, rfl, _, _, rfl, rfl, sm_mul (sm_co sm1 (by omega)) (Nat.lt_of_le_of_lt (show ((m.length : Int) - 1 - (k : Int)).natAbs ≤ 100 by omega) (Nat.lt_of_lt_of_le (show 100 < 2 ^ 7 by decide) (Nat.pow_le_pow_right (by decide) (by decide)))), _, s4 _ _ hL, ?_, fun b o e => ?_, ?_⟩
      · rw [tab_len]
        exact small1000 (by omega)
      · rw [upd_ne (ne_of_none e hD)]
        exact s4 _ _ (sH _ _ e)
      · rw [upd_same, ← tab_snoc]
    · obtain ⟨sH, hL⟩ := hP
      rw [List.length_map, List.length_take, Nat.min_eq_left (by omega), tab_tb] at hL
      exact .inl ⟨D, _, rfl, SqL.of hL, fun p5 n5 => q p5 _ (s2.trans (sH.trans (same_upd0 n5))) upd_same⟩
def spByY : Sp := fun vs H Q _ => ∃ (a : Addr) (m : List Int), vs = [.ref a] ∧ H a = some (tp m) ∧ 1 ≤ m.length ∧ m.length ≤ 100 ∧ (∀ z ∈ m, sm z) ∧ ∀ p H', Same H H' → H' p = some (tp (dY m)) → Q (.ref p) H'
theorem ok_law_by_y (T : Facts K mg) : FnOk P w K mg base CX0 1 T.f_law_by_y T.fd_law_by_y ["_law_form_here"] spByY := by
  refine T.F_law_by_y.ok sc_law_by_y (fun vs H Q E h => ?_) (fun cdv A outer s H vs Q E hr h => ?_)
  · obtain ⟨a, m, rfl, _⟩ := h
    rfl
  · obtain ⟨a, m, rfl, ha, h1, h2, sm1, q⟩ := h
    refine ⟨_, (PSs.nox (pss_one (ps_ret (pe_tupleOf (by rfl) T.z_tuple (pe_lc (own := [("_law_at", 1), ("_law_entry", 2)]) (g := (gTup K 2 (gCons (gName 1) (gCons (gName 2) gNil)))) (tt := tYes) (by rfl) sc_law_by_y.nd (pi_enumT (by rfl) T.z_enumerate (pa_cons (pe_slice sl_tupA (pv 0) (po_some pe_int) po_none) pa_nil)) (blkOk_by (N := N_law_by_y) (sc := defScope s_law_by_y) (by decide +kernel)) (fun _ _ _ _ _ => (pg_tup (by rfl) (pgs_cons (pg_name (i := 1) sc_law_by_y.nd rfl (.inl rfl)) (pgs_cons (pg_name (i := 2) sc_law_by_y.nd rfl (.inl rfl)) pgs_nil)))) (fun _ _ _ _ _ => pts_nil) (fun _ _ _ _ _ => (pe_op op_mulW (pv 2) (pe_op op_add (pv 1) pe_int)))))))), ?_⟩
    refine ⟨_, rfl, 1, rfl, a, _, rfl, SqT.of ha, fun z => absurd z.1 (by
      rw [List.length_map]
      unfold HT.sIx
      simp only []
      split <;> omega), fun _ p np => ?_⟩
    rw [ecut_tail (by omega)]
    refine gen_upd H p _ np fun H2 s2 f2 => ⟨p, _, rfl, SqT.of f2, fun D hD => lc_enumT (xs := (m.drop 1).map V.int) (fun k H' => Same H2 H' ∧ H' D = some (.lst (tab k fun k => co m (k + 1) * ((k : Int) + 1)))) ⟨same_upd0 hD, upd_same⟩ (fun k H' _ hP => SqT.of (hP.1 _ _ f2)) (fun k x B H' hx hP hB => ?_) (fun H3 hP => ?_)⟩
    · obtain ⟨sH, hL⟩ := hP
      obtain ⟨hk, rfl⟩ := int_get hx
      rw [List.length_drop] at hk
      rw [co_drop1]
      refine gen_upd H' B _ hB fun H4 s4 f4 => ⟨B, _, rfl, SqT.of f4, rfl, _, _, rfl, _, _, rfl, rfl, rfl, ?_⟩
      refine ⟨_, rfl, _, rfl, _, _, rfl, rfl, _, _, rfl, rfl, sm_mul (sm_co sm1 (by omega)) (Nat.lt_of_le_of_lt (show ((k : Int) + 1).natAbs ≤ 100 by omega) (Nat.lt_of_lt_of_le (show 100 < 2 ^ 7 by decide) (Nat.pow_le_pow_right (by decide) (by decide)))), _, s4 _ _ hL, ?_, fun b o e => ?_, ?_⟩
      · rw [tab_len]
        exact small1000 (by omega)
      · rw [upd_ne (ne_of_none e hD)]
        exact s4 _ _ (sH _ _ e)
      · rw [upd_same, ← tab_snoc]
    · obtain ⟨sH, hL⟩ := hP
      rw [List.length_map, List.length_drop, tab_tb] at hL
      exact .inl ⟨D, _, rfl, SqL.of hL, fun p5 n5 => q p5 _ (s2.trans (sH.trans (same_upd0 n5))) upd_same⟩
/-- all that the law makes on its way is let -/
structure LchOk (X Y l : List Int) : Prop where
  ne : l ≠ []
  len : l.length ≤ 90
  lX : X.length = 2
  lY : Y.length = 2
  pX : ∀ i, i ≤ l.length → Rw (pow X i)
  pY : ∀ i, i ≤ l.length → Rw (pow Y i)
  pm : ∀ i, i < l.length → Rw (ml (pow X (l.length - 1 - i)) (pow Y i))
  sl : ∀ z ∈ l, sm z
def spLChanged : Sp := fun vs H Q _ => ∃ (a t : Addr) (l X Y : List Int), vs = [.ref a, .ref t] ∧ H a = some (tp l) ∧ Tb H t X Y ∧ LchOk X Y l ∧ ∀ p H', Same H H' → H' p = some (tp (changed X Y l)) → Q (.ref p) H'
theorem tab_repl (n : Nat) : tab n (fun _ => 0) = (List.replicate n (0 : Int)).map V.int := by
  rw [tab_tb]
  congr 1
  refine co_inj (by rw [tb_len, List.length_replicate]) fun k => ?_
  rw [co_tb]
  by_cases h : k < n
  · rw [if_pos h, co_get (by rw [List.length_replicate]; exact h), List.getElem_replicate]
  · rw [if_neg h, co_far (by rw [List.length_replicate]; omega)]
theorem ok_law_changed (T : Facts K mg) : FnOk P w K mg base CX0 3 T.f_law_changed T.fd_law_changed ["_law_form_here", "_law_table_here"] spLChanged := by
  have G_law_product := ok_law_product (P := P) (w := w) (base := base) T
  have G_law_power := ok_law_power (P := P) (w := w) (base := base) T
  have G_law_plus := ok_law_plus (P := P) (w := w) (base := base) T
  have G_law_scaled := ok_law_scaled (P := P) (w := w) (base := base) T
  refine T.F_law_changed.ok sc_law_changed (fun vs H Q E h => ?_) (fun cdv A outer s H vs Q E hr h => ?_)
  · obtain ⟨a, t, l, X, Y, rfl, _⟩ := h
    rfl
  · obtain ⟨a, t, l, X, Y, rfl, ha, ht, ok, q⟩ := h
    obtain ⟨r0, r1, h1, h2, h3⟩ := ht
    have hlen := ok.len
    have rX : Rw X := by have := ok.pX 1 (List.length_pos_iff.mpr ok.ne); rwa [show pow X 1 = X from by show ml [1] X = X; rw [ml_comm, ml_one]] at this
    have rY : Rw Y := by have := ok.pY 1 (List.length_pos_iff.mpr ok.ne); rwa [show pow Y 1 = Y from by show ml [1] Y = Y; rw [ml_comm, ml_one]] at this
    refine ⟨_, (PSs.nox (pss_cons (ps_set (i := 2) sc_law_changed.nd rfl (.inl rfl) (pe_tupleOf (by rfl) T.z_tuple (pe_lc (own := [("_law_entry", 3)]) (g := (gName 3)) (tt := tYes) (by rfl) sc_law_changed.nd (pi_tup (pv 0)) (blkOk_by (N := N_law_changed) (sc := defScope s_law_changed) (by decide +kernel)) (fun _ _ _ _ _ => (pg_name (i := 3) sc_law_changed.nd rfl (.inl rfl))) (fun _ _ _ _ _ => pts_nil) (fun _ _ _ _ _ => pe_int))))
    (pss_cons (ps_for PassesOwn.never (by rfl) (pi_enumT (by rfl) T.z_enumerate (pa_cons (pv 0) pa_nil)) (pg_tup (by rfl) (pgs_cons (pg_name (i := 4) sc_law_changed.nd rfl (.inl rfl)) (pgs_cons (pg_name (i := 3) sc_law_changed.nd rfl (.inl rfl)) pgs_nil)))
      (pss_cons (ps_set (i := 5) sc_law_changed.nd rfl (.inl rfl) (pe_call G_law_product (hr.mono (by decide)) (by rfl) T.g_law_product T.F_law_product.kp T.b_law_product .nil pass0 (pa_cons (pe_call G_law_power hr (by rfl) T.g_law_power T.F_law_power.kp T.b_law_power .nil pass0 (pa_cons (pe_ix ix_tup (pv 1) pe_int (fun _ _ => rfl)) (pa_cons (pe_op op_sub (pe_op op_sub (pe_callB call_len_seq (by rfl) T.z_len (by decide +kernel) (pa_cons (pv 0) pa_nil)) pe_int) (pv 4)) pa_nil))) (pa_cons (pe_call G_law_power hr (by rfl) T.g_law_power T.F_law_power.kp T.b_law_power .nil pass0 (pa_cons (pe_ix ix_tup (pv 1) pe_int (fun _ _ => rfl)) (pa_cons (pv 4) pa_nil))) pa_nil))))
      (pss_one (ps_set (i := 2) sc_law_changed.nd rfl (.inl rfl) (pe_call G_law_plus (hr.mono (by decide)) (by rfl) T.g_law_plus T.F_law_plus.kp T.b_law_plus .nil pass0 (pa_cons (pv 2) (pa_cons (pe_call G_law_scaled (hr.mono (by decide)) (by rfl) T.g_law_scaled T.F_law_scaled.kp T.b_law_scaled .nil pass0 (pa_cons (pv 5) (pa_cons (pv 3) pa_nil))) pa_nil)))))))
    (pss_one (ps_ret (pv 2)))))), ?_⟩
    refine ⟨_, rfl, a, rfl, ⟨_, SqT.of ha⟩, fun D hD => lc_tup (xs := l.map V.int) (fun j H' => H' = upd H D (.lst (tab j fun _ => 0))) rfl (fun j H' _ hP => by rw [hP]; exact SqT.of (same_upd0 hD _ _ ha)) (fun j x H' hx hP => ?_) (fun H' hP => ?_)⟩
    · subst hP
      obtain ⟨hj, rfl⟩ := int_get hx
      refine ⟨rfl, _, upd_same, by rw [tab_len]; exact small1000 (by omega), ?_⟩
      rw [upd_upd, ← tab_snoc]
    · subst hP
      rw [List.length_map, tab_repl]
      refine .inl ⟨D, _, rfl, SqL.of upd_same, fun p0 n0 => ?_⟩
      have sD := same_upd0 (o := .lst ((List.replicate l.length (0 : Int)).map V.int)) hD
      refine gen_upd _ p0 (tp (List.replicate l.length 0)) n0 fun H1 s1 f1 => ?_
      have s01 := sD.trans s1
      refine ⟨_, rfl, a, _, rfl, SqT.of (s01 _ _ ha), for_enumT (xs := l.map V.int) (fun i σ H' => ∃ fa y3 y4 y5, σ = [some (.ref a), some (.ref t), some (.ref fa), y3, y4, y5] ∧ Same H H' ∧ H' fa = some (tp (chL X Y l i))) ⟨p0, none, none, none, rfl, s01, f1⟩ (fun i σ H' hP => ?_) (fun i x B σ H' hx hP hB => ?_) (fun σ H' hP => ?_)⟩
      · obtain ⟨fa, y3, y4, y5, _, sH, _⟩ := hP
        exact SqT.of (sH _ _ ha)
      · obtain ⟨fa, y3, y4, y5, rfl, sH, hf⟩ := hP
        obtain ⟨hi, rfl⟩ := int_get hx
        refine gen_upd H' B _ hB fun H2 s2 f2 => ⟨B, _, rfl, SqT.of f2, rfl, _, _, rfl, _, _, rfl, rfl, ?_⟩
        have t2 := sH.trans s2
        refine ⟨_, rfl, t, _, 0, _, rfl, rfl, SqT.of (t2 _ _ h1), atI_nat (j := 0) rfl, _, rfl, a, _, rfl, .inr (SqT.of (t2 _ _ ha)), ?_⟩
        rw [List.length_map]
        refine ⟨_, _, rfl, rfl, _, rfl, _, _, rfl, rfl, r0, X, l.length - 1 - i, ?_, t2 _ _ h2, rX.ne, rX.len, rX.sm, fun k hk => ?_, by omega, fun p3 H3 s3 f3 => ?_⟩
        · show [V.ref r0, V.int ((l.length : Int) - 1 - (i : Int))] = [V.ref r0, V.int ((l.length - 1 - i : Nat) : Int)]
          rw [show (l.length : Int) - 1 - (i : Int) = ((l.length - 1 - i : Nat) : Int) by omega]
        · have r := ok.pX k (by omega)
          exact ⟨r.ne, r.len, r.sm⟩
        have t3 := t2.trans s3
        refine ⟨_, rfl, t, _, 1, _, rfl, rfl, SqT.of (t3 _ _ h1), atI_nat (j := 1) rfl, _, rfl, r1, Y, i, rfl, t3 _ _ h3, rY.ne, rY.len, rY.sm, fun k hk => ?_, by omega, fun p4 H4 s4 f4 => ?_⟩
        · have r := ok.pY k (by omega)
          exact ⟨r.ne, r.len, r.sm⟩
        have f3' := s4 _ _ f3
        have qX := ok.pX (l.length - 1 - i) (by omega)
        have qY := ok.pY i (by omega)
        have qm := ok.pm i hi
        refine ⟨p3, p4, _, _, rfl, f3', f4, qX.ne, qY.ne, qX.len, qY.len, qX.sm, qY.sm, fun p5 H5 s5 _ f5 => ?_⟩
        have t5 := (s2.trans s3).trans (s4.trans s5)
        refine ⟨_, rfl, _, rfl, _, rfl, p5, _, _, rfl, f5, qm.len, qm.sm, sm_co ok.sl hi, fun p6 H6 s6 _ f6 => ?_⟩
        have lc := chL_len (l := l) ok.lX ok.lY i (by omega)
        have lm : ((ml (pow X (l.length - 1 - i)) (pow Y i)).map (co l i * ·)).length = l.length := by
          rw [List.length_map, ml_len, pow_len ok.lX, pow_len ok.lY]
          omega
        exact ⟨fa, p6, _, _, rfl, (t5.trans s6) _ _ hf, f6, by rw [lc]; exact lm.symm, by rw [lc]; omega, fun p7 H7 s7 _ f7 => ⟨p7, _, _, _, rfl, sH.trans ((t5.trans s6).trans s7), f7⟩⟩
      · obtain ⟨fa, y3, y4, y5, rfl, sH, hf⟩ := hP
        rw [List.length_map, chL_all ok.lX ok.lY ok.ne] at hf
        exact ⟨_, rfl, q fa H' sH hf⟩
end
end K77

set_option Elab.async false
set_option linter.all false
set_option maxRecDepth 100000
set_option maxHeartbeats 4000000
namespace K77
open PySem PySem.Spec PyProof.Rows L2 StX RZ MyR SlX OwnR OwnF EnumT
section
variable {P : Program} {w : World} {K : PySem.W.Frag} {mg : Str → Option Value} {base : Heap}
theorem sm_le {x : Int} {n : Nat} (h : x.natAbs ≤ n) (hn : n < 2 ^ 60) : sm x := Nat.lt_of_le_of_lt h (Nat.lt_of_lt_of_le hn (Nat.pow_le_pow_right (by decide) (by decide)))
def spTable : Sp := fun vs H Q _ => ∃ (d : Addr) (m : Nat), vs = [.ref d, .int m] ∧ Dc H d ∧ 1 ≤ m ∧ m ≤ 1000 ∧ ∀ p H' a b c e, Sx d H H' → Dc H' d → Tb H' p [a, b] [c, e] → a.natAbs ≤ m → b.natAbs ≤ m → c.natAbs ≤ m → e.natAbs ≤ m → a * e - b * c ≠ 0 → Q (.ref p) H'
theorem ok_law_table (T : Facts K mg) : FnOk P w K mg base CX0 3 T.f_law_table T.fd_law_table ["_law_dice_here", "_law_most"] spTable := by
  have G_law_near : FnOk P w K mg base CX0 2 T.f_law_near T.fd_law_near ["_law_dice_here", "_law_most"] spNear := ok_law_near T
  refine T.F_law_table.ok sc_law_table (fun vs H Q E h => ?_) (fun cdv A outer s H vs Q E hr h => ?_)
  · obtain ⟨d, m, rfl, _⟩ := h
    rfl
  · obtain ⟨d, m, rfl, hd, h1, h2, q⟩ := h
    have e15 : (10 : Int) ^ 15 = 1000000000000000 := by decide
    have z2 : 2 ≤ sizeLine := by decide
    refine ⟨_, (PSs.nox (pss_cons (ps_set (i := 2) sc_law_table.nd rfl (.inl rfl) (pe_tupleOf (by rfl) T.z_tuple (pe_lc (own := [("_law_row", 3)]) (g := (gName 3)) (tt := tYes) (by rfl) sc_law_table.nd (pi_range1 (by rfl) T.z_range (pa_cons pe_int pa_nil)) (blkOk_by (N := N_law_table) (sc := defScope s_law_table) (by decide +kernel)) (fun _ _ _ _ _ => (pg_name (i := 3) sc_law_table.nd rfl (.inl rfl))) (fun _ _ _ _ _ => pts_nil) (fun _ _ _ _ _ => (pe_tup (pa_cons (pe_call G_law_near hr (by rfl) T.g_law_near T.F_law_near.kp T.b_law_near .nil pass0 (pa_cons (pv 0) (pa_cons (pv 1) pa_nil))) (pa_cons (pe_call G_law_near hr (by rfl) T.g_law_near T.F_law_near.kp T.b_law_near .nil pass0 (pa_cons (pv 0) (pa_cons (pv 1) pa_nil))) pa_nil)))))))
    (pss_one (ps_ret (pe_ifExp (pt_cmpR op_ne (pe_op op_mulW (pe_ix ix_tup (pe_ix ix_tup (pv 2) pe_int (fun _ _ => rfl)) pe_int (fun _ _ => rfl)) (pe_ix ix_tup (pe_ix ix_tup (pv 2) pe_int (fun _ _ => rfl)) pe_int (fun _ _ => rfl))) (pe_op op_mulW (pe_ix ix_tup (pe_ix ix_tup (pv 2) pe_int (fun _ _ => rfl)) pe_int (fun _ _ => rfl)) (pe_ix ix_tup (pe_ix ix_tup (pv 2) pe_int (fun _ _ => rfl)) pe_int (fun _ _ => rfl))) (nomark _)) (pv 2) (pe_tup (pa_cons (pe_tup (pa_cons pe_int (pa_cons pe_int pa_nil))) (pa_cons (pe_tup (pa_cons pe_int (pa_cons pe_int pa_nil))) pa_nil)))))))), ?_⟩
    refine ⟨2, rfl, by decide, by decide, fun D hD => lc_range (n := (2 : Int).toNat) (fun j H' => Sx d H H' ∧ Dc H' d ∧ ∃ (rs : List Addr) (ls : List (List Int)), H' D = some (.lst (rs.map V.ref)) ∧ rs.length = j ∧ ls.length = j ∧ (∀ i (h : i < ls.length) (h' : i < rs.length), H' rs[i] = some (tp ls[i])) ∧ ∀ l ∈ ls, l.length = 2 ∧ ∀ x ∈ l, x.natAbs ≤ m) ⟨Sx.of (same_upd0 hD), hd.same (same_upd0 hD), [], [], upd_same, rfl, rfl, fun i h _ => absurd h (Nat.not_lt_zero i), fun l h => (nomatch h)⟩ (fun j H' hj hP => ?_) (fun H' hP => ?_)⟩
    · obtain ⟨sH, dH, rs, ls, hL, hl1, hl2, hr, hb⟩ := hP
      have nD : D ≠ d := hd.ne hD
      refine ⟨rfl, _, rfl, _, rfl, d, m, rfl, dH, by omega, by rw [e15]; omega, fun u H2 u1 u2 s2 d2 => ⟨_, rfl, _, rfl, d, m, rfl, d2, by omega, by rw [e15]; omega, fun v H3 v1 v2 s3 d3 => ⟨z2, fun p2 n2 => gen_upd H3 p2 (tp [u, v]) n2 fun H4 s4 f4 => ?_⟩⟩⟩
      have hL4 := s4 _ _ (s3 D _ nD (s2 D _ nD hL))
      have dD : ∀ a l, H4 a = some (tp l) → a ≠ D := fun a l e z => by
        rw [z, hL4] at e
        cases e
      have d4 := d3.same s4
      have hj2 : j < 2 := hj
      refine ⟨_, hL4, by rw [List.length_map, hl1]; exact small1000 (by omega), fun b o hb2 e => ?_, ?_, rs ++ [p2], ls ++ [[u, v]], by rw [upd_same, List.map_append]; rfl, by rw [List.length_append, hl1]; rfl, by rw [List.length_append, hl2]; rfl, fun i h h' => ?_, fun l hl => ?_⟩
      · rw [upd_ne (ne_of_none e hD)]
        exact s4 _ _ (s3 b o hb2 (s2 b o hb2 (sH b o hb2 e)))
      · obtain ⟨x, y, z, e⟩ := d4
        exact ⟨x, y, z, by rw [upd_ne (Ne.symm nD)]; exact e⟩
      · by_cases c : i < ls.length
        · have e1 : (rs ++ [p2])[i] = rs[i]'(by omega) := List.getElem_append_left _
          have e2 : (ls ++ [[u, v]])[i] = ls[i] := List.getElem_append_left _
          rw [e1, e2]
          have e3 := s3 _ _ (dc_ne d2 (s2 _ _ (dc_ne dH (hr i c (by omega))) (hr i c (by omega)))) (s2 _ _ (dc_ne dH (hr i c (by omega))) (hr i c (by omega)))
          rw [upd_ne (dD _ _ (s4 _ _ e3))]
          exact s4 _ _ e3
        · have ei : i = ls.length := by rw [List.length_append] at h; simp at h; omega
          subst ei
          have e1 : (rs ++ [p2])[ls.length] = p2 := by rw [List.getElem_append_right (by omega)]; simp [hl1, hl2]
          have e2 : (ls ++ [[u, v]])[ls.length] = [u, v] := by rw [List.getElem_append_right (by omega)]; simp
          rw [e1, e2, upd_ne (dD _ _ f4)]
          exact f4
      · rcases List.mem_append.mp hl with e | e
        · exact hb l e
        · rw [List.mem_singleton.mp e]
          refine ⟨rfl, fun x hx => ?_⟩
          simp only [List.mem_cons, List.not_mem_nil, or_false] at hx
          rcases hx with e | e <;> rw [e] <;> omega
    · obtain ⟨sH, dH, rs, ls, hL, hl1, hl2, hr, hb⟩ := hP
      match rs, hl1, ls, hl2, hL, hr, hb with
      | [r0, r1], _, [l0, l1], _, hL, hr, hb =>
        have k0 : H' r0 = some (tp l0) := hr 0 (by simp) (by simp)
        have k1 : H' r1 = some (tp l1) := hr 1 (by simp) (by simp)
        obtain ⟨b0, c0⟩ := hb l0 (by simp)
        obtain ⟨b1, c1⟩ := hb l1 (by simp)
        match l0, b0, l1, b1, k0, k1, c0, c1 with
        | [a, b], _, [c, e], _, k0, k1, c0, c1 =>
          have ba := c0 a (by simp)
          have bb := c0 b (by simp)
          have bc := c1 c (by simp)
          have be := c1 e (by simp)
          refine .inl ⟨D, _, rfl, SqL.of hL, fun p np => ?_⟩
          refine gen_upd H' p (.tup [.ref r0, .ref r1]) np fun H2 s2 f2 => ?_
          have k0' := s2 _ _ k0
          have k1' := s2 _ _ k1
          have sa := sm_le (n := 1000) (show a.natAbs ≤ 1000 by omega) (by decide)
          have sb := sm_le (n := 1000) (show b.natAbs ≤ 1000 by omega) (by decide)
          have sc := sm_le (n := 1000) (show c.natAbs ≤ 1000 by omega) (by decide)
          have se := sm_le (n := 1000) (show e.natAbs ≤ 1000 by omega) (by decide)
          refine ⟨_, rfl, p, _, 0, _, rfl, rfl, SqT.of f2, atI_nat (j := 0) rfl, r0, _, 0, _, rfl, rfl, SqT.of k0', atI_nat (j := 0) rfl, _, rfl, p, _, 1, _, rfl, rfl, SqT.of f2, atI_nat (j := 1) rfl, r1, _, 1, _, rfl, rfl, SqT.of k1', atI_nat (j := 1) rfl, _, _, rfl, rfl, sm_mul sa se, ?_⟩
          refine ⟨_, rfl, p, _, 0, _, rfl, rfl, SqT.of f2, atI_nat (j := 0) rfl, r0, _, 1, _, rfl, rfl, SqT.of k0', atI_nat (j := 1) rfl, _, rfl, p, _, 1, _, rfl, rfl, SqT.of f2, atI_nat (j := 1) rfl, r1, _, 0, _, rfl, rfl, SqT.of k1', atI_nat (j := 0) rfl, _, _, rfl, rfl, sm_mul sb sc, rfl, _, rfl, ?_⟩
          by_cases z : a * e = b * c
          · rw [decide_eq_true (show V.int (a * e) = V.int (b * c) by rw [z])]
            refine iteF ⟨z2, fun q0 m0 => gen_upd H2 q0 (tp [1, 1]) m0 fun H3 s3 f3 => ⟨z2, fun q1 m1 => gen_upd H3 q1 (tp [0, 1]) m1 fun H4 s4 f4 => ⟨z2, fun q2 m2 => gen_upd H4 q2 (.tup [.ref q0, .ref q1]) m2 fun H5 s5 f5 => ?_⟩⟩⟩
            have s25 := (s3.trans s4).trans s5
            exact q q2 H5 1 1 0 1 (sH.trans (Sx.of (s2.trans s25))) (dH.same (s2.trans s25)) ⟨q0, q1, f5, s5 _ _ (s4 _ _ f3), s5 _ _ f4⟩ (by show 1 ≤ m; omega) (by show 1 ≤ m; omega) (by show 0 ≤ m; omega) (by show 1 ≤ m; omega) (by decide)
          · rw [decide_eq_false fun y => z (V.int.inj y)]
            refine iteT ⟨_, rfl, q p H2 a b c e (sH.trans (Sx.of s2)) (dH.same s2) ⟨r0, r1, f2, k0', k1'⟩ ba bb bc be (by omega)⟩
def spDet : Sp := fun vs H Q _ => ∃ (t : Addr) (a b c e : Int), vs = [.ref t] ∧ Tb H t [a, b] [c, e] ∧ a.natAbs ≤ 1000000 ∧ b.natAbs ≤ 1000000 ∧ c.natAbs ≤ 1000000 ∧ e.natAbs ≤ 1000000 ∧ Q (.int (a * e - b * c)) H
theorem ok_law_det (T : Facts K mg) : FnOk P w K mg base CX0 1 T.f_law_det T.fd_law_det ["_law_table_here"] spDet := by
  refine T.F_law_det.ok sc_law_det (fun vs H Q E h => ?_) (fun cdv A outer s H vs Q E hr h => ?_)
  · obtain ⟨t, a, b, c, e, rfl, _⟩ := h
    rfl
  · obtain ⟨t, a, b, c, e, rfl, ⟨r0, r1, f2, k0, k1⟩, ba, bb, bc, be, q⟩ := h
    refine ⟨_, (PSs.nox (pss_one (ps_ret (pe_op op_sub (pe_op op_mulW (pe_ix ix_tup (pe_ix ix_tup (pv 0) pe_int (fun _ _ => rfl)) pe_int (fun _ _ => rfl)) (pe_ix ix_tup (pe_ix ix_tup (pv 0) pe_int (fun _ _ => rfl)) pe_int (fun _ _ => rfl))) (pe_op op_mulW (pe_ix ix_tup (pe_ix ix_tup (pv 0) pe_int (fun _ _ => rfl)) pe_int (fun _ _ => rfl)) (pe_ix ix_tup (pe_ix ix_tup (pv 0) pe_int (fun _ _ => rfl)) pe_int (fun _ _ => rfl))))))), ?_⟩
    refine ⟨_, rfl, t, _, 0, _, rfl, rfl, SqT.of f2, atI_nat (j := 0) rfl, r0, _, 0, _, rfl, rfl, SqT.of k0, atI_nat (j := 0) rfl, _, rfl, t, _, 1, _, rfl, rfl, SqT.of f2, atI_nat (j := 1) rfl, r1, _, 1, _, rfl, rfl, SqT.of k1, atI_nat (j := 1) rfl, _, _, rfl, rfl, sm_mul (sm_le ba (by decide)) (sm_le be (by decide)), ?_⟩
    exact ⟨_, rfl, t, _, 0, _, rfl, rfl, SqT.of f2, atI_nat (j := 0) rfl, r0, _, 1, _, rfl, rfl, SqT.of k0, atI_nat (j := 1) rfl, _, rfl, t, _, 1, _, rfl, rfl, SqT.of f2, atI_nat (j := 1) rfl, r1, _, 0, _, rfl, rfl, SqT.of k1, atI_nat (j := 0) rfl, _, _, rfl, rfl, sm_mul (sm_le bb (by decide)) (sm_le bc (by decide)), _, _, rfl, rfl, q⟩
end
end K77

set_option Elab.async false
set_option linter.all false
set_option maxRecDepth 100000
/-! layings: the plain law -/
namespace K77
theorem evF_cons (g : Nat → Int) (x y : Int) : ∀ m, evF (m + 1) g x y = g 0 * x ^ m + y * evF m (fun k => g (k + 1)) x y
  | 0 => by
    show x * 0 + g 0 * y ^ 0 = g 0 * x ^ 0 + y * 0
    rw [Int.pow_zero, Int.pow_zero]
    grind
  | m + 1 => by
    show x * evF (m + 1) g x y + g (m + 1) * y ^ (m + 1) = g 0 * x ^ (m + 1) + y * (x * evF m (fun k => g (k + 1)) x y + g (m + 1) * y ^ m)
    rw [evF_cons g x y m, Int.pow_succ, Int.pow_succ]
    generalize evF m (fun k => g (k + 1)) x y = w
    generalize x ^ m = A
    generalize y ^ m = B
    grind
theorem ev_tb (n : Nat) (f : Nat → Int) (x y : Int) : ev (tb n f) x y = evF n f x y := by
  unfold ev
  rw [tb_len]
  exact evF_congr _ fun i hi => by rw [co_tb, if_pos hi]
theorem ev_dX (l : List Int) (x y : Int) : ev (dX l) x y = evF (l.length - 1) (fun k => co l k * ((l.length : Int) - 1 - k)) x y := ev_tb _ _ x y
theorem ev_dY (l : List Int) (x y : Int) : ev (dY l) x y = evF (l.length - 1) (fun k => co l (k + 1) * ((k : Int) + 1)) x y := ev_tb _ _ x y
theorem ev_dX_cons (a : Int) (l : List Int) (x y : Int) : ev (dX (a :: l)) x y = a * l.length * x ^ (l.length - 1) + y * ev (dX l) x y := by
  rw [ev_dX, ev_dX]
  show evF (l.length + 1 - 1) _ x y = _
  rw [Nat.add_sub_cancel]
  cases hl : l.length with
  | zero =>
    show (0 : Int) = a * 0 * _ + y * 0
    grind
  | succ m =>
    rw [evF_cons]
    rw [show evF m (fun k => co (a :: l) (k + 1) * (((a :: l).length : Int) - 1 - ((k + 1 : Nat) : Int))) x y = evF (m + 1 - 1) (fun k => co l k * (((m + 1 : Nat) : Int) - 1 - k)) x y from by
      rw [Nat.add_sub_cancel]
      refine evF_congr _ fun k _ => ?_
      show co l k * (((a :: l).length : Int) - 1 - ((k + 1 : Nat) : Int)) = _
      congr 1
      rw [List.length_cons, hl]
      omega]
    show a * (((a :: l).length : Int) - 1 - ((0 : Nat) : Int)) * x ^ m + _ = _
    rw [List.length_cons, hl, Nat.add_sub_cancel, show (((m + 1 + 1 : Nat)) : Int) - 1 - ((0 : Nat) : Int) = ((m + 1 : Nat) : Int) by omega]
theorem ev_dY_cons (a : Int) (l : List Int) (x y : Int) : ev (dY (a :: l)) x y = ev l x y + y * ev (dY l) x y := by
  rw [ev_dY, ev_dY]
  show evF (l.length + 1 - 1) (fun k => co l k * ((k : Int) + 1)) x y = _
  rw [Nat.add_sub_cancel]
  have e1 : evF l.length (fun k => co l k * ((k : Int) + 1)) x y = ev l x y + evF l.length (fun k => co l k * (k : Int)) x y := by
    unfold ev
    rw [← evF_add]
    exact evF_congr _ fun k _ => by grind
  rw [e1]
  congr 1
  cases hl : l.length with
  | zero =>
    show (0 : Int) = y * 0
    rw [Int.mul_zero]
  | succ m =>
    rw [evF_cons, Nat.add_sub_cancel]
    show co l 0 * ((0 : Nat) : Int) * x ^ m + y * evF m (fun k => co l (k + 1) * ((k + 1 : Nat) : Int)) x y = _
    rw [show evF m (fun k => co l (k + 1) * ((k + 1 : Nat) : Int)) x y = evF m (fun k => co l (k + 1) * ((k : Int) + 1)) x y from evF_congr _ fun k _ => by rw [show ((k + 1 : Nat) : Int) = (k : Int) + 1 by omega]]
    show co l 0 * 0 * x ^ m + _ = _
    grind
/-- a step along a line: up to squares it is told by the derivatives -/
theorem pow_step (x u h : Int) : ∀ n : Nat, ∃ R, (x + u * h) ^ n = x ^ n + h * (u * (n * x ^ (n - 1))) + h * h * R
  | 0 => ⟨0, by rw [Int.pow_zero, Int.pow_zero]; show (1 : Int) = 1 + h * (u * (0 * _)) + h * h * 0; grind⟩
  | 1 => ⟨0, by
    rw [Int.pow_succ, Int.pow_zero, Int.pow_succ, Int.pow_zero]
    show 1 * (x + u * h) = 1 * x + h * (u * (1 * 1)) + h * h * 0
    grind⟩
  | n + 2 => by
    obtain ⟨R, e⟩ := pow_step x u h (n + 1)
    refine ⟨u * u * ((n + 1 : Nat) * x ^ n) + R * (x + u * h), ?_⟩
    rw [Int.pow_succ, e, show n + 1 - 1 = n by omega, show n + 2 - 1 = n + 1 by omega, Int.pow_succ x (n + 1), Int.pow_succ x n, show ((n + 2 : Nat) : Int) = ((n + 1 : Nat) : Int) + 1 by omega]
    generalize x ^ n = A
    generalize ((n + 1 : Nat) : Int) = N
    grind
theorem ev_step (x y u v h : Int) : ∀ l : List Int, ∃ R, ev l (x + u * h) (y + v * h) = ev l x y + h * (u * ev (dX l) x y + v * ev (dY l) x y) + h * h * R
  | [] => ⟨0, by
    show (0 : Int) = 0 + h * (u * ev (dX []) x y + v * ev (dY []) x y) + h * h * 0
    rw [show ev (dX []) x y = 0 from rfl, show ev (dY []) x y = 0 from rfl]
    grind⟩
  | a :: l => by
    obtain ⟨R, e⟩ := ev_step x y u v h l
    obtain ⟨S, e2⟩ := pow_step x u h l.length
    refine ⟨a * S + v * (u * ev (dX l) x y + v * ev (dY l) x y) + (y + v * h) * R, ?_⟩
    rw [ev_cons, ev_cons, ev_dX_cons, ev_dY_cons, e, e2]
    generalize ev (dX l) x y = EX
    generalize ev (dY l) x y = EY
    generalize ev l x y = E
    generalize x ^ (l.length - 1) = A
    generalize x ^ l.length = B
    generalize (l.length : Int) = n
    grind
theorem step_eq {p q : Int} (H : ∀ h : Int, ∃ R, h * p = h * q + h * h * R) : p = q := by
  obtain ⟨R, e⟩ := H (((p - q).natAbs + 1 : Nat) : Int)
  have hp : (((p - q).natAbs + 1 : Nat) : Int) ≠ 0 := by omega
  have e2 : p = q + (((p - q).natAbs + 1 : Nat) : Int) * R := by
    refine Int.eq_of_mul_eq_mul_left hp ?_
    rw [Int.mul_add, ← Int.mul_assoc]
    exact e
  have hd : (((p - q).natAbs + 1 : Nat) : Int) ∣ p - q := ⟨R, by omega⟩
  have hz := Nat.eq_zero_of_dvd_of_lt (Int.natAbs_dvd_natAbs.mpr hd) (by rw [Int.natAbs_natCast]; omega)
  omega
theorem map_len (c : Int) (l : List Int) : (l.map (c * ·)).length = l.length := List.length_map ..
theorem dX_ne {l : List Int} (h : 2 ≤ l.length) : dX l ≠ [] := fun z => by have := dX_len l; rw [z] at this; have : 0 = l.length - 1 := this; omega
theorem dY_ne {l : List Int} (h : 2 ≤ l.length) : dY l ≠ [] := fun z => by have := dY_len l; rw [z] at this; have : 0 = l.length - 1 := this; omega
theorem ne_of2 {l : List Int} (h : 1 ≤ l.length) : l ≠ [] := List.length_pos_iff.mp h
/-- the rule of the chain -/
theorem dX_changed {a b c e : Int} {l : List Int} (h : 2 ≤ l.length) : dX (changed [a, b] [c, e] l) = zs 1 ((changed [a, b] [c, e] (dX l)).map (a * ·)) ((changed [a, b] [c, e] (dY l)).map (c * ·)) := by
  have nl := ne_of2 (show 1 ≤ l.length by omega)
  have l0 := changed_len (X := [a, b]) (Y := [c, e]) rfl rfl nl
  have l1 := changed_len (X := [a, b]) (Y := [c, e]) rfl rfl (dX_ne h)
  have l2 := changed_len (X := [a, b]) (Y := [c, e]) rfl rfl (dY_ne h)
  rw [dX_len] at l1
  rw [dY_len] at l2
  refine ev_inj (by rw [dX_len, l0, zs_len (by rw [map_len, map_len, l1, l2]), map_len, l1]) fun x y => step_eq fun k => ?_
  obtain ⟨R, e1⟩ := ev_step x y 1 0 k (changed [a, b] [c, e] l)
  obtain ⟨S, e2⟩ := ev_step (a * x + b * y) (c * x + e * y) a c k l
  rw [ev_changed rfl rfl nl, ev_changed rfl rfl nl, ev2, ev2, ev2, ev2] at e1
  rw [show a * (x + 1 * k) + b * (y + 0 * k) = a * x + b * y + a * k by grind, show c * (x + 1 * k) + e * (y + 0 * k) = c * x + e * y + c * k by grind, e2] at e1
  refine ⟨S - R, ?_⟩
  rw [ev_zs 1 (by rw [map_len, map_len, l1, l2]), ev_map, ev_map, ev_changed rfl rfl (dX_ne h), ev_changed rfl rfl (dY_ne h), ev2, ev2]
  grind
theorem dY_changed {a b c e : Int} {l : List Int} (h : 2 ≤ l.length) : dY (changed [a, b] [c, e] l) = zs 1 ((changed [a, b] [c, e] (dX l)).map (b * ·)) ((changed [a, b] [c, e] (dY l)).map (e * ·)) := by
  have nl := ne_of2 (show 1 ≤ l.length by omega)
  have l0 := changed_len (X := [a, b]) (Y := [c, e]) rfl rfl nl
  have l1 := changed_len (X := [a, b]) (Y := [c, e]) rfl rfl (dX_ne h)
  have l2 := changed_len (X := [a, b]) (Y := [c, e]) rfl rfl (dY_ne h)
  rw [dX_len] at l1
  rw [dY_len] at l2
  refine ev_inj (by rw [dY_len, l0, zs_len (by rw [map_len, map_len, l1, l2]), map_len, l1]) fun x y => step_eq fun k => ?_
  obtain ⟨R, e1⟩ := ev_step x y 0 1 k (changed [a, b] [c, e] l)
  obtain ⟨S, e2⟩ := ev_step (a * x + b * y) (c * x + e * y) b e k l
  rw [ev_changed rfl rfl nl, ev_changed rfl rfl nl, ev2, ev2, ev2, ev2] at e1
  rw [show a * (x + 0 * k) + b * (y + 1 * k) = a * x + b * y + b * k by grind, show c * (x + 0 * k) + e * (y + 1 * k) = c * x + e * y + e * k by grind, e2] at e1
  refine ⟨S - R, ?_⟩
  rw [ev_zs 1 (by rw [map_len, map_len, l1, l2]), ev_map, ev_map, ev_changed rfl rfl (dX_ne h), ev_changed rfl rfl (dY_ne h), ev2, ev2]
  grind
/-! ### the laying -/
def L : Nat → List Int → List Int → List Int
  | 0, f, g => ml f g
  | t + 1, f, g => zs (-1) (L t (dX f) (dY g)) (L t (dY f) (dX g))
theorem dX_map (c : Int) (l : List Int) : dX (l.map (c * ·)) = (dX l).map (c * ·) := by
  refine co_inj (by rw [dX_len, map_len, map_len, dX_len]) fun k => ?_
  rw [co_map]
  unfold dX
  rw [co_tb, co_tb, map_len, co_map]
  by_cases d : k < l.length - 1
  · rw [if_pos d, if_pos d]
    grind
  · rw [if_neg d, if_neg d]
    grind
/-- how many lots -/
def ch : Nat → Nat → Nat
  | _, 0 => 1
  | 0, _ + 1 => 0
  | n + 1, k + 1 => ch n k + ch n (k + 1)
end K77

set_option Elab.async false
set_option linter.all false
set_option maxRecDepth 100000
set_option maxHeartbeats 4000000
namespace K77
open PySem PySem.Spec PyProof.Rows L2 StX RZ MyR SlX OwnR OwnF EnumT GxR
theorem gen_app (H : Hp) (F : Addr) (o : HO) {R : Hp → Prop} (h : ∀ H' : Hp, H' F = some o → (∀ b, b ≠ F → H' b = H b) → R H') : R (upd H F o) := h _ upd_same fun _ hb => upd_ne hb
/-! ### the first entry other than 0 -/
def nzr (l : List Int) : Bool := l.any (· != 0)
def fi (l : List Int) : Nat := l.findIdx (· != 0)
theorem fi_lt {l : List Int} (h : nzr l = true) : fi l < l.length := by
  unfold fi
  refine List.findIdx_lt_length_of_exists ?_
  obtain ⟨x, h1, h2⟩ := List.any_eq_true.mp h
  exact ⟨x, h1, h2⟩
theorem fi_ne {l : List Int} (h : nzr l = true) : co l (fi l) ≠ 0 := by
  have := List.findIdx_getElem (p := (· != 0)) (w := fi_lt h)
  rw [co_get (fi_lt h)]
  have h2 : (l[fi l]'(fi_lt h) != 0) = true := this
  simpa using h2
theorem sm_of_le {x y : Int} (h : sm y) (k : x.natAbs ≤ y.natAbs) : sm x := Nat.lt_of_le_of_lt k h
theorem eq_lints {K : PySem.W.Frag} {H : Hp} {a b : Addr} {xs ys : List Int} {Q : VK} (ha : SqL K H a (xs.map V.int)) (hb : SqL K H b (ys.map V.int)) (q : Q (.bl (decide (xs = ys))) H) : rEqD K (.ref a) (.ref b) H Q := by
  refine ⟨.list (xs.map PyData.int), .list (ys.map PyData.int), .lst ha (dpAll_ints xs), .lst hb (dpAll_ints ys), shaped_lints xs, shaped_lints ys, ?_⟩
  rw [show PyData.eqv (.list (xs.map PyData.int)) (.list (ys.map PyData.int)) = decide (xs = ys) from eqvAll_ints xs ys]
  exact q
/-! ### tables of code objects -/
def Tg (Ps : List Addr) (H : Hp) : Prop := ∀ P ∈ Ps, TabG H P
def Sts (Ps : List Addr) (H H' : Hp) : Prop := ∀ b o, b ∉ Ps → H b = some o → H' b = some o
/-- all but the dice at d and the tables Ps stays -/
def Sy (d : Addr) (Ps : List Addr) (H H' : Hp) : Prop := ∀ b o, b ≠ d → b ∉ Ps → H b = some o → H' b = some o
theorem Sts.rf (Ps : List Addr) (H : Hp) : Sts Ps H H := fun _ _ _ e => e
theorem Sts.of {Ps : List Addr} {H H' : Hp} (s : Same H H') : Sts Ps H H' := fun b o _ h => s b o h
theorem Sts.trans {Ps : List Addr} {H H1 H2 : Hp} (s : Sts Ps H H1) (t : Sts Ps H1 H2) : Sts Ps H H2 := fun b o n h => t b o n (s b o n h)
theorem Sy.rf (d : Addr) (Ps : List Addr) (H : Hp) : Sy d Ps H H := fun _ _ _ _ e => e
theorem Sy.of {d : Addr} {Ps : List Addr} {H H' : Hp} (s : Same H H') : Sy d Ps H H' := fun b o _ _ h => s b o h
theorem Sy.ofD {d : Addr} {Ps : List Addr} {H H' : Hp} (s : Sx d H H') : Sy d Ps H H' := fun b o n _ h => s b o n h
theorem Sy.ofP {d : Addr} {Ps : List Addr} {H H' : Hp} (s : Sts Ps H H') : Sy d Ps H H' := fun b o _ n h => s b o n h
theorem Sy.trans {d : Addr} {Ps : List Addr} {H H1 H2 : Hp} (s : Sy d Ps H H1) (t : Sy d Ps H1 H2) : Sy d Ps H H2 := fun b o n m h => t b o n m (s b o n m h)
theorem tabS {P : Addr} {H H' : Hp} (t : TabG H P) (s : Same H H') : TabG H' P := by
  obtain ⟨ps, h, k⟩ := t
  exact ⟨ps, s _ _ h, k⟩
theorem Tg.same {Ps : List Addr} {H H' : Hp} (t : Tg Ps H) (s : Same H H') : Tg Ps H' := fun P m => tabS (t P m) s
theorem Tg.sx {Ps : List Addr} {d : Addr} {H H' : Hp} (t : Tg Ps H) (s : Sx d H H') (hd : Dc H d) : Tg Ps H' := fun P m => by
  obtain ⟨ps, h, k⟩ := t P m
  obtain ⟨x, y, z, e⟩ := hd
  refine ⟨ps, s _ _ (fun q => ?_) h, k⟩
  rw [q, e] at h
  cases h
theorem Tg.ne {Ps : List Addr} {H : Hp} {a : Addr} {o : HO} (t : Tg Ps H) (h : H a = some o) (ho : ∀ ps, o ≠ .tbl ps) : a ∉ Ps := fun m => by
  obtain ⟨ps, e, _⟩ := t a m
  rw [h] at e
  exact ho ps (Option.some.inj e)
theorem tbd_sts {Ps : List Addr} {P : Addr} {H H' : Hp} (t : Tabbed P H H') (h : P ∈ Ps) : Sts Ps H H' := fun b o nb e => (t.2 b (fun z => nb (z ▸ h))).trans e
theorem tbd_tg {Ps : List Addr} {P : Addr} {H H' : Hp} (t : Tabbed P H H') (g : Tg Ps H) : Tg Ps H' := fun P' m => by
  by_cases e : P' = P
  · rw [e]
    exact t.1
  · obtain ⟨ps, h, k⟩ := g P' m
    exact ⟨ps, (t.2 P' e).trans h, k⟩
theorem Sts.tup {Ps : List Addr} {H H' : Hp} {t : Addr} {xs : List V} (s : Sts Ps H H') (g : Tg Ps H) (h : H t = some (.tup xs)) : H' t = some (.tup xs) := s _ _ (g.ne h fun _ e => by cases e) h
theorem Sts.lst {Ps : List Addr} {H H' : Hp} {t : Addr} {xs : List V} (s : Sts Ps H H') (g : Tg Ps H) (h : H t = some (.lst xs)) : H' t = some (.lst xs) := s _ _ (g.ne h fun _ e => by cases e) h
theorem Sts.fo {Ps : List Addr} {C a : Addr} {H H' : Hp} {l : List Int} (s : Sts Ps H H') (g : Tg Ps H) (h : Fo C H a l) : Fo C H' a l := by
  obtain ⟨dx, t, e1, e2, e3⟩ := h
  exact ⟨dx, t, s _ _ (g.ne e1 fun _ e => by cases e) e1, s _ _ (g.ne e2 fun _ e => by cases e) e2, s _ _ (g.ne e3 fun _ e => by cases e) e3⟩
theorem Sts.dc {Ps : List Addr} {d : Addr} {H H' : Hp} (s : Sts Ps H H') (g : Tg Ps H) (h : Dc H d) : Dc H' d := by
  obtain ⟨x, y, z, e⟩ := h
  exact ⟨x, y, z, s _ _ (g.ne e fun _ e => by cases e) e⟩
/-- dice and the tables -/
structure Dp (d : Addr) (Ps : List Addr) (H : Hp) : Prop where
  dd : Dc H d
  tt : Tg Ps H
theorem Dp.same {d : Addr} {Ps : List Addr} {H H' : Hp} (D : Dp d Ps H) (s : Same H H') : Dp d Ps H' := ⟨D.dd.same s, D.tt.same s⟩
theorem Dp.sx {d : Addr} {Ps : List Addr} {H H' : Hp} (D : Dp d Ps H) (s : Sx d H H') (h : Dc H' d) : Dp d Ps H' := ⟨h, D.tt.sx s D.dd⟩
theorem Dp.sp {d : Addr} {Ps : List Addr} {H H' : Hp} (D : Dp d Ps H) (s : Sts Ps H H') (h : Tg Ps H') : Dp d Ps H' := ⟨s.dc D.tt D.dd, h⟩
theorem Dp.tup {d : Addr} {Ps : List Addr} {H H' : Hp} {t : Addr} {xs : List V} (D : Dp d Ps H) (s : Sy d Ps H H') (h : H t = some (.tup xs)) : H' t = some (.tup xs) := s _ _ (dc_ne D.dd h) (D.tt.ne h fun _ e => by cases e) h
theorem Dp.fo {d : Addr} {Ps : List Addr} {H H' : Hp} {C a : Addr} {l : List Int} (D : Dp d Ps H) (s : Sy d Ps H H') (h : Fo C H a l) : Fo C H' a l := by
  obtain ⟨dx, t, e1, e2, e3⟩ := h
  obtain ⟨x, y, z, e⟩ := D.dd
  have nd : ∀ {b o}, H b = some o → (∀ l, o ≠ .lst l) → b ≠ d := fun h1 h2 q => by
    rw [q, e] at h1
    exact h2 _ (Option.some.inj h1).symm
  exact ⟨dx, t, s _ _ (nd e1 fun _ e => by cases e) (D.tt.ne e1 fun _ e => by cases e) e1, s _ _ (nd e2 fun _ e => by cases e) (D.tt.ne e2 fun _ e => by cases e) e2, s _ _ (nd e3 fun _ e => by cases e) (D.tt.ne e3 fun _ e => by cases e) e3⟩
theorem script_Sy {K : PySem.W.Frag} {d a : Addr} {Ps : List Addr} {H H' : Hp} {o : HO} {xs : List V} (s : Sy d Ps (upd H d o) H') (n : H d = none) (t : Tg Ps H) (h : SqL K H a xs) : SqL K H' a xs := by
  rcases h with (h | ⟨u, h⟩) | h
  · have ne : a ≠ d := ne_of_none h n
    exact .inl (.inl (s a _ ne (t.ne h fun _ e => by cases e) (by rw [upd_ne ne]; exact h)))
  · have ne : a ≠ d := ne_of_none h n
    exact .inl (.inr ⟨u, s a _ ne (t.ne h fun _ e => by cases e) (by rw [upd_ne ne]; exact h)⟩)
  · exact .inr h
def spLawT (K : PySem.W.Frag) (Ps : List Addr) : Sp := fun vs H Q _ => ∃ (a : Addr) (ns : List Int), vs = [.ref a] ∧ SqL K H a (ns.map V.int) ∧ ns.length ≤ 63 ∧ Tg Ps H ∧ ∀ H', Q (.bl true) H'
/-! ### cut and joined rows -/
theorem cat_rows {K : PySem.W.Frag} {a b : Addr} {H : Hp} {xs ys : List Int} {Q : VK} (ha : H a = some (tp xs)) (hb : H b = some (tp ys)) (hl : xs.length + ys.length ≤ 1000) (q : ∀ p H', Same H H' → H' p = some (tp (xs ++ ys)) → Q (.ref p) H') : rCatA K (.ref a) (.ref b) H Q := by
  refine ⟨a, b, _, _, rfl, rfl, SqT.of ha, SqT.of hb, ?_, fun e => ?_, fun _ e => ?_, fun _ _ p hp => ?_⟩
  · rw [List.length_map, List.length_map]
    have : 1000 ≤ sizeLine := by decide
    omega
  · have e := List.map_eq_nil_iff.mp e
    subst e
    exact q b H (Same.rf _) hb
  · have e := List.map_eq_nil_iff.mp e
    subst e
    exact q a H (Same.rf _) (by rw [List.append_nil]; exact ha)
  · refine q p _ (same_upd0 hp) ?_
    rw [upd_same]
    exact congrArg (fun z => some (HO.tup z)) List.map_append.symm
end K77

set_option Elab.async false
set_option linter.all false
set_option maxRecDepth 100000
set_option maxHeartbeats 2000000
/-! // by an int of any size, where the quotient is not too great: fewer than 4500 bits -/
namespace FDivQ
open PySem PySem.Spec PyProof.Rows L2
theorem noPylong_quot {x y : Int} (h : x.natAbs.log2 ≤ y.natAbs.log2 + 4470) : Builtin.divisionGoesByPylong x y = false := by
  show (decide ((if y == 0 then 0 else y.natAbs.log2 / 30 + 1) > 300) && decide ((if x == 0 then 0 else x.natAbs.log2 / 30 + 1) > (if y == 0 then 0 else y.natAbs.log2 / 30 + 1) + 150)) = false
  by_cases hy : (y == 0) = true
  · rw [if_pos hy]
    rfl
  · rw [if_neg hy]
    by_cases hx : (x == 0) = true
    · rw [if_pos hx]
      simp
    · rw [if_neg hx]
      have : ¬ (x.natAbs.log2 / 30 + 1 > y.natAbs.log2 / 30 + 1 + 150) := by omega
      rw [decide_eq_false this, Bool.and_false]
/-- a divisor other than 0 of fewer than 9000 bits, or a quotient of fewer than some 4470 -/
def CDivQ (i j : Int) : Prop := j ≠ 0 ∧ (j.natAbs.log2 < 9000 ∨ i.natAbs.log2 ≤ j.natAbs.log2 + 4470)
theorem op_fdivQ {X : Cx} : OpR X (binaryOp .FloorDiv) (rI CDivQ fun i j => .int (i.fdiv j)) := opI fun i j _ _ _ _ _ hc q =>
  floordiv_int hc.1 q (.inl (hc.2.elim PyProof.noPylong_of_log2 noPylong_quot))
/-- an exact quotient below 2 ^ 4470 -/
theorem CDivQ.exact {i j q : Int} (hj : j ≠ 0) (e : i = q * j) (hq : q.natAbs < 2 ^ 4470) : CDivQ i j := by
  refine ⟨hj, .inr ?_⟩
  by_cases h0 : i.natAbs = 0
  · rw [h0, Nat.log2_zero]
    exact Nat.zero_le _
  · have h1 : j.natAbs ≠ 0 := by omega
    have h2 : i.natAbs < 2 ^ (4470 + (j.natAbs.log2 + 1)) := by
      rw [e, Int.natAbs_mul, Nat.pow_add]
      exact Nat.mul_lt_mul'' hq Nat.lt_log2_self
    have := (Nat.log2_lt h0).mpr h2
    omega
end FDivQ

set_option Elab.async false
set_option linter.all false
/-! list(xs) of a list or a tuple, the fragment named (for comprehensions) -/
namespace ListOf
open PySem PySem.Spec PyProof.Rows L2
def rListOf (K : PySem.W.Frag) : List V → Hp → VK → Prop := fun xs H Q => ∃ p ys, xs = [V.ref p] ∧ (SqL K H p ys ∨ SqT K H p ys) ∧ ∀ l, H l = none → Q (.ref l) (upd H l (.lst ys))
theorem call_list_ofK {X : Cx} {K : PySem.W.Frag} (e : X.K = K) : CallR X (.type "list") (rListOf K) := by
  subst e
  exact call_list_of
end ListOf

set_option Elab.async false
set_option linter.all false
set_option maxRecDepth 100000
set_option maxHeartbeats 4000000
set_option exponentiation.threshold 10000
namespace K77
open PySem PySem.Spec PyProof.Rows L2 StX RZ MyR SlX OwnR OwnF EnumT GxR GenNx FDivQ
def gl (l : List Int) : Nat := l.foldl (fun a x => Nat.gcd a x.natAbs) 0
theorem gl_snoc (l : List Int) (x : Int) : gl (l ++ [x]) = Nat.gcd (gl l) x.natAbs := by
  unfold gl
  rw [List.foldl_append]
  rfl
def foE (l : List Int) : Int := (l.find? (· != 0)).getD 0
theorem foE_of {l : List Int} {r : Int} (h : FirstOf (fun i => i != 0) l 0 r) : r = foE l := by
  unfold foE
  rcases h with ⟨h, rfl⟩ | ⟨i, h1, h2, h3⟩
  · have e : l.find? (· != 0) = none := List.find?_eq_none.mpr fun x hx => by
      obtain ⟨j, hj, e⟩ := List.mem_iff_getElem.mp hx
      have q : (x != 0) = false := h j x (by rw [List.getElem?_eq_getElem hj, e])
      rw [q]
      exact Bool.false_ne_true
    rw [e]
    rfl
  · obtain ⟨hi, e⟩ := List.getElem?_eq_some_iff.mp h1
    have e2 : l.find? (· != 0) = some r := List.find?_eq_some_iff_getElem.mpr ⟨h2, i, hi, e, fun j hj => by
      have q : (l[j] != 0) = false := h3 j _ hj (List.getElem?_eq_getElem (Nat.lt_trans hj hi))
      rw [q]
      rfl⟩
    rw [e2]
    rfl
abbrev ls (ns : List Int) : HO := .lst (ns.map V.int)
section
variable {P : Program} {w : World} {K : PySem.W.Frag} {mg : Str → Option Value} {base : Heap} {Ps : List Addr}
def spSharedL (K : PySem.W.Frag) : Sp := fun vs H Q _ => ∃ (t : Addr) (ns : List Int), vs = [.ref t] ∧ SqL K H t (ns.map V.int) ∧ Q (.int (gl ns : Nat)) H
theorem ok_shared_of (T : Facts K mg) : FnOk P w K mg base CX0 1 T.f_shared_of T.fd_shared_of ["numbers"] (spSharedL K) := by
  refine T.F_shared_of.ok sc_shared_of (fun vs H Q E h => ?_) (fun cdv A outer s H vs Q E hr h => ?_)
  · obtain ⟨t, ns, rfl, _⟩ := h
    rfl
  · obtain ⟨t, ns, rfl, ht, q⟩ := h
    refine ⟨_, (PSs.nox (pss_cons (ps_set (i := 1) sc_shared_of.nd rfl (.inl rfl) pe_int)
    (pss_cons (ps_for PassesOwn.never (by rfl) (pi_list (pv 0)) (pg_name (i := 2) sc_shared_of.nd rfl (.inl rfl))
      (pss_one (ps_set (i := 1) sc_shared_of.nd rfl (.inl rfl) (pe_callBfun cr_gcd (by rfl) T.m_gcd (pa_cons (pv 1) (pa_cons (pv 2) pa_nil))))))
    (pss_one (ps_ret (pv 1)))))), ?_⟩
    refine ⟨_, rfl, t, rfl, ⟨_, ht⟩, for_list (xs := ns.map V.int) (fun i σ H' => ∃ y, σ = [some (.ref t), some (.int ((gl (ns.take i) : Nat) : Int)), y] ∧ H' = H) ⟨none, rfl, rfl⟩ (fun i σ H' _ hP => by rw [hP.choose_spec.2]; exact ht) (fun i x σ H' hx hP => ?_) (fun σ H' hP => ?_)⟩
    · obtain ⟨y, rfl, rfl⟩ := hP
      obtain ⟨hi, rfl⟩ := int_get hx
      refine ⟨_, rfl, _, rfl, _, _, rfl, some (.int (co ns i)), ?_, rfl⟩
      rw [take_snoc hi, gl_snoc]
      rfl
    · obtain ⟨y, rfl, rfl⟩ := hP
      rw [List.length_map, List.take_length]
      exact ⟨_, rfl, q⟩
def spFirstOf (K : PySem.W.Frag) (Ps : List Addr) : Sp := fun vs H Q _ => ∃ (t : Addr) (l : List Int), vs = [.ref t] ∧ SqL K H t (l.map V.int) ∧ Tg Ps H ∧ ∀ H', Sts Ps H H' → Tg Ps H' → Q (.int (foE l)) H'
theorem ok_first_of (T : Facts K mg) (TB_first_of : TabB base mg T.c_first_of T.P_first_of) (hP : T.P_first_of ∈ Ps) : FnOk P w K mg base CX0 1 T.f_first_of T.fd_first_of ["numbers"] (spFirstOf K Ps) := by
  refine HookT.okC T.F_first_of sc_first_of (fun vs H Q E h => ?_) (fun A outer s H vs Q E hr h => ?_)
  · obtain ⟨t, l, rfl, _⟩ := h
    rfl
  · obtain ⟨t, l, rfl, ht, hG, q⟩ := h
    refine ⟨_, (PSs.nox (pss_one (ps_ret (GenNl.pe_nextL hr (by rfl) T.z_next TB_first_of T.code_first_of (GenNx.genS_of rfl rfl (by decide +kernel) rfl rfl) (pv 0) (GenNx.test_ne0 rfl rfl))))), ?_⟩
    refine ⟨_, rfl, t, l, rfl, ht, hG _ hP, fun r H2 hr2 hT => ?_⟩
    have q2 := q H2 (tbd_sts hT hP) (tbd_tg hT hG)
    rw [← foE_of hr2] at q2
    exact q2
end
theorem lc_zipL {K : PySem.W.Frag} {a b : Addr} {xs ys : List V} {g : TG} {tt : TT} {te : TE} {vs : List Nat} {σ : L2.St} {H1 : Hp} {D : Addr} {Qd : Hp → Prop} (hl : xs.length = ys.length) (Pv : Nat → Hp → Prop) (h0 : Pv 0 (upd H1 D (.lst []))) (hq : ∀ i H, i ≤ xs.length → Pv i H → SqL K H a xs ∧ SqL K H b ys)
    (hs : ∀ (i : Nat) (x y : V) (T : Addr) (H : Hp), xs[i]? = some x → ys[i]? = some y → Pv i H → H T = none → g (.ref T) (wipe σ vs) (upd H T (.tup [x, y])) fun σ2 H2 => wipe σ2 vs = wipe σ vs ∧ tt σ2 H2 fun b H3 =>
      if b = true then te σ2 H3 fun y H4 => ∃ acc, H4 D = some (.lst acc) ∧ acc.length < sizeLine ∧ Pv (i + 1) (upd H4 D (.lst (acc ++ [y]))) else Pv (i + 1) H3) (hd : ∀ H, Pv xs.length H → Qd H) :
    ∃ W : Nat → Nat → Hp → Prop, (∃ m, W 0 m (upd H1 D (.lst []))) ∧ ∀ i m H, W i m H →
      ((Itz K a b).stop i H ∧ Qd H) ∨ ((Itz K a b).go i H ∧ ∃ Nx : Hp → Prop, (∀ H', Nx H' → ∃ m', m' < m ∧ W (i + 1) m' H') ∧ ∀ x H', (Itz K a b).yld i H x H' → g x (wipe σ vs) H' fun σ2 H2 => wipe σ2 vs = wipe σ vs ∧ tt σ2 H2 fun b H3 =>
        if b = true then te σ2 H3 fun y H4 => ∃ acc, H4 D = some (.lst acc) ∧ acc.length < sizeLine ∧ Nx (upd H4 D (.lst (acc ++ [y]))) else Nx H3) := by
  refine ⟨fun i m H => m = xs.length - i ∧ i ≤ xs.length ∧ Pv i H, ⟨xs.length, by simp, Nat.zero_le _, h0⟩, ?_⟩
  rintro i m H ⟨rfl, hi, p⟩
  obtain ⟨qx, qy⟩ := hq i H hi p
  by_cases hlt : i < xs.length
  · have hlt2 : i < ys.length := by omega
    have hx : xs[i]? = some xs[i] := List.getElem?_eq_getElem hlt
    have hy : ys[i]? = some ys[i] := List.getElem?_eq_getElem hlt2
    refine .inr ⟨⟨xs, ys, _, _, qx, qy, hx, hy⟩, Pv (i + 1), fun H' p' => ⟨xs.length - (i + 1), by omega, rfl, hlt, p'⟩, fun v H' y => ?_⟩
    obtain ⟨T, x', y', rfl, hT, rfl, f1, f2⟩ := y
    exact hs i x' y' T H (f1 xs qx) (f2 ys qy) p hT
  · have e : i = xs.length := by omega
    subst e
    exact .inl ⟨⟨xs, ys, qx, qy, Or.inl (Nat.le_refl _)⟩, hd H p⟩
def dv (l : List Int) (c : Int) : List Int := l.map fun x => x.fdiv c
theorem dv_tb (l : List Int) (c : Int) : (tb l.length fun k => (co l k).fdiv c) = dv l c := tb_map (fun x => x.fdiv c) l
def primE (l : List Int) : List Int := if gl l = 0 then l else dv l (if 0 < foE l then (gl l : Int) else -(gl l : Int))
def DivOk (l : List Int) : Prop := gl l ≠ 0 → ∀ x ∈ l, CDivQ x (gl l)
theorem cdivQ_neg {i j : Int} (h : CDivQ i j) : CDivQ i (-j) := ⟨fun e => h.1 (by omega), by rw [Int.natAbs_neg]; exact h.2⟩
theorem co_memE {l : List Int} {k : Nat} (h : k < l.length) : co l k ∈ l := by
  rw [co_get h]
  exact List.getElem_mem h
section
variable {P : Program} {w : World} {K : PySem.W.Frag} {mg : Str → Option Value} {base : Heap} {Ps : List Addr}
def spPrimL (Ps : List Addr) : Sp := fun vs H Q _ => ∃ (t : Addr) (l : List Int), vs = [.ref t] ∧ H t = some (ls l) ∧ l.length ≤ 100 ∧ DivOk l ∧ Tg Ps H ∧ ∀ p H', Sts Ps H H' → Tg Ps H' → H' p = some (ls (primE l)) → Q (.ref p) H'
theorem ok_primitive_of (T : Facts K mg) (TB_first_of : TabB base mg T.c_first_of T.P_first_of) (hP : T.P_first_of ∈ Ps) : FnOk P w K mg base CX0 2 T.f_primitive_of T.fd_primitive_of ["numbers"] (spPrimL Ps) := by
  have G_shared_of : FnOk P w K mg base CX0 1 T.f_shared_of T.fd_shared_of ["numbers"] (spSharedL K) := ok_shared_of T
  have G_first_of := ok_first_of (P := P) (w := w) (base := base) T TB_first_of hP
  refine T.F_primitive_of.ok sc_primitive_of (fun vs H Q E h => ?_) (fun cdv A outer s H vs Q E hr h => ?_)
  · obtain ⟨t, l, rfl, _⟩ := h
    rfl
  · obtain ⟨t, l, rfl, ht, hl, hdo, hG, q⟩ := h
    refine ⟨_, (PSs.nox (pss_cons (ps_set (i := 1) sc_primitive_of.nd rfl (.inr rfl) (pe_call G_shared_of hr (by rfl) T.g_shared_of T.F_shared_of.kp T.b_shared_of .nil pass0 (pa_cons (pv 0) pa_nil)))
    (pss_cons (ps_if (pt_cmpR op_eq (pv 1) pe_int (nomark _))
      (pss_one (ps_ret (pe_callTy call_list_of (by rfl) T.z_list (by decide +kernel) (pa_cons (pv 0) pa_nil))))
      pss_nil)
    (pss_cons (ps_set (i := 1) sc_primitive_of.nd rfl (.inr rfl) (pe_ifExp (pt_cmpR op_gt (pe_call G_first_of hr (by rfl) T.g_first_of T.F_first_of.kp T.b_first_of .nil pass0 (pa_cons (pv 0) pa_nil)) pe_int (nomark _)) (pv 1) (pe_un un_neg (pv 1))))
    (pss_one (ps_ret (pe_lc (own := [("number", 2)]) (g := (gName 2)) (tt := tYes) (by rfl) sc_primitive_of.nd (pi_list (pv 0)) (blkOk_by (N := N_primitive_of) (sc := defScope s_primitive_of) (by decide +kernel)) (fun _ _ _ _ _ => (pg_name (i := 2) sc_primitive_of.nd rfl (.inl rfl))) (fun _ _ _ _ _ => pts_nil) (fun _ _ _ _ _ => (pe_op FDivQ.op_fdivQ (pv 2) (pv 1)))))))))), ?_⟩
    refine ⟨_, rfl, t, l, rfl, SqL.of ht, _, rfl, rfl, _, rfl, ?_⟩
    by_cases c : gl l = 0
    · rw [decide_eq_true (show V.int ((gl l : Nat) : Int) = V.int 0 by rw [c]; rfl)]
      refine iteT ⟨_, rfl, t, l.map V.int, rfl, .inl (SqL.of ht), fun p hp => q p _ (Sts.of (same_upd0 hp)) (hG.same (same_upd0 hp)) ?_⟩
      unfold primE
      rw [if_pos c]
      exact upd_same
    · rw [decide_eq_false fun z => c (Int.natCast_eq_zero.mp (V.int.inj z))]
      refine iteF ⟨_, rfl, t, l, rfl, SqL.of ht, hG, fun H1 s1 g1 => ?_⟩
      have ht1 := s1.lst hG ht
      have fin : ∀ c2 : Int, primE l = dv l c2 → (∀ x ∈ l, CDivQ x c2) → ∀ D, H1 D = none → ∃ W : Nat → Nat → Hp → Prop, (∃ m, W 0 m (upd H1 D (.lst []))) ∧ ∀ i m H, W i m H →
          ((Itl K t).stop i H ∧ Q (.ref D) H) ∨ ((Itl K t).go i H ∧ ∃ Nx : Hp → Prop, (∀ H', Nx H' → ∃ m', m' < m ∧ W (i + 1) m' H') ∧ ∀ x H', (Itl K t).yld i H x H' → gName 2 x (wipe (List.set (L2.start N_primitive_of [V.ref t]) 1 (some (V.int c2))) [2]) H' fun σ2 H2 => wipe σ2 [2] = wipe (List.set (L2.start N_primitive_of [V.ref t]) 1 (some (V.int c2))) [2] ∧ tYes σ2 H2 fun b H3 =>
            if b = true then tOp (rI CDivQ fun i j => V.int (i.fdiv j)) (tVar 2) (tVar 1) σ2 H3 fun y H4 => ∃ acc, H4 D = some (.lst acc) ∧ acc.length < sizeLine ∧ Nx (upd H4 D (.lst (acc ++ [y]))) else Nx H3) := fun c2 e hc D hD => by
        refine lc_list (xs := l.map V.int) (fun j H' => H' = upd H1 D (.lst (tab j fun k => (co l k).fdiv c2))) rfl (fun j H' _ hP => ?_) (fun j x H' hx hP => ?_) (fun H' hP => ?_)
        · rw [hP]
          exact SqL.of (same_upd0 hD _ _ ht1)
        · subst hP
          obtain ⟨hj, rfl⟩ := int_get hx
          refine ⟨rfl, _, rfl, _, rfl, _, _, rfl, rfl, hc _ (co_memE hj), _, upd_same, ?_, ?_⟩
          · rw [tab_len]
            exact small1000 (by omega)
          · rw [upd_upd, ← tab_snoc]
        · subst hP
          rw [List.length_map]
          refine q D _ (s1.trans (Sts.of (same_upd0 hD))) (g1.same (same_upd0 hD)) ?_
          rw [upd_same, tab_tb, dv_tb, e]
      refine ⟨_, _, rfl, rfl, _, rfl, ?_⟩
      by_cases d : 0 < foE l
      · rw [decide_eq_true d]
        refine iteT ⟨_, rfl, _, rfl, t, rfl, ⟨_, SqL.of ht1⟩, fin _ ?_ (hdo c)⟩
        unfold primE
        rw [if_neg c, if_pos d]
      · rw [decide_eq_false d]
        refine iteF ⟨_, rfl, _, rfl, _, rfl, t, rfl, ⟨_, SqL.of ht1⟩, fin _ ?_ fun x hx => cdivQ_neg (hdo c x hx)⟩
        unfold primE
        rw [if_neg c, if_neg d]
def lf (row head : List Int) (p : Nat) : List Int :=
  tb row.length fun k => co row k * (co head p).fdiv (Nat.gcd (co head p).natAbs (co row p).natAbs : Nat) - (co row p).fdiv (Nat.gcd (co head p).natAbs (co row p).natAbs : Nat) * co head k
def less (row head : List Int) (p : Nat) : List Int := if co row p = 0 then row else if 1 < gl (lf row head p) then dv (lf row head p) (gl (lf row head p)) else lf row head p
structure LessOk (row head : List Int) (p : Nat) : Prop where
  c1 : CDivQ (co head p) (Nat.gcd (co head p).natAbs (co row p).natAbs : Nat)
  c2 : CDivQ (co row p) (Nat.gcd (co head p).natAbs (co row p).natAbs : Nat)
  m1 : ∀ k, k < row.length → CMulW (co row k) ((co head p).fdiv (Nat.gcd (co head p).natAbs (co row p).natAbs : Nat))
  m2 : ∀ k, k < row.length → CMulW ((co row p).fdiv (Nat.gcd (co head p).natAbs (co row p).natAbs : Nat)) (co head k)
  d : DivOk (lf row head p)
theorem sz2 : 2 ≤ sizeLine := by decide
end
def lless (row head : List Int) (p : Nat) : List Int := if 1 < gl (lf row head p) then dv (lf row head p) (gl (lf row head p)) else lf row head p
theorem lc_enumL {K : PySem.W.Frag} {a : Addr} {xs : List V} {g : TG} {tt : TT} {te : TE} {vs : List Nat} {σ : L2.St} {H1 : Hp} {D : Addr} {Qd : Hp → Prop} (Pv : Nat → Hp → Prop) (h0 : Pv 0 (upd H1 D (.lst []))) (hq : ∀ i H, i ≤ xs.length → Pv i H → SqL K H a xs)
    (hs : ∀ (i : Nat) (x : V) (T : Addr) (H : Hp), xs[i]? = some x → Pv i H → H T = none → g (.ref T) (wipe σ vs) (upd H T (.tup [.int (i : Nat), x])) fun σ2 H2 => wipe σ2 vs = wipe σ vs ∧ tt σ2 H2 fun b H3 =>
      if b = true then te σ2 H3 fun y H4 => ∃ acc, H4 D = some (.lst acc) ∧ acc.length < sizeLine ∧ Pv (i + 1) (upd H4 D (.lst (acc ++ [y]))) else Pv (i + 1) H3) (hd : ∀ H, Pv xs.length H → Qd H) :
    ∃ W : Nat → Nat → Hp → Prop, (∃ m, W 0 m (upd H1 D (.lst []))) ∧ ∀ i m H, W i m H →
      ((Ite K a).stop i H ∧ Qd H) ∨ ((Ite K a).go i H ∧ ∃ Nx : Hp → Prop, (∀ H', Nx H' → ∃ m', m' < m ∧ W (i + 1) m' H') ∧ ∀ x H', (Ite K a).yld i H x H' → g x (wipe σ vs) H' fun σ2 H2 => wipe σ2 vs = wipe σ vs ∧ tt σ2 H2 fun b H3 =>
        if b = true then te σ2 H3 fun y H4 => ∃ acc, H4 D = some (.lst acc) ∧ acc.length < sizeLine ∧ Nx (upd H4 D (.lst (acc ++ [y]))) else Nx H3) := by
  refine ⟨fun i m H => m = xs.length - i ∧ i ≤ xs.length ∧ Pv i H, ⟨xs.length, by simp, Nat.zero_le _, h0⟩, ?_⟩
  rintro i m H ⟨rfl, hi, p⟩
  have qx := hq i H hi p
  by_cases hlt : i < xs.length
  · have hx : xs[i]? = some xs[i] := List.getElem?_eq_getElem hlt
    refine .inr ⟨⟨xs, _, qx, hx⟩, Pv (i + 1), fun H' p' => ⟨xs.length - (i + 1), by omega, rfl, hlt, p'⟩, fun v H' y => ?_⟩
    obtain ⟨T, x', rfl, hT, rfl, f1⟩ := y
    exact hs i x' T H (f1 xs qx) p hT
  · have e : i = xs.length := by omega
    subst e
    exact .inl ⟨⟨xs, qx, Nat.le_refl _⟩, hd H p⟩
theorem ne_lintsL {K : PySem.W.Frag} {H : Hp} {a b : Addr} {xs ys : List Int} {Q : VK} (ha : SqL K H a (xs.map V.int)) (hb : SqL K H b (ys.map V.int)) (q : Q (.bl (!decide (xs = ys))) H) : rNeD K (.ref a) (.ref b) H Q := by
  refine ⟨.list (xs.map PyData.int), .list (ys.map PyData.int), .lst ha (dpAll_ints xs), .lst hb (dpAll_ints ys), shaped_lints xs, shaped_lints ys, ?_⟩
  rw [show PyData.eqv (.list (xs.map PyData.int)) (.list (ys.map PyData.int)) = decide (xs = ys) from eqvAll_ints xs ys]
  exact q
def RX (p : Addr → List Int → Prop) : List Addr → List (List Int) → Prop
  | [], [] => True
  | a :: as, r :: rs => p a r ∧ RX p as rs
  | _, _ => False
theorem RX.len {p : Addr → List Int → Prop} : ∀ {as : List Addr} {rs : List (List Int)}, RX p as rs → as.length = rs.length
  | [], [], _ => rfl
  | a :: as, r :: rs, h => congrArg (· + 1) (RX.len h.2)
theorem RX.imp {p q : Addr → List Int → Prop} (f : ∀ a r, p a r → q a r) : ∀ {as : List Addr} {rs : List (List Int)}, RX p as rs → RX q as rs
  | [], [], _ => True.intro
  | a :: as, r :: rs, h => ⟨f _ _ h.1, RX.imp f h.2⟩
theorem RX.app {p : Addr → List Int → Prop} {bs : List Addr} {ss : List (List Int)} (g : RX p bs ss) : ∀ {as : List Addr} {rs : List (List Int)}, RX p as rs → RX p (as ++ bs) (rs ++ ss)
  | [], [], _ => g
  | a :: as, r :: rs, h => ⟨h.1, RX.app g h.2⟩
theorem RX.get {p : Addr → List Int → Prop} : ∀ {as : List Addr} {rs : List (List Int)} {i : Nat}, RX p as rs → i < rs.length → ∃ a r, as[i]? = some a ∧ rs[i]? = some r ∧ p a r
  | [], [], _, _, h => absurd h (Nat.not_lt_zero _)
  | a :: as, r :: rs, 0, h, _ => ⟨a, r, rfl, rfl, h.1⟩
  | a :: as, r :: rs, i + 1, h, hi => by
    obtain ⟨b, s, e1, e2, k⟩ := RX.get (i := i) h.2 (Nat.lt_of_succ_lt_succ hi)
    exact ⟨b, s, by rw [List.getElem?_cons_succ]; exact e1, by rw [List.getElem?_cons_succ]; exact e2, k⟩
theorem RX.snoc {p : Addr → List Int → Prop} {as : List Addr} {rs : List (List Int)} {a : Addr} {r : List Int} (h : RX p as rs) (k : p a r) : RX p (as ++ [a]) (rs ++ [r]) := RX.app (bs := [a]) (ss := [r]) ⟨k, True.intro⟩ h
def RR (H : Hp) : List Addr → List (List Int) → Prop := RX fun a r => H a = some (ls r)
def RA (H : Hp) : List Addr → List (List Int) → Prop := RX fun a r => H a = some (tp r) ∨ H a = some (ls r)
def RT (H : Hp) : List Addr → List (List Int) → Prop := RX fun a r => H a = some (tp r)
theorem RR.same {H H' : Hp} {as : List Addr} {rs : List (List Int)} (h : RR H as rs) (s : Same H H') : RR H' as rs := RX.imp (fun a r e => s _ _ e) h
theorem RA.same {H H' : Hp} {as : List Addr} {rs : List (List Int)} (h : RA H as rs) (s : Same H H') : RA H' as rs := RX.imp (fun a r e => e.imp (s _ _) (s _ _)) h
theorem RX.impM {p q : Addr → List Int → Prop} : ∀ {as : List Addr} {rs : List (List Int)}, (∀ a ∈ as, ∀ r, p a r → q a r) → RX p as rs → RX q as rs
  | [], [], _, _ => True.intro
  | a :: as, r :: rs, f, h => ⟨f a List.mem_cons_self r h.1, RX.impM (fun b hb => f b (List.mem_cons_of_mem _ hb)) h.2⟩
theorem row_ne {H : Hp} {b D : Addr} {r : List Int} {xs : List Addr} (h : H b = some (ls r)) (hD : H D = some (.lst (xs.map V.ref))) (hx : xs ≠ []) : b ≠ D := fun e => by
  rw [e, hD] at h
  have h := HO.lst.inj (Option.some.inj h)
  cases xs with
  | nil => exact hx rfl
  | cons x xs =>
    cases r with
    | nil => cases h
    | cons y r => cases h
theorem row_ne2 {H : Hp} {b D : Addr} {r : List Int} {xs : List Addr} (h : H b = some (ls r)) (hD : H D = some (.lst (xs.map V.ref))) (hr : r ≠ []) : b ≠ D := fun e => by
  rw [e, hD] at h
  have h := HO.lst.inj (Option.some.inj h)
  cases r with
  | nil => exact hr rfl
  | cons y r =>
    cases xs with
    | nil => cases h
    | cons x xs => cases h
theorem RR.upd {H : Hp} {D : Addr} {o : HO} {xs as : List Addr} {rs : List (List Int)} (h : RR H as rs) (hD : H D = some (.lst (xs.map V.ref))) (hx : as ≠ [] → xs ≠ []) : RR (L2.upd H D o) as rs :=
  RX.impM (fun a ha r e => by rw [upd_ne (row_ne e hD (hx fun z => by rw [z] at ha; cases ha))]; exact e) h
def hix (left : List (List Int)) (p : Nat) : Option Nat := left.findIdx? fun r => co r p != 0
def stp (le : List Int → List Int → Nat → List Int) (p : Nat) (s : List (List Int) × List (List Int)) : List (List Int) × List (List Int) := match hix s.1 p with
  | none => s
  | some h => ((s.1.eraseIdx h).map fun r => le r (s.1.getD h []) p, (s.2.map fun r => le r (s.1.getD h []) p) ++ [s.1.getD h []])
def eS (le : List Int → List Int → Nat → List Int) (rows : List (List Int)) : Nat → List (List Int) × List (List Int)
  | 0 => (rows, [])
  | p + 1 => stp le p (eS le rows p)
def ech (le : List Int → List Int → Nat → List Int) (rows : List (List Int)) (w : Nat) : List (List Int) := (eS le rows w).2.map primE
structure EOk (le : List Int → List Int → Nat → List Int) (rows : List (List Int)) (w : Nat) : Prop where
  d : ∀ r ∈ (eS le rows w).2, DivOk r
  l : ∀ p, p < w → ∀ h, hix (eS le rows p).1 p = some h → ∀ r, (r ∈ (eS le rows p).1.eraseIdx h ∨ r ∈ (eS le rows p).2) → LessOk r ((eS le rows p).1.getD h []) p
theorem lc_rows {K : PySem.W.Frag} {a : Addr} {fs : List Addr} {R : List (List Int)} {f : List Int → List Int} {te : TE} {σ : L2.St} {k : Nat} {H1 : Hp} {D : Addr} {Qd : Hp → Prop} (hD : H1 D = none) (ha : H1 a = some (.lst (fs.map V.ref))) (hR : RR H1 fs R) (hl : R.length ≤ 100)
    (hw : ∀ x, wipe ((wipe σ [k]).set k (some x)) [k] = wipe σ [k])
    (hte : ∀ (ad : Addr) (r : List Int) (H2 : Hp) (Q : VK), r ∈ R → Same H1 H2 → H2 ad = some (ls r) → (∀ q H3, Same H2 H3 → H3 q = some (ls (f r)) → Q (.ref q) H3) → te ((wipe σ [k]).set k (some (.ref ad))) H2 Q)
    (hf : ∀ r ∈ R, f r ≠ []) (hd : ∀ bs H6, Same H1 H6 → H6 D = some (.lst (bs.map V.ref)) → RR H6 bs (R.map f) → Qd H6) :
    ∃ W : Nat → Nat → Hp → Prop, (∃ m, W 0 m (upd H1 D (.lst []))) ∧ ∀ i m H, W i m H →
      ((Itl K a).stop i H ∧ Qd H) ∨ ((Itl K a).go i H ∧ ∃ Nx : Hp → Prop, (∀ H', Nx H' → ∃ m', m' < m ∧ W (i + 1) m' H') ∧ ∀ x H', (Itl K a).yld i H x H' → gName k x (wipe σ [k]) H' fun σ2 H2 => wipe σ2 [k] = wipe σ [k] ∧ tYes σ2 H2 fun b H3 =>
        if b = true then te σ2 H3 fun y H4 => ∃ acc, H4 D = some (.lst acc) ∧ acc.length < sizeLine ∧ Nx (upd H4 D (.lst (acc ++ [y]))) else Nx H3) := by
  refine lc_list (xs := fs.map V.ref) (fun j H' => ∃ bs, Same H1 H' ∧ H' D = some (.lst (bs.map V.ref)) ∧ bs.length = j ∧ RR H' bs ((R.take j).map f)) ⟨[], same_upd0 hD, upd_same, rfl, True.intro⟩ (fun j H' _ hP => SqL.of (hP.choose_spec.1 _ _ ha)) (fun j x H' hx hP => ?_) (fun H' hP => ?_)
  · obtain ⟨bs, s1, h1, h2, h3⟩ := hP
    rw [List.getElem?_map] at hx
    obtain ⟨ad, had, rfl⟩ := Option.map_eq_some_iff.mp hx
    obtain ⟨ad', r, e1, e2, e3⟩ := RX.get hR (by rw [← hR.len]; exact (List.getElem?_eq_some_iff.mp had).1)
    rw [had] at e1
    cases e1
    have hj : j < R.length := (List.getElem?_eq_some_iff.mp e2).1
    refine ⟨hw _, ?_⟩
    show te _ _ _
    refine hte ad r H' _ (List.mem_of_getElem? e2) s1 (s1 _ _ e3) fun q H3 s3 e4 => ⟨bs.map V.ref, s3 _ _ h1, ?_, bs ++ [q], fun b o e => ?_, ?_, ?_, ?_⟩
    · rw [List.length_map, h2]
      exact small1000 (by omega)
    · rw [upd_ne (ne_of_none e hD)]
      exact s3 _ _ (s1 _ _ e)
    · rw [upd_same, List.map_append]
      rfl
    · rw [List.length_append, h2]
      rfl
    · rw [List.take_add_one, e2, List.map_append]
      refine RX.snoc (RR.upd (h3.same s3) (s3 _ _ h1) fun z => z) ?_
      show upd H3 D _ q = _
      by_cases hq : q = D
      · exact absurd hq (row_ne2 e4 (s3 _ _ h1) (hf r (List.mem_of_getElem? e2)))
      · rw [upd_ne hq]
        exact e4
  · obtain ⟨bs, s1, h1, h2, h3⟩ := hP
    rw [List.length_map, hR.len, List.take_length] at h3
    exact hd bs H' s1 h1 h3
theorem primE_len (l : List Int) : (primE l).length = l.length := by
  unfold primE dv
  split
  · rfl
  · rw [List.length_map]
theorem less_len (row head : List Int) (p : Nat) : (less row head p).length = row.length := by
  unfold less dv lf
  split
  · rfl
  · split
    · rw [List.length_map, tb_len]
    · rw [tb_len]
theorem stp_none {le : List Int → List Int → Nat → List Int} {p : Nat} {s : List (List Int) × List (List Int)} (h : hix s.1 p = none) : stp le p s = s := by
  unfold stp
  rw [h]
theorem stp_some {le : List Int → List Int → Nat → List Int} {p h : Nat} {s : List (List Int) × List (List Int)} (e : hix s.1 p = some h) : stp le p s = ((s.1.eraseIdx h).map fun r => le r (s.1.getD h []) p, (s.2.map fun r => le r (s.1.getD h []) p) ++ [s.1.getD h []]) := by
  unfold stp
  rw [e]
section
variable {P : Program} {w : World} {K : PySem.W.Frag} {mg : Str → Option Value} {base : Heap} {Ps : List Addr}
end
theorem lless_len (row head : List Int) (p : Nat) : (lless row head p).length = row.length := by
  unfold lless dv lf
  split
  · rw [List.length_map, tb_len]
  · rw [tb_len]
def ld (r : List Int) : Nat := r.findIdx (· != 0)
section
variable {P : Program} {w : World} {K : PySem.W.Frag} {mg : Str → Option Value} {base : Heap} {Ps : List Addr}
end
end K77

set_option Elab.async false
set_option linter.all false
/-! linear algebra over the integers, up to factors: spans, independence, numbers of rows -/
namespace LA
/-- sums -/
def S : Nat → (Nat → Int) → Int
  | 0, _ => 0
  | n + 1, f => S n f + f n
theorem S_congr {f g : Nat → Int} : ∀ {n : Nat}, (∀ i, i < n → f i = g i) → S n f = S n g
  | 0, _ => rfl
  | n + 1, h => by
    show S n f + f n = S n g + g n
    rw [S_congr fun i hi => h i (Nat.lt_succ_of_lt hi), h n (Nat.lt_succ_self n)]
theorem S_zero {f : Nat → Int} {n : Nat} (h : ∀ i, i < n → f i = 0) : S n f = 0 := by
  induction n with
  | zero => rfl
  | succ n ih =>
    show S n f + f n = 0
    rw [ih fun i hi => h i (Nat.lt_succ_of_lt hi), h n (Nat.lt_succ_self n)]
    rfl
theorem S_add (f g : Nat → Int) : ∀ n, S n (fun i => f i + g i) = S n f + S n g
  | 0 => rfl
  | n + 1 => by
    show S n _ + (f n + g n) = (S n f + f n) + (S n g + g n)
    rw [S_add f g n]
    omega
theorem S_mul (c : Int) (f : Nat → Int) : ∀ n, S n (fun i => c * f i) = c * S n f
  | 0 => (Int.mul_zero c).symm
  | n + 1 => by
    show S n _ + c * f n = c * (S n f + f n)
    rw [S_mul c f n, Int.mul_add]
theorem S_mulr (c : Int) (f : Nat → Int) (n : Nat) : S n (fun i => f i * c) = S n f * c := by
  rw [Int.mul_comm (S n f) c, ← S_mul c f n]
  exact S_congr fun i _ => Int.mul_comm _ _
theorem S_swap (f : Nat → Nat → Int) (m : Nat) : ∀ n, S n (fun i => S m (fun k => f i k)) = S m (fun k => S n (fun i => f i k))
  | 0 => (S_zero fun i _ => rfl).symm
  | n + 1 => by
    show S n _ + S m _ = _
    rw [S_swap f m n, ← S_add]
    rfl
/-- one alone -/
theorem S_one {f : Nat → Int} {n p : Nat} (hp : p < n) (h : ∀ i, i < n → i ≠ p → f i = 0) : S n f = f p := by
  induction n with
  | zero => exact absurd hp (Nat.not_lt_zero _)
  | succ n ih =>
    show S n f + f n = f p
    by_cases c : p = n
    · subst c
      rw [S_zero fun i hi => h i (Nat.lt_succ_of_lt hi) (Nat.ne_of_lt hi), Int.zero_add]
    · rw [ih (by omega) fun i hi hne => h i (Nat.lt_succ_of_lt hi) hne, h n (Nat.lt_succ_self n) (Ne.symm c), Int.add_zero]
/-- all but one: i, or i + 1 from p on -/
def sk (p i : Nat) : Nat := if i < p then i else i + 1
theorem S_skip (f : Nat → Int) (p : Nat) : ∀ n, p ≤ n → S (n + 1) f = f p + S n fun i => f (sk p i)
  | 0, h => by
    have : p = 0 := by omega
    subst this
    show 0 + f 0 = f 0 + 0
    omega
  | n + 1, h => by
    by_cases c : p = n + 1
    · subst c
      show S (n + 1) f + f (n + 1) = _
      rw [Int.add_comm]
      congr 1
      exact S_congr fun i hi => by
        unfold sk
        rw [if_pos hi]
    · show S (n + 1) f + f (n + 1) = f p + (S n (fun i => f (sk p i)) + f (sk p n))
      rw [S_skip f p n (by omega), show sk p n = n + 1 by unfold sk; rw [if_neg (by omega)]]
      omega
/-- more vectors than columns: they hang on one another -/
theorem dep : ∀ (m n : Nat) (x : Nat → Nat → Int), m < n → ∃ y : Nat → Int, (∃ i, i < n ∧ y i ≠ 0) ∧ ∀ j, j < m → S n (fun i => y i * x i j) = 0
  | 0, n, x, h => ⟨fun _ => 1, ⟨0, h, by decide⟩, fun j hj => absurd hj (Nat.not_lt_zero _)⟩
  | m + 1, n, x, h => by
    by_cases c : ∀ i, i < n → x i m = 0
    · obtain ⟨y, hy, he⟩ := dep m n x (by omega)
      refine ⟨y, hy, fun j hj => ?_⟩
      by_cases e : j = m
      · subst e
        exact S_zero fun i hi => by rw [c i hi, Int.mul_zero]
      · exact he j (by omega)
    · obtain ⟨p, hp⟩ := Classical.not_forall.mp c
      obtain ⟨hpn, hp0⟩ : p < n ∧ x p m ≠ 0 := ⟨Classical.byContradiction fun z => hp fun a => absurd a z, fun z => hp fun _ => z⟩
      obtain ⟨n', rfl⟩ : ∃ n', n = n' + 1 := ⟨n - 1, by omega⟩
      obtain ⟨y, ⟨i0, hi0, hy0⟩, he⟩ := dep m n' (fun i j => x p m * x (sk p i) j - x (sk p i) m * x p j) (by omega)
      have back : ∀ i, (if sk p i < p then sk p i else sk p i - 1) = i ∧ sk p i ≠ p := fun i => by
        unfold sk
        by_cases z : i < p
        · rw [if_pos z, if_pos z]
          exact ⟨rfl, by omega⟩
        · rw [if_neg z, if_neg (by omega)]
          exact ⟨by omega, by omega⟩
      let Y : Nat → Int := fun k => if k = p then - S n' (fun i => y i * x (sk p i) m) else x p m * y (if k < p then k else k - 1)
      have Yp : Y p = - S n' (fun i => y i * x (sk p i) m) := if_pos rfl
      have Ys : ∀ i, Y (sk p i) = x p m * y i := fun i => by
        show (if sk p i = p then _ else _) = _
        rw [if_neg (back i).2, (back i).1]
      refine ⟨Y, ⟨sk p i0, by unfold sk; split <;> omega, by rw [Ys]; exact Int.mul_ne_zero hp0 hy0⟩, fun j hj => ?_⟩
      have e0 : S n' (fun i => Y (sk p i) * x (sk p i) j) = S n' (fun i => x p m * y i * x (sk p i) j) := S_congr fun i _ => by rw [Ys i]
      rw [S_skip _ p n' (by omega), e0]
      show Y p * x p j + _ = 0
      rw [Yp]
      have e1 : S n' (fun i => x p m * y i * x (sk p i) j) = S n' (fun i => y i * (x p m * x (sk p i) j - x (sk p i) m * x p j)) + S n' (fun i => y i * x (sk p i) m) * x p j := by
        rw [← S_mulr, ← S_add]
        exact S_congr fun i _ => by grind
      rw [e1]
      by_cases e : j = m
      · subst e
        rw [S_zero (f := fun i => y i * (x p j * x (sk p i) j - x (sk p i) j * x p j)) fun i _ => by rw [Int.mul_comm (x p j), Int.sub_self, Int.mul_zero]]
        grind
      · rw [he j (by omega)]
        grind
/-- v, times a number other than 0, is a sum of multiples of m rows -/
def Sp (w m : Nat) (B : Nat → Nat → Int) (v : Nat → Int) : Prop := ∃ c : Int, c ≠ 0 ∧ ∃ a : Nat → Int, ∀ j, j < w → c * v j = S m (fun k => a k * B k j)
def Ind (w n : Nat) (A : Nat → Nat → Int) : Prop := ∀ a : Nat → Int, (∀ j, j < w → S n (fun i => a i * A i j) = 0) → ∀ i, i < n → a i = 0
/-- independent rows are not more than rows whose span holds them -/
theorem steinitz {w n m : Nat} {A B : Nat → Nat → Int} (hI : Ind w n A) (h : ∀ i, i < n → Sp w m B (A i)) : n ≤ m := by
  by_cases c : n ≤ m
  · exact c
  · exfalso
    have h' : ∀ i, ∃ c : Int, i < n → c ≠ 0 ∧ ∃ a : Nat → Int, ∀ j, j < w → c * A i j = S m (fun k => a k * B k j) := fun i => by
      by_cases hi : i < n
      · obtain ⟨c, hc, a, ha⟩ := h i hi
        exact ⟨c, fun _ => ⟨hc, a, ha⟩⟩
      · exact ⟨0, fun z => absurd z hi⟩
    obtain ⟨C, hC⟩ := Classical.axiomOfChoice h'
    have h2 : ∀ i, ∃ a : Nat → Int, i < n → ∀ j, j < w → C i * A i j = S m (fun k => a k * B k j) := fun i => by
      by_cases hi : i < n
      · obtain ⟨_, a, ha⟩ := hC i hi
        exact ⟨a, fun _ => ha⟩
      · exact ⟨fun _ => 0, fun z => absurd z hi⟩
    obtain ⟨a, ha⟩ := Classical.axiomOfChoice h2
    obtain ⟨y, ⟨i0, hi0, hy⟩, he⟩ := dep m n a (by omega)
    have z := hI (fun i => y i * C i) (fun j hj => by
      have e1 : S n (fun i => y i * C i * A i j) = S n (fun i => S m (fun k => y i * a i k * B k j)) := S_congr fun i hi => by
        rw [Int.mul_assoc, ha i hi j hj, ← S_mul]
        exact S_congr fun k _ => by rw [Int.mul_assoc]
      rw [e1, S_swap]
      exact S_zero fun k hk => by rw [S_mulr, he k hk, Int.zero_mul]) i0 hi0
    exact Int.mul_ne_zero hy (hC i0 hi0).1 z
theorem Sp.own {w m : Nat} {B : Nat → Nat → Int} {k : Nat} (hk : k < m) : Sp w m B (B k) := ⟨1, by decide, fun i => if i = k then 1 else 0, fun j _ => by
  rw [Int.one_mul, S_one hk fun i _ hne => by
    show (if i = k then (1 : Int) else 0) * B i j = 0
    rw [if_neg hne, Int.zero_mul]]
  show B k j = (if k = k then (1 : Int) else 0) * B k j
  rw [if_pos rfl, Int.one_mul]⟩
theorem Sp.zero {w m : Nat} {B : Nat → Nat → Int} {v : Nat → Int} (h : ∀ j, j < w → v j = 0) : Sp w m B v := ⟨1, by decide, fun _ => 0, fun j hj => by
  rw [h j hj, S_zero fun i _ => Int.zero_mul _]
  rfl⟩
theorem Sp.lin {w m : Nat} {B : Nat → Nat → Int} {u v : Nat → Int} (α β : Int) (h : Sp w m B u) (g : Sp w m B v) : Sp w m B fun j => α * u j + β * v j := by
  obtain ⟨c, hc, a, ha⟩ := h
  obtain ⟨d, hd, b, hb⟩ := g
  refine ⟨c * d, Int.mul_ne_zero hc hd, fun k => α * d * a k + β * c * b k, fun j hj => ?_⟩
  have e : S m (fun k => (α * d * a k + β * c * b k) * B k j) = α * d * S m (fun k => a k * B k j) + β * c * S m (fun k => b k * B k j) := by
    rw [← S_mul, ← S_mul, ← S_add]
    exact S_congr fun k _ => by grind
  rw [e, ← ha j hj, ← hb j hj]
  grind
theorem Sp.div {w m : Nat} {B : Nat → Nat → Int} {u v : Nat → Int} {c : Int} (hc : c ≠ 0) (h : Sp w m B u) (e : ∀ j, j < w → c * v j = u j) : Sp w m B v := by
  obtain ⟨d, hd, a, ha⟩ := h
  exact ⟨d * c, Int.mul_ne_zero hd hc, a, fun j hj => by rw [Int.mul_assoc, e j hj]; exact ha j hj⟩
theorem Sp.sum {w m' : Nat} {B B' : Nat → Nat → Int} (a : Nat → Int) : ∀ {m : Nat}, (∀ k, k < m → Sp w m' B' (B k)) → Sp w m' B' fun j => S m (fun k => a k * B k j)
  | 0, _ => .zero fun j _ => rfl
  | m + 1, h => by
    have q := Sp.lin 1 (a m) (Sp.sum a fun k hk => h k (Nat.lt_succ_of_lt hk)) (h m (Nat.lt_succ_self m))
    exact .div (c := 1) (by decide) q fun j _ => by rw [Int.one_mul, Int.one_mul]; rfl
/-- what is in the span of rows that are in a span -/
theorem Sp.trans {w m m' : Nat} {B B' : Nat → Nat → Int} {v : Nat → Int} (h : Sp w m B v) (g : ∀ k, k < m → Sp w m' B' (B k)) : Sp w m' B' v := by
  obtain ⟨c, hc, a, ha⟩ := h
  exact .div hc (Sp.sum a g) ha
/-- one factor for all -/
theorem common {w r : Nat} {E A : Nat → Nat → Int} : ∀ {n : Nat}, (∀ i, i < n → Sp w r E (A i)) → ∃ c : Int, c ≠ 0 ∧ ∃ a : Nat → Nat → Int, ∀ i, i < n → ∀ j, j < w → c * A i j = S r (fun k => a i k * E k j)
  | 0, _ => ⟨1, by decide, fun _ _ => 0, fun i hi => absurd hi (Nat.not_lt_zero _)⟩
  | n + 1, h => by
    obtain ⟨c, hc, a, ha⟩ := common (n := n) fun i hi => h i (Nat.lt_succ_of_lt hi)
    obtain ⟨d, hd, b, hb⟩ := h n (Nat.lt_succ_self n)
    refine ⟨c * d, Int.mul_ne_zero hc hd, fun i k => if i = n then c * b k else d * a i k, fun i hi j hj => ?_⟩
    by_cases e : i = n
    · subst e
      rw [S_congr (g := fun k => c * (b k * E k j)) fun k _ => by
        show (if i = i then c * b k else d * a i k) * E k j = _
        rw [if_pos rfl, Int.mul_assoc], S_mul, ← hb j hj, Int.mul_assoc]
    · rw [S_congr (g := fun k => d * (a i k * E k j)) fun k _ => by
        show (if i = n then c * b k else d * a i k) * E k j = _
        rw [if_neg e, Int.mul_assoc], S_mul, ← ha i (by omega) j hj, Int.mul_comm c d, Int.mul_assoc]
/-- rows with leads: E i is the only one that is not 0 at its lead -/
structure Ech (w r : Nat) (E : Nat → Nat → Int) (lead : Nat → Nat) : Prop where
  lt : ∀ i, i < r → lead i < w
  nz : ∀ i, i < r → E i (lead i) ≠ 0
  z : ∀ i k, i < r → k < r → k ≠ i → E k (lead i) = 0
theorem Ech.ind {w r : Nat} {E : Nat → Nat → Int} {lead : Nat → Nat} (h : Ech w r E lead) : Ind w r E := fun a ha i hi => by
  have e := ha (lead i) (h.lt i hi)
  rw [S_one hi fun k hk hne => by rw [h.z i k hi hk hne, Int.mul_zero]] at e
  rcases Int.mul_eq_zero.mp e with z | z
  · exact z
  · exact absurd z (h.nz i hi)
/-- the rows of A have the base E -/
structure Base (w n : Nat) (A : Nat → Nat → Int) (r : Nat) (E : Nat → Nat → Int) : Prop where
  ind : Ind w r E
  of : ∀ k, k < r → Sp w n A (E k)
  to : ∀ i, i < n → Sp w r E (A i)
theorem Base.same {w n r r' : Nat} {A E E' : Nat → Nat → Int} (h : Base w n A r E) (g : Base w n A r' E') : r = r' :=
  Nat.le_antisymm (steinitz h.ind fun k hk => (h.of k hk).trans g.to) (steinitz g.ind fun k hk => (g.of k hk).trans h.to)
/-- columns have no greater number -/
theorem Base.col {w n r r' : Nat} {A E E' : Nat → Nat → Int} (h : Base w n A r E) (g : Base n w (fun j i => A i j) r' E') : r' ≤ r := by
  obtain ⟨c, hc, a, ha⟩ := common h.to
  refine steinitz g.ind fun k hk => (g.of k hk).trans (B' := fun k i => a i k) fun j hj => ⟨c, hc, fun k => E k j, fun i hi => ?_⟩
  rw [ha i hi j hj]
  exact S_congr fun k _ => Int.mul_comm _ _
theorem Base.turned {w n r r' : Nat} {A E E' : Nat → Nat → Int} (h : Base w n A r E) (g : Base n w (fun j i => A i j) r' E') : r = r' :=
  Nat.le_antisymm (g.col h) (h.col g)
/-- rows that are sums of multiples of others -/
theorem Base.le {w n m r r' : Nat} {A B E E' : Nat → Nat → Int} (h : Base w n A r E) (g : Base w m B r' E') (s : ∀ i, i < n → Sp w m B (A i)) : r ≤ r' :=
  steinitz h.ind fun k hk => ((h.of k hk).trans s).trans g.to
theorem Base.ind_all {w n r : Nat} {A E : Nat → Nat → Int} (h : Base w n A r E) (hA : Ind w n A) : r = n :=
  Nat.le_antisymm (steinitz h.ind h.of) (steinitz hA h.to)
/-- what is 0 on rows is 0 on their span -/
theorem Sp.perp {w m : Nat} {B : Nat → Nat → Int} {v x : Nat → Int} (h : Sp w m B v) (hz : ∀ k, k < m → S w (fun j => x j * B k j) = 0) : S w (fun j => x j * v j) = 0 := by
  obtain ⟨c, hc, a, ha⟩ := h
  have e : c * S w (fun j => x j * v j) = 0 := by
    rw [← S_mul, S_congr (g := fun j => S m (fun k => a k * (x j * B k j))) fun j hj => by
      rw [← Int.mul_assoc, Int.mul_comm c, Int.mul_assoc, ha j hj, ← S_mul]
      exact S_congr fun k _ => by rw [← Int.mul_assoc, Int.mul_comm (x j), Int.mul_assoc], S_swap]
    exact S_zero fun k hk => by rw [S_mul, hz k hk, Int.mul_zero]
  exact (Int.mul_eq_zero.mp e).resolve_left hc
end LA

set_option Elab.async false
set_option linter.all false
/-! small solutions: more small rows than columns hang on one another by small factors -/
namespace LA
theorem pigeon : ∀ (N : Nat) (f : Nat → Nat), (∀ i, i < N + 1 → f i < N) → ∃ i j, i < j ∧ j < N + 1 ∧ f i = f j
  | 0, f, h => absurd (h 0 (Nat.lt_succ_self 0)) (Nat.not_lt_zero _)
  | N + 1, f, h => by
    by_cases c : ∃ i, i < N + 1 ∧ f i = f (N + 1)
    · obtain ⟨i, hi, e⟩ := c
      exact ⟨i, N + 1, hi, Nat.lt_succ_self _, e⟩
    · have ne : ∀ i, i < N + 1 → f i ≠ f (N + 1) := fun i hi e => c ⟨i, hi, e⟩
      have hl := h (N + 1) (Nat.lt_succ_self _)
      obtain ⟨i, j, hij, hj, e⟩ := pigeon N (fun i => if f i < f (N + 1) then f i else f i - 1) (fun i hi => by
        have h1 := ne i hi
        have h2 := h i (by omega)
        show (if f i < f (N + 1) then f i else f i - 1) < N
        split <;> omega)
      refine ⟨i, j, hij, by omega, ?_⟩
      have h1 := ne i (by omega)
      have h2 := ne j hj
      have e : (if f i < f (N + 1) then f i else f i - 1) = (if f j < f (N + 1) then f j else f j - 1) := e
      split at e <;> split at e <;> omega
/-- digits put together -/
def enc (b : Nat) : Nat → (Nat → Nat) → Nat
  | 0, _ => 0
  | n + 1, g => enc b n g + b ^ n * g n
theorem enc_lt {b : Nat} : ∀ {n : Nat} {g : Nat → Nat}, (∀ i, i < n → g i < b) → enc b n g < b ^ n
  | 0, g, _ => Nat.zero_lt_one
  | n + 1, g, h => by
    have h1 := enc_lt (n := n) fun i hi => h i (Nat.lt_succ_of_lt hi)
    have h2 := h n (Nat.lt_succ_self n)
    show enc b n g + b ^ n * g n < b ^ (n + 1)
    have h3 : b ^ n * (g n + 1) ≤ b ^ n * b := Nat.mul_le_mul_left _ h2
    have h4 : b ^ (n + 1) = b ^ n * b := rfl
    rw [Nat.mul_add, Nat.mul_one] at h3
    omega
theorem enc_inj {b : Nat} : ∀ {n : Nat} {f g : Nat → Nat}, (∀ i, i < n → f i < b) → (∀ i, i < n → g i < b) → enc b n f = enc b n g → ∀ i, i < n → f i = g i
  | 0, _, _, _, _, _ => fun i hi => absurd hi (Nat.not_lt_zero _)
  | n + 1, f, g, hf, hg, e => by
    have h1 := enc_lt (n := n) fun i hi => hf i (Nat.lt_succ_of_lt hi)
    have h2 := enc_lt (n := n) fun i hi => hg i (Nat.lt_succ_of_lt hi)
    have e : enc b n f + b ^ n * f n = enc b n g + b ^ n * g n := e
    have p : 0 < b ^ n := by omega
    have e1 : enc b n f = enc b n g := by
      have q : (enc b n f + b ^ n * f n) % b ^ n = (enc b n g + b ^ n * g n) % b ^ n := by rw [e]
      rwa [Nat.add_mul_mod_self_left, Nat.add_mul_mod_self_left, Nat.mod_eq_of_lt h1, Nat.mod_eq_of_lt h2] at q
    have e2 : f n = g n := Nat.eq_of_mul_eq_mul_left p (by omega)
    intro i hi
    by_cases c : i = n
    · rw [c]; exact e2
    · exact enc_inj (fun i hi => hf i (Nat.lt_succ_of_lt hi)) (fun i hi => hg i (Nat.lt_succ_of_lt hi)) e1 i (by omega)
theorem enc_dig (b t : Nat) : ∀ n, enc b n (fun i => t / b ^ i % b) = t % b ^ n
  | 0 => by
    show 0 = t % 1
    rw [Nat.mod_one]
  | n + 1 => by
    show enc b n _ + b ^ n * (t / b ^ n % b) = t % (b ^ n * b)
    rw [enc_dig b t n, Nat.mod_mul]
theorem S_abs {f : Nat → Int} {n : Nat} {B : Nat} (h : ∀ i, i < n → (f i).natAbs ≤ B) : (S n f).natAbs ≤ n * B := by
  induction n with
  | zero => exact Nat.zero_le _
  | succ n ih =>
    have h1 := ih fun i hi => h i (Nat.lt_succ_of_lt hi)
    have h2 := h n (Nat.lt_succ_self n)
    show (S n f + f n).natAbs ≤ (n + 1) * B
    have h3 := Int.natAbs_add_le (S n f) (f n)
    rw [Nat.succ_mul]
    omega
theorem siegel (m M : Nat) (x : Nat → Nat → Int) (hx : ∀ i, i < m + 1 → ∀ j, j < m → (x i j).natAbs ≤ M) :
    ∃ y : Nat → Int, (∃ i, i < m + 1 ∧ y i ≠ 0) ∧ (∀ i, (y i).natAbs ≤ (2 * (m + 1) * M + 1) ^ m) ∧ ∀ j, j < m → S (m + 1) (fun i => y i * x i j) = 0 := by
  generalize hY : (2 * (m + 1) * M + 1) ^ m = Y
  let d : Nat → Nat → Nat := fun t i => t / (Y + 1) ^ i % (Y + 1)
  have dl : ∀ t i, d t i < Y + 1 := fun t i => Nat.mod_lt _ (Nat.succ_pos _)
  let s : Nat → Nat → Int := fun t j => S (m + 1) fun i => (d t i : Int) * x i j
  have sb : ∀ t j, j < m → (s t j).natAbs ≤ (m + 1) * (Y * M) := fun t j hj => S_abs fun i hi => by
    rw [Int.natAbs_mul, Int.natAbs_natCast]
    exact Nat.mul_le_mul (Nat.le_of_lt_succ (dl t i)) (hx i hi j hj)
  generalize hC : (m + 1) * (Y * M) = C at sb
  let g : Nat → Nat → Nat := fun t j => (s t j + C).toNat
  have gl : ∀ t j, j < m → g t j < 2 * C + 1 := fun t j hj => by
    have := sb t j hj
    show (s t j + C).toNat < _
    omega
  have hW : (2 * C + 1) ^ m < (Y + 1) ^ (m + 1) := by
    have h1 : 2 * C + 1 ≤ (2 * (m + 1) * M + 1) * (Y + 1) := by
      have : 2 * C = 2 * (m + 1) * M * Y := by
        rw [← hC, Nat.mul_comm Y M, ← Nat.mul_assoc, ← Nat.mul_assoc]
      rw [this]
      generalize 2 * (m + 1) * M = q
      rw [Nat.add_mul, Nat.mul_add, Nat.one_mul, Nat.mul_one]
      omega
    have h2 := Nat.pow_le_pow_left h1 m
    rw [Nat.mul_pow, hY] at h2
    have h3 : 0 < (Y + 1) ^ m := Nat.pow_pos (Nat.succ_pos _)
    have h4 : (Y + 1) ^ (m + 1) = (Y + 1) ^ m * (Y + 1) := rfl
    rw [h4, Nat.mul_add, Nat.mul_one, Nat.mul_comm _ Y]
    omega
  obtain ⟨t, t', ht, ht', e⟩ := pigeon ((2 * C + 1) ^ m) (fun t => enc (2 * C + 1) m (g t)) fun t _ => enc_lt (gl t)
  have eg := enc_inj (gl t) (gl t') e
  refine ⟨fun i => (d t i : Int) - d t' i, ?_, fun i => ?_, fun j hj => ?_⟩
  · refine Classical.byContradiction fun c => ?_
    have same : ∀ i, i < m + 1 → d t i = d t' i := fun i hi => Classical.byContradiction fun z => c ⟨i, hi, by
      show (d t i : Int) - d t' i ≠ 0
      omega⟩
    have e1 := enc_dig (Y + 1) t (m + 1)
    have e2 := enc_dig (Y + 1) t' (m + 1)
    rw [Nat.mod_eq_of_lt (by omega)] at e1 e2
    have e3 : ∀ n, n ≤ m + 1 → enc (Y + 1) n (d t) = enc (Y + 1) n (d t') := fun n => by
      induction n with
      | zero => exact fun _ => rfl
      | succ n ih =>
        intro hn
        show enc (Y + 1) n (d t) + _ * d t n = enc (Y + 1) n (d t') + _ * d t' n
        rw [ih (by omega), same n (by omega)]
    have := e3 (m + 1) (Nat.le_refl _)
    have e1 : enc (Y + 1) (m + 1) (d t) = t := e1
    have e2 : enc (Y + 1) (m + 1) (d t') = t' := e2
    omega
  · have h1 := dl t i
    have h2 := dl t' i
    show ((d t i : Int) - d t' i).natAbs ≤ Y
    omega
  · have e1 : s t j = s t' j := by
      have q := eg j hj
      have h1 := sb t j hj
      have h2 := sb t' j hj
      have q : (s t j + C).toNat = (s t' j + C).toNat := q
      omega
    have e2 : S (m + 1) (fun i => ((d t i : Int) - d t' i) * x i j) = s t j + (-1) * s t' j := by
      show _ = S (m + 1) (fun i => (d t i : Int) * x i j) + (-1) * S (m + 1) (fun i => (d t' i : Int) * x i j)
      rw [← S_mul, ← S_add]
      exact S_congr fun i _ => by grind
    rw [e2, e1]
    omega
end LA

set_option Elab.async false
set_option linter.all false
set_option maxRecDepth 100000
set_option maxHeartbeats 4000000
set_option exponentiation.threshold 10000
namespace K77
open PySem PySem.Spec PyProof.Rows L2 StX RZ MyR SlX OwnR OwnF EnumT GxR GenNx FDivQ LA
theorem gl_iff {d : Nat} : ∀ (l : List Int) (a : Nat), d ∣ l.foldl (fun a x => Nat.gcd a x.natAbs) a ↔ d ∣ a ∧ ∀ x ∈ l, d ∣ x.natAbs
  | [], a => ⟨fun h => ⟨h, fun x hx => absurd hx List.not_mem_nil⟩, fun h => h.1⟩
  | y :: l, a => by
    rw [List.foldl_cons, gl_iff l]
    constructor
    · rintro ⟨h1, h2⟩
      refine ⟨Nat.dvd_trans h1 (Nat.gcd_dvd_left ..), fun x hx => ?_⟩
      rcases List.mem_cons.mp hx with rfl | hx
      · exact Nat.dvd_trans h1 (Nat.gcd_dvd_right ..)
      · exact h2 x hx
    · rintro ⟨h1, h2⟩
      exact ⟨Nat.dvd_gcd h1 (h2 y List.mem_cons_self), fun x hx => h2 x (List.mem_cons_of_mem _ hx)⟩
theorem gl_dvd {l : List Int} {x : Int} (h : x ∈ l) : gl l ∣ x.natAbs := ((gl_iff l 0).mp (Nat.dvd_refl _)).2 x h
theorem dvd_gl {l : List Int} {d : Nat} (h : ∀ x ∈ l, d ∣ x.natAbs) : d ∣ gl l := (gl_iff l 0).mpr ⟨Nat.dvd_zero _, h⟩
theorem mem_co {l : List Int} {x : Int} (h : x ∈ l) : ∃ k, k < l.length ∧ co l k = x := by
  obtain ⟨k, hk, e⟩ := List.mem_iff_getElem.mp h
  exact ⟨k, hk, by rw [co_get hk, e]⟩
theorem dvd_glc {l : List Int} {d : Nat} (h : ∀ k, k < l.length → d ∣ (co l k).natAbs) : d ∣ gl l := dvd_gl fun x hx => by
  obtain ⟨k, hk, e⟩ := mem_co hx
  rw [← e]
  exact h k hk
theorem gl_dvdc (l : List Int) (k : Nat) : gl l ∣ (co l k).natAbs := by
  by_cases h : k < l.length
  · exact gl_dvd (co_memE h)
  · rw [co_far (by omega)]
    exact Nat.dvd_zero _
theorem gl_zero {l : List Int} (h : gl l = 0) (k : Nat) : co l k = 0 := by
  have := gl_dvdc l k
  rw [h] at this
  have := Nat.eq_zero_of_zero_dvd this
  omega
theorem co_dv (l : List Int) (c : Int) (k : Nat) : co (dv l c) k = (co l k).fdiv c := by
  by_cases h : k < l.length
  · have h2 : k < (dv l c).length := by
      unfold dv
      rw [List.length_map]
      exact h
    rw [co_get h2, co_get h]
    exact List.getElem_map ..
  · rw [co_far (l := dv l c) (by unfold dv; rw [List.length_map]; omega), co_far (by omega), Int.zero_fdiv]
theorem fdiv_ex {x c : Int} (h : c ∣ x) : c * x.fdiv c = x := Int.mul_fdiv_cancel' h
theorem dv_ex {l : List Int} (h : gl l ≠ 0) (k : Nat) : (gl l : Int) * co (dv l (gl l)) k = co l k := by
  rw [co_dv]
  exact fdiv_ex (Int.ofNat_dvd_left.mpr (gl_dvdc l k))
theorem gl_dv {l : List Int} (h : gl l ≠ 0) : gl (dv l (gl l)) = 1 := by
  have q : gl l * gl (dv l (gl l)) ∣ gl l := dvd_glc fun k _ => by
    rw [← dv_ex h k, Int.natAbs_mul, Int.natAbs_natCast]
    exact Nat.mul_dvd_mul_left _ (gl_dvdc _ _)
  have hp : 0 < gl l := Nat.pos_of_ne_zero h
  have h1 : gl (dv l (gl l)) ∣ 1 := Nat.dvd_of_mul_dvd_mul_left hp (by rw [Nat.mul_one]; exact q)
  exact Nat.dvd_one.mp h1
theorem red_le {w : Nat} {v : List Int} {u : Nat → Int} {α β : Int} (hv : gl v ≤ 1) (hl : v.length = w) (hα : α ≠ 0) (h : ∀ j, j < w → α * co v j = β * u j) : ∀ j, j < w → (co v j).natAbs ≤ (u j).natAbs := by
  have hn : ∀ j, j < w → α.natAbs * (co v j).natAbs = β.natAbs * (u j).natAbs := fun j hj => by
    rw [← Int.natAbs_mul, ← Int.natAbs_mul, h j hj]
  have ha : 0 < α.natAbs := by omega
  generalize α.natAbs = a at hn ha
  generalize β.natAbs = b at hn
  have hg : 0 < Nat.gcd a b := Nat.gcd_pos_of_pos_left _ ha
  obtain ⟨a', ea⟩ := Nat.gcd_dvd_left a b
  obtain ⟨b', eb⟩ := Nat.gcd_dvd_right a b
  have cop : Nat.Coprime a' b' := by
    have e1 : a' = a / Nat.gcd a b := Nat.eq_div_of_mul_eq_right (by omega) ea.symm
    have e2 : b' = b / Nat.gcd a b := Nat.eq_div_of_mul_eq_right (by omega) eb.symm
    rw [e1, e2]
    exact Nat.coprime_div_gcd_div_gcd hg
  have hn2 : ∀ j, j < w → a' * (co v j).natAbs = b' * (u j).natAbs := fun j hj => by
    refine Nat.eq_of_mul_eq_mul_left hg ?_
    rw [← Nat.mul_assoc, ← Nat.mul_assoc, ← ea, ← eb]
    exact hn j hj
  have ha' : 0 < a' := by
    rcases Nat.eq_zero_or_pos a' with z | z
    · rw [z, Nat.mul_zero] at ea
      omega
    · exact z
  have hb : b' ∣ gl v := dvd_glc fun k hk => cop.symm.dvd_of_dvd_mul_left ⟨_, hn2 k (hl ▸ hk)⟩
  intro j hj
  rcases Nat.eq_zero_or_pos (gl v) with z | z
  · rw [gl_zero z]
    exact Nat.zero_le _
  · have e1 : gl v = 1 := by omega
    rw [e1] at hb
    have e2 := Nat.dvd_one.mp hb
    have q := hn2 j hj
    rw [e2, Nat.one_mul] at q
    rw [← q]
    exact Nat.le_mul_of_pos_left _ ha'
abbrev row (B : List (List Int)) (k : Nat) : Nat → Int := co (B.getD k [])
def SpM (w : Nat) (B : List (List Int)) (v : List Int) : Prop := Sp w B.length (row B) (co v)
theorem row_mem {B : List (List Int)} {x : List Int} (h : x ∈ B) : ∃ k, k < B.length ∧ row B k = co x := by
  obtain ⟨k, hk, e⟩ := List.mem_iff_getElem.mp h
  exact ⟨k, hk, by unfold row; rw [List.getD_eq_getElem?_getD, List.getElem?_eq_getElem hk, e]; rfl⟩
theorem mem_row {B : List (List Int)} {k : Nat} (h : k < B.length) : B.getD k [] ∈ B := by
  rw [List.getD_eq_getElem?_getD, List.getElem?_eq_getElem h]
  exact List.getElem_mem h
theorem SpM.own {w : Nat} {B : List (List Int)} {x : List Int} (h : x ∈ B) : SpM w B x := by
  obtain ⟨k, hk, e⟩ := row_mem h
  unfold SpM
  rw [← e]
  exact Sp.own hk
theorem SpM.trans {w : Nat} {B B' : List (List Int)} {v : List Int} (h : SpM w B v) (g : ∀ x ∈ B, SpM w B' x) : SpM w B' v :=
  Sp.trans h fun k hk => g _ (mem_row hk)
theorem SpM.mono {w : Nat} {B B' : List (List Int)} {v : List Int} (h : SpM w B v) (g : ∀ x ∈ B, x ∈ B') : SpM w B' v := h.trans fun x hx => SpM.own (g x hx)
theorem SpM.lin {w : Nat} {B : List (List Int)} {u v t : List Int} {c : Int} (α β : Int) (hc : c ≠ 0) (h : SpM w B u) (g : SpM w B v) (e : ∀ j, j < w → c * co t j = α * co u j + β * co v j) : SpM w B t :=
  Sp.div hc (Sp.lin α β h g) e
theorem SpM.zero {w : Nat} {B : List (List Int)} {v : List Int} (h : ∀ j, j < w → co v j = 0) : SpM w B v := Sp.zero h
theorem SpM.mul {w : Nat} {B : List (List Int)} {u t : List Int} {c α : Int} (hc : c ≠ 0) (h : SpM w B u) (e : ∀ j, j < w → c * co t j = α * co u j) : SpM w B t :=
  h.lin α 0 hc h fun j hj => by rw [e j hj, Int.zero_mul, Int.add_zero]
theorem ind_of {w n : Nat} {A B : Nat → Nat → Int} (hA : Ind w n A) (h : ∀ i, i < n → Sp w n B (A i)) : Ind w n B := fun a ha i0 hi0 => by
  refine Classical.byContradiction fun ne => ?_
  obtain ⟨m, rfl⟩ : ∃ m, n = m + 1 := ⟨n - 1, by omega⟩
  have key : ∀ k, k < m + 1 → Sp w m (fun i => B (sk i0 i)) (B k) := fun k hk => by
    by_cases c : k = i0
    · subst c
      refine ⟨a k, ne, fun i => - a (sk k i), fun j hj => ?_⟩
      have e := ha j hj
      rw [S_skip _ k m (by omega)] at e
      rw [S_congr (g := fun i => (-1) * (a (sk k i) * B (sk k i) j)) fun i _ => by rw [Int.neg_mul, Int.neg_mul, Int.one_mul], S_mul]
      omega
    · obtain ⟨i, hi, e⟩ : ∃ i, i < m ∧ sk i0 i = k := by
        by_cases d : k < i0
        · exact ⟨k, by omega, if_pos d⟩
        · exact ⟨k - 1, by omega, by unfold sk; rw [if_neg (by omega)]; omega⟩
      rw [← e]
      exact Sp.own hi
  have := steinitz hA fun i hi => (h i hi).trans key
  omega
def BdE (R M : Nat) : Nat := R * ((2 * R * M + 1) ^ (R - 1) * M)
theorem Bd_mono {R R' M : Nat} (h : R ≤ R') : BdE R M ≤ BdE R' M := by
  unfold BdE
  refine Nat.mul_le_mul h (Nat.mul_le_mul_right _ ?_)
  refine Nat.le_trans (Nat.pow_le_pow_left (Nat.add_le_add_right (Nat.mul_le_mul_right _ (Nat.mul_le_mul_left _ h)) 1) _) ?_
  exact Nat.pow_le_pow_right (Nat.succ_pos _) (by omega)
theorem Bd_le {R M : Nat} (h : 1 ≤ R) : M ≤ BdE R M := by
  unfold BdE
  have h1 : 0 < (2 * R * M + 1) ^ (R - 1) := Nat.pow_pos (Nat.succ_pos _)
  have h2 := Nat.mul_le_mul_right M (show 1 ≤ (2 * R * M + 1) ^ (R - 1) from h1)
  have h3 := Nat.mul_le_mul_right ((2 * R * M + 1) ^ (R - 1) * M) h
  omega
theorem bd_left {w r M : Nat} {B : Nat → Nat → Int} {P : Nat → Nat} {v : List Int} (hl : v.length = w) (hv : gl v ≤ 1) (hM : ∀ i, i < r + 1 → ∀ j, (B i j).natAbs ≤ M) (hP : ∀ k, k < r → P k < w) (hI : Ind r r fun k j => B k (P j)) (hs : Sp w (r + 1) B (co v)) (hz : ∀ k, k < r → co v (P k) = 0) :
    ∀ j, j < w → (co v j).natAbs ≤ BdE (r + 1) M := by
  obtain ⟨y, ⟨i0, hi0, hy0⟩, hyb, hy⟩ := siegel r M (fun i k => B i (P k)) fun i hi k hk => hM i hi _
  obtain ⟨c, hc, a, ha⟩ := hs
  have yr : y r ≠ 0 := fun z => by
    have q := hI y (fun k hk => by
      have e := hy k hk
      have e : S r (fun i => y i * B i (P k)) + y r * B r (P k) = 0 := e
      rw [z, Int.zero_mul, Int.add_zero] at e
      exact e)
    by_cases d : i0 = r
    · rw [d] at hy0
      exact hy0 z
    · exact hy0 (q i0 (by omega))
  have D : ∀ j, j < w → y r * (c * co v j) - a r * S (r + 1) (fun i => y i * B i j) = S r (fun i => (y r * a i - a r * y i) * B i j) := fun j hj => by
    rw [ha j hj, ← S_mul, ← S_mul]
    have e : S r (fun i => (y r * a i - a r * y i) * B i j) = S r (fun i => y r * (a i * B i j)) + (-1) * S r (fun i => a r * (y i * B i j)) := by
      rw [← S_mul, ← S_add]
      exact S_congr fun i _ => by grind
    rw [e]
    show S r _ + y r * (a r * B r j) - (S r _ + a r * (y r * B r j)) = _
    grind
  have dz := hI (fun i => y r * a i - a r * y i) fun k hk => by
    rw [← D (P k) (hP k hk), hz k hk, hy k hk]
    rw [Int.mul_zero, Int.mul_zero, Int.mul_zero]
    rfl
  refine fun j hj => Nat.le_trans (red_le (u := fun j => S (r + 1) (fun i => y i * B i j)) (α := y r * c) (β := a r) hv hl (Int.mul_ne_zero yr hc) (fun j hj => ?_) j hj) (S_abs fun i hi => ?_)
  · have e := D j hj
    rw [S_zero (f := fun i => (y r * a i - a r * y i) * B i j) fun i hi => by rw [dz i hi, Int.zero_mul]] at e
    rw [Int.mul_assoc]
    exact Int.sub_eq_zero.mp e
  · rw [Int.natAbs_mul]
    exact Nat.mul_le_mul (hyb i) (hM i hi j)
theorem bd_found {w m M : Nat} {B : Nat → Nat → Int} {P : Nat → Nat} {v : List Int} {i0 : Nat} (hl : v.length = w) (hv : gl v ≤ 1) (hM : ∀ i, i < m + 1 → ∀ j, (B i j).natAbs ≤ M) (hP : ∀ k, k < m + 1 → P k < w) (hI : Ind (m + 1) (m + 1) fun k j => B k (P j)) (hs : Sp w (m + 1) B (co v)) (hi0 : i0 < m + 1) (hz : ∀ k, k < m + 1 → k ≠ i0 → co v (P k) = 0) :
    ∀ j, j < w → (co v j).natAbs ≤ BdE (m + 1) M := by
  obtain ⟨y, ⟨i1, hi1, hy1⟩, hyb, hy⟩ := siegel m M (fun i k => B i (P (sk i0 k))) fun i hi k hk => hM i hi _
  obtain ⟨c, hc, a, ha⟩ := hs
  have uz : ∀ k, k < m + 1 → k ≠ i0 → S (m + 1) (fun i => y i * B i (P k)) = 0 := fun k hk hne => by
    obtain ⟨i, hi, e⟩ : ∃ i, i < m ∧ sk i0 i = k := by
      by_cases d : k < i0
      · exact ⟨k, by omega, if_pos d⟩
      · exact ⟨k - 1, by omega, by unfold sk; rw [if_neg (by omega)]; omega⟩
    have := hy i hi
    rw [e] at this
    exact this
  have u0 : S (m + 1) (fun i => y i * B i (P i0)) ≠ 0 := fun z => hy1 (hI y (fun k hk => by
    by_cases d : k = i0
    · rw [d]
      exact z
    · exact uz k hk d) i1 hi1)
  generalize hU : S (m + 1) (fun i => y i * B i (P i0)) = U at u0
  have D : ∀ j, j < w → U * (c * co v j) - c * co v (P i0) * S (m + 1) (fun i => y i * B i j) = S (m + 1) (fun i => (U * a i - c * co v (P i0) * y i) * B i j) := fun j hj => by
    rw [ha j hj, ← S_mul, ← S_mul]
    have e : S (m + 1) (fun i => (U * a i - c * co v (P i0) * y i) * B i j) = S (m + 1) (fun i => U * (a i * B i j)) + (-1) * S (m + 1) (fun i => c * co v (P i0) * (y i * B i j)) := by
      rw [← S_mul, ← S_add]
      exact S_congr fun i _ => by grind
    rw [e]
    omega
  have dz := hI (fun i => U * a i - c * co v (P i0) * y i) fun k hk => by
    rw [← D (P k) (hP k hk)]
    by_cases d : k = i0
    · rw [d, hU]
      grind
    · rw [hz k hk d, uz k hk d]
      rw [Int.mul_zero, Int.mul_zero, Int.mul_zero]
      rfl
  refine fun j hj => Nat.le_trans (red_le (u := fun j => S (m + 1) (fun i => y i * B i j)) (α := U * c) (β := c * co v (P i0)) hv hl (Int.mul_ne_zero u0 hc) (fun j hj => ?_) j hj) (S_abs fun i hi => ?_)
  · have e := D j hj
    rw [S_zero (f := fun i => (U * a i - c * co v (P i0) * y i) * B i j) fun i hi => by rw [dz i hi, Int.zero_mul]] at e
    rw [Int.mul_assoc]
    exact Int.sub_eq_zero.mp e
  · rw [Int.natAbs_mul]
    exact Nat.mul_le_mul (hyb i) (hM i hi j)
structure LeP (le : List Int → List Int → Nat → List Int) : Prop where
  lin : ∀ row head p, co head p ≠ 0 → row.length = head.length → ∃ c : Int, c ≠ 0 ∧ ∀ j, c * co (le row head p) j = co head p * co row j - co row p * co head j
  len : ∀ row head p, (le row head p).length = row.length
  red : ∀ row head p, gl (le row head p) ≤ 1 ∨ le row head p = row
theorem lf_lin {row head : List Int} {p : Nat} (h : co head p ≠ 0) (hl : row.length = head.length) (j : Nat) : ((Nat.gcd (co head p).natAbs (co row p).natAbs : Nat) : Int) * co (lf row head p) j = co head p * co row j - co row p * co head j := by
  unfold lf
  have d1 : ((Nat.gcd (co head p).natAbs (co row p).natAbs : Nat) : Int) ∣ co head p := Int.ofNat_dvd_left.mpr (Nat.gcd_dvd_left ..)
  have d2 : ((Nat.gcd (co head p).natAbs (co row p).natAbs : Nat) : Int) ∣ co row p := Int.ofNat_dvd_left.mpr (Nat.gcd_dvd_right ..)
  have e1 := fdiv_ex d1
  have e2 := fdiv_ex d2
  generalize ((Nat.gcd (co head p).natAbs (co row p).natAbs : Nat) : Int) = g at e1 e2 ⊢
  rw [co_tb]
  by_cases hj : j < row.length
  · rw [if_pos hj]
    grind
  · rw [if_neg hj, co_far (l := row) (by omega), co_far (l := head) (i := j) (by omega), Int.mul_zero, Int.mul_zero, Int.mul_zero]
    rfl
theorem gcd_ne {a b : Int} (h : a ≠ 0) : ((Nat.gcd a.natAbs b.natAbs : Nat) : Int) ≠ 0 := by
  have := Nat.gcd_pos_of_pos_left b.natAbs (show 0 < a.natAbs by omega)
  omega
theorem lless_lin {row head : List Int} {p : Nat} (h : co head p ≠ 0) (hl : row.length = head.length) : ∃ c : Int, c ≠ 0 ∧ ∀ j, c * co (lless row head p) j = co head p * co row j - co row p * co head j := by
  unfold lless
  have g0 := gcd_ne (b := co row p) h
  by_cases d : 1 < gl (lf row head p)
  · rw [if_pos d]
    refine ⟨_, Int.mul_ne_zero g0 (show ((gl (lf row head p) : Nat) : Int) ≠ 0 by omega), fun j => ?_⟩
    rw [Int.mul_assoc, dv_ex (by omega), lf_lin h hl]
  · rw [if_neg d]
    exact ⟨_, g0, lf_lin h hl⟩
theorem lless_red (row head : List Int) (p : Nat) : gl (lless row head p) ≤ 1 := by
  unfold lless
  by_cases d : 1 < gl (lf row head p)
  · rw [if_pos d, gl_dv (by omega)]
    exact Nat.le_refl _
  · rw [if_neg d]
    omega
theorem less_eq {row head : List Int} {p : Nat} (h : co row p ≠ 0) : less row head p = lless row head p := by
  unfold less lless
  rw [if_neg h]
theorem less_id {row head : List Int} {p : Nat} (h : co row p = 0) : less row head p = row := by
  unfold less
  rw [if_pos h]
theorem lePL : LeP lless := ⟨fun _ _ _ h hl => lless_lin h hl, lless_len, fun _ _ _ => .inl (lless_red ..)⟩
theorem lePP : LeP less := ⟨fun row head p h hl => by
  by_cases c : co row p = 0
  · rw [less_id c]
    exact ⟨_, h, fun j => by rw [c, Int.zero_mul, Int.sub_zero]⟩
  · rw [less_eq c]
    exact lless_lin h hl, less_len, fun row head p => by
  by_cases c : co row p = 0
  · exact .inr (less_id c)
  · rw [less_eq c]
    exact .inl (lless_red ..)⟩
structure Inv (w : Nat) (rows : List (List Int)) (p : Nat) (left found Hh : List (List Int)) (P : List Nat) : Prop where
  hr : ∀ x ∈ Hh, x ∈ rows
  hl : Hh.length = found.length
  pl : P.length = found.length
  lf : ∀ r ∈ left, ∃ x ∈ rows, SpM w (Hh ++ [x]) r
  ff : ∀ r ∈ found, SpM w Hh r
  lz : ∀ r ∈ left, ∀ j, j < p → co r j = 0
  pp : ∀ k, k < found.length → P.getD k 0 < p
  nz : ∀ k, k < found.length → row found k (P.getD k 0) ≠ 0
  z : ∀ i k, i < found.length → k < found.length → k ≠ i → row found k (P.getD i 0) = 0
  be : ∀ k, k < found.length → ∀ j, j < P.getD k 0 → row found k j = 0
  rd : ∀ r, r ∈ left ∨ r ∈ found → gl r ≤ 1 ∨ r ∈ rows
  rv : ∀ x ∈ rows, SpM w (found ++ left) x
  ll : ∀ r, r ∈ left ∨ r ∈ found → r.length = w
theorem row_app {A : List (List Int)} {x : List Int} {k : Nat} : row (A ++ [x]) k = if k < A.length then row A k else if k = A.length then co x else co [] := by
  unfold row
  rw [List.getD_eq_getElem?_getD, List.getD_eq_getElem?_getD]
  by_cases h : k < A.length
  · rw [if_pos h, List.getElem?_append_left h]
  · rw [if_neg h, List.getElem?_append_right (by omega)]
    by_cases e : k = A.length
    · rw [if_pos e, e, Nat.sub_self]
      rfl
    · rw [if_neg e, List.getElem?_eq_none (by show 1 ≤ _; omega)]
      rfl
theorem row_map {A : List (List Int)} {f : List Int → List Int} {k : Nat} (h : k < A.length) : row (A.map f) k = co (f (A.getD k [])) := by
  unfold row
  rw [List.getD_eq_getElem?_getD, List.getD_eq_getElem?_getD, List.getElem?_map, List.getElem?_eq_getElem h]
  rfl
theorem getD_app {P : List Nat} {x k : Nat} : (P ++ [x]).getD k 0 = if k < P.length then P.getD k 0 else if k = P.length then x else 0 := by
  rw [List.getD_eq_getElem?_getD, List.getD_eq_getElem?_getD]
  by_cases h : k < P.length
  · rw [if_pos h, List.getElem?_append_left h]
  · rw [if_neg h, List.getElem?_append_right (by omega)]
    by_cases e : k = P.length
    · rw [if_pos e, e, Nat.sub_self]
      rfl
    · rw [if_neg e, List.getElem?_eq_none (by show 1 ≤ _; omega)]
      rfl
theorem hix_some {left : List (List Int)} {p h : Nat} (e : hix left p = some h) : h < left.length ∧ co (left.getD h []) p ≠ 0 := by
  obtain ⟨hh, h1, _⟩ := List.findIdx?_eq_some_iff_getElem.mp e
  refine ⟨hh, ?_⟩
  rw [List.getD_eq_getElem?_getD, List.getElem?_eq_getElem hh]
  show co left[h] p ≠ 0
  simpa using h1
theorem hix_none {left : List (List Int)} {p : Nat} (e : hix left p = none) : ∀ r ∈ left, co r p = 0 := fun r hr => by
  have := List.findIdx?_eq_none_iff.mp e r hr
  simpa using this
theorem Inv.init {w : Nat} {rows : List (List Int)} (hw : ∀ r ∈ rows, r.length = w) : Inv w rows 0 rows [] [] [] :=
  ⟨fun x hx => absurd hx List.not_mem_nil, rfl, rfl, fun r hr => ⟨r, hr, SpM.own (by simp)⟩, fun r hr => absurd hr List.not_mem_nil, fun r _ j hj => absurd hj (Nat.not_lt_zero _), fun k hk => absurd hk (Nat.not_lt_zero _), fun k hk => absurd hk (Nat.not_lt_zero _), fun i k hi => absurd hi (Nat.not_lt_zero _), fun k hk => absurd hk (Nat.not_lt_zero _), fun r hr => .inr (hr.resolve_right List.not_mem_nil), fun x hx => SpM.own (by simpa using hx), fun r hr => hw r (hr.resolve_right List.not_mem_nil)⟩
theorem Inv.none {w p : Nat} {rows left found Hh : List (List Int)} {P : List Nat} (I : Inv w rows p left found Hh P) (e : hix left p = none) : Inv w rows (p + 1) left found Hh P :=
  ⟨I.hr, I.hl, I.pl, I.lf, I.ff, fun r hr j hj => by
    by_cases c : j = p
    · rw [c]
      exact hix_none e r hr
    · exact I.lz r hr j (by omega), fun k hk => Nat.lt_succ_of_lt (I.pp k hk), I.nz, I.z, I.be, I.rd, I.rv, I.ll⟩
theorem Inv.some {le : List Int → List Int → Nat → List Int} (hle : LeP le) {w p h : Nat} {rows left found Hh : List (List Int)} {P : List Nat} (I : Inv w rows p left found Hh P) (hp : p < w) (e : hix left p = .some h) :
    ∃ x, Inv w rows (p + 1) ((left.eraseIdx h).map fun r => le r (left.getD h []) p) ((found.map fun r => le r (left.getD h []) p) ++ [left.getD h []]) (Hh ++ [x]) (P ++ [p]) := by
  obtain ⟨hh, hd⟩ := hix_some e
  have hm : left.getD h [] ∈ left := mem_row hh
  generalize hH : left.getD h [] = hed at hd hm
  obtain ⟨x, hx, hs⟩ := I.lf hed hm
  have hlen := I.ll hed (.inl hm)
  have sub : ∀ r ∈ left.eraseIdx h, r ∈ left := fun r hr => List.mem_of_mem_eraseIdx hr
  have lin : ∀ r, r ∈ left ∨ r ∈ found → ∃ c : Int, c ≠ 0 ∧ ∀ j, c * co (le r hed p) j = co hed p * co r j - co r p * co hed j := fun r hr => hle.lin r hed p hd (by rw [I.ll r hr, hlen])
  have van : ∀ r, r ∈ left ∨ r ∈ found → ∀ j, co r j = 0 → co hed j = 0 → co (le r hed p) j = 0 := fun r hr j h1 h2 => by
    obtain ⟨c, hc, q⟩ := lin r hr
    have := q j
    rw [h1, h2, Int.mul_zero, Int.mul_zero] at this
    exact (Int.mul_eq_zero.mp this).resolve_left hc
  have vanp : ∀ r, r ∈ left ∨ r ∈ found → co (le r hed p) p = 0 := fun r hr => by
    obtain ⟨c, hc, q⟩ := lin r hr
    have := q p
    rw [Int.mul_comm (co hed p), Int.sub_self] at this
    · exact (Int.mul_eq_zero.mp this).resolve_left hc
  have keep : ∀ r, r ∈ left ∨ r ∈ found → ∀ j, co r j ≠ 0 → co hed j = 0 → co (le r hed p) j ≠ 0 := fun r hr j h1 h2 z => by
    obtain ⟨c, hc, q⟩ := lin r hr
    have := q j
    rw [z, h2, Int.mul_zero, Int.mul_zero, Int.sub_zero] at this
    rcases Int.mul_eq_zero.mp this.symm with z | z
    · exact hd z
    · exact h1 z
  have hz : ∀ j, j < p → co hed j = 0 := I.lz hed hm
  have fl : (found.map fun r => le r hed p).length = found.length := List.length_map ..
  have rw1 : ∀ k, k < found.length → row ((found.map fun r => le r hed p) ++ [hed]) k = co (le (found.getD k []) hed p) := fun k hk => by
    rw [row_app, fl, if_pos hk, row_map hk]
  have rw2 : row ((found.map fun r => le r hed p) ++ [hed]) found.length = co hed := by
    rw [row_app, fl, if_neg (Nat.lt_irrefl _), if_pos rfl]
  have pw1 : ∀ k, k < found.length → (P ++ [p]).getD k 0 = P.getD k 0 := fun k hk => by rw [getD_app, I.pl, if_pos hk]
  have pw2 : (P ++ [p]).getD found.length 0 = p := by rw [getD_app, I.pl, if_neg (Nat.lt_irrefl _), if_pos rfl]
  have nl : ((found.map fun r => le r hed p) ++ [hed]).length = found.length + 1 := by
    rw [List.length_append, fl]
    rfl
  refine ⟨x, fun y hy => ?_, ?_, ?_, fun r hr => ?_, fun r hr => ?_, fun r hr j hj => ?_, fun k hk => ?_, fun k hk => ?_, fun i k hi hk hne => ?_, fun k hk j hj => ?_, fun r hr => ?_, fun y hy => ?_, fun r hr => ?_⟩
  · rcases List.mem_append.mp hy with hy | hy
    · exact I.hr y hy
    · rw [List.mem_singleton.mp hy]
      exact hx
  · rw [List.length_append, List.length_append, fl, I.hl]
    rfl
  · rw [List.length_append, List.length_append, fl, I.pl]
    rfl
  · obtain ⟨r0, hr0, rfl⟩ := List.mem_map.mp hr
    obtain ⟨y, hy, hs2⟩ := I.lf r0 (sub r0 hr0)
    obtain ⟨c, hc, q⟩ := lin r0 (.inl (sub r0 hr0))
    refine ⟨y, hy, SpM.lin (co hed p) (- co r0 p) hc (hs2.mono fun z hz => ?_) (hs.mono fun z hz => ?_) fun j _ => by rw [q j, Int.neg_mul, Int.sub_eq_add_neg]⟩
    · simp only [List.mem_append, List.mem_singleton] at hz ⊢
      rcases hz with hz | hz
      · exact .inl (.inl hz)
      · exact .inr hz
    · exact List.mem_append.mpr (.inl hz)
  · rcases List.mem_append.mp hr with hr | hr
    · obtain ⟨r0, hr0, rfl⟩ := List.mem_map.mp hr
      obtain ⟨c, hc, q⟩ := lin r0 (.inr hr0)
      exact SpM.lin (co hed p) (- co r0 p) hc ((I.ff r0 hr0).mono fun z hz => List.mem_append.mpr (.inl hz)) hs fun j _ => by rw [q j, Int.neg_mul, Int.sub_eq_add_neg]
    · rw [List.mem_singleton.mp hr]
      exact hs
  · obtain ⟨r0, hr0, rfl⟩ := List.mem_map.mp hr
    by_cases c : j = p
    · rw [c]
      exact vanp r0 (.inl (sub r0 hr0))
    · exact van r0 (.inl (sub r0 hr0)) j (I.lz r0 (sub r0 hr0) j (by omega)) (hz j (by omega))
  · rw [nl] at hk
    by_cases c : k = found.length
    · rw [c, pw2]
      exact Nat.lt_succ_self _
    · rw [pw1 k (by omega)]
      exact Nat.lt_succ_of_lt (I.pp k (by omega))
  · rw [nl] at hk
    by_cases c : k = found.length
    · rw [c, pw2, rw2]
      exact hd
    · have hk : k < found.length := by omega
      rw [pw1 k hk, rw1 k hk]
      exact keep _ (.inr (mem_row hk)) _ (I.nz k hk) (hz _ (I.pp k hk))
  · rw [nl] at hi hk
    by_cases c : k = found.length
    · have hi : i < found.length := by omega
      rw [c, rw2, pw1 i hi]
      exact hz _ (I.pp i hi)
    · have hk : k < found.length := by omega
      rw [rw1 k hk]
      by_cases d : i = found.length
      · rw [d, pw2]
        exact vanp _ (.inr (mem_row hk))
      · have hi : i < found.length := by omega
        rw [pw1 i hi]
        exact van _ (.inr (mem_row hk)) _ (I.z i k hi hk hne) (hz _ (I.pp i hi))
  · rw [nl] at hk
    by_cases c : k = found.length
    · rw [c, pw2] at hj
      rw [c, rw2]
      exact hz j hj
    · have hk : k < found.length := by omega
      rw [pw1 k hk] at hj
      rw [rw1 k hk]
      exact van _ (.inr (mem_row hk)) _ (I.be k hk j hj) (hz j (Nat.lt_trans hj (I.pp k hk)))
  · have key : ∀ r0, r0 ∈ left ∨ r0 ∈ found → gl (le r0 hed p) ≤ 1 ∨ le r0 hed p ∈ rows := fun r0 h0 => by
      rcases hle.red r0 hed p with g | g
      · exact .inl g
      · rw [g]
        exact I.rd r0 h0
    rcases hr with hr | hr
    · obtain ⟨r0, hr0, rfl⟩ := List.mem_map.mp hr
      exact key r0 (.inl (sub r0 hr0))
    · rcases List.mem_append.mp hr with hr | hr
      · obtain ⟨r0, hr0, rfl⟩ := List.mem_map.mp hr
        exact key r0 (.inr hr0)
      · rw [List.mem_singleton.mp hr]
        exact I.rd hed (.inl hm)
  · refine (I.rv y hy).trans fun r hr => ?_
    have hin : SpM w (((found.map fun r => le r hed p) ++ [hed]) ++ ((left.eraseIdx h).map fun r => le r hed p)) hed := SpM.own (by simp)
    have back : ∀ r0, r0 ∈ left ∨ r0 ∈ found → le r0 hed p ∈ ((found.map fun r => le r hed p) ++ [hed]) ++ ((left.eraseIdx h).map fun r => le r hed p) → SpM w (((found.map fun r => le r hed p) ++ [hed]) ++ ((left.eraseIdx h).map fun r => le r hed p)) r0 := fun r0 h0 hm0 => by
      obtain ⟨c, hc, q⟩ := lin r0 h0
      exact SpM.lin c (co r0 p) hd (SpM.own hm0) hin fun j _ => by rw [q j]; omega
    rcases List.mem_append.mp hr with hr | hr
    · exact back r (.inr hr) (List.mem_append.mpr (.inl (List.mem_append.mpr (.inl (List.mem_map.mpr ⟨r, hr, rfl⟩)))))
    · obtain ⟨i, hi, ei⟩ := List.mem_iff_getElem.mp hr
      by_cases c : i = h
      · have : r = hed := by
          rw [← ei, ← hH, List.getD_eq_getElem?_getD]
          subst c
          rw [List.getElem?_eq_getElem hi]
          rfl
        rw [this]
        exact hin
      · exact back r (.inl hr) (List.mem_append.mpr (.inr (List.mem_map.mpr ⟨r, List.mem_eraseIdx_iff_getElem.mpr ⟨i, hi, c, ei⟩, rfl⟩)))
  · have key : ∀ r0, r0 ∈ left ∨ r0 ∈ found → (le r0 hed p).length = w := fun r0 h0 => by
      rw [hle.len]
      exact I.ll r0 h0
    rcases hr with hr | hr
    · obtain ⟨r0, hr0, rfl⟩ := List.mem_map.mp hr
      exact key r0 (.inl (sub r0 hr0))
    · rcases List.mem_append.mp hr with hr | hr
      · obtain ⟨r0, hr0, rfl⟩ := List.mem_map.mp hr
        exact key r0 (.inr hr0)
      · rw [List.mem_singleton.mp hr]
        exact hlen
theorem inv {le : List Int → List Int → Nat → List Int} (hle : LeP le) {w : Nat} {rows : List (List Int)} (hw : ∀ r ∈ rows, r.length = w) : ∀ p, p ≤ w → ∃ Hh P, Inv w rows p (eS le rows p).1 (eS le rows p).2 Hh P
  | 0, _ => ⟨[], [], Inv.init hw⟩
  | p + 1, hp => by
    obtain ⟨Hh, P, I⟩ := inv hle hw p (by omega)
    show ∃ Hh P, Inv w rows (p + 1) (stp le p (eS le rows p)).1 (stp le p (eS le rows p)).2 Hh P
    cases e : hix (eS le rows p).1 p with
    | none =>
      rw [stp_none e]
      exact ⟨Hh, P, I.none e⟩
    | some h =>
      rw [stp_some e]
      obtain ⟨x, J⟩ := I.some hle (by omega) e
      exact ⟨_, _, J⟩
theorem Inv.ind {w p : Nat} {rows left found Hh : List (List Int)} {P : List Nat} (I : Inv w rows p left found Hh P) (hp : p ≤ w) : Ind found.length found.length fun k j => row Hh k (P.getD j 0) := by
  refine ind_of (A := fun k j => row found k (P.getD j 0)) ?_ fun i hi => ?_
  · exact Ech.ind (lead := fun i => i) ⟨fun i hi => hi, fun i hi => I.nz i hi, fun i k hi hk hne => I.z i k hi hk hne⟩
  · obtain ⟨c, hc, a, ha⟩ := I.ff _ (mem_row hi)
    rw [I.hl] at ha
    exact ⟨c, hc, a, fun j hj => ha _ (Nat.lt_of_lt_of_le (I.pp j hj) hp)⟩
theorem co_bd {rows : List (List Int)} {M : Nat} (hM : ∀ r ∈ rows, ∀ x ∈ r, x.natAbs ≤ M) {r : List Int} (hr : r ∈ rows) (j : Nat) : (co r j).natAbs ≤ M := by
  by_cases h : j < r.length
  · exact hM r hr _ (co_memE h)
  · rw [co_far (by omega)]
    exact Nat.zero_le _
theorem Inv.bd {w p M : Nat} {rows left found Hh : List (List Int)} {P : List Nat} (I : Inv w rows p left found Hh P) (hp : p ≤ w) (hM : ∀ r ∈ rows, ∀ x ∈ r, x.natAbs ≤ M) (hc : left.length + found.length = rows.length) :
    ∀ r, r ∈ left ∨ r ∈ found → ∀ j, (co r j).natAbs ≤ BdE rows.length M := fun r hr j => by
  by_cases hj : j < w
  · rcases I.rd r hr with hv | hv
    · rcases hr with hr | hr
      · obtain ⟨x, hx, hs⟩ := I.lf r hr
        have hp1 := List.length_pos_of_mem hr
        refine Nat.le_trans (bd_left (r := found.length) (B := row (Hh ++ [x])) (P := fun k => P.getD k 0) (I.ll r (.inl hr)) hv (fun i hi j => ?_) (fun k hk => Nat.lt_of_lt_of_le (I.pp k hk) hp) (fun a ha => I.ind hp a fun k hk => ?_) ?_ (fun k hk => I.lz r hr _ (I.pp k hk)) j hj) (Bd_mono (by omega))
        · rw [row_app, I.hl]
          by_cases c : i < found.length
          · rw [if_pos c]
            exact co_bd hM (I.hr _ (mem_row (by rw [I.hl]; exact c))) j
          · rw [if_neg c, if_pos (by omega)]
            exact co_bd hM hx j
        · rw [← ha k hk]
          exact S_congr fun i hi => by
            show _ = a i * row (Hh ++ [x]) i (P.getD k 0)
            rw [row_app, I.hl, if_pos hi]
        · unfold SpM at hs
          rw [List.length_append, I.hl] at hs
          exact hs
      · obtain ⟨i0, hi0, e⟩ := row_mem hr
        obtain ⟨m, hm⟩ : ∃ m, found.length = m + 1 := ⟨found.length - 1, by omega⟩
        have hI := I.ind hp
        have hs := I.ff r hr
        unfold SpM at hs
        rw [I.hl] at hs
        rw [hm] at hI hs hi0
        refine Nat.le_trans (bd_found (B := row Hh) (P := fun k => P.getD k 0) (i0 := i0) (I.ll r (.inr hr)) hv (fun i hi j => co_bd hM (I.hr _ (mem_row (by rw [I.hl, hm]; exact hi))) j) (fun k hk => Nat.lt_of_lt_of_le (I.pp k (by omega)) hp) hI hs hi0 (fun k hk hne => ?_) j hj) (Bd_mono (by omega))
        rw [← e]
        exact I.z k i0 (by omega) (by omega) (Ne.symm hne)
    · exact Nat.le_trans (co_bd hM hv j) (Bd_le (List.length_pos_of_mem hv))
  · rw [co_far (by rw [I.ll r hr]; omega)]
    exact Nat.zero_le _
theorem quot_le {c q x : Int} (h : c * q = x) (hc : c ≠ 0) : q.natAbs ≤ x.natAbs := by
  rw [← h, Int.natAbs_mul]
  exact Nat.le_mul_of_pos_left _ (by omega)
theorem log_lt {n k : Nat} (h : n < 2 ^ k) (hk : 0 < k) : n.log2 < k := by
  by_cases h0 : n = 0
  · rw [h0, Nat.log2_zero]
    exact hk
  · exact (Nat.log2_lt h0).mpr h
theorem gl_mul (c : Int) : ∀ (l : List Int) (a : Nat), (l.map (c * ·)).foldl (fun a x => Nat.gcd a x.natAbs) (c.natAbs * a) = c.natAbs * l.foldl (fun a x => Nat.gcd a x.natAbs) a
  | [], _ => rfl
  | x :: l, a => by
    rw [List.map_cons, List.foldl_cons, List.foldl_cons, Int.natAbs_mul, Nat.gcd_mul_left]
    exact gl_mul c l _
theorem gl_scale (c : Int) (l : List Int) : gl (l.map (c * ·)) = c.natAbs * gl l := gl_mul c l 0
theorem co_scale (c : Int) (l : List Int) (j : Nat) : co (l.map (c * ·)) j = c * co l j := by
  by_cases h : j < l.length
  · rw [co_get (by rw [List.length_map]; exact h), co_get h, List.getElem_map]
  · rw [co_far (by rw [List.length_map]; omega), co_far (by omega), Int.mul_zero]
theorem gl0_of {l : List Int} (h : ∀ j, co l j = 0) : gl l = 0 := Nat.eq_zero_of_zero_dvd (dvd_glc fun k _ => by rw [h k]; exact Nat.dvd_refl _)
theorem ld_char {l : List Int} {k : Nat} (h : co l k ≠ 0) (hz : ∀ j, j < k → co l j = 0) : ld l = k := by
  have hk : k < l.length := by
    refine Classical.byContradiction fun c => h (co_far (by omega))
  unfold ld
  refine (List.findIdx_eq hk).mpr ⟨?_, fun j hj => ?_⟩
  · rw [← co_get hk]
    simpa using h
  · have := hz j hj
    rw [co_get (by omega)] at this
    simpa using this
theorem fo_ld : ∀ {l : List Int}, (∃ k, co l k ≠ 0) → foE l = co l (ld l) ∧ co l (ld l) ≠ 0 ∧ ∀ j, j < ld l → co l j = 0
  | [], ⟨k, h⟩ => absurd (co_far (Nat.zero_le _)) h
  | x :: l, ⟨k, h⟩ => by
    by_cases c : x = 0
    · have hk : ∃ k, co l k ≠ 0 := by
        cases k with
        | zero => exact absurd c h
        | succ k => exact ⟨k, h⟩
      obtain ⟨h1, h2, h3⟩ := fo_ld hk
      have e1 : foE (x :: l) = foE l := by
        unfold foE
        rw [List.find?_cons_of_neg (by simp [c])]
      have e2 : ld (x :: l) = ld l + 1 := ld_char (l := x :: l) (k := ld l + 1) h2 fun j hj => by
        cases j with
        | zero => exact c
        | succ j => exact h3 j (by omega)
      rw [e1, e2]
      refine ⟨h1, h2, fun j hj => ?_⟩
      cases j with
      | zero => exact c
      | succ j => exact h3 j (by omega)
    · have e1 : foE (x :: l) = x := by
        unfold foE
        rw [List.find?_cons_of_pos (by simp [c])]
        rfl
      have e2 : ld (x :: l) = 0 := ld_char (l := x :: l) (k := 0) c fun j hj => absurd hj (Nat.not_lt_zero _)
      rw [e1, e2]
      exact ⟨rfl, c, fun j hj => absurd hj (Nat.not_lt_zero _)⟩
def pf (l : List Int) : Int := if gl l = 0 then 1 else if 0 < foE l then (gl l : Int) else -(gl l : Int)
theorem pf_ne (l : List Int) : pf l ≠ 0 := by
  unfold pf
  split
  · decide
  · split <;> omega
theorem prim_ex (l : List Int) (j : Nat) : pf l * co (primE l) j = co l j := by
  unfold pf primE
  by_cases c : gl l = 0
  · rw [if_pos c, if_pos c, Int.one_mul]
  · rw [if_neg c, if_neg c, co_dv]
    refine fdiv_ex ?_
    have := Int.ofNat_dvd_left.mpr (gl_dvdc l j)
    split
    · exact this
    · exact Int.neg_dvd.mpr this
theorem prim_le (l : List Int) (j : Nat) : (co (primE l) j).natAbs ≤ (co l j).natAbs := quot_le (prim_ex l j) (pf_ne l)
def Pq (w : Nat) (r r' : List Int) : Prop := r.length = w ∧ r'.length = w ∧ ∃ α β : Int, α ≠ 0 ∧ β ≠ 0 ∧ ∀ j, α * co r j = β * co r' j
theorem Pq.zero {w : Nat} {r r' : List Int} (h : Pq w r r') (j : Nat) : co r j = 0 ↔ co r' j = 0 := by
  obtain ⟨_, _, α, β, ha, hb, e⟩ := h
  have := e j
  constructor <;> intro z <;> rw [z, Int.mul_zero] at this
  · exact (Int.mul_eq_zero.mp this.symm).resolve_left hb
  · exact (Int.mul_eq_zero.mp this).resolve_left ha
theorem sq_pos {a : Int} (h : a ≠ 0) : 0 < a * a := by
  rcases Int.lt_or_gt_of_ne h with z | z
  · exact Int.mul_pos_of_neg_of_neg z z
  · exact Int.mul_pos z z
theorem prim_pq {w : Nat} {r r' : List Int} (h : Pq w r r') : primE r = primE r' := by
  have hz := h.zero
  obtain ⟨hl, hl', α, β, ha, hb, e⟩ := h
  by_cases c : gl r = 0
  · have c' : gl r' = 0 := gl0_of fun j => (hz j).mp (gl_zero c j)
    unfold primE
    rw [if_pos c, if_pos c']
    exact co_inj (hl.trans hl'.symm) fun j => by rw [gl_zero c j, gl_zero c' j]
  · have c' : gl r' ≠ 0 := fun z => c (gl0_of fun j => (hz j).mpr (gl_zero z j))
    have ex : ∀ l : List Int, gl l ≠ 0 → ∃ k, co l k ≠ 0 := fun l hl => Classical.byContradiction fun z => hl (gl0_of fun j => Classical.byContradiction fun q => z ⟨j, q⟩)
    obtain ⟨f1, f2, f3⟩ := fo_ld (ex r c)
    obtain ⟨g1, g2, g3⟩ := fo_ld (ex r' c')
    have el : ld r' = ld r := ld_char (fun z => f2 ((hz _).mpr z)) fun j hj => (hz j).mp (f3 j hj)
    have e0 : α * foE r = β * foE r' := by rw [f1, g1, el]; exact e _
    have eg : α.natAbs * gl r = β.natAbs * gl r' := by
      rw [← gl_scale, ← gl_scale]
      refine congrArg gl (co_inj (by rw [List.length_map, List.length_map, hl, hl']) fun j => ?_)
      rw [co_scale, co_scale]
      exact e j
    have s1 : 0 < pf r * foE r := by
      unfold pf
      rw [if_neg c]
      split
      · exact Int.mul_pos (by omega) ‹_›
      · exact Int.mul_pos_of_neg_of_neg (by omega) (by omega)
    have s2 : 0 < pf r' * foE r' := by
      unfold pf
      rw [if_neg c']
      split
      · exact Int.mul_pos (by omega) ‹_›
      · exact Int.mul_pos_of_neg_of_neg (by omega) (by omega)
    have n1 : (α * pf r).natAbs = (β * pf r').natAbs := by
      have q : ∀ l, gl l ≠ 0 → (pf l).natAbs = gl l := fun l hl => by
        unfold pf
        rw [if_neg hl]
        split <;> omega
      rw [Int.natAbs_mul, Int.natAbs_mul, q r c, q r' c', eg]
    have z0 : α * foE r ≠ 0 := Int.mul_ne_zero ha (by omega)
    have t1 : 0 < α * pf r * (α * foE r) := by
      have : α * pf r * (α * foE r) = α * α * (pf r * foE r) := by grind
      rw [this]
      exact Int.mul_pos (sq_pos ha) s1
    have t2 : 0 < β * pf r' * (α * foE r) := by
      rw [e0]
      have : β * pf r' * (β * foE r') = β * β * (pf r' * foE r') := by grind
      rw [this]
      exact Int.mul_pos (sq_pos hb) s2
    have key : α * pf r = β * pf r' := by
      rcases Int.natAbs_eq_natAbs_iff.mp n1 with q | q
      · exact q
      · exfalso
        rw [q, Int.neg_mul] at t1
        omega
    refine co_inj (by rw [primE_len, primE_len, hl, hl']) fun j => ?_
    have a1 := prim_ex r j
    have a2 := prim_ex r' j
    have q : α * pf r * co (primE r) j = α * pf r * co (primE r') j := by
      rw [Int.mul_assoc, a1, e j, ← a2, ← Int.mul_assoc, key]
    exact Int.eq_of_mul_eq_mul_left (Int.mul_ne_zero ha (pf_ne r)) q
def PL (w : Nat) : List (List Int) → List (List Int) → Prop
  | [], [] => True
  | a :: as, b :: bs => Pq w a b ∧ PL w as bs
  | _, _ => False
theorem PL.hix {w p : Nat} : ∀ {A B : List (List Int)}, PL w A B → hix A p = hix B p
  | [], [], _ => rfl
  | a :: as, b :: bs, h => by
    have ih := PL.hix (p := p) h.2
    unfold K77.hix at ih ⊢
    rw [List.findIdx?_cons, List.findIdx?_cons, ih]
    have : (co a p != 0) = (co b p != 0) := by
      by_cases c : co a p = 0
      · rw [c, (h.1.zero p).mp c]
      · have c2 : co b p ≠ 0 := fun z => c ((h.1.zero p).mpr z)
        rw [bne_iff_ne.mpr c, bne_iff_ne.mpr c2]
    rw [this]
theorem PL.get {w : Nat} : ∀ {A B : List (List Int)} {k : Nat}, PL w A B → k < A.length → Pq w (A.getD k []) (B.getD k [])
  | [], [], _, _, hk => absurd hk (Nat.not_lt_zero _)
  | a :: as, b :: bs, 0, h, _ => h.1
  | a :: as, b :: bs, k + 1, h, hk => PL.get (k := k) h.2 (Nat.lt_of_succ_lt_succ hk)
theorem PL.map {w : Nat} {f g : List Int → List Int} (hf : ∀ a b, Pq w a b → Pq w (f a) (g b)) : ∀ {A B : List (List Int)}, PL w A B → PL w (A.map f) (B.map g)
  | [], [], _ => True.intro
  | a :: as, b :: bs, h => ⟨hf _ _ h.1, PL.map hf h.2⟩
theorem PL.app {w : Nat} {a b : List Int} (h : Pq w a b) : ∀ {A B : List (List Int)}, PL w A B → PL w (A ++ [a]) (B ++ [b])
  | [], [], _ => ⟨h, True.intro⟩
  | a :: as, b :: bs, g => ⟨g.1, PL.app h g.2⟩
theorem PL.rf {w : Nat} : ∀ {A : List (List Int)}, (∀ a ∈ A, a.length = w) → PL w A A
  | [], _ => True.intro
  | a :: as, h => ⟨⟨h a List.mem_cons_self, h a List.mem_cons_self, 1, 1, by decide, by decide, fun _ => rfl⟩, PL.rf fun b hb => h b (List.mem_cons_of_mem _ hb)⟩
theorem PL.primE {w : Nat} : ∀ {A B : List (List Int)}, PL w A B → A.map primE = B.map primE
  | [], [], _ => rfl
  | a :: as, b :: bs, h => by
    rw [List.map_cons, List.map_cons, prim_pq h.1, PL.primE h.2]
structure Told (w M : Nat) (rows T : List (List Int)) : Prop where
  len : ∀ t ∈ T, t.length = w
  lt : ∀ t ∈ T, ld t < w
  nz : ∀ t ∈ T, co t (ld t) ≠ 0
  z : ∀ i k, i < T.length → k < T.length → k ≠ i → row T k (ld (T.getD i [])) = 0
  base : Base w rows.length (row rows) T.length (row T)
  bd : ∀ t ∈ T, ∀ j, (co t j).natAbs ≤ BdE T.length M
theorem getD_map {A : List (List Int)} {f : List Int → List Int} {k : Nat} (h : k < A.length) : (A.map f).getD k [] = f (A.getD k []) := by
  rw [List.getD_eq_getElem?_getD, List.getD_eq_getElem?_getD, List.getElem?_map, List.getElem?_eq_getElem h]
  rfl
theorem told {le : List Int → List Int → Nat → List Int} (hle : LeP le) {w M : Nat} {rows : List (List Int)} (hw : ∀ r ∈ rows, r.length = w) (hM : ∀ r ∈ rows, ∀ x ∈ r, x.natAbs ≤ M) : Told w M rows (ech le rows w) := by
  obtain ⟨Hh, P, I⟩ := inv hle hw w (Nat.le_refl _)
  unfold ech
  generalize (eS le rows w).1 = left at I
  generalize (eS le rows w).2 = found at I
  have hz : ∀ (r : List Int) (j : Nat), co (primE r) j = 0 ↔ co r j = 0 := fun r j => by
    have := prim_ex r j
    constructor <;> intro z <;> rw [z] at this
    · rw [Int.mul_zero] at this
      exact this.symm
    · exact (Int.mul_eq_zero.mp this).resolve_left (pf_ne r)
  have hld : ∀ k, k < found.length → ld (primE (found.getD k [])) = P.getD k 0 := fun k hk => ld_char (fun z => I.nz k hk ((hz _ _).mp z)) fun j hj => (hz _ _).mpr (I.be k hk j hj)
  have mem : ∀ t ∈ found.map primE, ∃ k, k < found.length ∧ t = primE (found.getD k []) := fun t ht => by
    obtain ⟨r, hr, rfl⟩ := List.mem_map.mp ht
    obtain ⟨k, hk, e⟩ := List.mem_iff_getElem.mp hr
    exact ⟨k, hk, by rw [List.getD_eq_getElem?_getD, List.getElem?_eq_getElem hk, e]; rfl⟩
  have z' : ∀ i k, i < (found.map primE).length → k < (found.map primE).length → k ≠ i → row (found.map primE) k (ld ((found.map primE).getD i [])) = 0 := fun i k hi hk hne => by
    rw [List.length_map] at hi hk
    rw [row_map hk, getD_map hi, hld i hi]
    exact (hz _ _).mpr (I.z i k hi hk hne)
  have nz' : ∀ k, k < (found.map primE).length → row (found.map primE) k (ld ((found.map primE).getD k [])) ≠ 0 := fun k hk => by
    rw [List.length_map] at hk
    rw [row_map hk, getD_map hk, hld k hk]
    exact fun z => I.nz k hk ((hz _ _).mp z)
  have lt' : ∀ k, k < (found.map primE).length → ld ((found.map primE).getD k []) < w := fun k hk => by
    rw [List.length_map] at hk
    rw [getD_map hk, hld k hk]
    exact I.pp k hk
  refine ⟨fun t ht => ?_, fun t ht => ?_, fun t ht => ?_, z', ⟨?_, fun k hk => ?_, fun i hi => ?_⟩, fun t ht j => ?_⟩
  · obtain ⟨k, hk, rfl⟩ := mem t ht
    rw [primE_len]
    exact I.ll _ (.inr (mem_row hk))
  · obtain ⟨k, hk, rfl⟩ := mem t ht
    rw [hld k hk]
    exact I.pp k hk
  · obtain ⟨k, hk, rfl⟩ := mem t ht
    rw [hld k hk]
    exact fun z => I.nz k hk ((hz _ _).mp z)
  · exact Ech.ind (lead := fun k => ld ((found.map primE).getD k [])) ⟨lt', nz', z'⟩
  · rw [List.length_map] at hk
    rw [row_map hk]
    have h1 : SpM w rows (found.getD k []) := (I.ff _ (mem_row hk)).trans fun x hx => SpM.own (I.hr x hx)
    exact SpM.mul (c := pf (found.getD k [])) (α := 1) (pf_ne _) h1 fun j _ => by rw [prim_ex, Int.one_mul]
  · refine (I.rv _ (mem_row hi)).trans fun x hx => ?_
    rcases List.mem_append.mp hx with hx | hx
    · exact SpM.mul (c := 1) (α := pf x) (by decide) (SpM.own (List.mem_map.mpr ⟨x, hx, rfl⟩)) fun j _ => by rw [prim_ex, Int.one_mul]
    · exact SpM.zero (I.lz x hx)
  · obtain ⟨k, hk, rfl⟩ := mem t ht
    rw [List.length_map]
    refine Nat.le_trans (prim_le _ j) ?_
    have hr := mem_row hk
    generalize hR : found.getD k [] = r at hr
    by_cases hj : j < w
    · rcases I.rd r (.inr hr) with hv | hv
      · obtain ⟨m, hm⟩ : ∃ m, found.length = m + 1 := ⟨found.length - 1, by omega⟩
        have hI := I.ind (Nat.le_refl _)
        have hs := I.ff r hr
        unfold SpM at hs
        rw [I.hl] at hs
        have hk0 := hk
        rw [hm] at hI hs hk ⊢
        refine bd_found (B := row Hh) (P := fun k => P.getD k 0) (i0 := k) (I.ll r (.inr hr)) hv (fun i hi j => co_bd hM (I.hr _ (mem_row (by rw [I.hl, hm]; exact hi))) j) (fun k hk => I.pp k (by omega)) hI hs hk (fun i hi hne => ?_) j hj
        rw [← hR]
        exact I.z i k (by omega) hk0 (Ne.symm hne)
      · exact Nat.le_trans (co_bd hM hv j) (Bd_le (by omega))
    · rw [co_far (by rw [I.ll r (.inr hr)]; omega)]
      exact Nat.zero_le _
abbrev le0 (t : List Int) : Int := co t (ld t)
def wst (a : Int) (t : List Int) : Int := a * (le0 t).fdiv (Nat.gcd a.natAbs (le0 t).natAbs : Nat)
def whl (T : List (List Int)) : Int := T.foldl wst 1
def frees (T : List (List Int)) (w : Nat) : List Nat := (List.range w).filter fun p => !(T.map ld).contains p
def kst (W : Int) (f : Nat) (o : List Int) (t : List Int) : List Int := o.set (ld t) (-(W.fdiv (le0 t)) * co t f)
def k0 (W : Int) (w f : Nat) : List Int := (List.replicate w (0 : Int)).set f W
def kone (T : List (List Int)) (w f : Nat) : List Int := T.foldl (kst (whl T) f) (k0 (whl T) w f)
theorem kst_len (W : Int) (f : Nat) (o t : List Int) : (kst W f o t).length = o.length := List.length_set ..
theorem k0_len (W : Int) (w f : Nat) : (k0 W w f).length = w := by
  unfold k0
  rw [List.length_set, List.length_replicate]
theorem fold_len {g : List Int → List Int → List Int} (h : ∀ o t, (g o t).length = o.length) : ∀ (T : List (List Int)) (o : List Int), (T.foldl g o).length = o.length
  | [], _ => rfl
  | t :: T, o => by
    rw [List.foldl_cons, fold_len h T, h]
theorem kone_len (T : List (List Int)) (w f : Nat) : (kone T w f).length = w := by
  unfold kone
  rw [fold_len (kst_len _ _), k0_len]
def kvs (T : List (List Int)) (w : Nat) : List (List Int) := (frees T w).map (kone T w)
theorem frees_lt {T : List (List Int)} {w f : Nat} (h : f ∈ frees T w) : f < w := List.mem_range.mp (List.mem_filter.mp h).1
structure KOk (T : List (List Int)) : Prop where
  c1 : ∀ A t B, T = A ++ t :: B → CDivQ (le0 t) (Nat.gcd (whl A).natAbs (le0 t).natAbs : Nat)
  m1 : ∀ A t B, T = A ++ t :: B → CMulW (whl A) ((le0 t).fdiv (Nat.gcd (whl A).natAbs (le0 t).natAbs : Nat))
  c2 : ∀ t ∈ T, CDivQ (whl T) (le0 t)
  m2 : ∀ t ∈ T, ∀ f, CMulW (-((whl T).fdiv (le0 t))) (co t f)
  m3 : ∀ t ∈ T, ∀ f, CMulW (whl T) (co t f)
  c3 : ∀ t ∈ T, ∀ f, CDivQ (whl T * co t f) (le0 t)
theorem wst_dvd (a : Int) (t : List Int) : a ∣ wst a t := ⟨_, rfl⟩
theorem wst_lead (a : Int) (t : List Int) : le0 t ∣ wst a t := by
  unfold wst
  have d1 : ((Nat.gcd a.natAbs (le0 t).natAbs : Nat) : Int) ∣ a := Int.ofNat_dvd_left.mpr (Nat.gcd_dvd_left ..)
  have d2 : ((Nat.gcd a.natAbs (le0 t).natAbs : Nat) : Int) ∣ le0 t := Int.ofNat_dvd_left.mpr (Nat.gcd_dvd_right ..)
  have e2 := fdiv_ex d2
  obtain ⟨q, hq⟩ := d1
  generalize ((Nat.gcd a.natAbs (le0 t).natAbs : Nat) : Int) = g at *
  refine ⟨q, ?_⟩
  have : a * (le0 t).fdiv g = g * (le0 t).fdiv g * q := by grind
  rw [this, e2]
theorem gcd_ne2 {a b : Int} (h : b ≠ 0) : ((Nat.gcd a.natAbs b.natAbs : Nat) : Int) ≠ 0 := by
  have := Nat.gcd_pos_of_pos_right a.natAbs (show 0 < b.natAbs by omega)
  omega
theorem gq_le {a : Int} {t : List Int} (h : le0 t ≠ 0) : ((le0 t).fdiv (Nat.gcd a.natAbs (le0 t).natAbs : Nat)).natAbs ≤ (le0 t).natAbs :=
  quot_le (fdiv_ex (Int.ofNat_dvd_left.mpr (Nat.gcd_dvd_right ..))) (gcd_ne2 h)
theorem gq_ne {a : Int} {t : List Int} (h : le0 t ≠ 0) : (le0 t).fdiv (Nat.gcd a.natAbs (le0 t).natAbs : Nat) ≠ 0 := fun z => by
  have e := fdiv_ex (Int.ofNat_dvd_left.mpr (Nat.gcd_dvd_right a.natAbs (le0 t).natAbs) : ((Nat.gcd a.natAbs (le0 t).natAbs : Nat) : Int) ∣ le0 t)
  rw [z, Int.mul_zero] at e
  exact h e.symm
theorem wst_le {a : Int} {t : List Int} (h : le0 t ≠ 0) : (wst a t).natAbs ≤ a.natAbs * (le0 t).natAbs := by
  unfold wst
  rw [Int.natAbs_mul]
  exact Nat.mul_le_mul_left _ (gq_le h)
theorem wst_ne {a : Int} {t : List Int} (ha : a ≠ 0) (h : le0 t ≠ 0) : wst a t ≠ 0 := Int.mul_ne_zero ha (gq_ne h)
theorem whl_aux {B : Nat} : ∀ (T : List (List Int)) (a : Int), a ≠ 0 → (∀ t ∈ T, le0 t ≠ 0 ∧ (le0 t).natAbs ≤ B) → T.foldl wst a ≠ 0 ∧ a ∣ T.foldl wst a ∧ (∀ t ∈ T, le0 t ∣ T.foldl wst a) ∧ (T.foldl wst a).natAbs ≤ a.natAbs * B ^ T.length
  | [], a, ha, _ => ⟨ha, Int.dvd_refl _, fun t ht => absurd ht List.not_mem_nil, by show a.natAbs ≤ a.natAbs * 1; omega⟩
  | t :: T, a, ha, h => by
    obtain ⟨ht, hb⟩ := h t List.mem_cons_self
    obtain ⟨h1, h2, h3, h4⟩ := whl_aux T (wst a t) (wst_ne ha ht) fun u hu => h u (List.mem_cons_of_mem _ hu)
    rw [List.foldl_cons]
    refine ⟨h1, Int.dvd_trans (wst_dvd a t) h2, fun u hu => ?_, ?_⟩
    · rcases List.mem_cons.mp hu with rfl | hu
      · exact Int.dvd_trans (wst_lead a u) h2
      · exact h3 u hu
    · refine Nat.le_trans h4 ?_
      rw [List.length_cons, Nat.pow_succ, Nat.mul_comm (B ^ T.length), ← Nat.mul_assoc]
      exact Nat.mul_le_mul_right _ (Nat.le_trans (wst_le ht) (Nat.mul_le_mul_left _ hb))
theorem whl_ok {B : Nat} {T : List (List Int)} (h : ∀ t ∈ T, le0 t ≠ 0 ∧ (le0 t).natAbs ≤ B) : whl T ≠ 0 ∧ (∀ t ∈ T, le0 t ∣ whl T) ∧ (whl T).natAbs ≤ B ^ T.length := by
  obtain ⟨h1, _, h3, h4⟩ := whl_aux T 1 (by decide) h
  exact ⟨h1, h3, by rw [show (1 : Int).natAbs = 1 from rfl, Nat.one_mul] at h4; exact h4⟩
theorem co_set {l : List Int} {i j : Nat} {x : Int} : co (l.set i x) j = if j = i ∧ i < l.length then x else co l j := by
  unfold co
  rw [List.getD_eq_getElem?_getD, List.getD_eq_getElem?_getD, List.getElem?_set]
  by_cases c : j = i
  · subst c
    by_cases d : j < l.length
    · rw [if_pos rfl, if_pos d, if_pos ⟨rfl, d⟩]
      rfl
    · rw [if_pos rfl, if_neg d, if_neg fun z => d z.2, List.getElem?_eq_none (by omega)]
  · rw [if_neg (Ne.symm c), if_neg fun z => c z.1]
theorem fold_out {W : Int} {f j : Nat} : ∀ (T : List (List Int)) (o : List Int), (∀ t ∈ T, ld t ≠ j) → co (T.foldl (kst W f) o) j = co o j
  | [], _, _ => rfl
  | t :: T, o, h => by
    rw [List.foldl_cons, fold_out T _ fun u hu => h u (List.mem_cons_of_mem _ hu)]
    unfold kst
    rw [co_set, if_neg fun z => h t List.mem_cons_self z.1.symm]
theorem fold_in {W : Int} {f : Nat} {t : List Int} {C : List (List Int)} (A : List (List Int)) (o : List Int) (hC : ∀ u ∈ C, ld u ≠ ld t) (hl : ld t < o.length) : co ((A ++ t :: C).foldl (kst W f) o) (ld t) = -(W.fdiv (le0 t)) * co t f := by
  rw [List.foldl_append, List.foldl_cons, fold_out C _ hC]
  have e := fold_len (kst_len W f) A o
  generalize List.foldl (kst W f) o A = o2 at e ⊢
  show co (o2.set (ld t) _) (ld t) = _
  rw [co_set, if_pos ⟨rfl, by omega⟩]
theorem co_k0 {W : Int} {w f j : Nat} (hf : f < w) : co (k0 W w f) j = if j = f then W else 0 := by
  unfold k0
  rw [co_set, List.length_replicate]
  by_cases c : j = f
  · rw [if_pos ⟨c, hf⟩, if_pos c]
  · rw [if_neg fun z => c z.1, if_neg c]
    by_cases d : j < w
    · unfold co
      rw [List.getD_eq_getElem?_getD, List.getElem?_replicate, if_pos d]
      rfl
    · exact co_far (by rw [List.length_replicate]; omega)
theorem mem_frees {T : List (List Int)} {w f : Nat} : f ∈ frees T w ↔ f < w ∧ ∀ t ∈ T, ld t ≠ f := by
  unfold frees
  rw [List.mem_filter, List.mem_range]
  constructor
  · rintro ⟨h1, h2⟩
    refine ⟨h1, fun t ht e => ?_⟩
    have : (T.map ld).contains f = true := List.contains_iff_mem.mpr (List.mem_map.mpr ⟨t, ht, e⟩)
    rw [this] at h2
    cases h2
  · rintro ⟨h1, h2⟩
    refine ⟨h1, ?_⟩
    have : (T.map ld).contains f = false := by
      rw [Bool.eq_false_iff]
      intro z
      obtain ⟨t, ht, e⟩ := List.mem_map.mp (List.contains_iff_mem.mp z)
      exact h2 t ht e
    rw [this]
    rfl
theorem frees_cnt {T : List (List Int)} {w : Nat} (hl : ∀ t ∈ T, ld t < w) (hn : (T.map ld).Nodup) : (frees T w).length + T.length = w := by
  have p : List.Perm (frees T w ++ T.map ld) (List.range w) := (List.perm_ext_iff_of_nodup (List.nodup_append.mpr ⟨List.nodup_range.filter _, hn, fun a ha b hb e => by
      obtain ⟨t, ht, q⟩ := List.mem_map.mp hb
      exact (mem_frees.mp ha).2 t ht (q.trans e.symm)⟩) List.nodup_range).mpr fun a => by
    rw [List.mem_append, List.mem_range]
    constructor
    · rintro (h | h)
      · exact (mem_frees.mp h).1
      · obtain ⟨t, ht, q⟩ := List.mem_map.mp h
        exact q ▸ hl t ht
    · intro h
      by_cases c : ∀ t ∈ T, ld t ≠ a
      · exact .inl (mem_frees.mpr ⟨h, c⟩)
      · obtain ⟨t, ht⟩ := Classical.not_forall.mp c
        obtain ⟨h1, h2⟩ := Classical.not_imp.mp ht
        exact .inr (List.mem_map.mpr ⟨t, h1, Classical.not_not.mp h2⟩)
  have := p.length_eq
  rwa [List.length_append, List.length_map, List.length_range] at this
structure Kv (n : Nat) (T : List (List Int)) : Prop where
  free : ∀ f ∈ frees T n, ∀ g ∈ frees T n, co (kone T n f) g = if g = f then whl T else 0
  dot : ∀ f ∈ frees T n, ∀ t ∈ T, S n (fun j => co (kone T n f) j * co t j) = 0
  nz : whl T ≠ 0
  bd : ∀ B, (∀ t ∈ T, ∀ j, (co t j).natAbs ≤ B) → 1 ≤ B → ∀ f ∈ frees T n, ∀ j, (co (kone T n f) j).natAbs ≤ B ^ (T.length + 1)
theorem S_two {g : Nat → Int} {n p q : Nat} (hp : p < n) (hq : q < n) (hpq : p ≠ q) (h : ∀ i, i < n → i ≠ p → i ≠ q → g i = 0) : S n g = g p + g q := by
  have e : S n g = S n (fun i => (if i = p then g i else 0) + (if i = p then 0 else g i)) := S_congr fun i _ => by
    by_cases c : i = p
    · rw [if_pos c, if_pos c, Int.add_zero]
    · rw [if_neg c, if_neg c, Int.zero_add]
  rw [e, S_add, S_one hp fun i _ hne => by rw [if_neg hne], S_one hq fun i hi hne => by
    by_cases c : i = p
    · rw [if_pos c]
    · rw [if_neg c]
      exact h i hi c hne]
  rw [if_pos rfl, if_neg (Ne.symm hpq)]
theorem Told.nodup {w M : Nat} {rows T : List (List Int)} (h : Told w M rows T) : (T.map ld).Nodup := by
  unfold List.Nodup
  rw [List.pairwise_iff_getElem]
  intro i j hi hj hij e
  rw [List.length_map] at hi hj
  rw [List.getElem_map, List.getElem_map] at e
  have hz := h.z i j hi hj (by omega)
  have g : ∀ k, (hk : k < T.length) → T.getD k [] = T[k] := fun k hk => by rw [List.getD_eq_getElem?_getD, List.getElem?_eq_getElem hk]; rfl
  unfold row at hz
  rw [g i hi, g j hj, e] at hz
  exact h.nz _ (List.getElem_mem hj) hz
theorem Told.split {w M : Nat} {rows T : List (List Int)} (h : Told w M rows T) {t : List Int} (ht : t ∈ T) : ∃ A C, T = A ++ t :: C ∧ (∀ u ∈ C, ld u ≠ ld t) ∧ ∀ u ∈ T, u ≠ t → co t (ld u) = 0 := by
  obtain ⟨i, hi, e⟩ := List.mem_iff_getElem.mp ht
  have g : ∀ k, (hk : k < T.length) → T.getD k [] = T[k] := fun k hk => by rw [List.getD_eq_getElem?_getD, List.getElem?_eq_getElem hk]; rfl
  obtain ⟨A, C, es⟩ := List.append_of_mem ht
  refine ⟨A, C, es, fun u hu eq => ?_, fun u hu ne => ?_⟩
  · have nd := h.nodup
    rw [es, List.map_append, List.map_cons] at nd
    have := (List.nodup_append.mp nd).2.1
    exact (List.nodup_cons.mp this).1 (List.mem_map.mpr ⟨u, hu, eq⟩)
  · obtain ⟨k, hk, e2⟩ := List.mem_iff_getElem.mp hu
    have hki : i ≠ k := fun z => by
      subst z
      exact ne (e2.symm.trans e)
    have hz := h.z k i hk hi hki
    unfold row at hz
    rw [g k hk, g i hi, e, e2] at hz
    exact hz
theorem kv {n M : Nat} {rows T : List (List Int)} (h : Told n M rows T) : Kv n T := by
  have hle : ∀ B, (∀ t ∈ T, ∀ j, (co t j).natAbs ≤ B) → ∀ t ∈ T, le0 t ≠ 0 ∧ (le0 t).natAbs ≤ B := fun B hB t ht => ⟨h.nz t ht, hB t ht _⟩
  obtain ⟨w0, w1, _⟩ := whl_ok (hle _ h.bd)
  have out : ∀ f ∈ frees T n, ∀ j, (∀ t ∈ T, ld t ≠ j) → co (kone T n f) j = if j = f then whl T else 0 := fun f hf j hj => by
    unfold kone
    rw [fold_out T _ hj, co_k0 (frees_lt hf)]
  have inn : ∀ f ∈ frees T n, ∀ t ∈ T, co (kone T n f) (ld t) = -((whl T).fdiv (le0 t)) * co t f := fun f hf t ht => by
    obtain ⟨A, C, es, hC, _⟩ := h.split ht
    unfold kone
    generalize whl T = W
    rw [es]
    exact fold_in A _ hC (by rw [k0_len]; exact h.lt t ht)
  refine ⟨fun f hf g hg => out f hf g (mem_frees.mp hg).2, fun f hf t ht => ?_, w0, fun B hB h1 f hf j => ?_⟩
  · obtain ⟨fn, fl⟩ := mem_frees.mp hf
    obtain ⟨A, C, es, hC, hz⟩ := h.split ht
    rw [S_two fn (h.lt t ht) (Ne.symm (fl t ht)) fun j hj h1 h2 => ?_]
    · rw [out f hf f fl, if_pos rfl, inn f hf t ht]
      have e := fdiv_ex (w1 t ht)
      generalize (whl T).fdiv (le0 t) = q at e
      rw [← e]
      grind
    · by_cases c : ∃ u ∈ T, ld u = j
      · obtain ⟨u, hu, eu⟩ := c
        rw [← eu, hz u hu fun z => h2 (by rw [← eu, z]), Int.mul_zero]
      · rw [out f hf j fun u hu e => c ⟨u, hu, e⟩, if_neg h1, Int.zero_mul]
  · have w2 := (whl_ok (hle B hB)).2.2
    have p1 : B ^ T.length ≤ B ^ (T.length + 1) := Nat.pow_le_pow_right h1 (by omega)
    by_cases c : ∃ u ∈ T, ld u = j
    · obtain ⟨u, hu, eu⟩ := c
      rw [← eu, inn f hf u hu, Int.natAbs_mul, Int.natAbs_neg, Nat.pow_succ]
      exact Nat.mul_le_mul (Nat.le_trans (quot_le (fdiv_ex (w1 u hu)) (h.nz u hu)) w2) (hB u hu f)
    · rw [out f hf j fun u hu e => c ⟨u, hu, e⟩]
      by_cases d : j = f
      · rw [if_pos d]
        exact Nat.le_trans w2 p1
      · rw [if_neg d]
        exact Nat.zero_le _
end K77

set_option Elab.async false
set_option linter.all false
set_option maxRecDepth 100000
set_option maxHeartbeats 2000000
set_option exponentiation.threshold 10000
/-! levels: acting is a sum of products with the level entries -/
namespace K77
open PySem PySem.Spec PyProof.Rows L2 FDivQ LA
def dotn (r c : List Int) (i : Nat) : List Int := tb i fun k => co r k * co c k
def dot (r c : List Int) : Int := (dotn r c r.length).sum
def fc : Nat → Nat
  | 0 => 1
  | n + 1 => (n + 1) * fc n
/-- the level entries -/
def lev (l : List Int) : List Int := tb l.length fun i => (fc i : Int) * (fc (l.length - 1 - i) : Int) * co l i
theorem S_ext {f : Nat → Int} {n : Nat} : ∀ {N : Nat}, n ≤ N → (∀ i, n ≤ i → f i = 0) → S N f = S n f
  | 0, h, _ => by
    have : n = 0 := by omega
    rw [this]
  | N + 1, h, hz => by
    by_cases c : n = N + 1
    · rw [c]
    · show S N f + f N = _
      rw [hz N (by omega), Int.add_zero, S_ext (by omega) hz]
theorem S_head (f : Nat → Int) (n : Nat) : S (n + 1) f = f 0 + S n fun i => f (i + 1) := by
  rw [S_skip f 0 n (Nat.zero_le _)]
  rfl
theorem conv_aux {m : List Int} : ∀ (l : List Int) (g : Nat → Int) (N : Nat), l.length + m.length ≤ N + 1 → S N (fun c => cv l (co m) c * g c) = S l.length fun a => co l a * S m.length fun b => co m b * g (a + b)
  | [], g, N, _ => by
    rw [S_zero fun i _ => by rw [cv_nil, Int.zero_mul]]
    rfl
  | x :: xs, g, N, h => by
    have hm : m.length ≤ N := by rw [List.length_cons] at h; omega
    have e1 : S m.length (fun b => co m b * g (0 + b)) = S N fun b => co m b * g b := by
      rw [S_ext (f := fun b => co m b * g b) hm fun i hi => by rw [co_far hi, Int.zero_mul]]
      exact S_congr fun b _ => by rw [Nat.zero_add]
    rw [List.length_cons, S_head]
    show _ = x * _ + S xs.length fun i => co xs i * S m.length fun b => co m b * g (i + 1 + b)
    rw [e1, ← S_mul]
    have e2 : (S xs.length fun i => co xs i * S m.length fun b => co m b * g (i + 1 + b)) = S xs.length fun i => co xs i * S m.length fun b => co m b * (fun c => g (c + 1)) (i + b) := S_congr fun i _ => by
      congr 1
      exact S_congr fun b _ => by
        show co m b * g (i + 1 + b) = co m b * g (i + b + 1)
        congr 2
        omega
    rw [e2]
    cases N with
    | zero =>
      rw [List.length_cons] at h
      have hx : xs = [] := List.eq_nil_of_length_eq_zero (by omega)
      subst hx
      rfl
    | succ N =>
      rw [← conv_aux xs (fun c => g (c + 1)) N (by rw [List.length_cons] at h; omega), S_head, S_head, cv_zero]
      have e3 : (S N fun i => cv (x :: xs) (co m) (i + 1) * g (i + 1)) = S N (fun i => x * (co m (i + 1) * g (i + 1))) + S N fun c => cv xs (co m) c * (fun c => g (c + 1)) c := by
        rw [← S_add]
        exact S_congr fun i _ => by rw [cv_succ, Int.add_mul, Int.mul_assoc]
      rw [e3, ← Int.mul_assoc, Int.add_assoc]
theorem conv {l m : List Int} (hm : m ≠ []) (g : Nat → Int) : S (ml l m).length (fun c => co (ml l m) c * g c) = S l.length fun a => co l a * S m.length fun b => co m b * g (a + b) := by
  rw [← conv_aux l g (ml l m).length (by rw [ml_len]; omega)]
  exact S_congr fun c _ => by rw [co_ml hm]
/-- the rows of the level table -/
def lrow (l : List Int) (d at_ : Nat) : List Int := tb (d + 1) fun a => co (lev l) (at_ + a)
def lrows (l : List Int) (d : Nat) : List (List Int) := (List.range (l.length - d)).map (lrow l d)
end K77

set_option Elab.async false
set_option linter.all false
set_option maxRecDepth 100000
set_option maxHeartbeats 2000000
set_option exponentiation.threshold 10000
/-! killers: kernels of level tables -/
namespace K77
open PySem PySem.Spec PyProof.Rows L2 FDivQ LA
theorem gl_primE (l : List Int) : gl (primE l) ≤ 1 := by
  by_cases c : gl l = 0
  · unfold primE
    rw [if_pos c, c]
    exact Nat.zero_le _
  · have q : gl l * gl (primE l) ∣ gl l := dvd_glc fun k _ => by
      have e := prim_ex l k
      have hp : (pf l).natAbs = gl l := by
        unfold pf
        rw [if_neg c]
        split <;> omega
      rw [← e, Int.natAbs_mul, hp]
      exact Nat.mul_dvd_mul_left _ (gl_dvdc _ _)
    have h1 : gl (primE l) ∣ 1 := Nat.dvd_of_mul_dvd_mul_left (Nat.pos_of_ne_zero c) (by rw [Nat.mul_one]; exact q)
    exact Nat.le_of_eq (Nat.dvd_one.mp h1)
def kern (rows : List (List Int)) (n : Nat) : List (List Int) := ech less (kvs (ech less rows n) n) n
/-- all of a kernel -/
structure KA (rows : List (List Int)) (w : Nat) : Prop where
  e : EOk less rows w
  t : ∀ t ∈ ech less rows w, t.length = w ∧ ld t < w
  k : KOk (ech less rows w)
  e2 : EOk less (kvs (ech less rows w) w) w
  len : ∀ k ∈ kern rows w, k.length = w
  dot : ∀ k ∈ kern rows w, ∀ r ∈ rows, S w (fun j => co k j * co r j) = 0
  bd : ∀ k ∈ kern rows w, ∀ j, (co k j).natAbs < 2 ^ 1500
  cnt : (kern rows w).length ≤ w
  sh : w ≤ 4 → ∀ k ∈ kern rows w, ∀ j, (co k j).natAbs < 10 ^ 60
end K77

set_option Elab.async false
set_option linter.all false
set_option maxRecDepth 100000
set_option maxHeartbeats 4000000
set_option exponentiation.threshold 10000
namespace K77
open PySem PySem.Spec PyProof.Rows L2 StX RZ MyR SlX OwnR OwnF EnumT GxR GenNx FDivQ
theorem RX.memA {p : Addr → List Int → Prop} : ∀ {as : List Addr} {rs : List (List Int)} {a : Addr}, RX p as rs → a ∈ as → ∃ r, r ∈ rs ∧ p a r
  | [], [], _, _, h => absurd h List.not_mem_nil
  | b :: as, r :: rs, a, h, ha => by
    rcases List.mem_cons.mp ha with rfl | ha
    · exact ⟨r, List.mem_cons_self, h.1⟩
    · obtain ⟨s, hs, k⟩ := RX.memA h.2 ha
      exact ⟨s, List.mem_cons_of_mem _ hs, k⟩
theorem RR.updN {H : Hp} {D : Addr} {o : HO} {as : List Addr} {rs : List (List Int)} (h : RR H as rs) (hn : ∀ a ∈ as, a ≠ D) : RR (L2.upd H D o) as rs := RX.impM (fun a ha r e => by rw [upd_ne (hn a ha)]; exact e) h
section
variable {P : Program} {w : World} {K : PySem.W.Frag} {mg : Str → Option Value} {base : Heap} {Ps : List Addr}
end
end K77

set_option Elab.async false
set_option linter.all false
set_option maxRecDepth 100000
set_option maxHeartbeats 4000000
set_option exponentiation.threshold 10000
/-! walks: level entries and level rows -/
namespace K77
open PySem PySem.Spec PyProof.Rows L2 StX RZ MyR SlX OwnR OwnF EnumT GxR GenNx FDivQ LA
theorem sm_small {x : Int} (h : x.natAbs ≤ 2 ^ 40) : sm x := Nat.lt_of_le_of_lt h (by decide +kernel)
theorem RT.same {H H' : Hp} {as : List Addr} {rs : List (List Int)} (h : RT H as rs) (s : Same H H') : RT H' as rs := RX.imp (fun a r e => s _ _ e) h
theorem RT.updL {H : Hp} {D : Addr} {o : HO} {xs : List V} {as : List Addr} {rs : List (List Int)} (h : RT H as rs) (hD : H D = some (.lst xs)) : RT (L2.upd H D o) as rs :=
  RX.imp (fun a r e => by rw [upd_ne (fun z => by rw [z, hD] at e; cases e)]; exact e) h
theorem RT.updN {H : Hp} {D : Addr} {o : HO} {as : List Addr} {rs : List (List Int)} (h : RT H as rs) (hn : ∀ a ∈ as, a ≠ D) : RT (L2.upd H D o) as rs := RX.impM (fun a ha r e => by rw [upd_ne (hn a ha)]; exact e) h
/-- at t a tuple of tuples of ints -/
def Tl2 (H : Hp) (t : Addr) (rows : List (List Int)) : Prop := ∃ as : List Addr, H t = some (.tup (as.map V.ref)) ∧ RT H as rows
theorem Tl2.same {H H' : Hp} {t : Addr} {rows : List (List Int)} (h : Tl2 H t rows) (s : Same H H') : Tl2 H' t rows := by
  obtain ⟨as, h1, h2⟩ := h
  exact ⟨as, s _ _ h1, h2.same s⟩
/-- a comprehension over range(n) that makes a row of each -/
theorem lc_rangeT {n : Nat} {f : Nat → List Int} {te : TE} {σ : L2.St} {k : Nat} {H1 : Hp} {D : Addr} {Qd : Hp → Prop} (hD : H1 D = none) (hl : n ≤ 100)
    (hw : ∀ x, wipe ((wipe σ [k]).set k (some x)) [k] = wipe σ [k])
    (hte : ∀ (i : Nat) (H2 : Hp) (Q : VK), i < n → Same H1 H2 → (∀ q H3, Same H2 H3 → H3 q = some (tp (f i)) → Q (.ref q) H3) → te ((wipe σ [k]).set k (some (.int (i : Nat)))) H2 Q)
    (hd : ∀ bs H6, Same H1 H6 → H6 D = some (.lst (bs.map V.ref)) → RT H6 bs ((List.range n).map f) → Qd H6) :
    ∃ W : Nat → Nat → Hp → Prop, (∃ m, W 0 m (upd H1 D (.lst []))) ∧ ∀ i m H, W i m H →
      ((Itr 0 n).stop i H ∧ Qd H) ∨ ((Itr 0 n).go i H ∧ ∃ Nx : Hp → Prop, (∀ H', Nx H' → ∃ m', m' < m ∧ W (i + 1) m' H') ∧ ∀ x H', (Itr 0 n).yld i H x H' → gName k x (wipe σ [k]) H' fun σ2 H2 => wipe σ2 [k] = wipe σ [k] ∧ tYes σ2 H2 fun b H3 =>
        if b = true then te σ2 H3 fun y H4 => ∃ acc, H4 D = some (.lst acc) ∧ acc.length < sizeLine ∧ Nx (upd H4 D (.lst (acc ++ [y]))) else Nx H3) := by
  refine lc_range (n := n) (fun j H' => ∃ bs, Same H1 H' ∧ H' D = some (.lst (bs.map V.ref)) ∧ bs.length = j ∧ RT H' bs ((List.range j).map f)) ⟨[], same_upd0 hD, upd_same, rfl, True.intro⟩ (fun j H' hj hP => ?_) (fun H' hP => ?_)
  · obtain ⟨bs, s1, h1, h2, h3⟩ := hP
    rw [Int.zero_add]
    refine ⟨hw _, ?_⟩
    show te _ _ _
    refine hte j H' _ hj s1 fun q H3 s3 e4 => ⟨bs.map V.ref, s3 _ _ h1, ?_, bs ++ [q], fun b o e => ?_, ?_, ?_, ?_⟩
    · rw [List.length_map, h2]
      exact small1000 (by omega)
    · rw [upd_ne (ne_of_none e hD)]
      exact s3 _ _ (s1 _ _ e)
    · rw [upd_same, List.map_append]
      rfl
    · rw [List.length_append, h2]
      rfl
    · rw [List.range_succ, List.map_append]
      have hD3 := s3 _ _ h1
      refine RX.snoc ((h3.same s3).updN fun a ha => ?_) ?_
      · obtain ⟨r, _, e⟩ := RX.memA (h3.same s3) ha
        intro z
        rw [z, hD3] at e
        cases e
      · show upd H3 D _ q = _
        rw [upd_ne fun z => by rw [z, hD3] at e4; cases e4]
        exact e4
  · obtain ⟨bs, s1, h1, h2, h3⟩ := hP
    exact hd bs H' s1 h1 h3
/-- forms that levels are asked of -/
structure Lw (l : List Int) : Prop where
  l1 : 1 ≤ l.length
  l8 : l.length ≤ 9
  sm : ∀ x ∈ l, x.natAbs < 2 ^ 3900
section
variable {P : Program} {w : World} {K : PySem.W.Frag} {mg : Str → Option Value} {base : Heap} {Ps : List Addr}
end
end K77

set_option Elab.async false
set_option linter.all false
set_option maxRecDepth 100000
set_option maxHeartbeats 4000000
set_option exponentiation.threshold 10000
namespace K77
open PySem PySem.Spec PyProof.Rows L2 StX RZ MyR SlX OwnR OwnF EnumT GxR GenNx FDivQ LA
section
variable {P : Program} {w : World} {K : PySem.W.Frag} {mg : Str → Option Value} {base : Heap} {Ps : List Addr}
end
theorem gl_all0 : ∀ (l : List Int), (∀ x ∈ l, x = 0) → gl l = 0 := fun l h => by
  unfold gl
  induction l with
  | nil => rfl
  | cons x l ih =>
    rw [List.foldl_cons, h x List.mem_cons_self]
    exact ih fun y hy => h y (List.mem_cons_of_mem _ hy)
section
variable {P : Program} {w : World} {K : PySem.W.Frag} {mg : Str → Option Value} {base : Heap} {Ps : List Addr}
end
section
variable {P : Program} {w : World} {K : PySem.W.Frag} {mg : Str → Option Value} {base : Heap} {Ps : List Addr}
end
section
variable {P : Program} {w : World} {K : PySem.W.Frag} {mg : Str → Option Value} {base : Heap} {Ps : List Addr}
end
section
variable {P : Program} {w : World} {K : PySem.W.Frag} {mg : Str → Option Value} {base : Heap} {Ps : List Addr}
end
theorem gl_cont : ∀ (l : List Int), cont l = gl l := fun l => by
  have key : ∀ n, n ≤ l.length → cont (l.take n) = gl (l.take n) := fun n => by
    induction n with
    | zero => exact fun _ => rfl
    | succ n ih =>
      intro h
      rw [take_snoc (by omega), cont_snoc, ih (by omega)]
      unfold gl
      rw [List.foldl_append]
      rfl
  have := key l.length (Nat.le_refl _)
  rw [List.take_length] at this
  exact this
section
variable {P : Program} {w : World} {K : PySem.W.Frag} {mg : Str → Option Value} {base : Heap} {Ps : List Addr}
end
end K77

set_option Elab.async false
set_option linter.all false
set_option maxRecDepth 100000
set_option maxHeartbeats 4000000
namespace K77
open PySem PySem.Spec PyProof.Rows L2 StX RZ MyR SlX OwnR OwnF EnumT GxR
/-! ### dividing rows -/
/-- what is left behind i turns -/
def rmd (xs ys : List Int) : Nat → Nat → Int
  | 0 => co xs
  | i + 1 => fun k => rmd xs ys i k - (if i ≤ k then (rmd xs ys i (i + fi ys)).fdiv (co ys (fi ys)) * co ys (k - i) else 0)
def quo (xs ys : List Int) (i : Nat) : Int := (rmd xs ys i (i + fi ys)).fdiv (co ys (fi ys))
theorem rmd_succ (xs ys : List Int) (i k : Nat) : rmd xs ys (i + 1) k = rmd xs ys i k - (if i ≤ k then quo xs ys i * co ys (k - i) else 0) := rfl
/-- how many turns there are -/
def mny (xs ys : List Int) : Nat := xs.length + 1 - ys.length
def GoodTo (xs ys : List Int) (i : Nat) : Prop := ∀ j, j < i → rmd xs ys (j + 1) (j + fi ys) = 0
instance (xs ys : List Int) (i : Nat) : Decidable (GoodTo xs ys i) := by unfold GoodTo; infer_instance
/-- the quotient of rows -/
def qd (xs ys : List Int) : Option (List Int) :=
  if xs.length < ys.length ∨ nzr (xs.take (fi ys)) = true then none
  else if GoodTo xs ys (mny xs ys) ∧ nzr (tb xs.length (rmd xs ys (mny xs ys))) = false then some (tb (mny xs ys) (quo xs ys)) else none
theorem qd_of {xs ys q : List Int} (h : qd xs ys = some q) : ys.length ≤ xs.length ∧ GoodTo xs ys (mny xs ys) ∧ nzr (tb xs.length (rmd xs ys (mny xs ys))) = false ∧ q = tb (mny xs ys) (quo xs ys) := by
  unfold qd at h
  by_cases h1 : xs.length < ys.length ∨ nzr (xs.take (fi ys)) = true
  · rw [if_pos h1] at h
    cases h
  · rw [if_neg h1] at h
    by_cases h2 : GoodTo xs ys (mny xs ys) ∧ nzr (tb xs.length (rmd xs ys (mny xs ys))) = false
    · rw [if_pos h2] at h
      exact ⟨Nat.le_of_not_lt fun z => h1 (.inl z), h2.1, h2.2, (Option.some.inj h).symm⟩
    · rw [if_neg h2] at h
      cases h
theorem qd_len {xs ys q : List Int} (h : qd xs ys = some q) : q.length = mny xs ys := by rw [(qd_of h).2.2.2, tb_len]
theorem rmd_bd {xs ys : List Int} {M B : Nat} (hx : ∀ z ∈ xs, z.natAbs ≤ M) (hy : ∀ z ∈ ys, z.natAbs ≤ B) : ∀ i k, (rmd xs ys i k).natAbs ≤ M * (1 + B) ^ i
  | 0, k => by
    rw [Nat.pow_zero, Nat.mul_one]
    show (co xs k).natAbs ≤ M
    rcases co_mem (l := xs) (k := k) with e | e
    · rw [e]; exact Nat.zero_le _
    · exact hx _ e
  | i + 1, k => by
    have h1 := rmd_bd hx hy i k
    have h2 := Nat.le_trans (Int.natAbs_fdiv_le_natAbs (rmd xs ys i (i + fi ys)) (co ys (fi ys))) (rmd_bd hx hy i (i + fi ys))
    have h3 : (co ys (k - i)).natAbs ≤ B := by
      rcases co_mem (l := ys) (k := k - i) with e | e
      · rw [e]; exact Nat.zero_le _
      · exact hy _ e
    rw [rmd_succ, Nat.pow_succ, ← Nat.mul_assoc, Nat.mul_add, Nat.mul_one]
    refine Nat.le_trans (Int.natAbs_sub_le _ _) (Nat.add_le_add h1 ?_)
    split
    · rw [Int.natAbs_mul]
      exact Nat.mul_le_mul h2 h3
    · exact Nat.zero_le _
theorem quo_bd {xs ys : List Int} {M B : Nat} (hx : ∀ z ∈ xs, z.natAbs ≤ M) (hy : ∀ z ∈ ys, z.natAbs ≤ B) (i : Nat) : (quo xs ys i).natAbs ≤ M * (1 + B) ^ i :=
  Nat.le_trans (Int.natAbs_fdiv_le_natAbs _ _) (rmd_bd hx hy i _)
/-- what is asked for dividing -/
structure QdOk (xs ys : List Int) : Prop where
  nz : nzr ys = true
  nx : xs ≠ []
  lx : xs.length ≤ 100
  ly : ys.length ≤ 100
  ex : ∃ M B : Nat, (∀ z ∈ xs, z.natAbs ≤ M) ∧ (∀ z ∈ ys, z.natAbs ≤ B) ∧ B < 2 ^ 4000 ∧ M * (1 + B) ^ (mny xs ys) < 2 ^ 4000
theorem QdOk.sy {xs ys : List Int} (h : QdOk xs ys) : ∀ z ∈ ys, sm z := by
  obtain ⟨M, B, h1, h2, h3, h4⟩ := h.ex
  exact fun z hz => Nat.lt_of_le_of_lt (h2 z hz) h3
theorem QdOk.sr {xs ys : List Int} (h : QdOk xs ys) {i : Nat} (hi : i ≤ mny xs ys) (k : Nat) : sm (rmd xs ys i k) := by
  obtain ⟨M, B, h1, h2, h3, h4⟩ := h.ex
  exact Nat.lt_of_le_of_lt (rmd_bd h1 h2 i k) (Nat.lt_of_le_of_lt (Nat.mul_le_mul_left M (Nat.pow_le_pow_right (by omega) hi)) h4)
theorem QdOk.sq {xs ys : List Int} (h : QdOk xs ys) {i : Nat} (hi : i ≤ mny xs ys) : sm (quo xs ys i) := sm_of_le (h.sr hi (i + fi ys)) (Int.natAbs_fdiv_le_natAbs _ _)
theorem QdOk.ny {xs ys : List Int} (h : QdOk xs ys) : ys ≠ [] := fun e => by
  have := h.nz
  rw [e] at this
  cases this
theorem QdOk.lead {xs ys : List Int} (h : QdOk xs ys) : co ys (fi ys) ≠ 0 := fi_ne h.nz
end K77

set_option Elab.async false
set_option linter.all false
set_option maxRecDepth 100000
set_option maxHeartbeats 4000000
namespace K77
open PySem PySem.Spec PyProof.Rows L2 StX RZ MyR SlX OwnR OwnF EnumT GxR
/-- the first entry other than 0, or 0 -/
def fo (l : List Int) : Int := if nzr l = true then co l (fi l) else 0
/-- a row, or none -/
def OV (H : Hp) (v : V) : Option (List Int) → Prop
  | none => v = .non
  | some q => ∃ t, v = .ref t ∧ H t = some (tp q)
theorem OV.same {H H' : Hp} {v : V} {r : Option (List Int)} (h : OV H v r) (s : Same H H') : OV H' v r := by
  cases r with
  | none => exact h
  | some q =>
    obtain ⟨t, e, k⟩ := h
    exact ⟨t, e, s _ _ k⟩
/-- points -/
structure Pt (u v : Int) : Prop where
  cop : Nat.gcd u.natAbs v.natAbs = 1
  pos : 0 < fo [u, v]
theorem Pt.ne {u v : Int} (h : Pt u v) : [u, v] ≠ [0, 0] := fun e => by
  have h1 := h.cop
  cases e
  cases h1
section
variable {P : Program} {w : World} {K : PySem.W.Frag} {mg : Str → Option Value} {base : Heap} {Ps : List Addr}
end
end K77

set_option Elab.async false
set_option linter.all false
set_option maxRecDepth 100000
set_option maxHeartbeats 4000000
namespace K77
open PySem PySem.Spec PyProof.Rows L2 StX RZ MyR SlX OwnR OwnF EnumT GxR
structure TmOk (xs ys : List Int) : Prop where
  nz : nzr ys = true
  nx : xs ≠ []
  ly : ys.length = 2
  ex : ∃ n M B : Nat, n ≤ 100 ∧ xs.length ≤ n ∧ (∀ z ∈ xs, z.natAbs ≤ M) ∧ (∀ z ∈ ys, z.natAbs ≤ B) ∧ B < 2 ^ 4000 ∧ M * ((1 + B) ^ n) ^ xs.length < 2 ^ 4000
theorem TmOk.next {xs ys q : List Int} (h : TmOk xs ys) (e : qd xs ys = some q) : TmOk q ys := by
  obtain ⟨n, M, B, h1, h2, h3, h4, h5, h6⟩ := h.ex
  have ly := h.ly
  obtain ⟨g1, _, _, g4⟩ := qd_of e
  have g2 : q.length = xs.length + 1 - ys.length := qd_len e
  have e1 : xs.length = q.length + 1 := by omega
  refine ⟨h.nz, fun z => ?_, ly, n, M * (1 + B) ^ n, B, h1, by omega, fun z hz => ?_, h4, h5, ?_⟩
  · rw [z] at g2
    have : 0 = xs.length + 1 - ys.length := g2
    omega
  · rw [g4] at hz
    obtain ⟨i, hi, rfl⟩ := List.mem_map.mp hz
    have hi := List.mem_range.mp hi
    have hi2 : i < xs.length + 1 - ys.length := hi
    exact Nat.le_trans (quo_bd h3 h4 i) (Nat.mul_le_mul_left M (Nat.pow_le_pow_right (by omega) (by omega)))
  · rw [Nat.mul_assoc, Nat.mul_comm ((1 + B) ^ n), ← Nat.pow_succ, Nat.succ_eq_add_one, ← e1]
    exact h6
section
variable {P : Program} {w : World} {K : PySem.W.Frag} {mg : Str → Option Value} {base : Heap} {Ps : List Addr}
end
end K77

set_option Elab.async false
set_option linter.all false
set_option maxRecDepth 100000
set_option maxHeartbeats 4000000
namespace K77
open PySem PySem.Spec PyProof.Rows L2 StX RZ MyR SlX OwnR OwnF EnumT GxR
section
variable {P : Program} {w : World} {K : PySem.W.Frag} {mg : Str → Option Value} {base : Heap}
end
end K77

set_option Elab.async false
set_option linter.all false
set_option maxRecDepth 100000
set_option maxHeartbeats 4000000
set_option exponentiation.threshold 10000
namespace K77
open PySem PySem.Spec PyProof.Rows L2 StX RZ MyR SlX OwnR OwnF EnumT GxR GenNx FDivQ
end K77

set_option Elab.async false
set_option linter.all false
set_option maxRecDepth 100000
set_option maxHeartbeats 4000000
namespace K77
open PySem PySem.Spec PyProof.Rows L2 StX RZ MyR SlX OwnR OwnF EnumT GxR
section
variable {P : Program} {w : World} {K : PySem.W.Frag} {mg : Str → Option Value} {base : Heap} {Ps : List Addr}
end
theorem Fo.sl {C a : Addr} {H : Hp} {ns : List Int} (h : Fo C H a ns) : Slt H a C h.slt.choose [some (.ref h.slt.choose_spec.choose)] := h.slt.choose_spec.choose_spec.1
end K77

set_option Elab.async false
set_option linter.all false
set_option maxRecDepth 100000
set_option maxHeartbeats 2000000
set_option exponentiation.threshold 10000
/-! plain: forms as functions; common divisors, up to factors -/
namespace K77
open LA
/-- a function that a row of n entries tells -/
def Fm (n : Nat) (φ : Int → Int → Int) : Prop := ∃ l : List Int, l.length = n ∧ ∀ x y, ev l x y = φ x y
theorem co_appz (l : List Int) (n j : Nat) : co (l ++ List.replicate n 0) j = co l j := by
  by_cases h : j < l.length
  · rw [co_get (by rw [List.length_append]; omega), co_get h, List.getElem_append_left h]
  · rw [co_far (l := l) (by omega)]
    by_cases g : j < (l ++ List.replicate n (0 : Int)).length
    · rw [co_get g, List.getElem_append_right (by omega), List.getElem_replicate]
    · exact co_far (by omega)
theorem ev_sx (l : List Int) (n : Nat) (x y : Int) : ev (l ++ List.replicate n 0) x y = x ^ n * ev l x y := by
  unfold ev
  rw [List.length_append, List.length_replicate, evF_congr _ fun i _ => co_appz l n i]
  exact evF_far x y (fun i hi => co_far hi) n
theorem ev_sy (l : List Int) (x y : Int) : ev (0 :: l) x y = y * ev l x y := by
  rw [ev_cons, Int.zero_mul, Int.zero_add]
theorem ev_ry (l : List Int) (x y : Int) : ∀ n, ev (List.replicate n 0 ++ l) x y = y ^ n * ev l x y
  | 0 => by rw [Int.pow_zero, Int.one_mul]; rfl
  | n + 1 => by
    rw [List.replicate_succ, List.cons_append, ev_sy, ev_ry l x y n, Int.pow_succ]
    grind
theorem ev_lead (l : List Int) : ev l 1 0 = co l 0 := by
  cases l with
  | nil => rfl
  | cons a l => rw [ev_cons, Int.one_pow, Int.mul_one, Int.zero_mul, Int.add_zero]; rfl
theorem Fm.of (l : List Int) : Fm l.length (ev l) := ⟨l, rfl, fun _ _ => rfl⟩
theorem Fm.congr {n : Nat} {φ ψ : Int → Int → Int} (h : Fm n φ) (e : ∀ x y, φ x y = ψ x y) : Fm n ψ := by
  obtain ⟨l, hl, q⟩ := h
  exact ⟨l, hl, fun x y => (q x y).trans (e x y)⟩
theorem Fm.cast {n m : Nat} {φ : Int → Int → Int} (h : Fm n φ) (e : n = m) : Fm m φ := e ▸ h
theorem Fm.zero (n : Nat) : Fm n fun _ _ => 0 := ⟨List.replicate n 0, List.length_replicate, fun x y => ev_zero (fun z hz => List.eq_of_mem_replicate hz) x y⟩
theorem Fm.none {φ : Int → Int → Int} (h : Fm 0 φ) (x y : Int) : φ x y = 0 := by
  obtain ⟨l, hl, q⟩ := h
  rw [← q, List.length_eq_zero_iff.mp hl]
  rfl
theorem Fm.one : Fm 1 fun _ _ => 1 := ⟨[1], rfl, ev_one⟩
theorem Fm.mulc {n : Nat} {φ : Int → Int → Int} (c : Int) (h : Fm n φ) : Fm n fun x y => c * φ x y := by
  obtain ⟨l, hl, q⟩ := h
  exact ⟨l.map (c * ·), by rw [List.length_map, hl], fun x y => by rw [ev_map, q]⟩
theorem Fm.add {n : Nat} {φ ψ : Int → Int → Int} (h : Fm n φ) (g : Fm n ψ) : Fm n fun x y => φ x y + ψ x y := by
  obtain ⟨l, hl, q⟩ := h
  obtain ⟨m, hm, r⟩ := g
  exact ⟨zs 1 l m, by unfold zs; rw [List.length_zipWith]; omega, fun x y => by rw [ev_zs 1 (by omega), q, r, Int.one_mul]⟩
theorem Fm.px {n : Nat} {φ : Int → Int → Int} (h : Fm n φ) (k : Nat) : Fm (n + k) fun x y => x ^ k * φ x y := by
  obtain ⟨l, hl, q⟩ := h
  exact ⟨l ++ List.replicate k 0, by rw [List.length_append, List.length_replicate, hl], fun x y => by rw [ev_sx l k, q]⟩
theorem Fm.py {n : Nat} {φ : Int → Int → Int} (h : Fm n φ) (k : Nat) : Fm (n + k) fun x y => y ^ k * φ x y := by
  obtain ⟨l, hl, q⟩ := h
  exact ⟨List.replicate k 0 ++ l, by rw [List.length_append, List.length_replicate, hl, Nat.add_comm], fun x y => by rw [ev_ry l x y k, q]⟩
theorem Fm.mul {n m k : Nat} {φ ψ : Int → Int → Int} (h : Fm n φ) (g : Fm m ψ) (e : n = 0 ∨ m = 0 ∨ n + m = k + 1) : Fm k fun x y => φ x y * ψ x y := by
  by_cases c1 : n = 0
  · subst c1
    exact (Fm.zero k).congr fun x y => by rw [h.none, Int.zero_mul]
  by_cases c2 : m = 0
  · subst c2
    exact (Fm.zero k).congr fun x y => by rw [g.none, Int.mul_zero]
  obtain ⟨l, hl, q⟩ := h
  obtain ⟨p, hp, r⟩ := g
  exact ⟨ml l p, by rw [ml_len]; omega, fun x y => by rw [ev_ml (fun z => c1 (by rw [← hl, z]; rfl)) (fun z => c2 (by rw [← hp, z]; rfl)), q, r]⟩
/-- the first entry, and the others -/
theorem Fm.split {n : Nat} {φ : Int → Int → Int} (h : Fm (n + 1) φ) : ∃ (a : Int) (ψ : Int → Int → Int), Fm n ψ ∧ ∀ x y, φ x y = a * x ^ n + y * ψ x y := by
  obtain ⟨l, hl, q⟩ := h
  cases l with
  | nil => exact absurd hl (by simp)
  | cons a l => exact ⟨a, ev l, ⟨l, by rw [List.length_cons] at hl; omega, fun _ _ => rfl⟩, fun x y => by rw [← q, ev_cons, show l.length = n by rw [List.length_cons] at hl; omega]⟩
theorem Fm.const {φ : Int → Int → Int} (h : Fm 1 φ) : ∃ a : Int, ∀ x y, φ x y = a := by
  obtain ⟨a, ψ, p, q⟩ := h.split
  exact ⟨a, fun x y => by rw [q, p.none, Int.pow_zero]; omega⟩
theorem Fm.cy {n : Nat} {φ ψ : Int → Int → Int} (h : Fm n φ) (g : Fm n ψ) (e : ∀ x y, y * φ x y = y * ψ x y) (x y : Int) : φ x y = ψ x y := by
  obtain ⟨l, hl, q⟩ := h
  obtain ⟨m, hm, r⟩ := g
  have : 0 :: l = 0 :: m := ev_inj (by rw [List.length_cons, List.length_cons, hl, hm]) fun x y => by rw [ev_sy, ev_sy, q, r, e]
  rw [← q, ← r, List.tail_eq_of_cons_eq this]
def Nz (φ : Int → Int → Int) : Prop := ∃ x y, φ x y ≠ 0
theorem ev0_all {l : List Int} (h : ∀ x y, ev l x y = 0) : ∀ z ∈ l, z = 0 := by
  have e : l = List.replicate l.length 0 := ev_inj (by rw [List.length_replicate]) fun x y => by
    rw [h, ev_zero fun z hz => List.eq_of_mem_replicate hz]
  intro z hz
  rw [e] at hz
  exact List.eq_of_mem_replicate hz
/-- a form other than 0 may be left out of a product -/
theorem Fm.can0 {n m : Nat} {φ α : Int → Int → Int} (hn : Fm n φ) (nz : Nz φ) (hm : Fm m α) (e : ∀ x y, φ x y * α x y = 0) (x y : Int) : α x y = 0 := by
  obtain ⟨l, hl, q⟩ := hn
  obtain ⟨p, hp, r⟩ := hm
  rw [← r]
  by_cases c1 : l = []
  · obtain ⟨x0, y0, h0⟩ := nz
    exact absurd (by rw [← q, c1]; rfl) h0
  by_cases c2 : p = []
  · rw [c2]; rfl
  have h0 : cont (ml l p) = 0 := Classical.byContradiction fun ne => ne (by
    have := ev0_all (l := ml l p) fun x y => by rw [ev_ml c1 c2, q, r, e]
    rw [gl_cont]
    exact gl0_of fun j => by
      by_cases c : j < (ml l p).length
      · exact this _ (co_memE c)
      · exact co_far (by omega))
  rw [cont_ml c1 c2] at h0
  rcases Nat.mul_eq_zero.mp h0 with z | z
  · obtain ⟨x0, y0, h1⟩ := nz
    exact absurd (by rw [← q]; exact ev_zero (cont_zero z) x0 y0) h1
  · exact ev_zero (cont_zero z) x y
theorem Fm.can {n m : Nat} {φ α β : Int → Int → Int} (hn : Fm n φ) (nz : Nz φ) (ha : Fm m α) (hb : Fm m β) (e : ∀ x y, φ x y * α x y = φ x y * β x y) (x y : Int) : α x y = β x y := by
  have := hn.can0 nz (ha.add (hb.mulc (-1))) (fun x y => by rw [Int.mul_add, e]; grind) x y
  omega
/-- h divides φ, up to a factor -/
def Dv (k n : Nat) (h φ : Int → Int → Int) : Prop := ∃ (c : Int) (A : Int → Int → Int), c ≠ 0 ∧ Fm (n + 1 - k) A ∧ ∀ x y, c * φ x y = h x y * A x y
theorem Dv.le {k n : Nat} {h φ : Int → Int → Int} (d : Dv k n h φ) (nz : Nz φ) : k ≤ n := by
  obtain ⟨c, A, hc, hA, e⟩ := d
  obtain ⟨x, y, h0⟩ := nz
  refine Classical.byContradiction fun c1 => ?_
  have := (hA.cast (show n + 1 - k = 0 by omega)).none x y
  have e1 := e x y
  rw [this, Int.mul_zero] at e1
  exact (Int.mul_eq_zero.mp e1).elim hc h0
theorem Dv.self {n : Nat} (h : Int → Int → Int) : Dv n n h h := ⟨1, fun _ _ => 1, by decide, Fm.one.cast (by omega), fun x y => by rw [Int.one_mul, Int.mul_one]⟩
theorem Dv.zero {k n : Nat} (h : Int → Int → Int) : Dv k n h fun _ _ => 0 := ⟨1, fun _ _ => 0, by decide, Fm.zero _, fun x y => by rw [Int.mul_zero, Int.mul_zero]⟩
theorem Dv.congr {k n : Nat} {h φ ψ : Int → Int → Int} (d : Dv k n h φ) {a b : Int} (ha : a ≠ 0) (e : ∀ x y, a * φ x y = b * ψ x y) (hb : b ≠ 0) : Dv k n h ψ := by
  obtain ⟨c, A, hc, hA, q⟩ := d
  exact ⟨c * b, _, Int.mul_ne_zero hc hb, hA.mulc a, fun x y => by
    have := q x y
    have := e x y
    grind⟩
theorem Dv.congrL {k n : Nat} {h h' φ : Int → Int → Int} (d : Dv k n h φ) {a b : Int} (ha : a ≠ 0) (e : ∀ x y, a * h x y = b * h' x y) : Dv k n h' φ := by
  obtain ⟨c, A, hc, hA, q⟩ := d
  exact ⟨a * c, _, Int.mul_ne_zero ha hc, hA.mulc b, fun x y => by
    have := q x y
    have := e x y
    grind⟩
theorem Dv.trans {k m n : Nat} {h φ ψ : Int → Int → Int} (d : Dv k m h φ) (g : Dv m n φ ψ) : Dv k n h ψ := by
  obtain ⟨c, A, hc, hA, q⟩ := d
  obtain ⟨c', B, hc', hB, q'⟩ := g
  exact ⟨c * c', _, Int.mul_ne_zero hc hc', (hA.mul hB (by omega) : Fm (n + 1 - k) _), fun x y => by
    have := q x y
    have := q' x y
    grind⟩
theorem Dv.mul {k n k' n' : Nat} {h φ h' φ' : Int → Int → Int} (d : Dv k n h φ) (g : Dv k' n' h' φ') (h1 : 1 ≤ k) (h2 : 1 ≤ k') (n1 : 1 ≤ n) (n2 : 1 ≤ n') : Dv (k + k' - 1) (n + n' - 1) (fun x y => h x y * h' x y) fun x y => φ x y * φ' x y := by
  obtain ⟨c, A, hc, hA, q⟩ := d
  obtain ⟨c', B, hc', hB, q'⟩ := g
  exact ⟨c * c', _, Int.mul_ne_zero hc hc', hA.mul hB (by omega), fun x y => by
    have := q x y
    have := q' x y
    grind⟩
/-- φ is made of F and G -/
def Idl (n m q : Nat) (F G φ : Int → Int → Int) : Prop := ∃ (c : Int) (U V : Int → Int → Int), c ≠ 0 ∧ Fm (q + 1 - n) U ∧ Fm (q + 1 - m) V ∧ ∀ x y, c * φ x y = U x y * F x y + V x y * G x y
theorem Idl.sw {n m q : Nat} {F G φ : Int → Int → Int} (h : Idl n m q F G φ) : Idl m n q G F φ := by
  obtain ⟨c, U, V, hc, hU, hV, e⟩ := h
  exact ⟨c, V, U, hc, hV, hU, fun x y => by rw [e, Int.add_comm]⟩
theorem Idl.dv {n m q d : Nat} {F G φ D : Int → Int → Int} (h : Idl n m q F G φ) (f : Dv d n D F) (g : Dv d m D G) : Dv d q D φ := by
  obtain ⟨c, U, V, hc, hU, hV, e⟩ := h
  obtain ⟨a, A, ha, hA, p⟩ := f
  obtain ⟨b, B, hb, hB, r⟩ := g
  refine ⟨c * a * b, _, Int.mul_ne_zero (Int.mul_ne_zero hc ha) hb, ((hU.mul hA (k := q + 1 - d) (by omega)).mulc b).add ((hV.mul hB (k := q + 1 - d) (by omega)).mulc a), fun x y => ?_⟩
  have := e x y
  have := p x y
  have := r x y
  grind
theorem Idl.dv2 {n m q k1 k2 : Nat} {F G φ D1 D2 : Int → Int → Int} (h : Idl n m q F G φ) (f : Dv k1 n D1 F) (g : Dv k2 m D2 G) : Idl k1 k2 q D1 D2 φ := by
  obtain ⟨c, U, V, hc, hU, hV, e⟩ := h
  obtain ⟨a, A, ha, hA, p⟩ := f
  obtain ⟨b, B, hb, hB, r⟩ := g
  refine ⟨c * a * b, _, _, Int.mul_ne_zero (Int.mul_ne_zero hc ha) hb, (hU.mul hA (k := q + 1 - k1) (by omega)).mulc b, (hV.mul hB (k := q + 1 - k2) (by omega)).mulc a, fun x y => ?_⟩
  have := e x y
  have := p x y
  have := r x y
  grind
/-- what divides x ^ N φ and y ^ N φ divides φ -/
theorem Dv.both {d k N : Nat} {D φ : Int → Int → Int} (hD : Fm d D) (nD : Nz D) (hφ : Fm k φ) (h1 : Dv d (k + N) D fun x y => x ^ N * φ x y) (h2 : Dv d (k + N) D fun x y => y ^ N * φ x y) : Dv d k D φ := by
  obtain ⟨c, A, hc, ⟨a, la, qa⟩, e1⟩ := h1
  obtain ⟨c', B, hc', ⟨b, lb, qb⟩, e2⟩ := h2
  have key : ∀ x y, ev (List.replicate N 0 ++ a.map (c' * ·)) x y = ev (b.map (c * ·) ++ List.replicate N 0) x y := fun x y => by
    rw [ev_ry, ev_sx, ev_map, ev_map]
    refine hD.can nD (m := (k + N + 1 - d) + N) (α := fun x y => y ^ N * (c' * ev a x y)) (β := fun x y => x ^ N * (c * ev b x y)) ((((Fm.of a).cast la).mulc c').py N) ((((Fm.of b).cast lb).mulc c).px N) (fun x y => ?_) x y
    have := e1 x y
    have := e2 x y
    rw [qa, qb]
    grind
  have keyL := ev_inj (by simp; omega) key
  have z : ∀ j, a.length ≤ j + N → co a j = 0 := fun j hj => by
    by_cases c0 : j < a.length
    · have t := congrArg (fun l => co l (N + j)) keyL
      rw [co_appz, co_far (l := b.map (c * ·)) (by rw [List.length_map]; omega), co_get (by simp; omega), List.getElem_append_right (by simp)] at t
      simp only [List.length_replicate, Nat.add_sub_cancel_left, List.getElem_map] at t
      rw [co_get c0]
      exact (Int.mul_eq_zero.mp t).resolve_left hc'
    · exact co_far (by omega)
  have eA : ∀ x y, A x y = x ^ N * ev (a.take (k + 1 - d)) x y := by
    by_cases cs : a.length < N
    · have zz : ∀ w ∈ a, w = 0 := fun w hw => by
        obtain ⟨j, hj, e⟩ := List.mem_iff_getElem.mp hw
        rw [← e, ← co_get hj]
        exact z j (by omega)
      intro x y
      rw [← qa, ev_zero (l := a) zz, ev_zero (l := a.take (k + 1 - d)) (fun w hw => zz w (List.mem_of_mem_take hw)), Int.mul_zero]
    · intro x y
      rw [← ev_sx, ← qa]
      congr 1
      refine co_inj (by simp; omega) fun j => ?_
      rw [co_appz]
      by_cases cj : j < k + 1 - d
      · by_cases cl : j < a.length
        · rw [co_get cl, co_get (by rw [List.length_take]; omega), List.getElem_take]
        · rw [co_far (by omega), co_far (by rw [List.length_take]; omega)]
      · rw [z j (by omega), co_far (by rw [List.length_take]; omega)]
  refine ⟨c, ev (a.take (k + 1 - d)), hc, ?_, fun x y => ?_⟩
  · by_cases cs : a.length < k + 1 - d
    · exact absurd cs (by omega)
    · exact ⟨_, by rw [List.length_take]; omega, fun _ _ => rfl⟩
  · have hx : Fm (1 + N) fun x y => x ^ N * 1 := Fm.one.px N
    have nx : Nz fun x y => x ^ N * 1 := ⟨1, 0, by show (1 : Int) ^ N * 1 ≠ 0; rw [Int.one_pow]; decide⟩
    by_cases cs : k + 1 ≤ d
    · have t0 : ∀ x y, ev (a.take (k + 1 - d)) x y = 0 := fun x y => by rw [show k + 1 - d = 0 by omega]; rfl
      have p0 : ∀ x y, φ x y = 0 := hx.can0 nx hφ fun x y => by
        have := e1 x y
        rw [eA, t0] at this
        have : c * (x ^ N * φ x y) = 0 := by grind
        rw [Int.mul_one]
        exact (Int.mul_eq_zero.mp this).resolve_left hc
      rw [p0, t0, Int.mul_zero, Int.mul_zero]
    · refine hx.can nx (m := k) (α := fun x y => c * φ x y) (β := fun x y => D x y * ev (a.take (k + 1 - d)) x y) (hφ.mulc c) (hD.mul ⟨_, rfl, fun _ _ => rfl⟩ ?_) (fun x y => ?_) x y
      · rw [List.length_take]
        omega
      · have := e1 x y
        rw [eA] at this
        grind
end K77

set_option Elab.async false
set_option linter.all false
set_option maxRecDepth 100000
set_option maxHeartbeats 2000000
set_option exponentiation.threshold 10000
/-! plain: steps of Euclid; common forms, told by what they divide and what they are made of -/
namespace K77
open LA
abbrev Bi : Type := Int → Int → Int
structure Mm (n m k : Nat) (f g h : Bi) : Prop where
  hh : Fm k h
  h0 : h 1 0 ≠ 0
  df : Dv k n h f
  dg : Dv k m h g
  st : ∀ E, Fm (n + m - 2 * k) E → ∃ (c : Int) (U V : Bi), c ≠ 0 ∧ Fm (m - k) U ∧ Fm (n - k) V ∧ ∀ x y, c * (E x y * h x y) = U x y * f x y + V x y * g x y
section
variable {n m k : Nat} {f g h : Bi}
theorem Mm.sw (M : Mm n m k f g h) : Mm m n k g f h := ⟨M.hh, M.h0, M.dg, M.df, fun E hE => by
  obtain ⟨c, U, V, hc, hU, hV, e⟩ := M.st E (hE.cast (by omega))
  exact ⟨c, V, U, hc, hV, hU, fun x y => by rw [e, Int.add_comm]⟩⟩
theorem Mm.zero (hg : Fm m g) (g0 : g 1 0 ≠ 0) (hf : ∀ x y, f x y = 0) : Mm n m m f g g :=
  ⟨hg, g0, (Dv.zero g).congr (a := 1) (b := 1) (by decide) (fun x y => by rw [hf]) (by decide), Dv.self g, fun E hE => ⟨1, fun _ _ => 0, E, by decide, (Fm.zero _).cast rfl, hE.cast (by omega), fun x y => by rw [hf]; simp⟩⟩
theorem Mm.scale {f' : Bi} {a b : Int} (M : Mm n m k f' g h) (ha : a ≠ 0) (hb : b ≠ 0) (e : ∀ x y, a * f' x y = b * f x y) : Mm n m k f g h :=
  ⟨M.hh, M.h0, M.df.congr ha e hb, M.dg, fun E hE => by
    obtain ⟨c, U, V, hc, hU, hV, q⟩ := M.st E hE
    exact ⟨a * c, _, _, Int.mul_ne_zero ha hc, hU.mulc b, hV.mulc a, fun x y => by
      have := q x y
      have := e x y
      grind⟩⟩
theorem Mm.scaleH {h' : Bi} {a b : Int} (M : Mm n m k f g h) (hh' : Fm k h') (ha : a ≠ 0) (hb : b ≠ 0) (e : ∀ x y, a * h x y = b * h' x y) : Mm n m k f g h' :=
  ⟨hh', fun z => by
    have := e 1 0
    rw [z, Int.mul_zero] at this
    exact (Int.mul_eq_zero.mp this).elim ha M.h0, M.df.congrL ha e, M.dg.congrL ha e, fun E hE => by
    obtain ⟨c, U, V, hc, hU, hV, q⟩ := M.st E hE
    exact ⟨c * b, _, _, Int.mul_ne_zero hc hb, hU.mulc a, hV.mulc a, fun x y => by
      have := q x y
      have := e x y
      grind⟩⟩
/-- one step: the first entries are taken away -/
theorem Mm.step {f' R : Bi} {γ : Int} (M : Mm n m k f' g h) (hf' : Fm n f') (hg : Fm m g) (g0 : g 1 0 ≠ 0) (hγ : γ ≠ 0) (hR : (∀ x y, R x y = 0) ∨ ∃ r, Fm r R ∧ r + m = n + 2)
    (hk : k ≤ n ∨ m ≤ n + 1) (e : ∀ x y, y * f' x y = γ * f x y - R x y * g x y) : Mm (n + 1) m k f g h := by
  have km : k ≤ m := M.dg.le ⟨1, 0, g0⟩
  have hRm : ∀ {p q : Nat} {U : Bi}, Fm p U → p + n + 1 = q + m → Fm q fun x y => R x y * U x y := fun {p q U} hU hp => by
    rcases hR with z | ⟨r, hr, er⟩
    · exact (Fm.zero q).congr fun x y => by rw [z, Int.zero_mul]
    · exact hr.mul hU (by omega)
  refine ⟨M.hh, M.h0, ?_, M.dg, fun E hE => ?_⟩
  · obtain ⟨c, A, hc, hA, p⟩ := M.df
    obtain ⟨d, B, hd, hB, q⟩ := M.dg
    refine ⟨c * d * γ, fun x y => d * (y ^ 1 * A x y) + c * (R x y * B x y), Int.mul_ne_zero (Int.mul_ne_zero hc hd) hγ, (((hA.py 1).cast (by omega)).mulc d).add ((hRm hB (by omega)).mulc c), fun x y => ?_⟩
    have := p x y
    have := q x y
    have := e x y
    dsimp only
    rw [Int.pow_one]
    grind
  · by_cases c0 : n + 1 + m - 2 * k = 0
    · rw [c0] at hE
      exact ⟨1, fun _ _ => 0, fun _ _ => 0, by decide, Fm.zero _, Fm.zero _, fun x y => by rw [hE.none]; simp⟩
    · obtain ⟨L, eL⟩ : ∃ L, n + 1 + m - 2 * k = L + 1 := ⟨n + 1 + m - 2 * k - 1, by omega⟩
      have kn : k ≤ n := by omega
      rw [eL] at hE
      obtain ⟨s, E', hE', eE⟩ := hE.split
      obtain ⟨d, B, hd, hB, q⟩ := M.dg
      obtain ⟨β, B', hB', eB⟩ := (hB.cast (show m + 1 - k = (m - k) + 1 by omega)).split
      have hβ : β ≠ 0 := fun z => by
        have t := q 1 0
        rw [eB, z] at t
        have : h 1 0 * (0 * 1 ^ (m - k) + 0 * B' 1 0) = 0 := by rw [Int.zero_mul, Int.zero_mul]; exact Int.mul_zero _
        rw [this] at t
        exact (Int.mul_eq_zero.mp t).elim hd g0
      obtain ⟨c, U, V, hc, hU, hV, r⟩ := M.st (fun x y => β * E' x y + -s * (x ^ (n - k) * B' x y)) (((hE'.mulc β).add (((hB'.px (n - k)).cast (by omega)).mulc (-s))).cast (by omega))
      refine ⟨c * β, fun x y => γ * U x y, fun x y => c * s * d * (x ^ (n - k) * 1) + (-1) * (R x y * U x y) + y ^ 1 * V x y, Int.mul_ne_zero hc hβ, hU.mulc γ, ((((Fm.one.px (n - k)).cast (by omega)).mulc _).add ((hRm hU (by omega)).mulc (-1))).add ((hV.py 1).cast (by omega)), fun x y => ?_⟩
      have t1 := r x y
      have t2 := e x y
      have t3 := eE x y
      have t4 := eB x y
      have t5 := q x y
      rw [t4] at t5
      dsimp only
      rw [Int.pow_one, t3]
      have t6 : x ^ L = x ^ (n - k) * x ^ (m - k) := by rw [← Int.pow_add, show n - k + (m - k) = L by omega]
      rw [t6]
      generalize x ^ (n - k) = X at *
      generalize x ^ (m - k) = Z at *
      clear t3 t4 t6 e q r eE eB
      generalize U x y = u at *
      generalize V x y = v at *
      generalize f x y = F at *
      generalize g x y = G at *
      generalize h x y = H at *
      generalize R x y = ρ at *
      generalize f' x y = F' at *
      generalize E' x y = e' at *
      generalize B' x y = b' at *
      have : c * ((β * e' + -s * (X * b')) * H) * y = y * F' * u + v * G * y := by grind
      rw [t2] at this
      grind
/-- zeros ahead of both -/
theorem lift (M : Mm n m k f g h) (z : Nat) : Dv (k + z) (n + z) (fun x y => y ^ z * h x y) (fun x y => y ^ z * f x y) ∧ Dv (k + z) (m + z) (fun x y => y ^ z * h x y) (fun x y => y ^ z * g x y) := by
  obtain ⟨c, A, hc, hA, p⟩ := M.df
  obtain ⟨d, B, hd, hB, q⟩ := M.dg
  exact ⟨⟨c, A, hc, hA.cast (by omega), fun x y => by have := p x y; grind⟩, ⟨d, B, hd, hB.cast (by omega), fun x y => by have := q x y; grind⟩⟩
end
/-- T is the common form of F and G, up to a factor -/
structure Com (n m k : Nat) (F G T : Bi) : Prop where
  hT : Fm k T
  nz : Nz T
  df : Dv k n T F
  dg : Dv k m T G
  id : ∃ N, Idl n m (k + N) F G (fun x y => x ^ N * T x y) ∧ Idl n m (k + N) F G fun x y => y ^ N * T x y
/-- all forms of a degree, times T, are made of F and G -/
def Full (n m k : Nat) (F G T : Bi) : Prop := ∀ t E, Fm (n + m - 2 * k + t) E → ∃ (c : Int) (U V : Bi), c ≠ 0 ∧ Fm (m - k + t) U ∧ Fm (n - k + t) V ∧ ∀ x y, c * (E x y * T x y) = U x y * F x y + V x y * G x y
section
variable {n m k : Nat} {F G T : Bi}
theorem Com.sw (h : Com n m k F G T) : Com m n k G F T := ⟨h.hT, h.nz, h.dg, h.df, h.id.imp fun N p => ⟨p.1.sw, p.2.sw⟩⟩
theorem full_of (hT : Fm k T) (nT : Nz T) (df : Dv k n T F) (dg : Dv k m T G) (nF : Nz F) (nG : Nz G)
    (st : ∀ E, Fm (n + m - 2 * k) E → ∃ (c : Int) (U V : Bi), c ≠ 0 ∧ Fm (m - k) U ∧ Fm (n - k) V ∧ ∀ x y, c * (E x y * T x y) = U x y * F x y + V x y * G x y) : Full n m k F G T := by
  have kn := df.le nF
  have km := dg.le nG
  by_cases c0 : n + m - 2 * k = 0
  · obtain ⟨d, A, hd, hA, p⟩ := df
    obtain ⟨a, ea⟩ := (hA.cast (show n + 1 - k = 1 by omega)).const
    have ha : a ≠ 0 := fun z => by
      obtain ⟨x, y, h0⟩ := nF
      have := p x y
      rw [ea, z, Int.mul_zero] at this
      exact (Int.mul_eq_zero.mp this).elim hd h0
    intro t E hE
    exact ⟨a, _, fun _ _ => 0, ha, (hE.cast (by omega)).mulc d, Fm.zero _, fun x y => by
      have := p x y
      rw [ea] at this
      grind⟩
  · intro t
    induction t with
    | zero => exact st
    | succ t ih =>
      intro E hE
      obtain ⟨s, E', hE', eE⟩ := (hE.cast (show n + m - 2 * k + (t + 1) = n + m - 2 * k + t + 1 by omega)).split
      obtain ⟨c, U, V, hc, hU, hV, e⟩ := ih E' hE'
      obtain ⟨c', U', V', hc', hU', hV', e'⟩ := ih (fun x y => x ^ (n + m - 2 * k + t - 1) * 1) ((Fm.one.px _).cast (by omega))
      refine ⟨c * c', fun x y => (s * c) * (x ^ 1 * U' x y) + c' * (y ^ 1 * U x y), fun x y => (s * c) * (x ^ 1 * V' x y) + c' * (y ^ 1 * V x y), Int.mul_ne_zero hc hc', (((hU'.px 1).mulc _).add ((hU.py 1).mulc _)).cast (by omega), (((hV'.px 1).mulc _).add ((hV.py 1).mulc _)).cast (by omega), fun x y => ?_⟩
      have t1 := e x y
      have t2 := e' x y
      dsimp only
      rw [eE, Int.pow_one, Int.pow_one, show n + m - 2 * k + t = n + m - 2 * k + t - 1 + 1 by omega, Int.pow_succ]
      generalize x ^ (n + m - 2 * k + t - 1) = X at *
      grind
theorem Full.com (h : Full n m k F G T) (hT : Fm k T) (nT : Nz T) (df : Dv k n T F) (dg : Dv k m T G) (nF : Nz F) (nG : Nz G) : Com n m k F G T := by
  have kn := df.le nF
  have km := dg.le nG
  refine ⟨hT, nT, df, dg, n + m - 2 * k, ?_, ?_⟩
  · obtain ⟨c, U, V, hc, hU, hV, e⟩ := h 1 (fun x y => x ^ (n + m - 2 * k) * 1) ((Fm.one.px _).cast (by omega))
    exact ⟨c, U, V, hc, hU.cast (by omega), hV.cast (by omega), fun x y => by rw [← e, Int.mul_one]⟩
  · obtain ⟨c, U, V, hc, hU, hV, e⟩ := h 1 (fun x y => y ^ (n + m - 2 * k) * 1) ((Fm.one.py _).cast (by omega))
    exact ⟨c, U, V, hc, hU.cast (by omega), hV.cast (by omega), fun x y => by rw [← e, Int.mul_one]⟩
/-- the common form divides all that divide both -/
theorem Com.most {d : Nat} {D : Bi} (h : Com n m k F G T) (hD : Fm d D) (nD : Nz D) (f : Dv d n D F) (g : Dv d m D G) : Dv d k D T := by
  obtain ⟨N, p, q⟩ := h.id
  exact Dv.both hD nD h.hT (p.dv f g) (q.dv f g)
theorem Com.scale {F' : Bi} {a b : Int} (h : Com n m k F G T) (ha : a ≠ 0) (hb : b ≠ 0) (e : ∀ x y, a * F x y = b * F' x y) : Com n m k F' G T :=
  ⟨h.hT, h.nz, h.df.congr ha e hb, h.dg, h.id.imp fun N p => by
    have go : ∀ {φ : Bi}, Idl n m (k + N) F G φ → Idl n m (k + N) F' G φ := fun {φ} q => by
      obtain ⟨c, U, V, hc, hU, hV, q⟩ := q
      exact ⟨a * c, _, _, Int.mul_ne_zero ha hc, hU.mulc b, hV.mulc a, fun x y => by
        have := q x y
        have := e x y
        grind⟩
    exact ⟨go p.1, go p.2⟩⟩
/-- a divisor is the common form -/
theorem Com.divisor (hF : Fm n F) (nF : Nz F) (d : Dv n m F G) : Com n m n F G F :=
  ⟨hF, nF, Dv.self F, d, 0, ⟨1, fun _ _ => 1, fun _ _ => 0, by decide, Fm.one.cast (by omega), Fm.zero _, fun x y => by simp⟩, ⟨1, fun _ _ => 1, fun _ _ => 0, by decide, Fm.one.cast (by omega), Fm.zero _, fun x y => by simp⟩⟩
/-- apart: no common form but 1 -/
def Ap (n m : Nat) (F G : Bi) : Prop := Com n m 1 F G fun _ _ => 1
theorem Ap.sw (h : Ap n m F G) : Ap m n G F := Com.sw h
theorem dv1 (hF : Fm n F) : Dv 1 n (fun _ _ => 1) F := ⟨1, F, by decide, hF.cast (by omega), fun _ _ => rfl⟩
theorem nz1 : Nz fun _ _ => 1 := ⟨0, 0, by decide⟩
theorem Idl.mul {n n' z k k' N N' : Nat} {X Y Z D1 D2 φ ψ : Bi} (i : Idl n z (k + N) X Z (fun x y => φ x y * D1 x y)) (j : Idl n' z (k' + N') Y Z (fun x y => ψ x y * D2 x y)) (n1 : 1 ≤ n) (n2 : 1 ≤ n') (k1 : 1 ≤ k) (k2 : 1 ≤ k') (z1 : 1 ≤ z) (hX : Fm n X) (hY : Fm n' Y) (hZ : Fm z Z) :
    Idl (n + n' - 1) z ((k + k' - 1) + (N + N')) (fun x y => X x y * Y x y) Z fun x y => φ x y * ψ x y * (D1 x y * D2 x y) := by
  obtain ⟨c, U, V, hc, hU, hV, e⟩ := i
  obtain ⟨d, U', V', hd, hU', hV', e'⟩ := j
  refine ⟨c * d, fun x y => U x y * U' x y, fun x y => U x y * X x y * V' x y + V x y * U' x y * Y x y + V x y * V' x y * Z x y, Int.mul_ne_zero hc hd, hU.mul hU' (by omega), ?_, fun x y => ?_⟩
  · refine ((((hU.mul hX (k := k + N) (by omega)).mul hV' (by omega)).add ?_).add ?_)
    · refine ((hV.mul (hU'.mul hY (k := k' + N') (by omega)) (k := k + k' - 1 + (N + N') + 1 - z) (by omega)).congr fun x y => by rw [Int.mul_assoc])
    · refine ((hV.mul (hV'.mul hZ (k := k' + N') (by omega)) (k := k + k' - 1 + (N + N') + 1 - z) (by omega)).congr fun x y => by rw [Int.mul_assoc])
  · have := e x y
    have := e' x y
    grind
theorem Ap.mul {n' z : Nat} {X Y Z : Bi} (h1 : Ap n z X Z) (h2 : Ap n' z Y Z) (n1 : 1 ≤ n) (n2 : 1 ≤ n') (z1 : 1 ≤ z) (hX : Fm n X) (hY : Fm n' Y) (hZ : Fm z Z) : Ap (n + n' - 1) z (fun x y => X x y * Y x y) Z := by
  obtain ⟨N, i1, i2⟩ := h1.id
  obtain ⟨N', j1, j2⟩ := h2.id
  refine ⟨Fm.one, nz1, dv1 (hX.mul hY (by omega)), dv1 hZ, N + N', ?_, ?_⟩
  · obtain ⟨c, U, V, hc, hU, hV, e⟩ := i1.mul j1 n1 n2 (Nat.le_refl 1) (Nat.le_refl 1) z1 hX hY hZ
    exact ⟨c, U, V, hc, hU, hV, fun x y => by dsimp only; rw [Int.pow_add]; exact e x y⟩
  · obtain ⟨c, U, V, hc, hU, hV, e⟩ := i2.mul j2 n1 n2 (Nat.le_refl 1) (Nat.le_refl 1) z1 hX hY hZ
    exact ⟨c, U, V, hc, hU, hV, fun x y => by dsimp only; rw [Int.pow_add]; exact e x y⟩
/-- the common form of a product of two that are apart -/
theorem Com.mul {n' k' z : Nat} {X Y Z D1 D2 : Bi} (ap : Ap n n' X Y) (h1 : Com n z k X Z D1) (h2 : Com n' z k' Y Z D2) (n1 : 1 ≤ n) (n2 : 1 ≤ n') (k1 : 1 ≤ k) (k2 : 1 ≤ k') (z1 : 1 ≤ z) (nZ : Nz Z) (hX : Fm n X) (hY : Fm n' Y) (hZ : Fm z Z) :
    Com (n + n' - 1) z (k + k' - 1) (fun x y => X x y * Y x y) Z (fun x y => D1 x y * D2 x y) := by
  have hn : Nz fun x y => D1 x y * D2 x y := Classical.byContradiction fun c => by
    have := h1.hT.can0 h1.nz h2.hT fun x y => Classical.byContradiction fun ne => c ⟨x, y, ne⟩
    obtain ⟨x, y, h0⟩ := h2.nz
    exact h0 (this x y)
  have kz := h1.dg.le nZ
  have kz' := h2.dg.le nZ
  refine ⟨h1.hT.mul h2.hT (by omega), hn, h1.df.mul h2.df k1 k2 n1 n2, ?_, ?_⟩
  · obtain ⟨a, A, ha, hA, p⟩ := h1.dg
    obtain ⟨b, B, hb, hB, q⟩ := h2.dg
    obtain ⟨N, i1, i2⟩ := ap.id
    have go : ∀ {φ : Bi}, Idl n n' (1 + N) X Y (fun x y => φ x y * 1) → Dv k' ((z + 1 - k) + N) D2 fun x y => φ x y * A x y := fun {φ} i => by
      obtain ⟨c, U, V, hc, hU, hV, r⟩ := i.dv2 h1.df h2.df
      refine ⟨b * c, _, Int.mul_ne_zero hb hc, ((hU.mul hB (k := z + 1 - k + N + 1 - k') (by omega)).mulc a).add ((hV.mul hA (k := z + 1 - k + N + 1 - k') (by omega)).mulc b), fun x y => ?_⟩
      have := p x y
      have := q x y
      have := r x y
      grind
    obtain ⟨c, A3, hc, hA3, r⟩ := Dv.both h2.hT h2.nz hA (go i1) (go i2)
    exact ⟨a * c, A3, Int.mul_ne_zero ha hc, hA3.cast (by omega), fun x y => by
      have := p x y
      have := r x y
      grind⟩
  · obtain ⟨N, i1, i2⟩ := h1.id
    obtain ⟨N', j1, j2⟩ := h2.id
    refine ⟨N + N', ?_, ?_⟩
    · obtain ⟨c, U, V, hc, hU, hV, e⟩ := i1.mul j1 n1 n2 k1 k2 z1 hX hY hZ
      exact ⟨c, U, V, hc, hU, hV, fun x y => by dsimp only; rw [Int.pow_add]; exact e x y⟩
    · obtain ⟨c, U, V, hc, hU, hV, e⟩ := i2.mul j2 n1 n2 k1 k2 z1 hX hY hZ
      exact ⟨c, U, V, hc, hU, hV, fun x y => by dsimp only; rw [Int.pow_add]; exact e x y⟩
end
end K77

set_option Elab.async false
set_option linter.all false
/-! while, by a word and a measure of the state, where the test is read at once -/
namespace WhileD
open PySem PySem.Spec PyProof.Rows L2
/-- what stands behind a turn -/
def Nxt (Pv : L2.St → Hp → Prop) (μ : L2.St → Nat) (n : Nat) : L2.St → Hp → Prop := fun σ H => Pv σ H ∧ μ σ < n
theorem while_dir {c : TT} {tb : TS} {D : Ends} {σ : L2.St} {H : Hp} (Pv : L2.St → Hp → Prop) (μ : L2.St → Nat) (h0 : Pv σ H)
    (hs : ∀ σ H, Pv σ H → c σ H fun b H1 => if b = true then ∃ N : L2.St → Hp → Prop, (∀ σ' H', N σ' H' → ∃ m', m' < μ σ ∧ m' = μ σ' ∧ Pv σ' H') ∧ tb { D with nx := N, ct := N, bk := D.nx } σ H1 else D.nx σ H1) : tWhile c tb D σ H := by
  refine ⟨fun m σ H => m = μ σ ∧ Pv σ H, ⟨_, rfl, h0⟩, ?_⟩
  rintro m σ H ⟨rfl, p⟩
  exact hs σ H p
theorem turn {tb : TS} {D : Ends} {σ : L2.St} {H1 : Hp} {Pv : L2.St → Hp → Prop} {μ : L2.St → Nat} {n : Nat} (h : tb { D with nx := Nxt Pv μ n, ct := Nxt Pv μ n, bk := D.nx } σ H1) :
    ∃ N : L2.St → Hp → Prop, (∀ σ' H', N σ' H' → ∃ m', m' < n ∧ m' = μ σ' ∧ Pv σ' H') ∧ tb { D with nx := N, ct := N, bk := D.nx } σ H1 :=
  ⟨_, fun σ' H' p => ⟨_, p.2, rfl, p.1⟩, h⟩
end WhileD
namespace WhileD
open PySem PySem.Spec PyProof.Rows L2
def NxtM (Pv : Nat → L2.St → Hp → Prop) (n : Nat) : L2.St → Hp → Prop := fun σ H => ∃ m, m < n ∧ Pv m σ H
theorem while_m {c : TT} {tb : TS} {D : Ends} {σ : L2.St} {H : Hp} (Pv : Nat → L2.St → Hp → Prop) (h0 : ∃ m, Pv m σ H)
    (hs : ∀ m σ H, Pv m σ H → c σ H fun b H1 => if b = true then ∃ N : L2.St → Hp → Prop, (∀ σ' H', N σ' H' → ∃ m', m' < m ∧ Pv m' σ' H') ∧ tb { D with nx := N, ct := N, bk := D.nx } σ H1 else D.nx σ H1) : tWhile c tb D σ H := by
  refine ⟨Pv, h0, ?_⟩
  exact fun m σ H p => hs m σ H p
theorem turnM {tb : TS} {D : Ends} {σ : L2.St} {H1 : Hp} {Pv : Nat → L2.St → Hp → Prop} {n : Nat} (h : tb { D with nx := NxtM Pv n, ct := NxtM Pv n, bk := D.nx } σ H1) :
    ∃ N : L2.St → Hp → Prop, (∀ σ' H', N σ' H' → ∃ m', m' < n ∧ Pv m' σ' H') ∧ tb { D with nx := N, ct := N, bk := D.nx } σ H1 := ⟨_, fun _ _ p => p, h⟩
end WhileD

set_option Elab.async false
set_option linter.all false
set_option maxRecDepth 100000
set_option maxHeartbeats 4000000
set_option exponentiation.threshold 10000
/-! cut lines, rests -/
namespace K77
open PySem PySem.Spec PyProof.Rows L2 StX RZ MyR SlX OwnR OwnF EnumT SeqE GxR GenNx FDivQ
/-- without the zeros ahead -/
def cut (l : List Int) : List Int := l.dropWhile (· == 0)
def ah (l : List Int) : Nat := (l.takeWhile (· == 0)).length
theorem cut_z (l : List Int) : cut (0 :: l) = cut l := rfl
theorem ah_z (l : List Int) : ah (0 :: l) = ah l + 1 := rfl
theorem cut_n {a : Int} (h : a ≠ 0) (l : List Int) : cut (a :: l) = a :: l := by
  unfold cut
  rw [List.dropWhile_cons_of_neg (by simpa using h)]
theorem ah_n {a : Int} (h : a ≠ 0) (l : List Int) : ah (a :: l) = 0 := by
  unfold ah
  rw [List.takeWhile_cons_of_neg (by simpa using h)]
  rfl
theorem cut_drop : ∀ l : List Int, l.drop (ah l) = cut l
  | [] => rfl
  | a :: l => by
    by_cases h : a = 0
    · subst h
      rw [ah_z, cut_z, List.drop_succ_cons, cut_drop l]
    · rw [ah_n h, cut_n h]
      rfl
theorem ah_zero : ∀ {l : List Int} {j : Nat}, j < ah l → co l j = 0
  | [], j, h => absurd h (Nat.not_lt_zero _)
  | a :: l, j, h => by
    by_cases e : a = 0
    · subst e
      rw [ah_z] at h
      cases j with
      | zero => rfl
      | succ j => exact ah_zero (l := l) (by omega)
    · rw [ah_n e] at h
      exact absurd h (Nat.not_lt_zero _)
theorem ah_le : ∀ l : List Int, ah l ≤ l.length
  | [] => Nat.le_refl _
  | a :: l => by
    by_cases e : a = 0
    · subst e
      rw [ah_z, List.length_cons]
      exact Nat.succ_le_succ (ah_le l)
    · rw [ah_n e]
      exact Nat.zero_le _
theorem ah_lead : ∀ {l : List Int}, ah l < l.length → co l (ah l) ≠ 0
  | [], h => absurd h (Nat.not_lt_zero _)
  | a :: l, h => by
    by_cases e : a = 0
    · subst e
      rw [ah_z] at h ⊢
      exact ah_lead (l := l) (by rw [List.length_cons] at h; omega)
    · rw [ah_n e]
      exact e
section
variable {P : Program} {w : World} {K : PySem.W.Frag} {mg : Str → Option Value} {base : Heap} {Ps : List Addr}
theorem slice_from {H : Hp} {t : Addr} {l : List Int} {k : Nat} {R : VK} (ht : H t = some (tp l) ∨ H t = some (ls l)) (hk : k ≤ l.length) (q : ∀ p H', Same H H' → (H' p = some (tp (l.drop k)) ∨ H' p = some (ls (l.drop k))) → R (.ref p) H') :
    rSlL K (.ref t) (some (k : Int)) none H R ∨ rSlA K (.ref t) (some (k : Int)) none H R := by
  have ec : cutV (l.map V.int) (some (k : Int)) none = (l.drop k).map V.int := by
    unfold cutV
    rw [HT.sIx_none, HT.sIx_nat, List.length_map, Nat.min_eq_left hk, ← List.map_drop, ← List.map_take, List.take_of_length_le (by rw [List.length_drop]; omega)]
  rcases ht with e | e
  · refine .inr ⟨t, l.map V.int, rfl, SqT.of e, fun z => q t H (Same.rf H) (.inl ?_), fun _ p hp => q p _ (same_upd0 hp) (.inl ?_)⟩
    · have z1 := z.1
      rw [HT.sIx_nat, List.length_map, Nat.min_eq_left hk] at z1
      rw [z1]
      exact e
    · rw [upd_same, ec]
  · refine .inl ⟨t, l.map V.int, rfl, SqL.of e, fun p hp => q p _ (same_upd0 hp) (.inr ?_)⟩
    rw [upd_same, ec]
def spCut : Sp := fun vs H Q _ => ∃ (t : Addr) (l : List Int), vs = [.ref t] ∧ (H t = some (tp l) ∨ H t = some (ls l)) ∧ l.length ≤ 100 ∧ ∀ p H', Same H H' → H' p = some (ls (cut l)) → Q (.ref p) H'
theorem ok_cut_line (T : Facts K mg) : FnOk P w K mg base CX0 1 T.f_cut_line T.fd_cut_line ["numbers"] spCut := by
  refine T.F_cut_line.ok sc_cut_line (fun vs H Q E h => ?_) (fun cdv A outer s H vs Q E hr h => ?_)
  · obtain ⟨t, l, rfl, _⟩ := h
    rfl
  · obtain ⟨t, l, rfl, ht, hl, q⟩ := h
    refine ⟨_, (PSs.nox (pss_cons (ps_set (i := 1) sc_cut_line.nd rfl (.inl rfl) pe_int)
    (pss_cons (ps_while PassesOwn.never (pw_and (pt_cmpR op_lt (pv 1) (pe_callB call_len_seq (by rfl) T.z_len (by decide +kernel) (pa_cons (pv 0) pa_nil)) (nomark _)) (pw_and1 (pt_cmpR op_eq (pe_ix ix_seq (pv 0) (pv 1) (fun _ _ => rfl)) pe_int (nomark _)))).pt
      (pss_one (ps_aug (i := 1) sc_cut_line.nd rfl (.inl rfl) pe_int ip_add)))
    (pss_one (ps_ret (pe_callTy call_list_of (by rfl) T.z_list (by decide +kernel) (pa_cons (pe_slice (L2.SlR.or (sl_list : L2.SlR _ (rSlL K)) (sl_tupA : L2.SlR _ (rSlA K))) (pv 0) (po_some (pv 1)) po_none) pa_nil))))))), ?_⟩
    refine WhileD.while_dir (fun σ H' => ∃ k : Nat, σ = [some (.ref t), some (.int k)] ∧ k ≤ ah l ∧ H' = H) (fun σ => l.length - yOf σ) ⟨0, rfl, Nat.zero_le _, rfl⟩ (fun σ H' hP => ?_)
    obtain ⟨k, rfl, hk, rfl⟩ := hP
    have sq : SqL K H' t (l.map V.int) ∨ SqT K H' t (l.map V.int) := ht.elim (fun e => .inr (SqT.of e)) fun e => .inl (SqL.of e)
    refine ⟨_, rfl, _, rfl, t, _, rfl, sq, _, _, rfl, rfl, _, rfl, ?_⟩
    rw [List.length_map]
    by_cases c : k < l.length
    · rw [decide_eq_true (show (k : Int) < (l.length : Int) by omega)]
      refine iteT ⟨_, rfl, _, rfl, SeqE.ix_sq (xs := l.map V.int) ht (atI_nat (j := k) (get_int c)) ⟨rfl, _, rfl, ?_⟩⟩
      by_cases z : co l k = 0
      · rw [z]
        refine iteT (WhileD.turn ⟨_, rfl, _, _, rfl, rfl, ?_⟩)
        refine ⟨⟨k + 1, rfl, ?_, rfl⟩, ?_⟩
        · refine Classical.byContradiction fun n => ?_
          exact ah_lead (l := l) (by omega) (by rw [show ah l = k by omega]; exact z)
        · show l.length - ((k : Int) + 1).toNat < l.length - (k : Int).toNat
          omega
      · rw [decide_eq_false fun e => z (V.int.inj e)]
        have ek : ah l = k := Nat.le_antisymm (Classical.byContradiction fun n => z (ah_zero (by omega))) hk
        refine iteF ⟨_, rfl, _, rfl, _, rfl, slice_from ht (by have := ah_le l; omega) fun p H1 s1 e1 => ⟨p, (l.drop k).map V.int, rfl, e1.elim (fun e => .inr (SqT.of e)) fun e => .inl (SqL.of e), fun D hD => q D _ (s1.trans (same_upd0 hD)) ?_⟩⟩
        rw [upd_same, ← cut_drop, ek]
    · rw [decide_eq_false (show ¬ (k : Int) < (l.length : Int) by omega)]
      have := ah_le l
      have ek : ah l = k := by omega
      refine iteF ⟨_, rfl, _, rfl, _, rfl, slice_from ht (by have := ah_le l; omega) fun p H1 s1 e1 => ⟨p, (l.drop k).map V.int, rfl, e1.elim (fun e => .inr (SqT.of e)) fun e => .inl (SqL.of e), fun D hD => q D _ (s1.trans (same_upd0 hD)) ?_⟩⟩
      rw [upd_same, ← cut_drop, ek]
end
end K77

set_option Elab.async false
set_option linter.all false
set_option maxRecDepth 100000
set_option maxHeartbeats 4000000
set_option exponentiation.threshold 10000
/-! rests, shared parts -/
namespace K77
open PySem PySem.Spec PyProof.Rows L2 StX RZ MyR SlX OwnR OwnF EnumT SeqE GxR GenNx FDivQ
/-- one turn: the first entries are taken away -/
def lng (l g : List Int) : List Int := g ++ List.replicate (l.length - g.length) 0
def sub1 (l g : List Int) : List Int := tb l.length fun k => co l k * co g 0 - co l 0 * co (lng l g) k
def stp1 (l g : List Int) : List Int := (sub1 l g).drop 1
def rlN : Nat → List Int → List Int → List Int
  | 0, l, _ => l
  | n + 1, l, g => stp1 (rlN n l g) g
theorem lng_len {l g : List Int} (h : g.length ≤ l.length) : (lng l g).length = l.length := by
  unfold lng
  rw [List.length_append, List.length_replicate]
  omega
theorem sub1_len (l g : List Int) : (sub1 l g).length = l.length := tb_len _ _
theorem stp1_len (l g : List Int) : (stp1 l g).length = l.length - 1 := by
  unfold stp1
  rw [List.length_drop, sub1_len]
theorem rlN_len (f g : List Int) : ∀ n, (rlN n f g).length = f.length - n
  | 0 => rfl
  | n + 1 => by
    show (stp1 (rlN n f g) g).length = _
    rw [stp1_len, rlN_len f g n]
    omega
theorem co_lng (l g : List Int) (k : Nat) : co (lng l g) k = co g k := co_appz g _ k
def rlf (f g : List Int) : List Int := rlN (f.length + 1 - g.length) f g
def rst (f g : List Int) : List Int := primE (cut (rlf f g))
/-- the sizes of a turn -/
structure StOk (l g : List Int) : Prop where
  m1 : ∀ k, CMulW (co l k) (co g 0)
  m2 : ∀ k, CMulW (co l 0) (co g k)
def RsOk (f g : List Int) : Prop := (∀ n, n < f.length + 1 - g.length → StOk (rlN n f g) g) ∧ DivOk (cut (rlf f g))
section
variable {P : Program} {w : World} {K : PySem.W.Frag} {mg : Str → Option Value} {base : Heap} {Ps : List Addr}
theorem sz1 : 1 ≤ sizeLine := by decide
def spRest (Ps : List Addr) : Sp := fun vs H Q _ => ∃ (a b : Addr) (f g : List Int), vs = [.ref a, .ref b] ∧ H a = some (ls f) ∧ H b = some (ls g) ∧ f.length ≤ 100 ∧ g.length ≤ 100 ∧ 1 ≤ g.length ∧ RsOk f g ∧ Tg Ps H ∧ ∀ p H', Sts Ps H H' → Tg Ps H' → H' p = some (ls (rst f g)) → Q (.ref p) H'
theorem ok_rest_of (T : Facts K mg) (TB_first_of : TabB base mg T.c_first_of T.P_first_of) (hP : T.P_first_of ∈ Ps) : FnOk P w K mg base CX0 3 T.f_rest_of T.fd_rest_of ["one", "other"] (spRest Ps) := by
  have G_cut_line : FnOk P w K mg base CX0 1 T.f_cut_line T.fd_cut_line ["numbers"] spCut := ok_cut_line T
  have G_primitive_of := ok_primitive_of (P := P) (w := w) (base := base) T TB_first_of hP
  refine T.F_rest_of.ok sc_rest_of (fun vs H Q E h => ?_) (fun cdv A outer s H vs Q E hr h => ?_)
  · obtain ⟨a, b, f, g, rfl, _⟩ := h
    rfl
  · obtain ⟨a, b, f, g, rfl, ha, hb, hf, hg, g1, ok, hG, q⟩ := h
    refine ⟨_, (PSs.nox (pss_cons (ps_set (i := 2) sc_rest_of.nd rfl (.inl rfl) (pe_callTy call_list_of (by rfl) T.z_list (by decide +kernel) (pa_cons (pv 0) pa_nil)))
    (pss_cons (ps_while PassesOwn.never (pt_cmpR op_ge (pe_callB call_len_seq (by rfl) T.z_len (by decide +kernel) (pa_cons (pv 2) pa_nil)) (pe_callB call_len_seq (by rfl) T.z_len (by decide +kernel) (pa_cons (pv 1) pa_nil)) (nomark _))
      (pss_cons (ps_asg (pe_tup (pa_cons (pe_ix ix_list (pv 2) pe_int (fun _ _ => rfl)) (pa_cons (pe_lst (pa_star (pv 1) (pa_star (pe_op op_rep (pe_lst (pa_cons pe_int pa_nil)) (pe_op op_sub (pe_callB call_len_seq (by rfl) T.z_len (by decide +kernel) (pa_cons (pv 2) pa_nil)) (pe_callB call_len_seq (by rfl) T.z_len (by decide +kernel) (pa_cons (pv 1) pa_nil)))) pa_nil))) pa_nil))) (pg_tup (by rfl) (pgs_cons (pg_name (i := 3) sc_rest_of.nd rfl (.inr rfl)) (pgs_cons (pg_name (i := 4) sc_rest_of.nd rfl (.inl rfl)) pgs_nil))))
      (pss_one (ps_set (i := 2) sc_rest_of.nd rfl (.inl rfl) (pe_slice sl_list (pe_lc (own := [("number", 5), ("taken", 6)]) (g := (gTup K 2 (gCons (gName 5) (gCons (gName 6) gNil)))) (tt := tYes) (by rfl) sc_rest_of.nd (pi_zipA (by rfl) T.z_zip (pa_cons (pv 2) (pa_cons (pv 4) pa_nil))) (blkOk_by (N := N_rest_of) (sc := defScope s_rest_of) (by decide +kernel)) (fun _ _ _ _ _ => (pg_tup (by rfl) (pgs_cons (pg_name (i := 5) sc_rest_of.nd rfl (.inl rfl)) (pgs_cons (pg_name (i := 6) sc_rest_of.nd rfl (.inl rfl)) pgs_nil)))) (fun _ _ _ _ _ => pts_nil) (fun _ _ _ _ _ => (pe_op op_sub (pe_op op_mulW (pv 5) (pe_ix (ix_list : IxR _ (rIxL K)) (pv 1) pe_int (fun _ _ => rfl))) (pe_op op_mulW (pv 3) (pv 6))))) (po_some pe_int) po_none)))))
    (pss_one (ps_ret (pe_call G_primitive_of hr (by rfl) T.g_primitive_of T.F_primitive_of.kp T.b_primitive_of .nil pass0 (pa_cons (pe_call G_cut_line (hr.mono (by decide)) (by rfl) T.g_cut_line T.F_cut_line.kp T.b_cut_line .nil pass0 (pa_cons (pv 2) pa_nil)) pa_nil))))))), ?_⟩
    refine ⟨_, rfl, a, f.map V.int, rfl, .inl (SqL.of ha), fun L0 hL0 => ?_⟩
    refine WhileD.while_m (fun m σ H' => ∃ (n : Nat) (L : Addr) (o3 o4 : Option V), m = f.length + 1 - g.length - n ∧ n ≤ f.length + 1 - g.length ∧ σ = [some (.ref a), some (.ref b), some (.ref L), o3, o4, none, none] ∧ Same H H' ∧ H' L = some (ls (rlN n f g))) ⟨_, 0, L0, none, none, rfl, Nat.zero_le _, rfl, same_upd0 hL0, upd_same⟩ (fun m σ H' hP => ?_)
    obtain ⟨n, L, o3, o4, rfl, hn, rfl, sH, hL⟩ := hP
    have ln := rlN_len f g n
    have hb' := sH _ _ hb
    refine ⟨_, rfl, L, _, rfl, .inl (SqL.of hL), _, rfl, b, _, rfl, .inl (SqL.of hb'), _, _, rfl, rfl, _, rfl, ?_⟩
    rw [List.length_map, List.length_map]
    by_cases c : g.length ≤ (rlN n f g).length
    · rw [decide_eq_true (show (g.length : Int) ≤ ((rlN n f g).length : Int) by omega)]
      have so := ok.1 n (by omega)
      have lb : (rlN n f g).length ≤ 100 := by omega
      generalize hl : rlN n f g = l at *
      refine iteT (WhileD.turnM ⟨_, rfl, L, _, 0, .int (co l 0), rfl, rfl, SqL.of hL, atI_nat (j := 0) (get_int (by omega)), _, rfl, b, _, rfl, .inr (SqL.of hb'), sz1, fun p1 n1 => gen_upd H' p1 (ls [0]) n1 fun H1 s1 e1 => ?_⟩)
      refine ⟨_, rfl, L, _, rfl, .inl (SqL.of (s1 _ _ hL)), _, rfl, b, _, rfl, .inl (SqL.of (s1 _ _ hb')), _, _, rfl, rfl, ?_⟩
      rw [List.length_map, List.length_map]
      refine ⟨p1, _, [V.int 0], rfl, rfl, e1, by omega, by omega, ?_, fun p2 n2 => gen_upd H1 p2 _ n2 fun H2 s2 e2 => ⟨p2, _, rfl, .inr (SqL.of e2), ?_⟩⟩
      · exact Nat.le_trans (show [V.int 0].length * ((l.length : Int) - (g.length : Int)).toNat ≤ 100 by rw [List.length_singleton]; omega) (by decide)
      · have e3 : g.map V.int ++ ((List.replicate ((l.length : Int) - (g.length : Int)).toNat [V.int 0]).flatten ++ []) = (lng l g).map V.int := by
          unfold lng
          rw [List.append_nil, List.map_append, List.map_replicate, List.flatten_replicate_singleton, show ((l.length : Int) - (g.length : Int)).toNat = l.length - g.length by omega]
        dsimp only [tNil]
        rw [e3]
        refine ⟨by rw [List.length_map, lng_len c]; exact Nat.le_trans lb (by decide), fun p3 n3 => gen_upd H2 p3 (ls (lng l g)) n3 fun H3 s3 e3' => ⟨sz2, fun p4 n4 => gen_upd H3 p4 _ n4 fun H4 s4 e4 => ?_⟩⟩
        refine ⟨p4, _, rfl, SqT.of e4, rfl, _, _, rfl, _, _, rfl, rfl, ?_⟩
        have s14 := s1.trans (s2.trans (s3.trans s4))
        have hL4 := s14 _ _ hL
        have hb4 := s14 _ _ hb'
        have h34 := s4 _ _ e3'
        refine ⟨_, rfl, _, rfl, L, p3, _, _, rfl, .inl ⟨SqL.of hL4, SqL.of h34, fun D hD => ?_⟩⟩
        refine lc_zipL (xs := l.map V.int) (ys := (lng l g).map V.int) (by rw [List.length_map, List.length_map, lng_len c]) (fun j H' => Same H4 H' ∧ H' D = some (.lst (tab j fun k => co l k * co g 0 - co l 0 * co (lng l g) k))) ⟨same_upd0 hD, upd_same⟩ (fun j H' _ hP => ⟨SqL.of (hP.1 _ _ hL4), SqL.of (hP.1 _ _ h34)⟩) (fun j x y A H' hx hy hP hA => ?_) (fun H' hP => ?_)
        · obtain ⟨sH5, hD'⟩ := hP
          obtain ⟨hj, rfl⟩ := int_get hx
          obtain ⟨_, rfl⟩ := int_get hy
          have sA := same_upd0 (o := .tup [.int (co l j), .int (co (lng l g) j)]) hA
          refine ⟨A, _, rfl, SqT.of upd_same, rfl, _, _, rfl, _, _, rfl, rfl, rfl, _, rfl, _, rfl, b, _, 0, .int (co g 0), rfl, rfl, SqL.of (sA _ _ (sH5 _ _ hb4)), atI_nat (j := 0) (get_int (by omega)), _, _, rfl, rfl, so.m1 j, _, rfl, _, rfl, _, _, rfl, rfl, (by rw [co_lng]; exact so.m2 j), _, _, rfl, rfl, _, sA _ _ hD', ?_, fun b o e => ?_, ?_⟩
          · rw [tab_len]
            exact small1000 (by omega)
          · rw [upd_ne (ne_of_none e hD)]
            exact sA _ _ (sH5 _ _ e)
          · rw [upd_same, ← tab_snoc]
        · obtain ⟨s5, hD'⟩ := hP
          rw [List.length_map, tab_tb] at hD'
          have e6 : cutV ((tb l.length fun k => co l k * co g 0 - co l 0 * co (lng l g) k).map V.int) (some ((1 : Nat) : Int)) none = (stp1 l g).map V.int := by
            unfold cutV
            rw [HT.sIx_none, HT.sIx_nat, List.length_map, tb_len, Nat.min_eq_left (by omega), ← List.map_drop, ← List.map_take, List.take_of_length_le (by rw [List.length_drop, tb_len]; omega)]
            rfl
          refine ⟨_, rfl, D, _, rfl, SqL.of hD', fun p5 n5 => ⟨_, ?_, n + 1, p5, _, _, rfl, by omega, rfl, sH.trans (s14.trans (s5.trans (same_upd0 n5))), ?_⟩⟩
          · show f.length + 1 - g.length - (n + 1) < f.length + 1 - g.length - n
            omega
          · rw [upd_same]
            show some (HO.lst (cutV ((tb l.length fun k => co l k * co g 0 - co l 0 * co (lng l g) k).map V.int) (some ((1 : Nat) : Int)) none)) = some (ls (stp1 (rlN n f g) g))
            rw [e6, hl]
    · rw [decide_eq_false (show ¬ (g.length : Int) ≤ ((rlN n f g).length : Int) by omega)]
      have en : n = f.length + 1 - g.length := by omega
      subst en
      refine iteF ⟨_, rfl, L, _, rfl, .inr hL, by omega, fun p1 H1 s1 e1 => ⟨p1, _, rfl, e1, ?_, ok.2, hG.same (sH.trans s1), fun p2 H2 s2 g2 e2 => q p2 H2 ((Sts.of (sH.trans s1)).trans s2) g2 e2⟩⟩
      refine Nat.le_trans (m := (rlf f g).length) ?_ (by unfold rlf; omega)
      unfold cut
      exact (List.dropWhile_sublist _).length_le
end
end K77

set_option Elab.async false
set_option linter.all false
set_option maxRecDepth 100000
set_option maxHeartbeats 4000000
set_option exponentiation.threshold 10000
/-! shared parts, common forms by entries -/
namespace K77
open PySem PySem.Spec PyProof.Rows L2 StX RZ MyR SlX OwnR OwnF EnumT SeqE GxR GenNx FDivQ
theorem cut_len (l : List Int) : (cut l).length ≤ l.length := by
  unfold cut
  exact (List.dropWhile_sublist _).length_le
theorem rlf_len (f g : List Int) : (rlf f g).length = min f.length (g.length - 1) ∨ g = [] := by
  unfold rlf
  rw [rlN_len]
  by_cases h : g = []
  · exact .inr h
  · have := List.length_pos_iff.mpr h
    exact .inl (by omega)
theorem rst_len {f g : List Int} (h : 1 ≤ g.length) : (rst f g).length ≤ f.length ∧ (rst f g).length ≤ g.length - 1 := by
  unfold rst
  rw [primE_len]
  have := cut_len (rlf f g)
  rcases rlf_len f g with e | e
  · omega
  · rw [e] at h
    exact absurd h (by decide)
/-- the last one of Euclid's rests -/
def shp : Nat → List Int → List Int → List Int
  | 0, f, _ => f
  | n + 1, f, g => if g = [] then f else shp n g (rst f g)
def ShOk : Nat → List Int → List Int → Prop
  | 0, f, g => g = [] ∧ DivOk f
  | n + 1, f, g => (g = [] → DivOk f) ∧ (g ≠ [] → RsOk f g ∧ ShOk n g (rst f g))
section
variable {P : Program} {w : World} {K : PySem.W.Frag} {mg : Str → Option Value} {base : Heap} {Ps : List Addr}
theorem sz0 : 0 ≤ sizeLine := by decide
def spSharedP (Ps : List Addr) : Sp := fun vs H Q _ => ∃ (a b : Addr) (f g : List Int) (n : Nat), vs = [.ref a, .ref b] ∧ H a = some (ls f) ∧ H b = some (ls g) ∧ f.length ≤ 100 ∧ g.length ≤ 100 ∧ ShOk n f g ∧ Tg Ps H ∧ ∀ p H', Sts Ps H H' → Tg Ps H' → H' p = some (ls (primE (shp n f g))) → Q (.ref p) H'
theorem ok_shared_part (T : Facts K mg) (TB_first_of : TabB base mg T.c_first_of T.P_first_of) (hP : T.P_first_of ∈ Ps) : FnOk P w K mg base CX0 4 T.f_shared_part T.fd_shared_part ["one", "other"] (spSharedP Ps) := by
  have G_rest_of := ok_rest_of (P := P) (w := w) (base := base) T TB_first_of hP
  have G_primitive_of := ok_primitive_of (P := P) (w := w) (base := base) T TB_first_of hP
  refine T.F_shared_part.ok sc_shared_part (fun vs H Q E h => ?_) (fun cdv A outer s H vs Q E hr h => ?_)
  · obtain ⟨a, b, f, g, n, rfl, _⟩ := h
    rfl
  · obtain ⟨a, b, f, g, n, rfl, ha, hb, hf, hg, ok, hG, q⟩ := h
    refine ⟨_, (PSs.nox (pss_cons (ps_while PassesOwn.never (pt_cmpR (op_neD (hu64 hr)) (pv 1) (pe_lst pa_nil) (nomark _))
      (pss_one (ps_par (i := 0) (j := 1) (by rfl) sc_shared_part.nd rfl rfl (by decide) rfl rfl (pa_cons (pv 1) (pa_cons (pe_call G_rest_of hr (by rfl) T.g_rest_of T.F_rest_of.kp T.b_rest_of .nil pass0 (pa_cons (pv 0) (pa_cons (pv 1) pa_nil))) pa_nil)) (by rfl))))
    (pss_one (ps_ret (pe_call G_primitive_of (hr.mono (by decide)) (by rfl) T.g_primitive_of T.F_primitive_of.kp T.b_primitive_of .nil pass0 (pa_cons (pv 0) pa_nil)))))), ?_⟩
    refine WhileD.while_m (fun m σ H' => ∃ (a b : Addr) (f' g' : List Int), σ = [some (.ref a), some (.ref b)] ∧ H' a = some (ls f') ∧ H' b = some (ls g') ∧ f'.length ≤ 100 ∧ g'.length ≤ 100 ∧ ShOk m f' g' ∧ shp m f' g' = shp n f g ∧ Sts Ps H H' ∧ Tg Ps H') ⟨n, a, b, f, g, rfl, ha, hb, hf, hg, ok, rfl, Sts.rf Ps H, hG⟩ (fun m σ H' hP => ?_)
    obtain ⟨a', b', f', g', rfl, ha', hb', hf', hg', ok', es, sH, gH⟩ := hP
    refine ⟨_, rfl, sz0, fun p0 n0 => gen_upd H' p0 (ls []) n0 fun H1 s1 e1 => ne_lintsL (xs := g') (ys := []) (SqL.of (s1 _ _ hb')) (SqL.of e1) ⟨_, rfl, ?_⟩⟩
    by_cases c : g' = []
    · rw [decide_eq_true c]
      have hd : DivOk f' ∧ shp m f' g' = f' := by
        cases m with
        | zero => exact ⟨ok'.2, rfl⟩
        | succ m => exact ⟨ok'.1 c, if_pos c⟩
      rw [← es, hd.2] at q
      exact iteF ⟨_, rfl, a', f', rfl, s1 _ _ ha', hf', hd.1, gH.same s1, fun p H2 s2 g2 e2 => q p H2 (sH.trans ((Sts.of s1).trans s2)) g2 e2⟩
    · rw [decide_eq_false c]
      cases m with
      | zero => exact absurd ok'.1 c
      | succ m =>
        obtain ⟨r1, r2⟩ := ok'.2 c
        have gl := List.length_pos_iff.mpr c
        have rl := rst_len (f := f') (g := g') gl
        rw [show shp (m + 1) f' g' = shp m g' (rst f' g') from if_neg c] at es
        refine iteT (WhileD.turnM ⟨_, rfl, _, rfl, _, rfl, a', b', f', g', rfl, s1 _ _ ha', s1 _ _ hb', hf', hg', gl, r1, gH.same s1, fun p H2 s2 g2 e2 => ⟨_, _, rfl, ?_⟩⟩)
        exact ⟨m, Nat.lt_succ_self m, b', p, g', rst f' g', rfl, s2.lst (gH.same s1) (s1 _ _ hb'), e2, hg', by omega, r2, es, sH.trans ((Sts.of s1).trans s2), g2⟩
def spAhead : Sp := fun vs H Q _ => ∃ (t : Addr) (l : List Int), vs = [.ref t] ∧ (H t = some (tp l) ∨ H t = some (ls l)) ∧ l.length ≤ 100 ∧ ∀ H', Same H H' → Q (.int (ah l)) H'
theorem ok_ahead_of (T : Facts K mg) : FnOk P w K mg base CX0 2 T.f_ahead_of T.fd_ahead_of ["entries"] spAhead := by
  have G_cut_line : FnOk P w K mg base CX0 1 T.f_cut_line T.fd_cut_line ["numbers"] spCut := ok_cut_line T
  refine T.F_ahead_of.ok sc_ahead_of (fun vs H Q E h => ?_) (fun cdv A outer s H vs Q E hr h => ?_)
  · obtain ⟨t, l, rfl, _⟩ := h
    rfl
  · obtain ⟨t, l, rfl, ht, hl, q⟩ := h
    refine ⟨_, (PSs.nox (pss_one (ps_ret (pe_op op_sub (pe_callB call_len_seq (by rfl) T.z_len (by decide +kernel) (pa_cons (pv 0) pa_nil)) (pe_callB call_len_seq (by rfl) T.z_len (by decide +kernel) (pa_cons (pe_call G_cut_line hr (by rfl) T.g_cut_line T.F_cut_line.kp T.b_cut_line .nil pass0 (pa_cons (pv 0) pa_nil)) pa_nil)))))), ?_⟩
    refine ⟨_, rfl, t, l.map V.int, rfl, ht.symm.imp (fun e => SqL.of e) (fun e => SqT.of e), _, rfl, t, l, rfl, ht, hl, fun p H1 s1 e1 => ⟨p, _, rfl, .inl (SqL.of e1), _, _, rfl, rfl, ?_⟩⟩
    rw [List.length_map, List.length_map, ← cut_drop, List.length_drop]
    have := ah_le l
    have e := q H1 s1
    rw [show (ah l : Int) = (l.length : Int) - ((l.length - ah l : Nat) : Int) by omega] at e
    exact e
/-- the entries of the common form -/
def cmn (F G : List Int) : List Int := List.replicate (min (ah F) (ah G)) 0 ++ primE (shp (cut G).length (cut F) (cut G))
end
end K77

set_option Elab.async false
set_option linter.all false
set_option maxRecDepth 100000
set_option maxHeartbeats 4000000
set_option exponentiation.threshold 10000
/-! common forms -/
namespace K77
open PySem PySem.Spec PyProof.Rows L2 StX RZ MyR SlX OwnR OwnF EnumT SeqE GxR GenNx FDivQ
section
variable {P : Program} {w : World} {K : PySem.W.Frag} {mg : Str → Option Value} {base : Heap} {Ps : List Addr}
def spReqForm (C : Addr) : Sp := fun vs H Q _ => ∃ (a : Addr) (l : List Int), vs = [.ref a] ∧ Fo C H a l ∧ Q .non H
theorem ok_require_form (T : Facts K mg) : FnOk P w K mg base CX0 1 T.f_require_form T.fd_require_form ["value"] (spReqForm T.C_Form) := by
  refine T.F_require_form.ok sc_require_form (fun vs H Q E h => ?_) (fun cdv A outer s H vs Q E hr h => ?_)
  · obtain ⟨a, l, rfl, _⟩ := h
    rfl
  · obtain ⟨a, l, rfl, fa, q⟩ := h
    obtain ⟨dx, t, ha, ht⟩ := fa.slt
    refine ⟨_, (PSs.nox (pss_one (ps_if (pt_not (pt_val (pe_callB (call_isiF T.C_Form) (by rfl) T.z_isinstance (by decide +kernel) (pa_cons (pv 0) (pa_cons (pe_glob (v := .ref T.C_Form) (by rfl) T.g_Form rfl) pa_nil)))))
      (pss_one ps_never)
      pss_nil))), ?_⟩
    exact ⟨_, rfl, isi_form (X := (cxOf CX0 P w K mg base N_require_form (Str.ofString "require_form") (defScope s_require_form) T.f_require_form cdv A outer s H E).nox) T.oc_Form ha ⟨true, rfl, iteF q⟩⟩
def spReqTwo (C : Addr) : Sp := fun vs H Q _ => ∃ (a b : Addr) (F G : List Int), vs = [.ref a, .ref b] ∧ Fo C H a F ∧ Fo C H b G ∧ Q .non H
theorem ok_require_two (T : Facts K mg) : FnOk P w K mg base CX0 2 T.f_require_two T.fd_require_two ["one", "other"] (spReqTwo T.C_Form) := by
  have G_require_form : FnOk P w K mg base CX0 1 T.f_require_form T.fd_require_form ["value"] (spReqForm T.C_Form) := ok_require_form T
  refine T.F_require_two.ok sc_require_two (fun vs H Q E h => ?_) (fun cdv A outer s H vs Q E hr h => ?_)
  · obtain ⟨a, b, F, G, rfl, _⟩ := h
    rfl
  · obtain ⟨a, b, F, G, rfl, fa, fb, q⟩ := h
    refine ⟨_, (PSs.nox (pss_cons (ps_expr (pe_call G_require_form hr (by rfl) T.g_require_form T.F_require_form.kp T.b_require_form .nil pass0 (pa_cons (pv 0) pa_nil)))
    (pss_one (ps_expr (pe_call G_require_form hr (by rfl) T.g_require_form T.F_require_form.kp T.b_require_form .nil pass0 (pa_cons (pv 1) pa_nil)))))), ?_⟩
    exact ⟨_, rfl, a, F, rfl, fa, _, rfl, b, G, rfl, fb, q⟩
/-- other than 0 -/
def lv (l : List Int) : Prop := l.any (· != 0) = true
def spReqLive (C : Addr) : Sp := fun vs H Q _ => ∃ (a : Addr) (F : List Int), vs = [.ref a] ∧ Fo C H a F ∧ lv F ∧ Q .non H
theorem ok_require_live (T : Facts K mg) : FnOk P w K mg base CX0 4 T.f_require_live T.fd_require_live ["form"] (spReqLive T.C_Form) := by
  have G_require_form : FnOk P w K mg base CX0 1 T.f_require_form T.fd_require_form ["value"] (spReqForm T.C_Form) := ok_require_form T
  have G_Form_is_zero := ok_Form_is_zero (P := P) (w := w) (base := base) T
  refine T.F_require_live.ok sc_require_live (fun vs H Q E h => ?_) (fun cdv A outer s H vs Q E hr h => ?_)
  · obtain ⟨a, F, rfl, _⟩ := h
    rfl
  · obtain ⟨a, F, rfl, fa, hl, q⟩ := h
    refine ⟨_, (PSs.nox (pss_cons (ps_expr (pe_call G_require_form (hr.mono (by decide)) (by rfl) T.g_require_form T.F_require_form.kp T.b_require_form .nil pass0 (pa_cons (pv 0) pa_nil)))
    (pss_one (ps_if (pt_val (pe_prp (pv 0) T.oc_Form T.pr_Form_is_zero G_Form_is_zero T.b_Form_is_zero (hr.mono (by decide))))
      (pss_one ps_never)
      pss_nil)))), ?_⟩
    refine ⟨_, rfl, a, F, rfl, fa, _, rfl, prop_zero fa ⟨_, rfl, ?_⟩⟩
    unfold lv at hl
    rw [hl]
    exact iteF q
end
end K77

set_option Elab.async false
set_option linter.all false
set_option maxRecDepth 100000
set_option maxHeartbeats 4000000
set_option exponentiation.threshold 10000
/-! plain: the told entries are those of the common form -/
namespace K77
open PySem PySem.Spec PyProof.Rows L2 FDivQ LA
theorem sub1_0 (l g : List Int) (h : g.length ≤ l.length) (g1 : 1 ≤ g.length) : sub1 l g = 0 :: stp1 l g := by
  unfold stp1
  have e : co (sub1 l g) 0 = 0 := by
    unfold sub1
    rw [co_get (by rw [tb_len]; omega)]
    simp only [tb, List.getElem_map, List.getElem_range, co_lng]
    omega
  have n : (sub1 l g).length = l.length := sub1_len l g
  generalize sub1 l g = t at *
  cases t with
  | nil =>
    rw [List.length_nil] at n
    omega
  | cons a t =>
    have : a = 0 := e
    rw [this]
    rfl
theorem ev_stp {l g : List Int} (h : g.length ≤ l.length) (g1 : 1 ≤ g.length) (x y : Int) : y * ev (stp1 l g) x y = co g 0 * ev l x y - co l 0 * (x ^ (l.length - g.length) * ev g x y) := by
  rw [← ev_sy, ← sub1_0 l g h g1]
  unfold sub1
  rw [ev_tb, evF_congr _ (fun i _ => show _ = co g 0 * co l i + (-co l 0) * co (lng l g) i by rw [Int.mul_comm (co g 0)]; grind), evF_add, evF_mul, evF_mul]
  have e1 : evF l.length (co (lng l g)) x y = ev (lng l g) x y := by
    unfold ev
    rw [lng_len h]
  rw [e1, show ev (lng l g) x y = x ^ (l.length - g.length) * ev g x y from ev_sx g _ x y]
  show co g 0 * ev l x y + _ = _
  grind
theorem cut_lead {l : List Int} (h : cut l ≠ []) : co (cut l) 0 ≠ 0 := by
  have e := cut_drop l
  have hl : ah l < l.length := Classical.byContradiction fun n => h (by rw [← e]; exact List.drop_eq_nil_of_le (by omega))
  rw [← e, co_get (by rw [List.length_drop]; omega), List.getElem_drop, ← co_get (by omega), Nat.add_zero]
  exact ah_lead hl
theorem cut_rep (l : List Int) : l = List.replicate (ah l) 0 ++ cut l := by
  have ha := ah_le l
  refine co_inj (by rw [List.length_append, List.length_replicate, ← cut_drop, List.length_drop]; omega) fun j => ?_
  by_cases c : j < l.length
  · by_cases d : j < ah l
    · rw [ah_zero d, co_get (by rw [List.length_append, List.length_replicate]; omega), List.getElem_append_left (by rw [List.length_replicate]; exact d), List.getElem_replicate]
    · have e2 : (List.replicate (ah l) (0 : Int) ++ cut l).length = l.length := by rw [List.length_append, List.length_replicate, ← cut_drop, List.length_drop]; omega
      rw [co_get c, co_get (by omega), List.getElem_append_right (by rw [List.length_replicate]; omega)]
      simp only [← cut_drop, List.getElem_drop, List.length_replicate]
      congr 1
      omega
  · rw [co_far (by omega), co_far (by rw [List.length_append, List.length_replicate, ← cut_drop, List.length_drop]; omega)]
theorem ev_cut (l : List Int) (x y : Int) : ev l x y = y ^ ah l * ev (cut l) x y := by
  rw [← ev_ry, ← cut_rep]
theorem ev_pf (l : List Int) (x y : Int) : pf l * ev (primE l) x y = ev l x y := by
  rw [← ev_map]
  congr 1
  exact co_inj (by rw [List.length_map, primE_len]) fun j => by rw [co_scale, prim_ex]
theorem prim_lead {l : List Int} (h : co l 0 ≠ 0) : co (primE l) 0 ≠ 0 := fun z => by
  have := prim_ex l 0
  rw [z, Int.mul_zero] at this
  exact h this.symm
theorem prim_nil : primE [] = [] := List.length_eq_zero_iff.mp (primE_len [])
theorem rst_lead (f g : List Int) : rst f g = [] ∨ co (rst f g) 0 ≠ 0 := by
  unfold rst
  by_cases c : cut (rlf f g) = []
  · rw [c]
    exact .inl prim_nil
  · exact .inr (prim_lead (cut_lead c))
theorem shp_nil (n : Nat) (f : List Int) : shp n f [] = f := by
  cases n with
  | zero => rfl
  | succ n => exact if_pos rfl
theorem Nz.y {n : Nat} {f : Bi} (h : Fm n f) (nz : Nz f) : Nz fun x y => y ^ 1 * f x y := Classical.byContradiction fun c => by
  obtain ⟨x, y, h0⟩ := nz
  refine h0 (h.cy (Fm.zero n) (fun x y => ?_) x y)
  rw [Int.mul_zero]
  exact Classical.byContradiction fun ne => c ⟨x, y, by dsimp only; rw [Int.pow_one]; exact ne⟩
theorem Nz.yk {n : Nat} {f : Bi} (nz : Nz f) (h : Fm n f) : ∀ e : Nat, Nz fun x y => y ^ e * f x y
  | 0 => by
    obtain ⟨x, y, h0⟩ := nz
    exact ⟨x, y, by dsimp only; rw [Int.pow_zero, Int.one_mul]; exact h0⟩
  | e + 1 => by
    obtain ⟨x, y, h0⟩ := (nz.yk h e).y (h.py e)
    exact ⟨x, y, by dsimp only at h0 ⊢; rw [Int.pow_succ, Int.mul_comm (y ^ e) y, Int.mul_assoc]; rw [Int.pow_one] at h0; exact h0⟩
/-- zeros ahead of the first one -/
theorem zeros {m k : Nat} {f g h : Bi} (hg : Fm m g) (g0 : g 1 0 ≠ 0) : ∀ (z n : Nat) (f' : Bi), Fm n f' → Nz f' → (∀ x y, f x y = y ^ z * f' x y) → Mm n m k f' g h → Mm (n + z) m k f g h
  | 0, n, f', _, _, e, M => M.scale (a := 1) (b := 1) (by decide) (by decide) fun x y => by rw [e, Int.pow_zero, Int.one_mul, Int.one_mul]
  | z + 1, n, f', hf, nf, e, M => by
    rw [show n + (z + 1) = n + 1 + z by omega]
    refine zeros hg g0 z (n + 1) (fun x y => y ^ 1 * f' x y) (hf.py 1) (nf.y hf) (fun x y => ?_) (M.step (R := fun _ _ => 0) (γ := 1) hf hg g0 (by decide) (.inl fun _ _ => rfl) (.inl (M.df.le nf)) fun x y => by rw [Int.pow_one]; simp)
    rw [e, Int.pow_succ, Int.pow_one, Int.mul_assoc]
theorem nz_lead {f : Bi} (h : f 1 0 ≠ 0) : Nz f := ⟨1, 0, h⟩
theorem stps {f g : List Int} {k : Nat} {h : Bi} (g0 : co g 0 ≠ 0) (g1 : 1 ≤ g.length) : ∀ j, j ≤ f.length + 1 - g.length → Mm (rlN j f g).length g.length k (ev (rlN j f g)) (ev g) h → Mm f.length g.length k (ev f) (ev g) h
  | 0, _, M => M
  | j + 1, hj, M => by
    have ln := rlN_len f g j
    refine stps g0 g1 j (by omega) ?_
    have M' : Mm (stp1 (rlN j f g) g).length g.length k (ev (stp1 (rlN j f g) g)) (ev g) h := M
    have l1 := stp1_len (rlN j f g) g
    generalize rlN j f g = l at *
    have e : l.length = (stp1 l g).length + 1 := by omega
    rw [e]
    refine M'.step (R := fun x y => co l 0 * (x ^ (l.length - g.length) * 1)) (γ := co g 0) (Fm.of _) (Fm.of _) (by rw [ev_lead]; exact g0) g0 (.inr ⟨1 + (l.length - g.length), (Fm.one.px _).mulc _, by omega⟩) (.inr (by omega)) fun x y => ?_
    rw [ev_stp (by omega) g1]
    grind
/-- Euclid's steps tell the common form -/
theorem euc : ∀ (n : Nat) (f g : List Int), co f 0 ≠ 0 → (g = [] ∨ co g 0 ≠ 0) → g.length ≤ n → Mm f.length g.length (shp n f g).length (ev f) (ev g) (ev (shp n f g))
  | 0, f, g, hf, _, hn => by
    have : g = [] := List.length_eq_zero_iff.mp (by omega)
    subst this
    exact (Mm.zero (n := 0) (Fm.of f) (by rw [ev_lead]; exact hf) fun x y => rfl).sw
  | n + 1, f, g, hf, hg, hn => by
    by_cases c : g = []
    · subst c
      rw [shp_nil]
      exact (Mm.zero (n := 0) (Fm.of f) (by rw [ev_lead]; exact hf) fun x y => rfl).sw
    · have g0 := hg.resolve_left c
      have g1 := List.length_pos_iff.mpr c
      have g0' : ev g 1 0 ≠ 0 := by rw [ev_lead]; exact g0
      rw [show shp (n + 1) f g = shp n g (rst f g) from if_neg c]
      have lr := rst_len (f := f) g1
      have M1 := euc n g (rst f g) g0 (rst_lead f g) (by omega)
      refine stps g0 g1 (f.length + 1 - g.length) (Nat.le_refl _) ?_
      show Mm (rlf f g).length g.length _ (ev (rlf f g)) (ev g) _
      by_cases d : cut (rlf f g) = []
      · have e : rst f g = [] := by
          unfold rst
          rw [d]
          exact prim_nil
        rw [e, shp_nil]
        exact Mm.zero (Fm.of g) g0' fun x y => by
          rw [ev_cut, d, ev_nil, Int.mul_zero]
      · have M2 : Mm (cut (rlf f g)).length g.length (shp n g (rst f g)).length (ev (cut (rlf f g))) (ev g) (ev (shp n g (rst f g))) := by
          have := M1.sw
          have e : (rst f g).length = (cut (rlf f g)).length := primE_len _
          rw [e] at this
          exact this.scale (a := pf (cut (rlf f g))) (b := 1) (pf_ne _) (by decide) fun x y => by
            rw [Int.one_mul]
            exact ev_pf _ x y
        have lc : (rlf f g).length = (cut (rlf f g)).length + ah (rlf f g) := by
          have := congrArg List.length (cut_rep (rlf f g))
          rw [List.length_append, List.length_replicate] at this
          omega
        rw [lc]
        exact zeros (Fm.of g) g0' (ah (rlf f g)) _ _ (Fm.of _) (nz_lead (by rw [ev_lead]; exact cut_lead d)) (ev_cut _) M2
theorem cut_split (l : List Int) : l.length = (cut l).length + ah l := by
  have := congrArg List.length (cut_rep l)
  rw [List.length_append, List.length_replicate] at this
  omega
theorem cut_ne {l : List Int} (h : Nz (ev l)) : cut l ≠ [] := fun e => by
  obtain ⟨x, y, h0⟩ := h
  rw [ev_cut, e, ev_nil, Int.mul_zero] at h0
  exact h0 rfl
theorem cmn_len (F G : List Int) : (cmn F G).length = (shp (cut G).length (cut F) (cut G)).length + min (ah F) (ah G) := by
  unfold cmn
  rw [List.length_append, List.length_replicate, primE_len, Nat.add_comm]
theorem ev_cmn (F G : List Int) (x y : Int) : ev (cmn F G) x y = y ^ min (ah F) (ah G) * ev (primE (shp (cut G).length (cut F) (cut G))) x y := ev_ry _ x y _
/-- two forms and what is told of them -/
theorem cmn_full {F G : List Int} (nF : Nz (ev F)) (nG : Nz (ev G)) : Fm (cmn F G).length (ev (cmn F G)) ∧ Nz (ev (cmn F G)) ∧ Dv (cmn F G).length F.length (ev (cmn F G)) (ev F) ∧ Dv (cmn F G).length G.length (ev (cmn F G)) (ev G) ∧ Full F.length G.length (cmn F G).length (ev F) (ev G) (ev (cmn F G)) := by
  have cF := cut_lead (cut_ne nF)
  have cG := cut_lead (cut_ne nG)
  have eF := cut_split F
  have eG := cut_split G
  have M0 := euc (cut G).length (cut F) (cut G) cF (.inr cG) (Nat.le_refl _)
  have eT := cmn_len F G
  have vT := ev_cmn F G
  generalize cmn F G = T at *
  generalize hh : shp (cut G).length (cut F) (cut G) = h at *
  have M1 : Mm (cut F).length (cut G).length h.length (ev (cut F)) (ev (cut G)) (ev (primE h)) := M0.scaleH ((Fm.of _).cast (primE_len h)) (a := 1) (b := pf h) (by decide) (pf_ne h) fun x y => by rw [ev_pf, Int.one_mul]
  have lF : ev (cut F) 1 0 ≠ 0 := by rw [ev_lead]; exact cF
  have lG : ev (cut G) 1 0 ≠ 0 := by rw [ev_lead]; exact cG
  obtain ⟨e, he⟩ : ∃ e, e = min (ah F) (ah G) := ⟨_, rfl⟩
  rw [← he] at eT vT
  have M2 : Mm (F.length - e) (G.length - e) h.length (fun x y => y ^ (ah F - e) * ev (cut F) x y) (fun x y => y ^ (ah G - e) * ev (cut G) x y) (ev (primE h)) := by
    by_cases c : ah F ≤ ah G
    · have q := (zeros (f := fun x y => y ^ (ah G - e) * ev (cut G) x y) (Fm.of (cut F)) lF (ah G - e) _ _ (Fm.of (cut G)) (nz_lead lG) (fun _ _ => rfl) M1.sw).sw
      have q2 := q.scale (f := fun x y => y ^ (ah F - e) * ev (cut F) x y) (a := 1) (b := 1) (by decide) (by decide) fun x y => by
        rw [show ah F - e = 0 by omega, Int.pow_zero, Int.one_mul, Int.one_mul]
      rw [show F.length - e = (cut F).length by omega, show G.length - e = (cut G).length + (ah G - e) by omega]
      exact q2
    · have q := (zeros (f := fun x y => y ^ (ah F - e) * ev (cut F) x y) (Fm.of (cut G)) lG (ah F - e) _ _ (Fm.of (cut F)) (nz_lead lF) (fun _ _ => rfl) M1).sw
      have q2 := q.scale (f := fun x y => y ^ (ah G - e) * ev (cut G) x y) (a := 1) (b := 1) (by decide) (by decide) fun x y => by
        rw [show ah G - e = 0 by omega, Int.pow_zero, Int.one_mul, Int.one_mul]
      rw [show G.length - e = (cut G).length by omega, show F.length - e = (cut F).length + (ah F - e) by omega]
      exact q2.sw
  have vF : ∀ x y, ev F x y = y ^ e * (y ^ (ah F - e) * ev (cut F) x y) := fun x y => by
    rw [ev_cut, ← Int.mul_assoc, ← Int.pow_add, show e + (ah F - e) = ah F by omega]
  have vG : ∀ x y, ev G x y = y ^ e * (y ^ (ah G - e) * ev (cut G) x y) := fun x y => by
    rw [ev_cut, ← Int.mul_assoc, ← Int.pow_add, show e + (ah G - e) = ah G by omega]
  have nT : Nz (ev T) := by
    obtain ⟨x, y, h0⟩ := (nz_lead M1.h0).yk (Fm.of _) e
    exact ⟨x, y, by rw [vT]; exact h0⟩
  obtain ⟨d1, d2⟩ := lift M2 e
  have d1' : Dv T.length F.length (ev T) (ev F) := by
    rw [eT, show F.length = F.length - e + e by omega]
    exact (d1.congr (a := 1) (b := 1) (by decide) (fun x y => by rw [vF]) (by decide)).congrL (a := 1) (b := 1) (by decide) fun x y => by rw [vT]
  have d2' : Dv T.length G.length (ev T) (ev G) := by
    rw [eT, show G.length = G.length - e + e by omega]
    exact (d2.congr (a := 1) (b := 1) (by decide) (fun x y => by rw [vG]) (by decide)).congrL (a := 1) (b := 1) (by decide) fun x y => by rw [vT]
  refine ⟨Fm.of T, nT, d1', d2', full_of (Fm.of T) nT d1' d2' nF nG fun E hE => ?_⟩
  obtain ⟨c, U, V, hc, hU, hV, q⟩ := M2.st E (hE.cast (by omega))
  refine ⟨c, U, V, hc, hU.cast (by omega), hV.cast (by omega), fun x y => ?_⟩
  have := q x y
  rw [vF, vG, vT]
  grind
theorem cmn_com {F G : List Int} (nF : Nz (ev F)) (nG : Nz (ev G)) : Com F.length G.length (cmn F G).length (ev F) (ev G) (ev (cmn F G)) := by
  obtain ⟨a, b, c, d, e⟩ := cmn_full nF nG
  exact e.com a b c d nF nG
end K77

set_option Elab.async false
set_option linter.all false
set_option maxRecDepth 100000
set_option maxHeartbeats 2000000
/-! kernels without bounds; the ranks of level tables -/
namespace K77
open PySem PySem.Spec PyProof.Rows L2 FDivQ LA
structure KS (rows : List (List Int)) (w : Nat) : Prop where
  len : ∀ k ∈ kern rows w, k.length = w
  dot : ∀ k ∈ kern rows w, ∀ r ∈ rows, S w (fun j => co k j * co r j) = 0
  ind : Ind w (kern rows w).length (row (kern rows w))
  all : ∀ y : Nat → Int, (∀ r ∈ rows, S w (fun j => y j * co r j) = 0) → Sp w (kern rows w).length (row (kern rows w)) y
  cnt : (ech less rows w).length + (kern rows w).length = w
  nz : ∀ k ∈ kern rows w, co k (ld k) ≠ 0
  lt : ∀ k ∈ kern rows w, ld k < w
  gl : ∀ k ∈ kern rows w, gl k ≤ 1
  base : ∃ n E, Base w rows.length (row rows) (ech less rows w).length E ∧ n = (ech less rows w).length
theorem ks {rows : List (List Int)} {w : Nat} (hw : ∀ r ∈ rows, r.length = w) : KS rows w := by
  have hT := told lePP (M := nm rows.flatten) hw fun r hr x hx => nm_mem (List.mem_flatten.mpr ⟨r, hr, hx⟩)
  have hg := gl_primE
  have hb := hT.base
  unfold kern at *
  generalize hTl : ech less rows w = T at hT hb
  have kv1 := kv hT
  have cnt := frees_cnt hT.lt hT.nodup
  have kl : ∀ r ∈ kvs T w, r.length = w := fun r hr => by
    obtain ⟨f, _, rfl⟩ := List.mem_map.mp hr
    exact kone_len _ _ _
  have kc : (kvs T w).length = (frees T w).length := List.length_map ..
  have hK := told lePP (M := nm (kvs T w).flatten) kl fun r hr x hx => nm_mem (List.mem_flatten.mpr ⟨r, hr, hx⟩)
  have fg : ∀ i, i < (kvs T w).length → (frees T w).getD i 0 ∈ frees T w ∧ row (kvs T w) i = co (kone T w ((frees T w).getD i 0)) := fun i hi => by
    rw [kc] at hi
    refine ⟨by rw [List.getD_eq_getElem?_getD, List.getElem?_eq_getElem hi]; exact List.getElem_mem hi, ?_⟩
    unfold row kvs
    rw [List.getD_eq_getElem?_getD, List.getD_eq_getElem?_getD, List.getElem?_map, List.getElem?_eq_getElem hi]
    rfl
  have nd : (frees T w).Nodup := List.nodup_range.filter _
  have fne : ∀ i k, i < (kvs T w).length → k < (kvs T w).length → k ≠ i → (frees T w).getD i 0 ≠ (frees T w).getD k 0 := fun i k hi hk hne e => by
    rw [kc] at hi hk
    rw [List.getD_eq_getElem?_getD, List.getD_eq_getElem?_getD, List.getElem?_eq_getElem hi, List.getElem?_eq_getElem hk] at e
    exact hne ((List.getElem_inj nd).mp e).symm
  have ind : Ind w (kvs T w).length (row (kvs T w)) := by
    refine Ech.ind (lead := fun i => (frees T w).getD i 0) ⟨fun i hi => frees_lt (fg i hi).1, fun i hi => ?_, fun i k hi hk hne => ?_⟩
    · rw [(fg i hi).2, kv1.free _ (fg i hi).1 _ (fg i hi).1, if_pos rfl]
      exact kv1.nz
    · rw [(fg k hk).2, kv1.free _ (fg k hk).1 _ (fg i hi).1, if_neg (fne i k hi hk hne)]
  have kcount : (ech less (kvs T w) w).length = (kvs T w).length := hK.base.ind_all ind
  have perpT : ∀ k ∈ ech less (kvs T w) w, ∀ t ∈ T, S w (fun j => co t j * co k j) = 0 := fun k hk t ht => by
    obtain ⟨i, hi, ei⟩ := row_mem hk
    have s1 := hK.base.of i hi
    rw [ei] at s1
    refine s1.perp fun a ha => ?_
    rw [(fg a ha).2]
    have e2 : S w (fun j => co t j * co (kone T w ((frees T w).getD a 0)) j) = S w (fun j => co (kone T w ((frees T w).getD a 0)) j * co t j) := S_congr fun j _ => Int.mul_comm _ _
    rw [e2]
    exact kv1.dot _ (fg a ha).1 t ht
  have dots : ∀ k ∈ ech less (kvs T w) w, ∀ r ∈ rows, S w (fun j => co k j * co r j) = 0 := fun k hk r hr => by
    obtain ⟨b, hb, eb⟩ := row_mem hr
    have s2 := hT.base.to b hb
    rw [eb] at s2
    refine s2.perp fun c hc => ?_
    have := perpT k hk _ (mem_row hc)
    rw [← this]
    exact S_congr fun j _ => Int.mul_comm _ _
  have all : ∀ y : Nat → Int, (∀ r ∈ rows, S w (fun j => y j * co r j) = 0) → Sp w (ech less (kvs T w) w).length (row (ech less (kvs T w) w)) y := fun y hy => by
    have yT : ∀ t ∈ T, S w (fun j => y j * co t j) = 0 := fun t ht => by
      obtain ⟨i, hi, ei⟩ := row_mem ht
      have s1 := hT.base.of i hi
      rw [ei] at s1
      exact s1.perp fun a ha => hy _ (mem_row ha)
    have sv : Sp w (kvs T w).length (row (kvs T w)) y := by
      refine ⟨whl T, kv1.nz, fun i => y ((frees T w).getD i 0), fun j hj => ?_⟩
      have zf : ∀ g ∈ frees T w, whl T * y g - S (kvs T w).length (fun i => y ((frees T w).getD i 0) * row (kvs T w) i g) = 0 := fun g hg => by
        obtain ⟨b, hb, eb⟩ := List.mem_iff_getElem.mp hg
        have eb2 : (frees T w).getD b 0 = g := by rw [List.getD_eq_getElem?_getD, List.getElem?_eq_getElem hb, eb]; rfl
        rw [S_one (p := b) (by omega) fun i hi hne => ?_]
        · rw [(fg b (by omega)).2, eb2, kv1.free g hg g hg, if_pos rfl, Int.mul_comm, Int.sub_self]
        · rw [(fg i hi).2, kv1.free _ (fg i hi).1 g hg, if_neg fun e => ?_, Int.mul_zero]
          exact fne i b hi (by omega) (Ne.symm hne) (by rw [eb2]; exact e.symm)
      by_cases c : ∃ t ∈ T, ld t = j
      · obtain ⟨t, ht, et⟩ := c
        have tz : S w (fun j => (whl T * y j - S (kvs T w).length (fun i => y ((frees T w).getD i 0) * row (kvs T w) i j)) * co t j) = 0 := by
          have e : S w (fun j => (whl T * y j - S (kvs T w).length (fun i => y ((frees T w).getD i 0) * row (kvs T w) i j)) * co t j) = whl T * S w (fun j => y j * co t j) + (-1) * S w (fun j => S (kvs T w).length fun i => y ((frees T w).getD i 0) * (row (kvs T w) i j * co t j)) := by
            rw [← S_mul, ← S_mul, ← S_add]
            refine S_congr fun j _ => ?_
            have e3 : S (kvs T w).length (fun i => y ((frees T w).getD i 0) * (row (kvs T w) i j * co t j)) = S (kvs T w).length (fun i => y ((frees T w).getD i 0) * row (kvs T w) i j) * co t j := by
              rw [← S_mulr]
              exact S_congr fun i _ => by rw [Int.mul_assoc]
            rw [e3]
            grind
          rw [e, yT t ht, S_swap, S_zero fun i hi => ?_]
          · rw [Int.mul_zero, Int.mul_zero]
            rfl
          · rw [S_mul, (fg i hi).2, kv1.dot _ (fg i hi).1 t ht, Int.mul_zero]
        obtain ⟨A, C, es, hC, hz⟩ := hT.split ht
        rw [S_one (p := ld t) (hT.lt t ht) fun i hi hne => ?_] at tz
        · rw [et] at tz
          rcases Int.mul_eq_zero.mp tz with q | q
          · exact Int.sub_eq_zero.mp q
          · exact absurd (et ▸ q) (hT.nz t ht)
        · by_cases d : ∃ u ∈ T, ld u = i
          · obtain ⟨u, hu, eu⟩ := d
            rw [← eu, hz u hu fun z => hne (by rw [← eu, z]), Int.mul_zero]
          · rw [zf i (mem_frees.mpr ⟨hi, fun u hu e => d ⟨u, hu, e⟩⟩), Int.zero_mul]
      · exact Int.sub_eq_zero.mp (zf j (mem_frees.mpr ⟨hj, fun u hu e => c ⟨u, hu, e⟩⟩))
    exact sv.trans hK.base.to
  refine ⟨?_, ?_, ?_, ?_, ?_, ?_, ?_, ?_, ?_⟩ <;> (try unfold kern) <;> rw [hTl]
  · exact hK.len
  · exact dots
  · exact hK.base.ind
  · exact all
  · rw [kcount, kc]
    omega
  · exact hK.nz
  · exact hK.lt
  · intro k hk
    obtain ⟨z, _, rfl⟩ := List.mem_map.mp hk
    exact hg z
  · exact ⟨_, _, hb, rfl⟩
theorem leastE {p : Nat → Prop} : ∀ n, p n → ∃ m, p m ∧ ∀ j, j < m → ¬ p j := fun n => by
  induction n using Nat.strongRecOn with
  | ind n ih =>
    intro h
    by_cases c : ∃ j, j < n ∧ p j
    · obtain ⟨j, hj, pj⟩ := c
      exact ih j hj pj
    · exact ⟨n, h, fun j hj pj => c ⟨j, hj, pj⟩⟩
/-! ### level tables -/
def rk (l : List Int) (d : Nat) : Nat := (ech less (lrows l d) (d + 1)).length
/-- times x, times y -/
def tx (d : Nat) (f : Nat → Int) : Nat → Int := fun j => if j < d + 1 then f j else 0
def ty (f : Nat → Int) : Nat → Int
  | 0 => 0
  | j + 1 => f j
end K77

set_option Elab.async false
set_option linter.all false
set_option maxRecDepth 100000
set_option maxHeartbeats 2000000
/-! the ranks of all level tables -/
namespace K77
open PySem PySem.Spec PyProof.Rows L2 FDivQ LA
end K77

set_option Elab.async false
set_option linter.all false
set_option maxRecDepth 100000
set_option maxHeartbeats 2000000
set_option exponentiation.threshold 10000
/-! a span has one echelon only; sizes of the rows of a kernel -/
namespace K77
open PySem PySem.Spec PyProof.Rows L2 FDivQ LA
theorem inv2 {le : List Int → List Int → Nat → List Int} (hle : LeP le) {w : Nat} {rows : List (List Int)} (hw : ∀ r ∈ rows, r.length = w) : ∀ p, p ≤ w → ∃ Hh P, Inv w rows p (eS le rows p).1 (eS le rows p).2 Hh P ∧ P.Pairwise (· < ·)
  | 0, _ => ⟨[], [], Inv.init hw, List.Pairwise.nil⟩
  | p + 1, hp => by
    obtain ⟨Hh, P, I, sP⟩ := inv2 hle hw p (by omega)
    show ∃ Hh P, Inv w rows (p + 1) (stp le p (eS le rows p)).1 (stp le p (eS le rows p)).2 Hh P ∧ _
    cases e : hix (eS le rows p).1 p with
    | none =>
      rw [stp_none e]
      exact ⟨Hh, P, I.none e, sP⟩
    | some h =>
      rw [stp_some e]
      obtain ⟨x, J⟩ := I.some hle (by omega) e
      refine ⟨_, _, J, List.pairwise_append.mpr ⟨sP, List.pairwise_singleton _ _, fun a ha b hb => ?_⟩⟩
      obtain ⟨k, hk, rfl⟩ := List.mem_iff_getElem.mp ha
      rw [List.mem_singleton.mp hb]
      have := I.pp k (by rw [← I.pl]; exact hk)
      rwa [List.getD_eq_getElem?_getD, List.getElem?_eq_getElem hk] at this
/-- an echelon as it is told: leads go up, each is alone in its column, no row has a common divisor -/
structure RE (w : Nat) (T : List (List Int)) : Prop where
  len : ∀ t ∈ T, t.length = w
  lt : ∀ t ∈ T, ld t < w
  nz : ∀ t ∈ T, co t (ld t) ≠ 0
  be : ∀ t ∈ T, ∀ j, j < ld t → co t j = 0
  z : ∀ i k, i < T.length → k < T.length → k ≠ i → row T k (ld (T.getD i [])) = 0
  so : (T.map ld).Pairwise (· < ·)
  pr : ∀ t ∈ T, primE t = t
theorem primE_idem (z : List Int) : primE (primE z) = primE z := by
  refine prim_pq (w := (primE z).length) ⟨rfl, (primE_len z).symm, pf z, 1, pf_ne z, by decide, fun j => ?_⟩
  rw [prim_ex, Int.one_mul]
theorem re_ech {le : List Int → List Int → Nat → List Int} (hle : LeP le) {w : Nat} {rows : List (List Int)} (hw : ∀ r ∈ rows, r.length = w) : RE w (ech le rows w) := by
  have hT := told hle (M := nm rows.flatten) hw fun r hr x hx => nm_mem (List.mem_flatten.mpr ⟨r, hr, hx⟩)
  refine ⟨hT.len, hT.lt, hT.nz, fun t ht j hj => (fo_ld ⟨_, hT.nz t ht⟩).2.2 j hj, hT.z, ?_, fun t ht => ?_⟩
  · obtain ⟨Hh, P, I, sP⟩ := inv2 hle hw w (Nat.le_refl _)
    unfold ech
    generalize (eS le rows w).1 = left at I
    generalize (eS le rows w).2 = found at I
    have hz : ∀ (r : List Int) (j : Nat), co (primE r) j = 0 ↔ co r j = 0 := fun r j => by
      have := prim_ex r j
      constructor <;> intro z <;> rw [z] at this
      · rw [Int.mul_zero] at this
        exact this.symm
      · exact (Int.mul_eq_zero.mp this).resolve_left (pf_ne r)
    have e : (found.map primE).map ld = P := by
      refine List.ext_getElem (by rw [List.length_map, List.length_map, I.pl]) fun k h1 h2 => ?_
      rw [List.length_map, List.length_map] at h1
      rw [List.getElem_map, List.getElem_map]
      have a1 := I.nz k h1
      have a2 := I.be k h1
      have e1 : found.getD k [] = found[k] := by rw [List.getD_eq_getElem?_getD, List.getElem?_eq_getElem h1]; rfl
      have e2 : P.getD k 0 = P[k] := by rw [List.getD_eq_getElem?_getD, List.getElem?_eq_getElem h2]; rfl
      unfold row at a1 a2
      rw [e1, e2] at a1
      rw [e1, e2] at a2
      exact ld_char (fun z => a1 ((hz _ _).mp z)) fun j hj => (hz _ _).mpr (a2 j hj)
    rw [e]
    exact sP
  · obtain ⟨z, _, rfl⟩ := List.mem_map.mp ht
    exact primE_idem z
theorem sorted_ext : ∀ {A B : List Nat}, A.Pairwise (· < ·) → B.Pairwise (· < ·) → (∀ x, x ∈ A ↔ x ∈ B) → A = B
  | [], [], _, _, _ => rfl
  | [], b :: bs, _, _, h => absurd ((h b).mpr List.mem_cons_self) List.not_mem_nil
  | a :: as, [], _, _, h => absurd ((h a).mp List.mem_cons_self) List.not_mem_nil
  | a :: as, b :: bs, hA, hB, h => by
    obtain ⟨a1, a2⟩ := List.pairwise_cons.mp hA
    obtain ⟨b1, b2⟩ := List.pairwise_cons.mp hB
    have e : a = b := by
      rcases List.mem_cons.mp ((h a).mp List.mem_cons_self) with q | q
      · exact q
      · rcases List.mem_cons.mp ((h b).mpr List.mem_cons_self) with r | r
        · exact r.symm
        · have := a1 b r
          have := b1 a q
          omega
    subst e
    rw [sorted_ext a2 b2 fun x => ⟨fun hx => ?_, fun hx => ?_⟩]
    · rcases List.mem_cons.mp ((h x).mp (List.mem_cons_of_mem _ hx)) with q | q
      · have := a1 x hx
        omega
      · exact q
    · rcases List.mem_cons.mp ((h x).mpr (List.mem_cons_of_mem _ hx)) with q | q
      · have := b1 x hx
        omega
      · exact q
theorem RE.at_lead {w : Nat} {T : List (List Int)} (h : RE w T) {c : Int} {v a : Nat → Int} (e : ∀ j, j < w → c * v j = S T.length (fun k => a k * row T k j)) {i : Nat} (hi : i < T.length) : c * v (ld (T.getD i [])) = a i * row T i (ld (T.getD i [])) := by
  rw [e _ (h.lt _ (mem_row hi)), S_one hi fun k hk hne => by rw [h.z i k hi hk hne, Int.mul_zero]]
theorem RE.lead {w : Nat} {T : List (List Int)} (h : RE w T) {t : List Int} (hl : ld t < w) (nz : co t (ld t) ≠ 0) (be : ∀ j, j < ld t → co t j = 0) (s : SpM w T t) : ld t ∈ T.map ld := by
  obtain ⟨c, hc, a, ha⟩ := s
  refine Classical.byContradiction fun no => ?_
  have e := ha (ld t) hl
  rw [S_zero fun k hk => ?_] at e
  · exact (Int.mul_eq_zero.mp e).elim hc nz
  · have ne : ld (T.getD k []) ≠ ld t := fun z => no (List.mem_map.mpr ⟨_, mem_row hk, z⟩)
    by_cases q : ld t < ld (T.getD k [])
    · rw [show row T k (ld t) = 0 from h.be _ (mem_row hk) _ q, Int.mul_zero]
    · have e1 := h.at_lead ha hk
      rw [be _ (by omega), Int.mul_zero] at e1
      rw [(Int.mul_eq_zero.mp e1.symm).resolve_right (h.nz _ (mem_row hk)), Int.zero_mul]
theorem re_uniq {w : Nat} {A B : List (List Int)} (hA : RE w A) (hB : RE w B) (s1 : ∀ t ∈ A, SpM w B t) (s2 : ∀ t ∈ B, SpM w A t) : A = B := by
  have el : A.map ld = B.map ld := sorted_ext hA.so hB.so fun x => ⟨fun hx => by
    obtain ⟨t, ht, rfl⟩ := List.mem_map.mp hx
    exact hB.lead (hA.lt t ht) (hA.nz t ht) (hA.be t ht) (s1 t ht), fun hx => by
    obtain ⟨t, ht, rfl⟩ := List.mem_map.mp hx
    exact hA.lead (hB.lt t ht) (hB.nz t ht) (hB.be t ht) (s2 t ht)⟩
  have ll : A.length = B.length := by
    have := congrArg List.length el
    rwa [List.length_map, List.length_map] at this
  have lk : ∀ k, k < A.length → ld (A.getD k []) = ld (B.getD k []) := fun k hk => by
    have e : (A.map ld)[k]'(by rw [List.length_map]; exact hk) = (B.map ld)[k]'(by rw [List.length_map]; omega) := by
      congr 1
    rw [List.getElem_map, List.getElem_map] at e
    rw [List.getD_eq_getElem?_getD, List.getElem?_eq_getElem hk, List.getD_eq_getElem?_getD, List.getElem?_eq_getElem (show k < B.length by omega)]
    exact e
  refine List.ext_getElem ll fun i h1 h2 => ?_
  have eA : A.getD i [] = A[i] := by rw [List.getD_eq_getElem?_getD, List.getElem?_eq_getElem h1]; rfl
  have eB : B.getD i [] = B[i] := by rw [List.getD_eq_getElem?_getD, List.getElem?_eq_getElem h2]; rfl
  have mA := mem_row h1
  have mB := mem_row h2
  obtain ⟨c, hc, a, ha⟩ := s2 _ mB
  have az : ∀ k, k < A.length → k ≠ i → a k = 0 := fun k hk hne => by
    have e1 := hA.at_lead ha hk
    rw [lk k hk, show co (B.getD i []) (ld (B.getD k [])) = 0 from hB.z k i (by omega) h2 (Ne.symm hne), Int.mul_zero, ← lk k hk] at e1
    exact (Int.mul_eq_zero.mp e1.symm).resolve_right (hA.nz _ (mem_row hk))
  have e2 : ∀ j, c * co (B.getD i []) j = a i * co (A.getD i []) j := fun j => by
    by_cases hj : j < w
    · rw [ha j hj, S_one h1 fun k hk hne => by rw [az k hk hne, Int.zero_mul]]
    · rw [co_far (by rw [hB.len _ mB]; omega), co_far (by rw [hA.len _ mA]; omega), Int.mul_zero, Int.mul_zero]
  have ai : a i ≠ 0 := fun z => by
    have := e2 (ld (B.getD i []))
    rw [z, Int.zero_mul] at this
    exact (Int.mul_eq_zero.mp this).elim hc (hB.nz _ mB)
  have p := prim_pq (w := w) ⟨hB.len _ mB, hA.len _ mA, c, a i, hc, ai, e2⟩
  rw [hA.pr _ mA, hB.pr _ mB, eA, eB] at p
  exact p.symm
/-- rows with one span have one echelon -/
theorem ech_same {le le' : List Int → List Int → Nat → List Int} (hle : LeP le) (hle' : LeP le') {w : Nat} {A B : List (List Int)} (hA : ∀ r ∈ A, r.length = w) (hB : ∀ r ∈ B, r.length = w) (s1 : ∀ t ∈ A, SpM w B t) (s2 : ∀ t ∈ B, SpM w A t) : ech le A w = ech le' B w := by
  have tA := told hle (M := nm A.flatten) hA fun r hr x hx => nm_mem (List.mem_flatten.mpr ⟨r, hr, hx⟩)
  have tB := told hle' (M := nm B.flatten) hB fun r hr x hx => nm_mem (List.mem_flatten.mpr ⟨r, hr, hx⟩)
  have to : ∀ {C D : List (List Int)}, Base w C.length (row C) D.length (row D) → ∀ t ∈ C, SpM w D t := fun {C D} b t ht => by
    obtain ⟨k, hk, e⟩ := row_mem ht
    have := b.to k hk
    rw [e] at this
    exact this
  have of : ∀ {C D : List (List Int)}, Base w C.length (row C) D.length (row D) → ∀ t ∈ D, SpM w C t := fun {C D} b t ht => by
    obtain ⟨k, hk, e⟩ := row_mem ht
    have := b.of k hk
    rw [e] at this
    exact this
  exact re_uniq (re_ech hle hA) (re_ech hle' hB) (fun t ht => ((of tA.base t ht).trans s1).trans (to tB.base)) fun t ht => ((of tB.base t ht).trans s2).trans (to tA.base)
end K77

set_option Elab.async false
set_option linter.all false
set_option maxRecDepth 100000
set_option maxHeartbeats 2000000
set_option exponentiation.threshold 20000
/-! plain: the rank of the shifts of two forms, by their common form (the parts on rows are those of LBd) -/
namespace K77
open PySem PySem.Spec PyProof.Rows L2 FDivQ LA
/-- x^(m - i) y^i times a form of degree d, by entries -/
def shi (d : Nat) (g : Nat → Int) (i : Nat) : Nat → Int := fun j => if i ≤ j ∧ j - i ≤ d then g (j - i) else 0
theorem shifts_ind {g : Nat → Int} {d m p : Nat} (hp : p ≤ d) (h0 : g p ≠ 0) (hl : ∀ j, j < p → g j = 0) : Ind (d + m + 1) (m + 1) (shi d g) := fun a ha i hi => Classical.byContradiction fun ne => by
  obtain ⟨i0, ⟨hi0, n0⟩, lo⟩ := leastE (p := fun i => i < m + 1 ∧ a i ≠ 0) i ⟨hi, ne⟩
  have e := ha (i0 + p) (by omega)
  rw [S_one (p := i0) hi0 fun k hk hne => ?_] at e
  · rw [show shi d g i0 (i0 + p) = g p by
      unfold shi
      rw [if_pos ⟨by omega, by omega⟩, Nat.add_sub_cancel_left]] at e
    exact (Int.mul_eq_zero.mp e).elim n0 h0
  · by_cases c : k < i0
    · have := lo k c
      have ak : a k = 0 := Classical.byContradiction fun q => this ⟨hk, q⟩
      rw [ak, Int.zero_mul]
    · have z : shi d g k (i0 + p) = 0 := by
        unfold shi
        split
        · exact hl _ (by omega)
        · rfl
      rw [z, Int.mul_zero]
/-! ### rows -/
/-- the products of a form and all x ^ i y ^ j, of a degree -/
def shf (g : List Int) (d : Nat) : List (List Int) := (List.range (d + 2 - g.length)).map fun i => List.replicate i 0 ++ g ++ List.replicate (d + 1 - g.length - i) 0
theorem shf_len (g : List Int) (d : Nat) : (shf g d).length = d + 2 - g.length := by
  unfold shf
  rw [List.length_map, List.length_range]
theorem shf_w {g : List Int} {d : Nat} : ∀ r ∈ shf g d, r.length = d + 1 := fun r hr => by
  obtain ⟨i, hi, rfl⟩ := List.mem_map.mp hr
  have := List.mem_range.mp hi
  rw [List.length_append, List.length_append, List.length_replicate, List.length_replicate]
  omega
theorem co_app (l m : List Int) (j : Nat) : co (l ++ m) j = if j < l.length then co l j else co m (j - l.length) := by
  by_cases c : j < l.length
  · rw [if_pos c, co_get (by rw [List.length_append]; omega), co_get c, List.getElem_append_left c]
  · rw [if_neg c]
    by_cases d : j < (l ++ m).length
    · rw [List.length_append] at d
      rw [co_get (by rw [List.length_append]; omega), co_get (show j - l.length < m.length by omega), List.getElem_append_right (by omega)]
    · rw [List.length_append] at d
      rw [co_far (by rw [List.length_append]; omega), co_far (by omega)]
theorem co_z (n k : Nat) : co (List.replicate n (0 : Int)) k = 0 := by
  by_cases c : k < (List.replicate n (0 : Int)).length
  · rw [co_get c, List.getElem_replicate]
  · exact co_far (by omega)
theorem co_shrow {g : List Int} {i n : Nat} (hg : 1 ≤ g.length) (j : Nat) : co (List.replicate i 0 ++ g ++ List.replicate n 0) j = shi (g.length - 1) (co g) i j := by
  rw [co_app, co_app, List.length_append, List.length_replicate, co_z, co_z]
  unfold shi
  by_cases c : i ≤ j
  · by_cases e : j - i ≤ g.length - 1
    · rw [if_pos (by omega), if_neg (by omega), if_pos ⟨c, e⟩]
    · rw [if_neg (by omega), if_neg (fun z => e z.2)]
  · rw [if_pos (by omega), if_pos (by omega), if_neg (fun z => c z.1)]
theorem row_shf {g : List Int} {d i : Nat} (hg : 1 ≤ g.length) (hi : i < d + 2 - g.length) : row (shf g d) i = shi (g.length - 1) (co g) i := by
  funext j
  unfold row shf
  rw [List.getD_eq_getElem?_getD, List.getElem?_map, List.getElem?_range hi]
  exact co_shrow hg j
def urows (f g : List Int) (d : Nat) : List (List Int) := shf f d ++ shf g d
theorem urows_w {f g : List Int} {d : Nat} : ∀ r ∈ urows f g d, r.length = d + 1 := fun r hr => (List.mem_append.mp hr).elim (shf_w r) (shf_w r)
theorem urows_len (f g : List Int) (d : Nat) : (urows f g d).length = (d + 2 - f.length) + (d + 2 - g.length) := by
  unfold urows
  rw [List.length_append, shf_len, shf_len]
theorem shf_mem {M : Nat} {g : List Int} {d : Nat} (h : ∀ x ∈ g, x.natAbs ≤ M) : ∀ r ∈ shf g d, ∀ x ∈ r, x.natAbs ≤ M := fun r hr x hx => by
  obtain ⟨i, _, rfl⟩ := List.mem_map.mp hr
  rcases List.mem_append.mp hx with q | q
  · rcases List.mem_append.mp q with q | q
    · rw [List.eq_of_mem_replicate q]
      exact Nat.zero_le _
    · exact h x q
  · rw [List.eq_of_mem_replicate q]
    exact Nat.zero_le _
theorem urows_mem {M : Nat} {f g : List Int} {d : Nat} (hf : ∀ x ∈ f, x.natAbs ≤ M) (hg : ∀ x ∈ g, x.natAbs ≤ M) : ∀ r ∈ urows f g d, ∀ x ∈ r, x.natAbs ≤ M := fun r hr => (List.mem_append.mp hr).elim (shf_mem hf r) (shf_mem hg r)
theorem row_urows {f g : List Int} {d i : Nat} (hf : 1 ≤ f.length) (hg : 1 ≤ g.length) (hi : i < (d + 2 - f.length) + (d + 2 - g.length)) : row (urows f g d) i = if i < d + 2 - f.length then shi (f.length - 1) (co f) i else shi (g.length - 1) (co g) (i - (d + 2 - f.length)) := by
  unfold urows row
  rw [List.getD_eq_getElem?_getD]
  by_cases c : i < d + 2 - f.length
  · rw [if_pos c, List.getElem?_append_left (by rw [shf_len]; exact c), ← row_shf hf c]
    unfold row
    rw [List.getD_eq_getElem?_getD]
  · rw [if_neg c, List.getElem?_append_right (by rw [shf_len]; omega), shf_len, ← row_shf (d := d) hg (by omega)]
    unfold row
    rw [List.getD_eq_getElem?_getD]
theorem full_ind {le : List Int → List Int → Nat → List Int} (hle : LeP le) {w : Nat} {A : List (List Int)} (hA : ∀ r ∈ A, r.length = w) (h : Ind w A.length (row A)) : (ech le A w).length = A.length := by
  have hT := told hle (M := nm A.flatten) hA fun r hr x hx => nm_mem (List.mem_flatten.mpr ⟨r, hr, hx⟩)
  exact hT.base.ind_all h
theorem Fm.list {n : Nat} {φ : Bi} (h : Fm n φ) : ∃ l : List Int, l.length = n ∧ ∀ x y, ev l x y = φ x y := h
theorem ev_shrow (F : List Int) (i n : Nat) (x y : Int) : ev (List.replicate i 0 ++ F ++ List.replicate n 0) x y = y ^ i * (x ^ n * ev F x y) := by
  rw [ev_sx, ev_ry]
  grind
/-- products of a form are made of its shifts -/
theorem sp_prod {F : List Int} {d : Nat} (h1 : 1 ≤ F.length) (h2 : F.length ≤ d + 1) : ∀ (U : List Int) (z : Nat) (v : List Int), z + U.length = d + 2 - F.length → v.length = d + 1 → (∀ x y, ev v x y = y ^ z * (ev U x y * ev F x y)) → SpM (d + 1) (shf F d) v
  | [], z, v, _, hv, e => SpM.zero fun j hj => by
    have : ∀ w ∈ v, w = 0 := ev0_all fun x y => by rw [e, ev_nil, Int.zero_mul, Int.mul_zero]
    exact this _ (co_memE (by omega))
  | u :: U, z, v, hz, hv, e => by
    rw [List.length_cons] at hz
    obtain ⟨v', lv, ev'⟩ : ∃ l : List Int, l.length = d + 1 ∧ ∀ x y, ev l x y = y ^ (z + 1) * (ev U x y * ev F x y) := by
      have h := ((Fm.of U).mul (Fm.of F) (k := U.length + F.length - 1) (by omega)).py (z + 1)
      by_cases c : U.length = 0
      · refine ⟨List.replicate (d + 1) 0, List.length_replicate, fun x y => ?_⟩
        rw [ev_zero (fun w hw => List.eq_of_mem_replicate hw), List.length_eq_zero_iff.mp c, ev_nil, Int.zero_mul, Int.mul_zero]
      · exact h.cast (by omega)
    have r : List.replicate z 0 ++ F ++ List.replicate (d + 1 - F.length - z) 0 ∈ shf F d := List.mem_map.mpr ⟨z, List.mem_range.mpr (by omega), rfl⟩
    have s1 := SpM.own (w := d + 1) r
    have s2 := sp_prod h1 h2 U (z + 1) v' (by omega) lv ev'
    have lr := shf_w _ r
    have eu : d + 1 - F.length - z = U.length := by omega
    rw [eu] at s1 lr
    refine SpM.lin (c := 1) u 1 (by decide) s1 s2 fun j hj => ?_
    have q : v = zs 1 ((List.replicate z 0 ++ F ++ List.replicate U.length 0).map (u * ·)) v' := by
      refine ev_inj ?_ fun x y => ?_
      · unfold zs
        rw [List.length_zipWith, List.length_map]
        omega
      · rw [ev_zs 1 (by rw [List.length_map, lr, lv]), ev_map, ev_shrow, ev', e, ev_cons, Int.pow_succ]
        grind
    rw [q, co_zs' 1 (by rw [List.length_map, lr, lv]), co_scale]
    omega
/-- the rank of the shifts of two forms -/
theorem full_rank {F G T : List Int} {d : Nat} (hd : F.length + G.length = d + 3) (f2 : 2 ≤ F.length) (g2 : 2 ≤ G.length) (nF : Nz (ev F)) (nG : Nz (ev G)) (nT : Nz (ev T)) (df : Dv T.length F.length (ev T) (ev F)) (dg : Dv T.length G.length (ev T) (ev G)) (h : Full F.length G.length T.length (ev F) (ev G) (ev T)) :
    (ech lless (urows F G d) (d + 1)).length + T.length = F.length + G.length - 1 := by
  have tf := df.le nF
  have tg := dg.le nG
  have t1 : 1 ≤ T.length := Classical.byContradiction fun c => by
    obtain ⟨x, y, h0⟩ := nT
    rw [List.length_eq_zero_iff.mp (show T.length = 0 by omega)] at h0
    exact h0 rfl
  have sub : ∀ {X : List Int}, 2 ≤ X.length → X.length ≤ d + 1 → T.length ≤ X.length → Dv T.length X.length (ev T) (ev X) → ∀ r ∈ shf X d, SpM (d + 1) (shf T d) r := fun {X} x2 xd tx dx r hr => by
    obtain ⟨i, hi, rfl⟩ := List.mem_map.mp hr
    have hi := List.mem_range.mp hi
    have lr := shf_w _ hr
    obtain ⟨c, A, hc, hA, e⟩ := dx
    obtain ⟨U, lU, eU⟩ := ((hA.px (d + 1 - X.length - i)).py i).list
    refine SpM.mul (α := 1) hc (sp_prod t1 (by omega) U 0 ((List.replicate i 0 ++ X ++ List.replicate (d + 1 - X.length - i) 0).map (c * ·)) (by omega) (by rw [List.length_map, lr]) fun x y => ?_) fun j hj => by rw [co_scale, Int.one_mul]
    rw [ev_map, ev_shrow, eU, Int.pow_zero]
    have := e x y
    grind
  have e := ech_same lePL lePL (w := d + 1) (A := urows F G d) (B := shf T d) urows_w shf_w (fun t ht => (List.mem_append.mp ht).elim (sub f2 (by omega) tf df t) (sub g2 (by omega) tg dg t)) (fun t ht => ?_)
  · rw [e, full_ind lePL shf_w, shf_len]
    · omega
    · obtain ⟨p, hp, lo⟩ : ∃ p, co T p ≠ 0 ∧ ∀ j, j < p → co T j = 0 := by
        obtain ⟨q, hq⟩ : ∃ q, co T q ≠ 0 := Classical.byContradiction fun c => by
          obtain ⟨x, y, h0⟩ := nT
          refine h0 (ev_zero (fun w hw => ?_) x y)
          obtain ⟨k, hk, ek⟩ := List.mem_iff_getElem.mp hw
          rw [← ek, ← co_get hk]
          exact Classical.byContradiction fun n => c ⟨k, n⟩
        obtain ⟨p, hp, lo⟩ := leastE (p := fun j => co T j ≠ 0) q hq
        exact ⟨p, hp, fun j hj => Classical.byContradiction fun n => lo j hj n⟩
      have hpl : p < T.length := Classical.byContradiction fun c => hp (co_far (by omega))
      have ind := shifts_ind (d := T.length - 1) (m := d + 1 - T.length) (g := co T) (p := p) (by omega) hp lo
      rw [show T.length - 1 + (d + 1 - T.length) + 1 = d + 1 by omega, show d + 1 - T.length + 1 = (shf T d).length by rw [shf_len]; omega] at ind
      intro a ha i hi
      refine ind a (fun j hj => ?_) i hi
      rw [← ha j hj]
      exact S_congr fun k hk => by rw [row_shf t1 (by rw [shf_len] at hk; exact hk)]
  · obtain ⟨i, hi, rfl⟩ := List.mem_map.mp ht
    have hi := List.mem_range.mp hi
    have lr := shf_w _ ht
    obtain ⟨c, U, V, hc, hU, hV, q⟩ := h (T.length - 1) (fun x y => y ^ i * (x ^ (d + 1 - T.length - i) * 1)) (((Fm.one.px _).py i).cast (by omega))
    obtain ⟨u, lu, eu⟩ := hU.list
    obtain ⟨v, lv, ev'⟩ := hV.list
    obtain ⟨a, la, ea⟩ := (hU.mul (Fm.of F) (k := d + 1) (by omega)).list
    obtain ⟨b, lb, eb⟩ := (hV.mul (Fm.of G) (k := d + 1) (by omega)).list
    have s1 : SpM (d + 1) (urows F G d) a := (sp_prod (by omega) (by omega) u 0 a (by omega) la fun x y => by rw [ea, eu, Int.pow_zero, Int.one_mul]).mono fun x hx => List.mem_append_left _ hx
    have s2 : SpM (d + 1) (urows F G d) b := (sp_prod (by omega) (by omega) v 0 b (by omega) lb fun x y => by rw [eb, ev', Int.pow_zero, Int.one_mul]).mono fun x hx => List.mem_append_right _ hx
    refine SpM.lin 1 1 hc s1 s2 fun j hj => ?_
    have e : (List.replicate i 0 ++ T ++ List.replicate (d + 1 - T.length - i) 0).map (c * ·) = zs 1 a b := by
      refine ev_inj ?_ fun x y => ?_
      · unfold zs
        rw [List.length_zipWith, List.length_map]
        omega
      · rw [ev_map, ev_shrow, ev_zs 1 (by omega), ea, eb, Int.one_mul, ← q]
        grind
    rw [← co_scale, e, co_zs' 1 (by omega)]
    omega
end K77

set_option Elab.async false
set_option linter.all false
set_option maxRecDepth 100000
set_option maxHeartbeats 4000000
set_option exponentiation.threshold 10000
/-! plain: dividing leaves nothing; sizes of Euclid's rests -/
namespace K77
open PySem PySem.Spec PyProof.Rows L2 FDivQ LA
/-! ### sizes -/
def bt (L : Nat) (l : List Int) : Prop := ∀ k, (co l k).natAbs < 2 ^ L
theorem bt.mono {L M : Nat} {l : List Int} (h : bt L l) (e : L ≤ M) : bt M l := fun k => Nat.lt_of_lt_of_le (h k) (Nat.pow_le_pow_right (by decide) e)
theorem bt.stp {L M : Nat} {l g : List Int} (h : bt L l) (e : bt M g) : bt (L + (M + 1)) (stp1 l g) := fun k => by
  have hc : ∀ j, (co (sub1 l g) j).natAbs < 2 ^ (L + (M + 1)) := fun j => by
    unfold sub1
    rw [co_tb]
    split
    · have a1 : (co l j * co g 0).natAbs < 2 ^ (L + M) := by
        rw [Int.natAbs_mul, Nat.pow_add]
        exact Nat.mul_lt_mul'' (h j) (e 0)
      have a2 : (co l 0 * co (lng l g) j).natAbs < 2 ^ (L + M) := by
        rw [Int.natAbs_mul, Nat.pow_add, co_lng]
        exact Nat.mul_lt_mul'' (h 0) (e j)
      have e2 : 2 ^ (L + (M + 1)) = 2 ^ (L + M) * 2 := by rw [← Nat.add_assoc, Nat.pow_succ]
      generalize 2 ^ (L + M) = X at *
      generalize co l j * co g 0 = u at *
      generalize co l 0 * co (lng l g) j = v at *
      omega
    · exact Nat.two_pow_pos _
  unfold stp1
  by_cases c : k + 1 < (sub1 l g).length
  · rw [co_get (by rw [List.length_drop]; omega), List.getElem_drop, ← co_get (by omega)]
    exact hc _
  · rw [co_far (by rw [List.length_drop]; omega)]
    exact Nat.two_pow_pos _
theorem bt.rlN {L M : Nat} {f g : List Int} (h : bt L f) (e : bt M g) : ∀ n, bt (L + n * (M + 1)) (rlN n f g)
  | 0 => h.mono (by omega)
  | n + 1 => by
    have := (bt.rlN h e n).stp e
    exact this.mono (by rw [Nat.succ_mul]; omega)
theorem bt.cut {L : Nat} {l : List Int} (h : bt L l) : bt L (cut l) := fun k => by
  rw [← cut_drop]
  by_cases c : ah l + k < l.length
  · rw [co_get (by rw [List.length_drop]; omega), List.getElem_drop, ← co_get c]
    exact h _
  · rw [co_far (by rw [List.length_drop]; omega)]
    exact Nat.two_pow_pos _
theorem bt.prim {L : Nat} {l : List Int} (h : bt L l) : bt L (primE l) := fun k => Nat.lt_of_le_of_lt (prim_le l k) (h k)
theorem mem_bt {L : Nat} {l : List Int} (h : ∀ x ∈ l, x.natAbs < 2 ^ L) : bt L l := fun k => by
  by_cases c : k < l.length
  · exact h _ (co_memE c)
  · rw [co_far (by omega)]
    exact Nat.two_pow_pos _
theorem gl_single (a : Int) : gl [a] = a.natAbs := by
  show Nat.gcd 0 a.natAbs = _
  exact Nat.gcd_zero_left _
theorem len_one {l : List Int} (h : l.length ≤ 1) : l = [] ∨ ∃ a, l = [a] := by
  match l, h with
  | [], _ => exact .inl rfl
  | [a], _ => exact .inr ⟨a, rfl⟩
theorem divOk_1 {l : List Int} (h : l.length ≤ 1) : DivOk l := fun h0 x hx => by
  rcases len_one h with rfl | ⟨a, rfl⟩
  · exact absurd hx (by simp)
  · rw [List.mem_singleton.mp hx] at *
    rw [gl_single] at h0 ⊢
    refine ⟨by omega, .inr ?_⟩
    rw [Int.natAbs_natCast]
    exact Nat.le_add_right _ _
theorem divOk_9 {l : List Int} (h : bt 9000 l) : DivOk l := fun h0 x hx => by
  refine ⟨by omega, .inl ?_⟩
  rw [Int.natAbs_natCast]
  have : ∃ y ∈ l, y ≠ 0 := Classical.byContradiction fun c => h0 (gl_all0 l fun y hy => Classical.byContradiction fun n => c ⟨y, hy, n⟩)
  obtain ⟨y, hy, ny⟩ := this
  obtain ⟨k, hk, ek⟩ := mem_co hy
  have h1 := Nat.le_of_dvd (by omega) (gl_dvd hy)
  have h2 := h k
  rw [ek] at h2
  exact log_lt (Nat.lt_of_le_of_lt h1 h2) (by decide)
theorem prim_1 {l : List Int} (h : l.length ≤ 1) : bt 1 (primE l) := fun k => by
  rcases len_one h with rfl | ⟨a, rfl⟩
  · rw [prim_nil, co_far (Nat.zero_le _)]
    decide
  · by_cases c : k = 0
    · subst c
      have e := prim_ex [a] 0
      have e2 : co [a] 0 = a := rfl
      rw [e2] at e
      by_cases a0 : a = 0
      · have := (Int.mul_eq_zero.mp (e.trans a0)).resolve_left (pf_ne _)
        rw [this]
        decide
      · have p : (pf [a]).natAbs = a.natAbs := by
          unfold pf
          rw [gl_single, if_neg (by omega)]
          split
          · rw [Int.natAbs_natCast]
          · rw [Int.natAbs_neg, Int.natAbs_natCast]
        have e3 := congrArg Int.natAbs e
        rw [Int.natAbs_mul, p] at e3
        have : (co (primE [a]) 0).natAbs = 1 := Nat.eq_of_mul_eq_mul_left (show 0 < a.natAbs by omega) (by rw [e3, Nat.mul_one])
        rw [this]
        decide
    · rw [co_far (by rw [primE_len, List.length_singleton]; omega)]
      decide
/-- whether all rests stay small enough: lengths, bits -/
def szc : Nat → Nat → Nat → Nat → Nat → Bool
  | 0, p, _, L, _ => decide (L ≤ 9000) || decide (p ≤ 1)
  | n + 1, p, q, L, M => if q = 0 then decide (L ≤ 9000) || decide (p ≤ 1) else
      decide (L + (p + 1 - q) * (M + 1) ≤ 100000) && decide (M ≤ 100000) && (List.range (min q (p + 1))).all fun r => if r ≤ 1 then szc n q r M 1 else decide (L + (p + 1 - q) * (M + 1) ≤ 9000) && szc n q r M (L + (p + 1 - q) * (M + 1))
theorem cmulw_of {a b : Int} {L : Nat} (hL : L ≤ 100000) (h1 : a.natAbs < 2 ^ L) (h2 : b.natAbs < 2 ^ L) : CMulW a b := by
  have l1 : a.natAbs.log2 ≤ 100000 := Nat.le_trans (Nat.le_of_lt_succ (log_lt (k := L + 1) (Nat.lt_trans h1 (Nat.pow_lt_pow_right (by decide) (Nat.lt_succ_self L))) (Nat.succ_pos L))) hL
  have l2 : b.natAbs.log2 ≤ 100000 := Nat.le_trans (Nat.le_of_lt_succ (log_lt (k := L + 1) (Nat.lt_trans h2 (Nat.pow_lt_pow_right (by decide) (Nat.lt_succ_self L))) (Nat.succ_pos L))) hL
  show _ < _
  omega
theorem szc_end {p L : Nat} {f : List Int} (h : (decide (L ≤ 9000) || decide (p ≤ 1)) = true) (hp : f.length = p) (hf : bt L f) : DivOk f ∧ bt 9000 (primE f) := by
  rcases Bool.or_eq_true_iff.mp h with c | c
  · exact ⟨divOk_9 (hf.mono (of_decide_eq_true c)), hf.prim.mono (of_decide_eq_true c)⟩
  · exact ⟨divOk_1 (by rw [hp]; exact of_decide_eq_true c), (prim_1 (by rw [hp]; exact of_decide_eq_true c)).mono (by decide)⟩
theorem shOk_of : ∀ (n p q L M : Nat) (f g : List Int), szc n p q L M = true → f.length = p → g.length = q → q ≤ n → bt L f → bt M g → ShOk n f g ∧ bt 9000 (primE (shp n f g))
  | 0, p, q, L, M, f, g, h, hp, hq, hn, hf, hg => by
    have e := szc_end h hp hf
    exact ⟨⟨List.length_eq_zero_iff.mp (by omega), e.1⟩, e.2⟩
  | n + 1, p, q, L, M, f, g, h, hp, hq, hn, hf, hg => by
    by_cases c : g = []
    · subst c
      have q0 : q = 0 := by rw [← hq]; rfl
      subst q0
      have e := szc_end (show _ = true from h) hp hf
      rw [shp_nil]
      exact ⟨⟨fun _ => e.1, fun z => absurd rfl z⟩, e.2⟩
    · have g1 := List.length_pos_iff.mpr c
      have q0 : q ≠ 0 := by omega
      have h' : (decide (L + (p + 1 - q) * (M + 1) ≤ 100000) && decide (M ≤ 100000) && (List.range (min q (p + 1))).all fun r => if r ≤ 1 then szc n q r M 1 else decide (L + (p + 1 - q) * (M + 1) ≤ 9000) && szc n q r M (L + (p + 1 - q) * (M + 1))) = true := by
        have := h
        unfold szc at this
        rw [if_neg q0] at this
        exact this
      obtain ⟨h1, h3⟩ := Bool.and_eq_true_iff.mp h'
      obtain ⟨h1, h2⟩ := Bool.and_eq_true_iff.mp h1
      have h1 := of_decide_eq_true h1
      have h2 := of_decide_eq_true h2
      have lr := rst_len (f := f) g1
      have hr := List.all_eq_true.mp h3 (rst f g).length (List.mem_range.mpr (by omega))
      have bl : bt (L + (p + 1 - q) * (M + 1)) (rlf f g) := by
        have := hf.rlN hg (f.length + 1 - g.length)
        rw [hp, hq] at this
        unfold rlf
        rw [hp, hq]
        exact this
      have lc : (cut (rlf f g)).length = (rst f g).length := (primE_len _).symm
      have st : ∀ j, j < f.length + 1 - g.length → StOk (rlN j f g) g := fun j hj => by
        have b1 := (hf.rlN hg j).mono (M := 100000) (Nat.le_trans (Nat.add_le_add_left (Nat.mul_le_mul_right _ (by omega)) _) h1)
        have b2 := hg.mono h2
        exact ⟨fun k => cmulw_of (Nat.le_refl _) (b1 k) (b2 0), fun k => cmulw_of (Nat.le_refl _) (b1 0) (b2 k)⟩
      rw [show shp (n + 1) f g = shp n g (rst f g) from if_neg c]
      by_cases d : (rst f g).length ≤ 1
      · rw [if_pos d] at hr
        have b : bt 1 (rst f g) := prim_1 (by rw [lc]; exact d)
        have := shOk_of n q _ M 1 g (rst f g) hr hq rfl (by omega) hg b
        exact ⟨⟨fun z => absurd z c, fun _ => ⟨⟨st, divOk_1 (by rw [lc]; exact d)⟩, this.1⟩⟩, this.2⟩
      · rw [if_neg d] at hr
        obtain ⟨r1, r2⟩ := Bool.and_eq_true_iff.mp hr
        have b : bt (L + (p + 1 - q) * (M + 1)) (rst f g) := bl.cut.prim
        have := shOk_of n q _ M _ g (rst f g) r2 hq rfl (by omega) hg b
        exact ⟨⟨fun z => absurd z c, fun _ => ⟨⟨st, divOk_9 (bl.cut.mono (of_decide_eq_true r1))⟩, this.1⟩⟩, this.2⟩
theorem sz_pairs : ∀ p, p < 8 → ∀ q, q < 8 → szc q p q 114 114 = true := by decide +kernel
end K77

set_option Elab.async false
set_option linter.all false
set_option maxRecDepth 100000
/-! a loop over enumerate of a list -/
namespace EnumL
open PySem PySem.Spec PyProof.Rows L2 EnumT
theorem for_enumL {K : PySem.W.Frag} {a : Addr} {xs : List V} {g : TG} {tb : TS} {D : Ends} {σ : L2.St} {H : Hp} (Pv : Nat → L2.St → Hp → Prop) (h0 : Pv 0 σ H) (hq : ∀ i σ H, Pv i σ H → SqL K H a xs)
    (hs : ∀ (i : Nat) (x : V) (T : Addr) (σ : L2.St) (H : Hp), xs[i]? = some x → Pv i σ H → H T = none → g (.ref T) σ (upd H T (.tup [.int (i : Nat), x])) fun σ2 H2 => tb { D with nx := Pv (i + 1), ct := Pv (i + 1), bk := D.nx } σ2 H2) (hd : ∀ σ H, Pv xs.length σ H → D.nx σ H) :
    ∃ W : Nat → Nat → L2.St → Hp → Prop, (∃ m, W 0 m σ H) ∧ ∀ i m σ H, W i m σ H →
      ((Ite K a).stop i H ∧ D.nx σ H) ∨ ((Ite K a).go i H ∧ ∃ N : L2.St → Hp → Prop, (∀ σ' H', N σ' H' → ∃ m', m' < m ∧ W (i + 1) m' σ' H') ∧ ∀ v H', (Ite K a).yld i H v H' → g v σ H' fun σ2 H2 => tb { D with nx := N, ct := N, bk := D.nx } σ2 H2) := by
  refine ⟨fun i m σ H => m = xs.length - i ∧ i ≤ xs.length ∧ Pv i σ H, ⟨xs.length, rfl, Nat.zero_le _, h0⟩, ?_⟩
  rintro i m σ H ⟨rfl, hi, p⟩
  have qx := hq i σ H p
  by_cases hlt : i < xs.length
  · have hx : xs[i]? = some xs[i] := List.getElem?_eq_getElem hlt
    refine .inr ⟨⟨xs, _, qx, hx⟩, Pv (i + 1), fun σ' H' p' => ⟨xs.length - (i + 1), by omega, rfl, hlt, p'⟩, fun v H' y => ?_⟩
    obtain ⟨T, x', rfl, hT, rfl, f1⟩ := y
    exact hs i x' T σ H (f1 xs qx) p hT
  · have e : i = xs.length := by omega
    subst e
    exact .inl ⟨⟨xs, qx, Nat.le_refl _⟩, hd σ H p⟩
end EnumL

set_option Elab.async false
set_option linter.all false
set_option maxRecDepth 100000
set_option maxHeartbeats 4000000
set_option exponentiation.threshold 10000
/-! the law's tools: rows of two forms, division -/
namespace K77
open PySem PySem.Spec PyProof.Rows L2 StX RZ MyR SlX OwnR OwnF EnumT SeqE GxR GenNx FDivQ
section
variable {P : Program} {w : World} {K : PySem.W.Frag} {mg : Str → Option Value} {base : Heap} {Ps : List Addr}
def spTwo : Sp := fun vs H Q _ => ∃ (a b : Addr) (F G : List Int), vs = [.ref a, .ref b] ∧ H a = some (tp F) ∧ H b = some (tp G) ∧ 2 ≤ F.length ∧ 2 ≤ G.length ∧ F.length ≤ 20 ∧ G.length ≤ 20 ∧ ∀ p bs H', Same H H' → H' p = some (.tup (bs.map V.ref)) → RT H' bs (urows F G (F.length + G.length - 3)) → Q (.ref p) H'
theorem ok_law_two_rows (T : Facts K mg) : FnOk P w K mg base CX0 1 T.f_law_two_rows T.fd_law_two_rows ["_law_one", "_law_other"] spTwo := by
  refine T.F_law_two_rows.ok sc_law_two_rows (fun vs H Q E h => ?_) (fun cdv A outer s H vs Q E hr h => ?_)
  · obtain ⟨a, b, F, G, rfl, _⟩ := h
    rfl
  · obtain ⟨a, b, F, G, rfl, ha, hb, f2, g2, f20, g20, q⟩ := h
    refine ⟨_, (PSs.nox (pss_cons (ps_asg (pe_tup (pa_cons (pe_op op_sub (pe_callB call_len_seq (by rfl) T.z_len (by decide +kernel) (pa_cons (pv 0) pa_nil)) pe_int) (pa_cons (pe_op op_sub (pe_callB call_len_seq (by rfl) T.z_len (by decide +kernel) (pa_cons (pv 1) pa_nil)) pe_int) pa_nil))) (pg_tup (by rfl) (pgs_cons (pg_name (i := 2) sc_law_two_rows.nd rfl (.inr rfl)) (pgs_cons (pg_name (i := 3) sc_law_two_rows.nd rfl (.inr rfl)) pgs_nil))))
    (pss_cons (ps_setLc (i := 4) (own := [("_law_at", 5)]) (g := (gName 5)) (tt := tYes) rfl sc_law_two_rows.nd rfl rfl (sw_true rfl rfl rfl (by decide +kernel)) (pi_range1 (by rfl) T.z_range (pa_cons (pv 3) pa_nil)) (blkOk_by (N := N_law_two_rows) (sc := defScope s_law_two_rows) (by decide +kernel)) (fun _ _ _ _ _ => (pg_name (i := 5) sc_law_two_rows.nd rfl (.inl rfl))) (fun _ _ _ _ _ => pts_nil) (fun _ _ _ _ _ => (pe_op (op_catA : OpR _ _ (rCatA K)) (pe_op (op_catA : OpR _ _ (rCatA K)) (pe_op (RepZ.op_rep0 : OpR _ _ (RepZ.rRep0 K)) (pe_tup (pa_cons pe_int pa_nil)) (pv 5)) (pv 0)) (pe_op (RepZ.op_rep0 : OpR _ _ (RepZ.rRep0 K)) (pe_tup (pa_cons pe_int pa_nil)) (pe_op op_sub (pe_op op_sub (pv 3) pe_int) (pv 5))))))
    (pss_one (ps_ret (pe_tupleOf (by rfl) T.z_tuple (pe_op op_cat (pv 4) (pe_lc (own := [("_law_at", 5)]) (g := (gName 5)) (tt := tYes) (by rfl) sc_law_two_rows.nd (pi_range1 (by rfl) T.z_range (pa_cons (pv 2) pa_nil)) (blkOk_by (N := N_law_two_rows) (sc := defScope s_law_two_rows) (by decide +kernel)) (fun _ _ _ _ _ => (pg_name (i := 5) sc_law_two_rows.nd rfl (.inl rfl))) (fun _ _ _ _ _ => pts_nil) (fun _ _ _ _ _ => (pe_op (op_catA : OpR _ _ (rCatA K)) (pe_op (op_catA : OpR _ _ (rCatA K)) (pe_op (RepZ.op_rep0 : OpR _ _ (RepZ.rRep0 K)) (pe_tup (pa_cons pe_int pa_nil)) (pv 5)) (pv 1)) (pe_op (RepZ.op_rep0 : OpR _ _ (RepZ.rRep0 K)) (pe_tup (pa_cons pe_int pa_nil)) (pe_op op_sub (pe_op op_sub (pv 2) pe_int) (pv 5))))))))))))), ?_⟩
    refine ⟨_, rfl, a, _, rfl, .inr (SqT.of ha), _, _, rfl, rfl, _, rfl, b, _, rfl, .inr (SqT.of hb), _, _, rfl, rfl, sz2, fun p0 n0 => gen_upd H p0 _ n0 fun H1 s1 e1 => ?_⟩
    refine ⟨p0, _, rfl, SqT.of e1, rfl, _, _, rfl, _, _, rfl, rfl, ?_⟩
    rw [List.length_map, List.length_map]
    have em : ∀ X : List Int, 2 ≤ X.length → (fun i j => V.int (i - j)) (X.length : Int) 1 = V.int ((X.length - 1 : Nat) : Int) := fun X hX => by
      show V.int _ = V.int _
      congr 1
      omega
    rw [em F f2, em G g2]
    obtain ⟨d, hd⟩ : ∃ d, d = F.length + G.length - 3 := ⟨_, rfl⟩
    have row : ∀ {n j : Nat} {X : List Int} {σ : L2.St} {u : Addr} {H2 : Hp} {iu ic ij : Nat} {Q2 : VK}, n ≤ 20 → X.length ≤ 20 → j < n → n + X.length = d + 2 → σ[iu]? = some (some (.ref u)) → σ[ic]? = some (some (.int (n : Nat))) → σ[ij]? = some (some (.int (j : Nat))) → H2 u = some (tp X) →
        (∀ q H3, Same H2 H3 → H3 q = some (tp (List.replicate j 0 ++ X ++ List.replicate (d + 1 - X.length - j) 0)) → Q2 (.ref q) H3) →
        tOp (rCatA K) (tOp (rCatA K) (tOp (RepZ.rRep0 K) (tTup (tCons (tC (V.int 0)) tNil)) (tVar ij)) (tVar iu)) (tOp (RepZ.rRep0 K) (tTup (tCons (tC (V.int 0)) tNil)) (tOp (rI0 fun i j => V.int (i - j)) (tOp (rI0 fun i j => V.int (i - j)) (tVar ic) (tC (V.int 1))) (tVar ij))) σ H2 Q2 := fun {n j X σ u H2 iu ic ij Q2} hn hX hj hd2 h1 h2 h3 hu kq => by
      refine ⟨sz1, fun p0 n0 => gen_upd H2 p0 (tp [0]) n0 fun H3 s3 f3 => ⟨_, h3, RepZ.rep_any f3 rfl (by omega) fun p1 H4 s4 f4 => ⟨_, h1, cat_rows f4 (s4 _ _ (s3 _ _ hu)) (by rw [List.length_replicate]; omega) fun p2 H5 s5 f5 => ⟨sz1, fun p3 n3 => gen_upd H5 p3 (tp [0]) n3 fun H6 s6 f6 => ⟨_, h2, _, _, rfl, rfl, _, h3, _, _, rfl, rfl, RepZ.rep_any f6 (n := d + 1 - X.length - j) (by omega) (by omega) fun p4 H7 s7 f7 => cat_rows (s7 _ _ (s6 _ _ f5)) f7 (by rw [List.length_append, List.length_replicate, List.length_replicate]; omega) fun p5 H8 s8 f8 => kq p5 H8 (s3.trans (Same.trans s4 (s5.trans (s6.trans (Same.trans s7 s8))))) f8⟩⟩⟩⟩⟩
    refine ⟨_, rfl, _, rfl, by omega, by omega, fun D hD => ?_⟩
    refine lc_rangeT (n := G.length - 1) (f := fun i => List.replicate i 0 ++ F ++ List.replicate (d + 1 - F.length - i) 0) hD (by omega) (fun _ => rfl) (fun j H2 Q2 hj s2 kq => row (n := G.length - 1) (X := F) (by omega) f20 hj (by omega) rfl rfl rfl (s2 _ _ (s1 _ _ ha)) kq) (fun bs H2 s2 d2 r2 => ?_)
    refine ⟨_, rfl, _, rfl, _, rfl, by omega, by omega, fun D2 hD2 => ?_⟩
    refine lc_rangeT (n := F.length - 1) (f := fun i => List.replicate i 0 ++ G ++ List.replicate (d + 1 - G.length - i) 0) hD2 (by omega) (fun _ => rfl) (fun j H3 Q2 hj s3 kq => row (n := F.length - 1) (X := G) (by omega) g20 hj (by omega) rfl rfl rfl (s3 _ _ (s2 _ _ (s1 _ _ hb))) kq) (fun cs H3 s3 d3 r3 => ?_)
    have lb := RX.len r2
    have lc := RX.len r3
    rw [List.length_map, List.length_range] at lb lc
    refine ⟨D, D2, _, _, rfl, rfl, s3 _ _ d2, d3, ?_, fun p4 n4 => gen_upd H3 p4 _ n4 fun H4 s4 e4 => .inl ⟨p4, _, rfl, SqL.of e4, fun p5 n5 => gen_upd H4 p5 _ n5 fun H5 s5 e5 => q p5 (bs ++ cs) H5 (s1.trans (s2.trans (s3.trans (s4.trans s5)))) ?_ ?_⟩⟩
    · rw [List.length_map, List.length_map]
      exact Nat.le_trans (m := 100) (by omega) (by decide)
    · rw [e5, List.map_append]
    · have s35 := s3.trans (s4.trans s5)
      unfold urows shf
      rw [← hd, show d + 2 - F.length = G.length - 1 by omega, show d + 2 - G.length = F.length - 1 by omega]
      exact RX.app (RX.imp (fun _ _ e => s5 _ _ (s4 _ _ e)) r3) (RX.imp (fun _ _ e => s35 _ _ e) r2)
end
end K77

set_option Elab.async false
set_option linter.all false
set_option maxRecDepth 100000
set_option maxHeartbeats 4000000
set_option exponentiation.threshold 10000
/-! a drawn pair -/
namespace K77
open PySem PySem.Spec PyProof.Rows L2 StX RZ MyR SlX OwnR OwnF EnumT SeqE GxR GenNx FDivQ LA
theorem Nz.mul {n m : Nat} {f g : Bi} (hf : Fm n f) (nf : Nz f) (hg : Fm m g) (ng : Nz g) : Nz fun x y => f x y * g x y := Classical.byContradiction fun c => by
  have := hf.can0 nf hg fun x y => Classical.byContradiction fun ne => c ⟨x, y, ne⟩
  obtain ⟨x, y, h0⟩ := ng
  exact h0 (this x y)
theorem Bd.bt {l : List Int} {n b L : Nat} (h : Bd l n b) (hb : b < 2 ^ L) : bt L l := mem_bt fun x hx => Nat.lt_of_le_of_lt (h.mem x hx) hb
/-- what the walk of a common form asks -/
structure CfOk (F G : List Int) : Prop where
  ok : ShOk (cut G).length (cut F) (cut G)
  bt : bt 9000 (cmn F G)
section
variable {P : Program} {w : World} {K : PySem.W.Frag} {mg : Str → Option Value} {base : Heap} {Ps : List Addr}
def spLR (Ps : List Addr) : Sp := fun vs H Q _ => ∃ d : Addr, vs = [.ref d] ∧ Dp d Ps H ∧ ∀ H', Sy d Ps H H' → Dp d Ps H' → Q (.bl true) H'
end
end K77

set_option Elab.async false
set_option linter.all false
set_option maxRecDepth 10000
/-! determinants of tables of integers: Laplace along the first row; each alternating multilinear law is a multiple -/
namespace LA
def sg (j : Nat) : Int := if j % 2 = 0 then 1 else -1
theorem sg_succ (j : Nat) : sg (j + 1) = - sg j := by
  unfold sg
  by_cases h : j % 2 = 0
  · rw [if_pos h, if_neg (by omega)]
  · rw [if_neg h, if_pos (by omega)]
    rfl
theorem sg_sq (j : Nat) : sg j * sg j = 1 := by
  unfold sg
  split <;> rfl
theorem sg_add (j : Nat) : ∀ k, sg (j + k) = sg j * sg k
  | 0 => by show sg j = sg j * 1; omega
  | k + 1 => by
    rw [← Nat.add_assoc, sg_succ, sg_succ, sg_add j k, Int.mul_neg]
abbrev Tab : Type := Nat → Nat → Int
def det : Nat → Tab → Int
  | 0, _ => 1
  | n + 1, A => S (n + 1) fun j => sg j * A 0 j * det n fun i k => A (i + 1) (sk j k)
theorem sk_lt {j k n : Nat} (h : k < n) : sk j k < n + 1 := by
  unfold sk
  split <;> omega
theorem sk_ne (j k : Nat) : sk j k ≠ j := by
  unfold sk
  split <;> omega
theorem det_congr : ∀ {n : Nat} {A B : Tab}, (∀ i j, i < n → j < n → A i j = B i j) → det n A = det n B
  | 0, _, _, _ => rfl
  | n + 1, A, B, h => S_congr fun j hj => by
    rw [h 0 j (by omega) hj]
    congr 1
    exact det_congr fun i k hi hk => h _ _ (by omega) (sk_lt hk)
/-- a row put in -/
def setR (A : Tab) (p : Nat) (v : Nat → Int) : Tab := fun i => if i = p then v else A i
theorem setR_s (A : Tab) (p : Nat) (v : Nat → Int) : setR A p v p = v := if_pos rfl
theorem setR_n {A : Tab} {p i : Nat} {v : Nat → Int} (h : i ≠ p) : setR A p v i = A i := if_neg h
theorem setR_own (A : Tab) (p : Nat) : setR A p (A p) = A := by
  funext i
  unfold setR
  split
  · next h => rw [h]
  · rfl
theorem setR_set (A : Tab) (p : Nat) (u v : Nat → Int) : setR (setR A p u) p v = setR A p v := by
  funext i
  unfold setR
  split <;> rfl
theorem setR_comm {A : Tab} {p q : Nat} {u v : Nat → Int} (h : p ≠ q) : setR (setR A p u) q v = setR (setR A q v) p u := by
  funext i
  unfold setR
  by_cases h1 : i = q
  · rw [if_pos h1, if_neg (fun z => h (z.symm.trans h1)), if_pos h1]
  · rw [if_neg h1]
    by_cases h2 : i = p
    · rw [if_pos h2, if_pos h2]
    · rw [if_neg h2, if_neg h2, if_neg h1]
theorem minor_set (A : Tab) (p j : Nat) (v : Nat → Int) : (fun i k => setR A (p + 1) v (i + 1) (sk j k)) = setR (fun i k => A (i + 1) (sk j k)) p fun k => v (sk j k) := by
  funext i k
  unfold setR
  by_cases h : i = p
  · rw [if_pos h, if_pos (by omega)]
  · rw [if_neg h, if_neg (by omega)]
/-- linear in each row -/
theorem det_lin : ∀ {n : Nat} {A : Tab} {p : Nat} (a b : Int) (u v : Nat → Int), p < n → det n (setR A p fun j => a * u j + b * v j) = a * det n (setR A p u) + b * det n (setR A p v)
  | 0, _, _, _, _, _, _, h => absurd h (Nat.not_lt_zero _)
  | n + 1, A, 0, a, b, u, v, _ => by
    show S (n + 1) _ = a * S (n + 1) _ + b * S (n + 1) _
    rw [← S_mul, ← S_mul, ← S_add]
    refine S_congr fun j hj => ?_
    have e : ∀ w : Nat → Int, (fun i k => setR A 0 w (i + 1) (sk j k)) = fun i k => A (i + 1) (sk j k) := fun w => by
      funext i k
      rw [setR_n (Nat.succ_ne_zero i)]
    rw [e, e, e, setR_s, setR_s, setR_s]
    generalize det n _ = D
    generalize sg j = s
    grind
  | n + 1, A, p + 1, a, b, u, v, h => by
    show S (n + 1) _ = a * S (n + 1) _ + b * S (n + 1) _
    rw [← S_mul, ← S_mul, ← S_add]
    refine S_congr fun j hj => ?_
    rw [minor_set, minor_set, minor_set, setR_n (Nat.succ_ne_zero p).symm, setR_n (Nat.succ_ne_zero p).symm, setR_n (Nat.succ_ne_zero p).symm, det_lin a b (fun k => u (sk j k)) (fun k => v (sk j k)) (by omega)]
    generalize det n _ = D
    generalize det n _ = D'
    generalize sg j * A 0 j = s
    grind
/-- two columns left out, in both ways -/
theorem sk_sk {j l i : Nat} (h : l < j) : sk j (sk l i) = sk l (sk (j - 1) i) := by
  simp only [sk]
  repeat' split
  all_goals omega
theorem det_adj : ∀ {n : Nat} {A : Tab} {p : Nat}, p + 1 < n → (∀ j, j < n → A p j = A (p + 1) j) → det n A = 0
  | 0, _, _, h, _ => absurd h (Nat.not_lt_zero _)
  | 1, _, _, h, _ => absurd h (by omega)
  | n + 2, A, p + 1, h, e => S_zero fun j hj => by
    rw [det_adj (p := p) (n := n + 1) (by omega) fun k hk => e _ (sk_lt hk), Int.mul_zero]
  | n + 2, A, 0, h, e => by
    -- sums over both columns
    obtain ⟨M, hM⟩ : ∃ M : Nat → Nat → Int, M = fun j l => det n fun i k => A (i + 2) (sk j (sk l k)) := ⟨_, rfl⟩
    obtain ⟨G, hG⟩ : ∃ G : Nat → Nat → Int, G = fun j l => if l < j then sg j * sg l * (A 0 j * A 0 l) * M j l else if j < l then - (sg j * sg l * (A 0 j * A 0 l) * M l j) else 0 := ⟨_, rfl⟩
    have sy : ∀ j l, G l j = - G j l := fun j l => by
      rw [hG]
      dsimp only
      by_cases c : l < j
      · rw [if_pos c, if_neg (by omega), if_pos c]
        grind
      · by_cases d : j < l
        · rw [if_pos d, if_neg c, if_pos d]
          grind
        · rw [if_neg d, if_neg c, if_neg c, if_neg d]
          rfl
    have key : det (n + 2) A = S (n + 2) fun j => S (n + 2) fun l => G j l := by
      refine S_congr fun j hj => ?_
      show sg j * A 0 j * S (n + 1) _ = _
      rw [S_skip (fun l => G j l) j (n + 1) (by omega), ← S_mul]
      have g0 : G j j = 0 := by
        rw [hG]
        dsimp only
        rw [if_neg (Nat.lt_irrefl j), if_neg (Nat.lt_irrefl j)]
      rw [g0, Int.zero_add]
      refine S_congr fun k hk => ?_
      rw [hG, hM]
      dsimp only
      rw [← e _ (sk_lt hk)]
      by_cases c : k < j
      · have es : sk j k = k := by unfold sk; rw [if_pos c]
        rw [es, if_pos c]
        generalize det n _ = D
        grind
      · have es : sk j k = k + 1 := by unfold sk; rw [if_neg c]
        rw [es, if_neg (by omega), if_pos (by omega), sg_succ]
        have em : (fun i l => A (i + 1 + 1) (sk j (sk k l))) = fun i l => A (i + 2) (sk (k + 1) (sk j l)) := by
          funext i l
          rw [sk_sk (show j < k + 1 by omega)]
          rfl
        rw [em]
        generalize det n _ = D
        grind
    have anti : (S (n + 2) fun j => S (n + 2) fun l => G j l) = - S (n + 2) fun j => S (n + 2) fun l => G j l := by
      have h1 := S_swap (fun j l => G j l) (n + 2) (n + 2)
      have h2 : (S (n + 2) fun l => S (n + 2) fun j => G j l) = S (n + 2) fun l => (-1) * S (n + 2) fun j => G l j := S_congr fun l _ => by
        rw [← S_mul]
        exact S_congr fun j _ => by rw [sy l j]; omega
      rw [h2, S_mul] at h1
      omega
    rw [key]
    omega
/-- an alternating multilinear law of n rows -/
structure Alt (n : Nat) (F : Tab → Int) : Prop where
  cg : ∀ {A B : Tab}, (∀ i j, i < n → j < n → A i j = B i j) → F A = F B
  lin : ∀ {A : Tab} {p : Nat} (a b : Int) (u v : Nat → Int), p < n → F (setR A p fun j => a * u j + b * v j) = a * F (setR A p u) + b * F (setR A p v)
  ad : ∀ {A : Tab} {p : Nat}, p + 1 < n → (∀ j, j < n → A p j = A (p + 1) j) → F A = 0
theorem det_alt (n : Nat) : Alt n (det n) := ⟨det_congr, det_lin, det_adj⟩
/-- two rows exchanged -/
def swp (A : Tab) (p q : Nat) : Tab := setR (setR A p (A q)) q (A p)
section
variable {n : Nat} {F : Tab → Int}
theorem Alt.add (h : Alt n F) {A : Tab} {p : Nat} (u v : Nat → Int) (hp : p < n) : F (setR A p fun j => u j + v j) = F (setR A p u) + F (setR A p v) := by
  have := h.lin (A := A) 1 1 u v hp
  rw [Int.one_mul, Int.one_mul] at this
  rw [← this]
  congr 2
  funext j
  omega
theorem Alt.swap1 (h : Alt n F) {A : Tab} {p q : Nat} (hp : p < n) (hq : q < n) (hpq : p ≠ q) (al : ∀ B : Tab, (∀ j, j < n → B p j = B q j) → F B = 0) : F (swp A p q) = - F A := by
  have e : ∀ u v : Nat → Int, F (setR (setR A p u) q v) + F (setR (setR A p v) q u) = 0 := fun u v => by
    have z : ∀ w, F (setR (setR A p w) q w) = 0 := fun w => al _ fun j _ => by
      rw [setR_n hpq, setR_s, setR_s]
    have := z fun j => u j + v j
    rw [h.add u v hq, setR_comm hpq, h.add u v hp, ← setR_comm hpq, ← setR_comm hpq, setR_comm (v := v) hpq, h.add u v hp, ← setR_comm hpq, ← setR_comm hpq, z, z] at this
    omega
  have := e (A p) (A q)
  rw [setR_own, setR_own] at this
  unfold swp
  omega
/-- equal rows -/
theorem Alt.eq (h : Alt n F) : ∀ (g : Nat) {A : Tab} {p q : Nat}, q = p + 1 + g → q < n → (∀ j, j < n → A p j = A q j) → F A = 0
  | 0, A, p, q, e, hq, hr => by
    subst e
    exact h.ad hq hr
  | g + 1, A, p, q, e, hq, hr => by
    have s := h.swap1 (A := A) (p := q - 1) (q := q) (by omega) hq (by omega) fun B hB => h.ad (p := q - 1) (by omega) fun j hj => by
      rw [hB j hj, show q - 1 + 1 = q by omega]
    have z := h.eq g (A := swp A (q - 1) q) (p := p) (q := q - 1) (by omega) (by omega) fun j hj => by
      unfold swp
      rw [setR_n (by omega), setR_n (by omega), setR_n (by omega), setR_s]
      exact hr j hj
    omega
theorem Alt.same (h : Alt n F) {A : Tab} {p q : Nat} (hp : p < n) (hq : q < n) (hpq : p ≠ q) (hr : ∀ j, j < n → A p j = A q j) : F A = 0 := by
  by_cases c : p < q
  · exact h.eq (q - p - 1) (p := p) (q := q) (by omega) hq hr
  · exact h.eq (p - q - 1) (p := q) (q := p) (by omega) hp fun j hj => (hr j hj).symm
theorem Alt.swap (h : Alt n F) {A : Tab} {p q : Nat} (hp : p < n) (hq : q < n) (hpq : p ≠ q) : F (swp A p q) = - F A := h.swap1 hp hq hpq fun _ hB => h.same hp hq hpq hB
/-- a row, multiplied, and a multiple of another one -/
theorem Alt.comb (h : Alt n F) {A : Tab} {p q : Nat} (hp : p < n) (hq : q < n) (hpq : p ≠ q) (a b : Int) : F (setR A p fun j => a * A p j + b * A q j) = a * F A := by
  rw [h.lin a b (A p) (A q) hp, setR_own, h.same hp hq hpq (A := setR A p (A q)) fun j _ => by rw [setR_s, setR_n (Ne.symm hpq)]]
  omega
theorem Alt.zero (h : Alt n F) {A : Tab} {p : Nat} (hp : p < n) (hz : ∀ j, j < n → A p j = 0) : F A = 0 := by
  have := h.lin (A := A) 0 0 (A p) (A p) hp
  rw [Int.zero_mul, Int.zero_add] at this
  rw [← this]
  refine h.cg fun i j hi hj => ?_
  unfold setR
  split
  · next e =>
    show A i j = 0 * A p j + 0 * A p j
    rw [e, hz j hj]
    rfl
  · rfl
/-- a row that is a sum -/
theorem Alt.sum (h : Alt n F) {A : Tab} {p : Nat} (hp : p < n) (c : Nat → Int) (w : Nat → Nat → Int) : ∀ m, F (setR A p fun j => S m fun k => c k * w k j) = S m fun k => c k * F (setR A p (w k))
  | 0 => h.zero hp fun j _ => by rw [setR_s]; rfl
  | m + 1 => by
    show F (setR A p fun j => (S m fun k => c k * w k j) + c m * w m j) = (S m fun k => c k * F (setR A p (w k))) + c m * F (setR A p (w m))
    rw [← h.sum hp c w m, h.add (fun j => S m fun k => c k * w k j) (fun j => c m * w m j) hp]
    congr 1
    have := h.lin (A := A) (c m) 0 (w m) (w m) hp
    rw [Int.zero_mul, Int.add_zero] at this
    rw [← this]
    congr 2
    funext j
    omega
end
/-- the rows of one -/
def idT : Tab := fun i j => if i = j then 1 else 0
theorem S_id (v : Nat → Int) {n j : Nat} (hj : j < n) : S n (fun k => v k * idT k j) = v j := by
  rw [S_one hj fun k _ hk => by unfold idT; rw [if_neg hk, Int.mul_zero]]
  unfold idT
  rw [if_pos rfl, Int.mul_one]
/-- a row of n entries with a 0 put in at j -/
def lif (j : Nat) (v : Nat → Int) : Nat → Int := fun l => if l < j then v l else if l = j then 0 else v (l - 1)
theorem lif_sk (j k : Nat) (v : Nat → Int) : lif j v (sk j k) = v k := by
  unfold lif sk
  by_cases c : k < j
  · rw [if_pos c, if_pos c]
  · rw [if_neg c, if_neg (by omega), if_neg (by omega), Nat.add_sub_cancel]
theorem lif_j (j : Nat) (v : Nat → Int) : lif j v j = 0 := by
  unfold lif
  rw [if_neg (Nat.lt_irrefl j), if_pos rfl]
theorem sk_of {j l : Nat} (h : l ≠ j) : ∃ k, l = sk j k ∧ (∀ n, l < n + 1 → j < n + 1 → k < n) := by
  by_cases c : l < j
  · exact ⟨l, by unfold sk; rw [if_pos c], fun n h1 h2 => by omega⟩
  · exact ⟨l - 1, by unfold sk; rw [if_neg (by omega)]; omega, fun n h1 h2 => by omega⟩
/-- e_j ahead of rows with a 0 at j -/
def bord (j : Nat) (M : Tab) : Tab := fun i => match i with
  | 0 => idT j
  | i + 1 => lif j (M i)
theorem bord_set (j p : Nat) (M : Tab) (v : Nat → Int) : bord j (setR M p v) = setR (bord j M) (p + 1) (lif j v) := by
  funext i
  cases i with
  | zero => rw [setR_n (Nat.succ_ne_zero p).symm]; rfl
  | succ i =>
    show lif j (setR M p v i) = setR (bord j M) (p + 1) (lif j v) (i + 1)
    unfold setR
    by_cases h : i = p
    · rw [if_pos h, if_pos (by omega)]
    · rw [if_neg h, if_neg (by omega)]
      rfl
theorem Alt.bord {n : Nat} {F : Tab → Int} (h : Alt (n + 1) F) {j : Nat} (hj : j < n + 1) : Alt n fun M => F (bord j M) where
  cg := fun {A B} e => h.cg fun i l hi hl => by
    cases i with
    | zero => rfl
    | succ i =>
      show lif j (A i) l = lif j (B i) l
      by_cases c : l = j
      · rw [c, lif_j, lif_j]
      · obtain ⟨k, ek, hk⟩ := sk_of c
        rw [ek, lif_sk, lif_sk]
        exact e i k (by omega) (hk n hl hj)
  lin := fun {A p} a b u v hp => by
    rw [bord_set, bord_set, bord_set]
    rw [← h.lin a b (lif j u) (lif j v) (show p + 1 < n + 1 by omega)]
    congr 2
    funext l
    unfold lif
    split
    · rfl
    · split
      · omega
      · rfl
  ad := fun {A p} hp e => h.ad (p := p + 1) (by omega) fun l hl => by
    show lif j (A p) l = lif j (A (p + 1)) l
    by_cases c : l = j
    · rw [c, lif_j, lif_j]
    · obtain ⟨k, ek, hk⟩ := sk_of c
      rw [ek, lif_sk, lif_sk]
      exact e k (hk n hl hj)
/-- e_j ahead of the other rows of one -/
theorem Alt.move {n : Nat} {F : Tab → Int} (h : Alt (n + 1) F) : ∀ j, j < n + 1 → F (LA.bord j idT) = sg j * F idT
  | 0, _ => by
    show _ = 1 * F idT
    rw [Int.one_mul]
    refine h.cg fun i l hi hl => ?_
    cases i with
    | zero => rfl
    | succ i =>
      show lif 0 (idT i) l = idT (i + 1) l
      unfold lif idT
      rw [if_neg (Nat.not_lt_zero l)]
      by_cases c : l = 0
      · rw [if_pos c, if_neg (by omega)]
      · rw [if_neg c]
        by_cases d : i = l - 1
        · rw [if_pos d, if_pos (by omega)]
        · rw [if_neg d, if_neg (by omega)]
  | j + 1, hj => by
    rw [sg_succ, Int.neg_mul, ← h.move j (by omega), ← h.swap (A := LA.bord j idT) (p := 0) (q := j + 1) (by omega) hj (by omega)]
    refine h.cg fun i l hi hl => ?_
    unfold swp
    cases i with
    | zero =>
      rw [setR_n (by omega), setR_s]
      show idT (j + 1) l = lif j (idT j) l
      unfold lif idT
      by_cases c : l < j
      · rw [if_neg (by omega), if_pos c, if_neg (by omega)]
      · by_cases d : l = j
        · rw [if_neg (by omega), if_neg c, if_pos d]
        · rw [if_neg c, if_neg d]
          by_cases e : j + 1 = l
          · rw [if_pos e, if_pos (by omega)]
          · rw [if_neg e, if_neg (by omega)]
    | succ i =>
      by_cases ci : i = j
      · subst ci
        rw [setR_s]
        show lif (i + 1) (idT i) l = idT i l
        unfold lif idT
        by_cases c : l < i + 1
        · rw [if_pos c]
        · rw [if_neg c]
          by_cases d : l = i + 1
          · rw [if_pos d, if_neg (by omega)]
          · rw [if_neg d, if_neg (by omega), if_neg (by omega)]
      · rw [setR_n (by omega), setR_n (by omega)]
        show lif (j + 1) (idT i) l = lif j (idT i) l
        unfold lif idT
        by_cases c : l < j
        · rw [if_pos (by omega), if_pos c]
        · rw [if_neg c]
          by_cases d : l = j
          · rw [if_pos d, if_pos (by omega), if_neg (by omega)]
          · rw [if_neg d, if_neg (by omega)]
            by_cases f : l = j + 1
            · rw [if_pos f, if_neg (by omega)]
            · rw [if_neg f]
/-- all rows behind the first one, less multiples of it -/
theorem Alt.clear {n : Nat} {F : Tab → Int} (h : Alt (n + 1) F) (A : Tab) (c : Nat → Int) : ∀ m, m ≤ n → F (fun i => match i with | 0 => A 0 | i + 1 => if i < m then fun l => A (i + 1) l + c i * A 0 l else A (i + 1)) = F A
  | 0, _ => by
    congr 1
    funext i
    cases i with
    | zero => rfl
    | succ i => show (if i < 0 then _ else A (i + 1)) = _; rw [if_neg (Nat.not_lt_zero _)]
  | m + 1, hm => by
    rw [← h.clear A c m (by omega)]
    have := h.comb (A := fun i => match i with | 0 => A 0 | i + 1 => if i < m then fun l => A (i + 1) l + c i * A 0 l else A (i + 1)) (p := m + 1) (q := 0) (by omega) (by omega) (by omega) 1 (c m)
    rw [Int.one_mul] at this
    rw [← this]
    congr 1
    funext i
    cases i with
    | zero => rw [setR_n (by omega)]
    | succ i =>
      by_cases e : i = m
      · subst e
        rw [setR_s]
        show (if i < i + 1 then _ else _) = _
        rw [if_pos (Nat.lt_succ_self _)]
        funext l
        show _ = 1 * (if i < i then _ else A (i + 1)) l + c i * A 0 l
        rw [if_neg (Nat.lt_irrefl _), Int.one_mul]
      · rw [setR_n (by omega)]
        show (if i < m + 1 then _ else _) = if i < m then _ else _
        by_cases d : i < m
        · rw [if_pos d, if_pos (by omega)]
        · rw [if_neg d, if_neg (by omega)]
/-- each such law is a multiple of the determinant -/
theorem Alt.det : ∀ {n : Nat} {F : Tab → Int}, Alt n F → ∀ A, F A = LA.det n A * F idT
  | 0, F, h, A => by
    show F A = 1 * F idT
    rw [Int.one_mul]
    exact h.cg fun i j hi => absurd hi (Nat.not_lt_zero i)
  | n + 1, F, h, A => by
    have e1 : F A = S (n + 1) fun k => A 0 k * F (setR A 0 (idT k)) := by
      rw [← h.sum (by omega) (A 0) idT (n + 1)]
      refine h.cg fun i j hi hj => ?_
      unfold setR
      by_cases c : i = 0
      · rw [if_pos c, S_id _ hj, c]
      · rw [if_neg c]
    rw [e1, show LA.det (n + 1) A = S (n + 1) fun j => sg j * A 0 j * LA.det n fun i k => A (i + 1) (sk j k) from rfl, ← S_mulr]
    refine S_congr fun j hj => ?_
    have e2 : F (setR A 0 (idT j)) = F (LA.bord j fun i k => A (i + 1) (sk j k)) := by
      rw [← h.clear (setR A 0 (idT j)) (fun i => - A (i + 1) j) n (Nat.le_refl n)]
      refine h.cg fun i l hi hl => ?_
      cases i with
      | zero => rfl
      | succ i =>
        show (if i < n then fun l => setR A 0 (idT j) (i + 1) l + - A (i + 1) j * setR A 0 (idT j) 0 l else _) l = lif j (fun k => A (i + 1) (sk j k)) l
        rw [if_pos (by omega), setR_n (Nat.succ_ne_zero i), setR_s]
        by_cases c : l = j
        · rw [c, lif_j]
          unfold idT
          rw [if_pos rfl]
          show A (i + 1) j + - A (i + 1) j * 1 = 0
          omega
        · obtain ⟨k, ek, _⟩ := sk_of c
          rw [ek, lif_sk]
          unfold idT
          rw [if_neg (Ne.symm (sk_ne j k)), Int.mul_zero, Int.add_zero]
    rw [e2, (h.bord hj).det, h.move j hj]
    generalize LA.det n _ = D
    grind
theorem det_one : ∀ n, det n idT = 1
  | 0 => rfl
  | n + 1 => by
    show S (n + 1) _ = 1
    rw [S_one (p := 0) (by omega) fun j _ hj => by unfold idT; rw [if_neg (Ne.symm hj), Int.mul_zero, Int.zero_mul]]
    show 1 * 1 * det n _ = 1
    rw [Int.mul_one, Int.one_mul, ← det_one n]
    refine det_congr fun i k _ _ => ?_
    unfold idT sk
    rw [if_neg (Nat.not_lt_zero k)]
    by_cases c : i = k
    · rw [if_pos c, if_pos (by omega)]
    · rw [if_neg c, if_neg (by omega)]
/-- products of tables -/
def mulT (n : Nat) (A B : Tab) : Tab := fun i j => S n fun k => A i k * B k j
theorem det_mul (n : Nat) (A B : Tab) : det n (mulT n A B) = det n A * det n B := by
  have al : Alt n fun A => det n (mulT n A B) := {
    cg := fun {A A'} e => det_congr fun i j hi hj => S_congr fun k hk => by rw [e i k hi hk]
    lin := fun {A p} a b u v hp => by
      have e : ∀ w : Nat → Int, mulT n (setR A p w) B = setR (mulT n A B) p fun j => S n fun k => w k * B k j := fun w => by
        funext i j
        unfold mulT setR
        by_cases c : i = p
        · rw [if_pos c, if_pos c]
        · rw [if_neg c, if_neg c]
      rw [e, e, e, ← det_lin a b _ _ hp]
      congr 2
      funext j
      rw [← S_mul, ← S_mul, ← S_add]
      exact S_congr fun k _ => by grind
    ad := fun {A p} hp e => det_adj hp fun j hj => S_congr fun k hk => by rw [e k hk] }
  rw [al.det A]
  congr 1
  refine det_congr fun i j hi hj => ?_
  unfold mulT
  rw [S_one hi fun k _ hk => by unfold idT; rw [if_neg (Ne.symm hk), Int.zero_mul]]
  unfold idT
  rw [if_pos rfl, Int.one_mul]
end LA

set_option Elab.async false
set_option linter.all false
set_option maxRecDepth 10000
/-! determinants: triangular tables, blocks, bounds; elimination without fractions -/
namespace LA
theorem det_col0 : ∀ {n : Nat} {A : Tab}, (∀ i, i < n + 1 → A i 0 = 0) → det (n + 1) A = 0
  | 0, A, h => S_zero fun j hj => by
    rw [Nat.lt_one_iff.mp hj, h 0 (by omega), Int.mul_zero, Int.zero_mul]
  | n + 1, A, h => S_zero fun j hj => by
    by_cases c : j = 0
    · rw [c, h 0 (by omega), Int.mul_zero, Int.zero_mul]
    · rw [det_col0 (n := n) fun i hi => ?_, Int.mul_zero]
      show A (i + 1) (sk j 0) = 0
      rw [show sk j 0 = 0 by unfold sk; rw [if_pos (by omega)]]
      exact h _ (by omega)
theorem det_first {n : Nat} {A : Tab} (h : ∀ i, i < n → A (i + 1) 0 = 0) : det (n + 1) A = A 0 0 * det n fun i k => A (i + 1) (k + 1) := by
  show S (n + 1) _ = _
  rw [S_one (p := 0) (by omega) fun j hj c => ?_]
  · show 1 * A 0 0 * det n _ = _
    rw [Int.one_mul]
    congr 1
  · cases n with
    | zero => omega
    | succ n =>
      rw [det_col0 (n := n) fun i hi => ?_, Int.mul_zero]
      show A (i + 1) (sk j 0) = 0
      rw [show sk j 0 = 0 by unfold sk; rw [if_pos (by omega)]]
      exact h _ hi
def prd : Nat → (Nat → Int) → Int
  | 0, _ => 1
  | n + 1, f => prd n f * f n
theorem prd_first (f : Nat → Int) : ∀ n, prd (n + 1) f = f 0 * prd n fun i => f (i + 1)
  | 0 => by show 1 * f 0 = f 0 * 1; omega
  | n + 1 => by
    show prd (n + 1) f * f (n + 1) = f 0 * (prd n (fun i => f (i + 1)) * f (n + 1))
    rw [prd_first f n, Int.mul_assoc]
theorem prd_congr {f g : Nat → Int} : ∀ {n : Nat}, (∀ i, i < n → f i = g i) → prd n f = prd n g
  | 0, _ => rfl
  | n + 1, h => by
    show prd n f * f n = prd n g * g n
    rw [prd_congr fun i hi => h i (by omega), h n (by omega)]
/-- zeros below the diagonal in the first columns -/
theorem det_up : ∀ (t s : Nat) (L : Tab), (∀ i u, u < t → u < i → i < t + s → L i u = 0) → det (t + s) L = prd t (fun u => L u u) * det s fun i k => L (t + i) (t + k)
  | 0, s, L, _ => by
    show _ = 1 * _
    rw [Int.one_mul, Nat.zero_add]
    exact det_congr fun i j _ _ => by rw [Nat.zero_add, Nat.zero_add]
  | t + 1, s, L, h => by
    rw [show t + 1 + s = t + s + 1 by omega, det_first fun i hi => h _ 0 (by omega) (by omega) (by omega), det_up t s (fun i k => L (i + 1) (k + 1)) fun i u h1 h2 h3 => h _ _ (by omega) (by omega) (by omega), prd_first, Int.mul_assoc]
    congr 2
    exact det_congr fun i j _ _ => by rw [show t + i + 1 = t + 1 + i by omega, show t + j + 1 = t + 1 + j by omega]
theorem det_diagU {n : Nat} {L : Tab} (h : ∀ i u, u < i → i < n → L i u = 0) : det n L = prd n fun u => L u u := by
  have := det_up n 0 L fun i u _ h2 h3 => h i u h2 (by omega)
  rw [Nat.add_zero] at this
  rw [this]
  show _ * 1 = _
  omega
theorem det_diagL : ∀ {n : Nat} {L : Tab}, (∀ i u, i < u → u < n → L i u = 0) → det n L = prd n fun u => L u u
  | 0, _, _ => rfl
  | n + 1, L, h => by
    show S (n + 1) _ = _
    rw [S_one (p := 0) (by omega) fun j hj c => by rw [h 0 j (by omega) hj, Int.mul_zero, Int.zero_mul], prd_first]
    show 1 * L 0 0 * det n _ = _
    rw [Int.one_mul, det_diagL (L := fun i k => L (i + 1) (sk 0 k)) fun i u h1 h2 => ?_]
    · congr 1
    · rw [show sk 0 u = u + 1 by unfold sk; rw [if_neg (Nat.not_lt_zero u)]]
      exact h _ _ (by omega) (by omega)
/-- two blocks -/
def blk (a : Nat) (A B : Tab) : Tab := fun i j => if i < a then (if j < a then A i j else 0) else if j < a then 0 else B (i - a) (j - a)
theorem det_blk (a b : Nat) (A B : Tab) : det (a + b) (blk a A B) = det a A * det b B := by
  have al : Alt a fun A => det (a + b) (blk a A B) := {
    cg := fun {A A'} e => det_congr fun i j _ _ => by
      unfold blk
      by_cases c : i < a
      · rw [if_pos c, if_pos c]
        by_cases d : j < a
        · rw [if_pos d, if_pos d, e i j c d]
        · rw [if_neg d, if_neg d]
      · rw [if_neg c, if_neg c]
    lin := fun {A p} x y u v hp => by
      have e : ∀ w : Nat → Int, blk a (setR A p w) B = setR (blk a A B) p fun j => if j < a then w j else 0 := fun w => by
        funext i j
        unfold blk setR
        by_cases c : i = p
        · rw [if_pos c, if_pos (by omega), if_pos c]
        · rw [if_neg c, if_neg c]
      rw [e, e, e, ← det_lin x y _ _ (show p < a + b by omega)]
      congr 2
      funext j
      by_cases d : j < a
      · rw [if_pos d, if_pos d, if_pos d]
      · rw [if_neg d, if_neg d, if_neg d]
        omega
    ad := fun {A p} hp e => det_adj (show p + 1 < a + b by omega) fun j hj => by
      unfold blk
      rw [if_pos (by omega), if_pos hp]
      by_cases d : j < a
      · rw [if_pos d, if_pos d, e j d]
      · rw [if_neg d, if_neg d] }
  rw [al.det A]
  congr 1
  rw [det_up a b (blk a idT B) fun i u h1 h2 h3 => ?_]
  · have e1 : prd a (fun u => blk a idT B u u) = 1 := by
      rw [prd_congr (g := fun _ => 1) fun i hi => by
        unfold blk idT
        rw [if_pos hi, if_pos hi, if_pos rfl]]
      clear al
      induction a with
      | zero => rfl
      | succ a ih => show prd a _ * 1 = 1; rw [ih]; rfl
    rw [e1, Int.one_mul]
    exact det_congr fun i j _ _ => by
      unfold blk
      rw [if_neg (by omega), if_neg (by omega), Nat.add_sub_cancel_left, Nat.add_sub_cancel_left]
  · unfold blk idT
    by_cases c : i < a
    · rw [if_pos c, if_pos h1, if_neg (by omega)]
    · rw [if_neg c, if_pos h1]
/-- bounds -/
theorem S_absD {f : Nat → Int} {M : Nat} : ∀ {n : Nat}, (∀ i, i < n → (f i).natAbs ≤ M) → (S n f).natAbs ≤ n * M
  | 0, _ => Nat.zero_le _
  | n + 1, h => by
    show (S n f + f n).natAbs ≤ _
    have h1 := S_absD (n := n) fun i hi => h i (by omega)
    have h2 := h n (by omega)
    rw [Nat.succ_mul]
    omega
theorem det_bd {M : Nat} : ∀ {n : Nat} {A : Tab}, (∀ i j, i < n → j < n → (A i j).natAbs ≤ M) → (det n A).natAbs ≤ (n * M) ^ n
  | 0, _, _ => Nat.le_refl 1
  | n + 1, A, h => by
    refine Nat.le_trans (S_absD (M := M * (n * M) ^ n) fun j hj => ?_) ?_
    · rw [Int.natAbs_mul, Int.natAbs_mul]
      have e : (sg j).natAbs = 1 := by unfold sg; split <;> rfl
      rw [e, Nat.one_mul]
      exact Nat.mul_le_mul (h 0 j (by omega) hj) (det_bd fun i k hi hk => h _ _ (by omega) (sk_lt hk))
    · rw [Nat.pow_succ, ← Nat.mul_assoc, Nat.mul_comm]
      exact Nat.mul_le_mul_right _ (Nat.pow_le_pow_left (Nat.mul_le_mul_right _ (Nat.le_succ n)) n)
/-! ### elimination without fractions -/
structure BInv (n t : Nat) (A L : Tab) (last W : Int) : Prop where
  tri : ∀ i u, u < t → u < i → i < n → L i u = 0
  w : W = prd t fun u => L u u
  wz : W ≠ 0
  lz : last ≠ 0
  inv : ∀ (r : Nat) (ρ γ : Nat → Nat), (∀ i, i < t → ρ i = i ∧ γ i = i) → (∀ i, t ≤ i → i < t + r → (t ≤ ρ i ∧ ρ i < n) ∧ t ≤ γ i ∧ γ i < n) → det (t + r) (fun i j => L (ρ i) (γ j)) * last = det (t + r) (fun i j => A (ρ i) (γ j)) * W * last ^ r
theorem BInv.init (n : Nat) (A : Tab) : BInv n 0 A A 1 1 := ⟨fun i u h => absurd h (Nat.not_lt_zero u), rfl, by decide, by decide, fun r ρ γ _ _ => by
  rw [Int.one_pow, Int.mul_one, Int.mul_one]⟩
section
variable {n t : Nat} {A L : Tab} {last W : Int}
theorem BInv.split (B : BInv n t A L last W) (tn : t ≤ n) (r : Nat) (ρ γ : Nat → Nat) (h1 : ∀ i, i < t → ρ i = i ∧ γ i = i) (h2 : ∀ i, t ≤ i → i < t + r → (t ≤ ρ i ∧ ρ i < n) ∧ t ≤ γ i ∧ γ i < n) : det r (fun i k => L (ρ (t + i)) (γ (t + k))) * last = det (t + r) (fun i j => A (ρ i) (γ j)) * last ^ r := by
  have e := B.inv r ρ γ h1 h2
  rw [det_up t r _ fun i u hu hi ht => ?_] at e
  · rw [prd_congr (g := fun u => L u u) fun u hu => by rw [(h1 u hu).1, (h1 u hu).2], ← B.w] at e
    refine Int.eq_of_mul_eq_mul_left B.wz ?_
    rw [← Int.mul_assoc, e]
    grind
  · rw [(h1 u hu).2]
    by_cases c : i < t
    · rw [(h1 i c).1]
      exact B.tri i u hu hi (by omega)
    · have := (h2 i (by omega) ht).1
      exact B.tri _ u hu (by omega) this.2
/-- what stands in the table is a minor -/
theorem BInv.minor (B : BInv n t A L last W) {i j : Nat} (hi : t ≤ i) (hi2 : i < n) (hj : t ≤ j) (hj2 : j < n) : L i j = det (t + 1) fun x y => A (if x < t then x else i) (if y < t then y else j) := by
  have e := B.split (by omega) 1 (fun x => if x < t then x else i) (fun y => if y < t then y else j) (fun x hx => ⟨if_pos hx, if_pos hx⟩) fun x hx _ => by
    rw [if_neg (by omega), if_neg (by omega)]
    exact ⟨⟨hi, hi2⟩, hj, hj2⟩
  have e2 : det 1 (fun x y => L (if t + x < t then t + x else i) (if t + y < t then t + y else j)) = L i j := by
    show 0 + 1 * L (if t + 0 < t then t + 0 else i) (if t + 0 < t then t + 0 else j) * 1 = _
    rw [if_neg (by omega), if_neg (by omega)]
    omega
  rw [e2, Int.pow_succ, Int.pow_zero, Int.one_mul] at e
  exact Int.eq_of_mul_eq_mul_right B.lz e
theorem BInv.exact (B : BInv n t A L last W) (tn : t < n) {i j : Nat} (hi : t < i) (hi2 : i < n) (hj2 : j < n) : ∃ q : Int, L i j * L t t - L i t * L t j = q * last := by
  by_cases hj : j < t
  · refine ⟨0, ?_⟩
    rw [B.tri i j hj (by omega) hi2, B.tri t j hj hj (by omega), Int.zero_mul, Int.mul_zero, Int.zero_mul]
    rfl
  · have e := B.split (by omega) 2 (fun x => if x ≤ t then x else i) (fun y => if y < t then y else if y = t then t else j) (fun x hx => ⟨if_pos (by omega), if_pos hx⟩) fun x hx _ => by
      rw [if_neg (show ¬ x < t by omega)]
      refine ⟨?_, ?_⟩
      · split <;> omega
      · split <;> omega
    refine ⟨det (t + 2) fun x y => A (if x ≤ t then x else i) (if y < t then y else if y = t then t else j), Int.eq_of_mul_eq_mul_right B.lz (Eq.trans ?_ (e.trans (by rw [Int.pow_succ, Int.pow_succ, Int.pow_zero, Int.one_mul, ← Int.mul_assoc])))⟩
    congr 1
    show _ = (0 + 1 * L (if t + 0 ≤ t then t + 0 else i) (if t + 0 < t then t + 0 else if t + 0 = t then t else j) * (0 + 1 * L (if t + (0 + 1) ≤ t then t + (0 + 1) else i) (if t + sk 0 0 < t then t + sk 0 0 else if t + sk 0 0 = t then t else j) * 1)) + -1 * L (if t + 0 ≤ t then t + 0 else i) (if t + 1 < t then t + 1 else if t + 1 = t then t else j) * (0 + 1 * L (if t + (0 + 1) ≤ t then t + (0 + 1) else i) (if t + sk 1 0 < t then t + sk 1 0 else if t + sk 1 0 = t then t else j) * 1)
    rw [show sk 0 0 = 1 from rfl, show sk 1 0 = 0 from rfl]
    rw [if_pos (show t + 0 ≤ t by omega), if_neg (show ¬ t + 0 < t by omega), if_pos (show t + 0 = t by omega), if_neg (show ¬ t + (0 + 1) ≤ t by omega), if_neg (show ¬ t + 1 < t by omega), if_neg (show ¬ t + 1 = t by omega)]
    rw [Nat.add_zero]
    grind
/-- rows, multiplied, and multiples of one of the others -/
theorem det_rows {N q m : Nat} {B B' : Tab} {a p : Int} (c : Nat → Int) (hq : q < m) (same : ∀ i, i < m → B' i = B i) : ∀ r, m + r ≤ N → (∀ i, m ≤ i → i < m + r → ∀ j, j < N → a * B' i j = p * B i j + c i * B q j) → (∀ i, m + r ≤ i → i < N → B' i = B i) → det N B' * a ^ r = det N B * p ^ r := by
  intro r
  induction r generalizing B' with
  | zero =>
    intro _ _ h2
    rw [Int.pow_zero, Int.pow_zero]
    congr 1
    exact det_congr fun i j hi hj => by
      by_cases d : i < m
      · rw [same i d]
      · rw [h2 i (by omega) hi]
  | succ r ih =>
    intro hr h1 h2
    have e := ih (B' := setR B' (m + r) (B (m + r))) (fun i hi => by rw [setR_n (by omega)]; exact same i hi) (by omega) (fun i h3 h4 j hj => by
      rw [setR_n (by omega)]
      exact h1 i h3 (by omega) j hj) fun i h3 h4 => by
        by_cases d : i = m + r
        · rw [d, setR_s]
        · rw [setR_n d]
          exact h2 i (by omega) h4
    have al := det_alt N
    have e2 := al.comb (A := setR B' (m + r) (B (m + r))) (p := m + r) (q := q) (by omega) (by omega) (by omega) p (c (m + r))
    have e3 := al.lin (A := B') (p := m + r) a 0 (B' (m + r)) (B' (m + r)) (by omega)
    rw [setR_own, Int.zero_mul, Int.add_zero] at e3
    have e4 : det N (setR (setR B' (m + r) (B (m + r))) (m + r) fun j => p * setR B' (m + r) (B (m + r)) (m + r) j + c (m + r) * setR B' (m + r) (B (m + r)) q j) = det N (setR B' (m + r) fun j => a * B' (m + r) j + 0 * B' (m + r) j) := by
      rw [setR_set, setR_s, setR_n (show q ≠ m + r by omega), same q hq]
      refine det_congr fun i j hi hj => ?_
      unfold setR
      by_cases d : i = m + r
      · rw [if_pos d, if_pos d]
        have := h1 (m + r) (by omega) (by omega) j hj
        show p * B (m + r) j + c (m + r) * B q j = a * B' (m + r) j + 0 * B' (m + r) j
        omega
      · rw [if_neg d, if_neg d]
    rw [e4, e3] at e2
    rw [Int.pow_succ, Int.pow_succ]
    generalize det N (setR B' (m + r) (B (m + r))) = D at *
    generalize det N B' = D' at *
    have : D' * (a ^ r * a) = a * D' * a ^ r := by grind
    rw [this, e2]
    have : p * D * a ^ r = p * (D * a ^ r) := by grind
    rw [this, e]
    grind
theorem BInv.step (B : BInv n t A L last W) (tn : t < n) (hp : L t t ≠ 0) {L' : Tab} (same : ∀ i, i ≤ t → L' i = L i) (new : ∀ i j, t < i → i < n → j < n → last * L' i j = L i j * L t t - L i t * L t j) : BInv n (t + 1) A L' (L t t) (W * L t t) := by
  refine ⟨fun i u hu hi hn => ?_, ?_, Int.mul_ne_zero B.wz hp, hp, fun r ρ γ h1 h2 => ?_⟩
  · by_cases c : i ≤ t
    · rw [same i c]
      exact B.tri i u (by omega) hi hn
    · have e := new i u (by omega) hn (by omega)
      have z : L i u * L t t - L i t * L t u = 0 := by
        by_cases d : u = t
        · rw [d]; omega
        · rw [B.tri i u (by omega) hi hn, B.tri t u (by omega) (by omega) tn, Int.zero_mul, Int.mul_zero]
          rfl
      rw [z] at e
      exact (Int.mul_eq_zero.mp e).resolve_left B.lz
  · rw [B.w]
    show _ = prd t (fun u => L' u u) * L' t t
    rw [same t (Nat.le_refl t)]
    congr 1
    exact prd_congr fun i hi => by rw [same i (by omega)]
  · have e1 := B.inv (r + 1) ρ γ (fun i hi => h1 i (by omega)) fun i h3 h4 => by
      by_cases c : i = t
      · rw [c, (h1 t (by omega)).1, (h1 t (by omega)).2]
        exact ⟨⟨Nat.le_refl t, tn⟩, Nat.le_refl t, tn⟩
      · have := h2 i (by omega) (by omega)
        omega
    have e2 := det_rows (N := t + 1 + r) (q := t) (m := t + 1) (B := fun i j => L (ρ i) (γ j)) (B' := fun i j => L' (ρ i) (γ j)) (a := last) (p := L t t) (fun i => - L (ρ i) t) (by omega) (fun i hi => by
      funext j
      rw [(h1 i hi).1, same i (by omega)]) r (Nat.le_refl _) (fun i h3 h4 j hj => by
      have a1 := h2 i h3 h4
      have a2 : γ j < n := by
        by_cases c : j < t + 1
        · rw [(h1 j c).2]; omega
        · exact (h2 j (by omega) hj).2.2
      rw [(h1 t (by omega)).1, new _ _ (by omega) a1.1.2 a2]
      grind) (fun i h3 h4 => absurd h4 (by omega))
    rw [show t + (r + 1) = t + 1 + r by omega] at e1
    generalize det (t + 1 + r) (fun i j => L (ρ i) (γ j)) = D1 at *
    generalize det (t + 1 + r) (fun i j => L' (ρ i) (γ j)) = D2 at *
    generalize det (t + 1 + r) (fun i j => A (ρ i) (γ j)) = D0 at *
    have hz : last ^ (r + 1) ≠ 0 := by
      intro z
      exact B.lz (by
        have : ∀ k, last ^ k ≠ 0 := fun k => by
          induction k with
          | zero => rw [Int.pow_zero]; decide
          | succ k ih => rw [Int.pow_succ]; exact Int.mul_ne_zero ih B.lz
        exact absurd z (this _))
    refine Int.eq_of_mul_eq_mul_right hz ?_
    have : D2 * L t t * last ^ (r + 1) = (D2 * last ^ r) * (L t t * last) := by rw [Int.pow_succ]; grind
    rw [this, e2]
    have : D1 * L t t ^ r * (L t t * last) = (D1 * last) * (L t t ^ r * L t t) := by grind
    rw [this, e1]
    grind
/-- rows exchanged -/
theorem BInv.swap (B : BInv n t A L last W) {h : Nat} (ht : t < h) (hn : h < n) : BInv n t (swp A t h) (swp L t h) last W := by
  have ev : ∀ (X : Tab) (i : Nat), swp X t h i = X (if i = t then h else if i = h then t else i) := fun X i => by
    unfold swp setR
    by_cases c : i = h
    · rw [if_pos c, if_neg (show ¬ i = t by omega), if_pos c]
    · rw [if_neg c]
      by_cases d : i = t
      · rw [if_pos d, if_pos d]
      · rw [if_neg d, if_neg d, if_neg c]
  refine ⟨fun i u hu hi hN => ?_, ?_, B.wz, B.lz, fun r ρ γ h1 h2 => ?_⟩
  · rw [ev]
    exact B.tri _ u hu (by split <;> (try split) <;> omega) (by split <;> (try split) <;> omega)
  · rw [B.w]
    exact prd_congr fun u hu => by rw [ev, if_neg (by omega), if_neg (by omega)]
  · have e := B.inv r (fun i => if ρ i = t then h else if ρ i = h then t else ρ i) γ (fun i hi => by
      have := h1 i hi
      rw [this.1, if_neg (by omega), if_neg (by omega)]
      exact ⟨rfl, this.2⟩) fun i h3 h4 => by
        have := h2 i h3 h4
        refine ⟨?_, this.2⟩
        split <;> (try split) <;> omega
    have e1 : ∀ X : Tab, (fun i j => swp X t h (ρ i) (γ j)) = fun i j => X (if ρ i = t then h else if ρ i = h then t else ρ i) (γ j) := fun X => by
      funext i j
      rw [ev]
    rw [e1, e1]
    exact e
theorem BInv.done (B : BInv n n A L last W) : last = det n A := by
  have e := B.split (Nat.le_refl n) 0 id id (fun i _ => ⟨rfl, rfl⟩) fun i h1 h2 => absurd h2 (by omega)
  rw [Int.pow_zero, Int.mul_one, Nat.add_zero] at e
  have e2 : (1 : Int) * last = det n A := e
  rw [← e2, Int.one_mul]
theorem BInv.none (B : BInv n t A L last W) (tn : t < n) (h : ∀ i, t ≤ i → i < n → L i t = 0) : det n A = 0 := by
  have e := B.split (by omega) (n - t) id id (fun i _ => ⟨rfl, rfl⟩) fun i h1 h2 => ⟨⟨h1, by show i < n; omega⟩, h1, by show i < n; omega⟩
  obtain ⟨m, hm⟩ : ∃ m, n - t = m + 1 := ⟨n - t - 1, by omega⟩
  rw [hm, det_col0 fun i hi => h _ (by show t ≤ t + i; omega) (by show t + i < n; omega), Int.zero_mul, show t + (m + 1) = n by omega] at e
  have hz : ∀ k, last ^ k ≠ 0 := fun k => by
    induction k with
    | zero => rw [Int.pow_zero]; decide
    | succ k ih => rw [Int.pow_succ]; exact Int.mul_ne_zero ih B.lz
  exact (Int.mul_eq_zero.mp e.symm).resolve_right (hz _)
end
end LA

set_option Elab.async false
set_option linter.all false
set_option maxRecDepth 100000
set_option maxHeartbeats 2000000
set_option exponentiation.threshold 10000
/-! plain: determinants of lists of rows, by elimination without fractions -/
namespace K77
open PySem PySem.Spec PyProof.Rows L2 FDivQ LA
/-- a row behind a turn -/
def bnew (r h : List Int) (t : Nat) (last : Int) : List Int := tb h.length fun k => (co r k * co h t - co r t * co h k).fdiv last
/-- the rows behind the first j ones that a turn changes -/
def bst (L : List (List Int)) (t : Nat) (last : Int) (j : Nat) : List (List Int) := (List.range L.length).map fun i => if t < i ∧ i < t + 1 + j then bnew (L.getD i []) (L.getD t []) t last else L.getD i []
def hdt (L : List (List Int)) (t : Nat) : List Nat := ((List.range (L.length - t)).map (t + ·)).filter fun i => co (L.getD i []) t != 0
def lsw (L : List (List Int)) (t h : Nat) : List (List Int) := (L.set t (L.getD h [])).set h (L.getD t [])
def bgo : Nat → Nat → List (List Int) → Int → Int → Int
  | 0, _, _, s, l => s * l
  | r + 1, t, L, s, l => match hdt L t with
    | [] => 0
    | h :: _ => bgo r (t + 1) (bst (lsw L t h) t l L.length) (if h = t then s else -s) (co ((lsw L t h).getD t []) t)
def bdet (L : List (List Int)) : Int := bgo L.length 0 L 1 1
theorem bst_len (L : List (List Int)) (t : Nat) (last : Int) (j : Nat) : (bst L t last j).length = L.length := by
  unfold bst
  rw [List.length_map, List.length_range]
theorem bst_get {L : List (List Int)} {t : Nat} {last : Int} {j i : Nat} (h : i < L.length) : (bst L t last j).getD i [] = if t < i ∧ i < t + 1 + j then bnew (L.getD i []) (L.getD t []) t last else L.getD i [] := by
  unfold bst
  rw [List.getD_eq_getElem?_getD, List.getElem?_map, List.getElem?_range h]
  rfl
theorem lsw_len (L : List (List Int)) (t h : Nat) : (lsw L t h).length = L.length := by
  unfold lsw
  rw [List.length_set, List.length_set]
theorem lsw_get {L : List (List Int)} {t h i : Nat} (ht : t < L.length) (hh : h < L.length) : (lsw L t h).getD i [] = if i = h then L.getD t [] else if i = t then L.getD h [] else L.getD i [] := by
  unfold lsw
  rw [List.getD_eq_getElem?_getD, List.getElem?_set]
  by_cases c : h = i
  · rw [if_pos c, if_pos (by rw [List.length_set]; omega), if_pos c.symm]
    rfl
  · rw [if_neg c, if_neg (Ne.symm c), List.getElem?_set]
    by_cases d : t = i
    · rw [if_pos d, if_pos ht, if_pos d.symm]
      rfl
    · rw [if_neg d, if_neg (Ne.symm d), ← List.getD_eq_getElem?_getD]
theorem mem_hdt {L : List (List Int)} {t i : Nat} : i ∈ hdt L t ↔ (t ≤ i ∧ i < L.length) ∧ co (L.getD i []) t ≠ 0 := by
  unfold hdt
  rw [List.mem_filter, List.mem_map]
  constructor
  · rintro ⟨⟨k, hk, rfl⟩, h⟩
    have := List.mem_range.mp hk
    exact ⟨⟨by omega, by omega⟩, by simpa using h⟩
  · rintro ⟨⟨h1, h2⟩, h⟩
    exact ⟨⟨i - t, List.mem_range.mpr (by omega), by omega⟩, by simpa using h⟩
/-- a state of the elimination -/
structure BS (n t M : Nat) (L : List (List Int)) (last : Int) : Prop where
  ln : L.length = n
  lr : ∀ i, i < n → (L.getD i []).length = n
  ex : ∃ (A : Tab) (W : Int), BInv n t A (row L) last W ∧ ∀ i j, i < n → j < n → (A i j).natAbs ≤ M
section
variable {n t M : Nat} {L : List (List Int)} {last : Int}
theorem minor_bd {A : Tab} (hM : ∀ i j, i < n → j < n → (A i j).natAbs ≤ M) (M1 : 1 ≤ M) {s : Nat} (hs : s ≤ n) (ρ γ : Nat → Nat) (h : ∀ i, i < s → ρ i < n ∧ γ i < n) : (det s fun x y => A (ρ x) (γ y)).natAbs ≤ (n * M) ^ n := by
  refine Nat.le_trans (det_bd (M := M) fun i j hi hj => hM _ _ (h i hi).1 (h j hj).2) ?_
  refine Nat.le_trans (Nat.pow_le_pow_left (Nat.mul_le_mul_right M hs) s) ?_
  by_cases z : n = 0
  · rw [z] at hs ⊢
    rw [show s = 0 by omega]
    exact Nat.le_refl _
  · exact Nat.pow_le_pow_right (Nat.mul_pos (by omega) M1) hs
/-- all that stands from row t on is bounded -/
theorem BS.bd (B : BS n t M L last) (M1 : 1 ≤ M) {i : Nat} (hi : t ≤ i) (hn : i < n) (j : Nat) : (co (L.getD i []) j).natAbs ≤ (n * M) ^ n := by
  obtain ⟨A, W, b, hM⟩ := B.ex
  by_cases c : j < n
  · by_cases d : j < t
    · rw [show co (L.getD i []) j = 0 from b.tri i j d (by omega) hn]
      exact Nat.zero_le _
    · have e : co (L.getD i []) j = det (t + 1) fun x y => A (if x < t then x else i) (if y < t then y else j) := b.minor hi hn (by omega) c
      rw [e]
      exact minor_bd hM M1 (by omega) (fun x => if x < t then x else i) (fun y => if y < t then y else j) fun x hx => ⟨by split <;> omega, by split <;> omega⟩
  · rw [co_far (by rw [B.lr i hn]; omega)]
    exact Nat.zero_le _
theorem BS.lz (B : BS n t M L last) : last ≠ 0 := by
  obtain ⟨A, W, b, _⟩ := B.ex
  exact b.lz
theorem BS.swap (B : BS n t M L last) {h : Nat} (ht : t ≤ h) (hn : h < n) : BS n t M (lsw L t h) last := by
  obtain ⟨A, W, b, hM⟩ := B.ex
  have lt : t < L.length := by rw [B.ln]; omega
  have lh : h < L.length := by rw [B.ln]; exact hn
  refine ⟨by rw [lsw_len, B.ln], fun i hi => ?_, ?_⟩
  · rw [lsw_get lt lh]
    split
    · exact B.lr t (by omega)
    · split
      · exact B.lr h hn
      · exact B.lr i hi
  · by_cases c : h = t
    · subst c
      have e : row (lsw L h h) = row L := by
        funext i
        unfold row
        rw [lsw_get lh lh]
        by_cases d : i = h
        · rw [if_pos d, d]
        · rw [if_neg d, if_neg d]
      rw [e]
      exact ⟨A, W, b, hM⟩
    · have e : row (lsw L t h) = swp (row L) t h := by
        funext i
        unfold row swp setR
        rw [lsw_get lt lh]
        by_cases d : i = h
        · rw [if_pos d, if_pos d]
        · rw [if_neg d, if_neg d]
          by_cases f : i = t
          · rw [if_pos f, if_pos f]
          · rw [if_neg f, if_neg f]
      rw [e]
      refine ⟨_, W, b.swap (by omega) hn, fun i j hi hj => ?_⟩
      unfold swp setR
      split
      · exact hM _ _ (by omega) hj
      · split
        · exact hM _ _ (by omega) hj
        · exact hM _ _ hi hj
theorem BS.exact (B : BS n t M L last) (tn : t < n) {i : Nat} (hi : t < i) (hn : i < n) (j : Nat) : ∃ q : Int, co (L.getD i []) j * co (L.getD t []) t - co (L.getD i []) t * co (L.getD t []) j = q * last := by
  obtain ⟨A, W, b, hM⟩ := B.ex
  by_cases c : j < n
  · exact b.exact tn hi hn c
  · refine ⟨0, ?_⟩
    rw [co_far (l := L.getD i []) (i := j) (by rw [B.lr i hn]; omega), co_far (l := L.getD t []) (i := j) (by rw [B.lr t tn]; omega)]
    omega
theorem bnew_ex (B : BS n t M L last) (tn : t < n) {i : Nat} (hi : t < i) (hn : i < n) (j : Nat) : last * co (bnew (L.getD i []) (L.getD t []) t last) j = co (L.getD i []) j * co (L.getD t []) t - co (L.getD i []) t * co (L.getD t []) j := by
  obtain ⟨q, e⟩ := B.exact tn hi hn j
  unfold bnew
  rw [co_tb]
  split
  · exact Int.mul_fdiv_cancel' ⟨q, by rw [e, Int.mul_comm]⟩
  · next h =>
    rw [B.lr t tn] at h
    rw [co_far (l := L.getD i []) (i := j) (by rw [B.lr i hn]; omega), co_far (l := L.getD t []) (i := j) (by rw [B.lr t tn]; omega)]
    omega
theorem BS.step (B : BS n t M L last) (tn : t < n) (hp : co (L.getD t []) t ≠ 0) : BS n (t + 1) M (bst L t last n) (co (L.getD t []) t) := by
  obtain ⟨A, W, b, hM⟩ := B.ex
  refine ⟨by rw [bst_len, B.ln], fun i hi => ?_, A, _, b.step tn hp (L' := row (bst L t last n)) (fun i hi => ?_) (fun i j hi hn hj => ?_), hM⟩
  · rw [bst_get (by rw [B.ln]; exact hi)]
    split
    · unfold bnew
      rw [tb_len, B.lr t tn]
    · exact B.lr i hi
  · show co ((bst L t last n).getD i []) = co (L.getD i [])
    rw [bst_get (by rw [B.ln]; omega), if_neg (by omega)]
  · show last * co ((bst L t last n).getD i []) j = _
    rw [bst_get (by rw [B.ln]; exact hn), if_pos ⟨hi, by omega⟩]
    exact bnew_ex B tn hi hn j
/-- the quotients of a turn -/
theorem BS.div (B : BS n t M L last) (M1 : 1 ≤ M) (hb : (n * M) ^ n < 2 ^ 4000) (tn : t < n) (hp : co (L.getD t []) t ≠ 0) {i : Nat} (hi : t < i) (hn : i < n) (j : Nat) : CDivQ (co (L.getD i []) j * co (L.getD t []) t - co (L.getD i []) t * co (L.getD t []) j) last := by
  refine CDivQ.exact B.lz (q := co (bnew (L.getD i []) (L.getD t []) t last) j) (by rw [← bnew_ex B tn hi hn j, Int.mul_comm]) ?_
  have := (B.step tn hp).bd M1 (show t + 1 ≤ i by omega) hn j
  rw [bst_get (by rw [B.ln]; exact hn), if_pos ⟨hi, by omega⟩] at this
  exact Nat.lt_of_le_of_lt this (Nat.lt_trans hb (Nat.pow_lt_pow_right (by decide) (by decide)))
end
theorem bgo_det {n : Nat} : ∀ (r t : Nat) (L : List (List Int)) (s last : Int) (A : Tab) (W : Int), t + r = n → L.length = n → (∀ i, i < n → (L.getD i []).length = n) → BInv n t A (row L) last W → bgo r t L s last = s * det n A
  | 0, t, L, s, last, A, W, e, ln, lr, b => by
    rw [Nat.add_zero] at e
    subst e
    show s * last = _
    rw [b.done]
  | r + 1, t, L, s, last, A, W, e, ln, lr, b => by
    have tn : t < n := by omega
    have hM : ∀ i j, i < n → j < n → (A i j).natAbs ≤ (nm (tb (n * n) fun k => A (k / n) (k % n))) := fun i j hi hj => by
      refine nm_mem ?_
      have e2 : A i j = co (tb (n * n) fun k => A (k / n) (k % n)) (i * n + j) := by
        have lt : i * n + j < n * n := Nat.lt_of_lt_of_le (show i * n + j < (i + 1) * n by rw [Nat.succ_mul]; omega) (Nat.mul_le_mul_right n hi)
        rw [co_tb, if_pos lt]
        have d1 : (i * n + j) / n = i := by
          rw [Nat.mul_comm, Nat.mul_add_div (by omega), Nat.div_eq_of_lt hj, Nat.add_zero]
        have d2 : (i * n + j) % n = j := by
          rw [Nat.mul_comm, Nat.mul_add_mod, Nat.mod_eq_of_lt hj]
        rw [d1, d2]
      rw [e2]
      exact co_memE (by rw [tb_len]; exact Nat.lt_of_lt_of_le (show i * n + j < (i + 1) * n by rw [Nat.succ_mul]; omega) (Nat.mul_le_mul_right n hi))
    have B : BS n t _ L last := ⟨ln, lr, A, W, b, hM⟩
    show (match hdt L t with | [] => 0 | h :: _ => bgo r (t + 1) (bst (lsw L t h) t last L.length) (if h = t then s else -s) (co ((lsw L t h).getD t []) t)) = _
    cases hh : hdt L t with
    | nil =>
      have z := b.none tn fun i h1 h2 => Classical.byContradiction fun ne => by
        have : i ∈ hdt L t := mem_hdt.mpr ⟨⟨h1, by omega⟩, ne⟩
        rw [hh] at this
        cases this
      rw [z, Int.mul_zero]
    | cons h tl =>
      obtain ⟨⟨h1, h2⟩, h3⟩ := mem_hdt.mp (show h ∈ hdt L t by rw [hh]; exact .head _)
      rw [ln] at h2
      show bgo r (t + 1) (bst (lsw L t h) t last L.length) _ _ = _
      rw [ln]
      have lt : t < L.length := by omega
      have lh : h < L.length := by omega
      have pv : co ((lsw L t h).getD t []) t = co (L.getD h []) t := by
        rw [lsw_get lt lh]
        by_cases c : t = h
        · rw [if_pos c, c]
        · rw [if_neg c, if_pos rfl]
      have B1 := B.swap h1 h2
      have B2 := B1.step tn (by rw [pv]; exact h3)
      have go : ∀ (A' : Tab) (W' : Int), BInv n t A' (row (lsw L t h)) last W' → bgo r (t + 1) (bst (lsw L t h) t last n) (if h = t then s else -s) (co ((lsw L t h).getD t []) t) = (if h = t then s else -s) * det n A' := fun A' W' b' =>
        bgo_det r (t + 1) _ _ _ A' _ (by omega) B2.ln B2.lr (b'.step tn (by show co ((lsw L t h).getD t []) t ≠ 0; rw [pv]; exact h3) (L' := row (bst (lsw L t h) t last n)) (fun i hi => by
          show co ((bst (lsw L t h) t last n).getD i []) = co ((lsw L t h).getD i [])
          rw [bst_get (by rw [B1.ln]; omega), if_neg (by omega)]) fun i j hi hn hj => by
          show last * co ((bst (lsw L t h) t last n).getD i []) j = _
          rw [bst_get (by rw [B1.ln]; exact hn), if_pos ⟨hi, by omega⟩]
          exact bnew_ex B1 tn hi hn j)
      by_cases c : h = t
      · subst c
        have e3 : row (lsw L h h) = row L := by
          funext i
          unfold row
          rw [lsw_get lh lh]
          by_cases d : i = h
          · rw [if_pos d, d]
          · rw [if_neg d, if_neg d]
        rw [go A W (by rw [e3]; exact b), if_pos rfl]
      · have e3 : row (lsw L t h) = swp (row L) t h := by
          funext i
          unfold row swp setR
          rw [lsw_get lt lh]
          by_cases d : i = h
          · rw [if_pos d, if_pos d]
          · rw [if_neg d, if_neg d]
            by_cases f : i = t
            · rw [if_pos f, if_pos f]
            · rw [if_neg f, if_neg f]
        rw [go (swp A t h) W (by rw [e3]; exact b.swap (by omega) h2), if_neg c, (det_alt n).swap tn h2 (by omega), Int.neg_mul_neg]
theorem bdet_det {n : Nat} {L : List (List Int)} (ln : L.length = n) (lr : ∀ r ∈ L, r.length = n) : bdet L = det n (row L) := by
  unfold bdet
  rw [ln, bgo_det n 0 L 1 1 (row L) 1 (by omega) ln (fun i hi => lr _ (mem_row (by omega))) (BInv.init n (row L)), Int.one_mul]
theorem BS.init {n M : Nat} {L : List (List Int)} (ln : L.length = n) (lr : ∀ r ∈ L, r.length = n) (hM : ∀ r ∈ L, ∀ x ∈ r, x.natAbs ≤ M) : BS n 0 M L 1 :=
  ⟨ln, fun i hi => lr _ (mem_row (by omega)), row L, 1, BInv.init n (row L), fun i j hi hj => hM _ (mem_row (by omega)) _ (co_memE (by rw [lr _ (mem_row (by omega))]; exact hj))⟩
/-- a determinant is 0 exactly if the rows hang on one another -/
theorem det_ind {n : Nat} {A : Tab} : det n A ≠ 0 ↔ Ind n n A := by
  constructor
  · intro h a ha i hi
    refine Classical.byContradiction fun ne => h ?_
    have al := det_alt n
    have e := al.sum (A := A) hi a A n
    rw [S_one hi fun k hk c => by rw [al.same hi hk (Ne.symm c) (A := setR A i (A k)) fun j _ => by rw [setR_s, setR_n c], Int.mul_zero], setR_own] at e
    have z := al.zero hi (A := setR A i fun j => S n fun k => a k * A k j) fun j hj => by rw [setR_s]; exact ha j hj
    rw [z] at e
    exact (Int.mul_eq_zero.mp e.symm).resolve_left ne
  · intro hI z
    have sp : ∀ i, i < n → Sp n n A (idT i) := fun i hi => Classical.byContradiction fun ns => by
      have hs : Ind n (n + 1) (fun k => if k < n then A k else idT i) := fun a ha => by
        have e : ∀ j, j < n → S n (fun k => a k * A k j) + a n * idT i j = 0 := fun j hj => by
          have := ha j hj
          have e2 : S n (fun k => a k * (if k < n then A k else idT i) j) + a n * (if n < n then A n else idT i) j = 0 := this
          rw [if_neg (Nat.lt_irrefl _), S_congr (g := fun k => a k * A k j) fun k hk => by rw [if_pos hk]] at e2
          exact e2
        have an : a n = 0 := Classical.byContradiction fun ne => ns ⟨- a n, by omega, a, fun j hj => by have := e j hj; rw [Int.neg_mul]; omega⟩
        intro k hk
        by_cases c : k = n
        · rw [c]; exact an
        · exact hI a (fun j hj => by have := e j hj; rw [an, Int.zero_mul] at this; omega) k (by omega)
      have := steinitz hs (m := n) (B := idT) fun k _ => ⟨1, by decide, fun l => (if k < n then A k else idT i) l, fun j hj => by
        rw [Int.one_mul, S_id _ hj]⟩
      omega
    have ex : ∃ (c : Nat → Int) (B : Tab), (∀ i, i < n → c i ≠ 0) ∧ ∀ i, i < n → ∀ j, j < n → c i * idT i j = S n fun k => B i k * A k j := by
      refine ⟨fun i => if h : i < n then (sp i h).choose else 1, fun i => if h : i < n then (sp i h).choose_spec.2.choose else fun _ => 0, fun i hi => ?_, fun i hi j hj => ?_⟩
      · simp only [dif_pos hi]
        exact (sp i hi).choose_spec.1
      · simp only [dif_pos hi]
        exact (sp i hi).choose_spec.2.choose_spec j hj
    obtain ⟨c, B, hc, hB⟩ := ex
    have d := det_mul n B A
    rw [z, Int.mul_zero, det_congr (A := mulT n B A) (B := fun i j => c i * idT i j) fun i j hi hj => (hB i hi j hj).symm, det_diagU fun i u h1 _ => by unfold idT; rw [if_neg (by omega), Int.mul_zero]] at d
    have pz : ∀ m, m ≤ n → prd m (fun u => c u * idT u u) ≠ 0 := fun m => by
      induction m with
      | zero => intro _; show (1 : Int) ≠ 0; decide
      | succ m ih =>
        intro hm
        show prd m _ * (c m * idT m m) ≠ 0
        refine Int.mul_ne_zero (ih (by omega)) ?_
        unfold idT
        rw [if_pos rfl, Int.mul_one]
        exact hc m (by omega)
    exact pz n (Nat.le_refl n) d
end K77

set_option Elab.async false
set_option linter.all false
set_option maxRecDepth 100000
set_option maxHeartbeats 2000000
set_option exponentiation.threshold 10000
/-! plain: resultants: exchanged and changed forms, lines, and when they are 0 -/
namespace K77
open PySem PySem.Spec PyProof.Rows L2 FDivQ LA
/-- the resultant of two forms -/
def Res (F G : List Int) : Int := det (F.length + G.length - 2) (row (urows F G (F.length + G.length - 3)))
theorem evF_S (g : Nat → Int) (x y : Int) : ∀ n, evF n g x y = S n fun k => g k * (x ^ (n - 1 - k) * y ^ k)
  | 0 => rfl
  | n + 1 => by
    show x * evF n g x y + g n * y ^ n = S n (fun k => g k * (x ^ (n - k) * y ^ k)) + g n * (x ^ (n - n) * y ^ n)
    rw [evF_S g x y n, ← S_mul, Nat.sub_self, Int.pow_zero, Int.one_mul]
    congr 1
    refine S_congr fun k hk => ?_
    rw [show n - k = n - 1 - k + 1 by omega, Int.pow_succ]
    grind
theorem ev_S (l : List Int) (x y : Int) : ev l x y = S l.length fun k => co l k * (x ^ (l.length - 1 - k) * y ^ k) := evF_S _ x y _
/-- the value of a row that is a sum of rows -/
theorem ev_comb {w m : Nat} {c : Nat → Int} {R : Nat → List Int} (hR : ∀ k, k < m → (R k).length = w) (x y : Int) : ev (tb w fun j => S m fun k => c k * co (R k) j) x y = S m fun k => c k * ev (R k) x y := by
  rw [ev_S, tb_len, S_congr (g := fun j => S m fun k => c k * (co (R k) j * (x ^ (w - 1 - j) * y ^ j))) fun j hj => by
    rw [co_tb, if_pos hj, ← S_mulr]
    exact S_congr fun k _ => by rw [Int.mul_assoc], S_swap]
  refine S_congr fun k hk => ?_
  rw [S_mul, ev_S, hR k hk]
/-- the monomials of a degree, changed -/
def Cm (X Y : List Int) (d : Nat) (i : Nat) : List Int := ml (pow X (d - i)) (pow Y i)
def Ct (X Y : List Int) (d : Nat) : Tab := fun i => co (Cm X Y d i)
theorem two_ne {X : List Int} (h : X.length = 2) : X ≠ [] := fun e => by rw [e] at h; cases h
theorem Cm_len {X Y : List Int} (hX : X.length = 2) (hY : Y.length = 2) {d i : Nat} (h : i ≤ d) : (Cm X Y d i).length = d + 1 := by
  unfold Cm
  rw [ml_len, pow_len hX, pow_len hY]
  omega
theorem ev_Cm {X Y : List Int} (hX : X.length = 2) (hY : Y.length = 2) (d i : Nat) (x y : Int) : ev (Cm X Y d i) x y = ev X x y ^ (d - i) * ev Y x y ^ i := by
  unfold Cm
  rw [ev_ml (pow_ne (two_ne hX) _) (pow_ne (two_ne hY) _), ev_pow (two_ne hX), ev_pow (two_ne hY)]
/-- a changed row -/
theorem ev_chd {X Y : List Int} (hX : X.length = 2) (hY : Y.length = 2) {r : List Int} {d : Nat} (hr : r.length = d + 1) (x y : Int) : ev (tb (d + 1) fun j => S (d + 1) fun k => co r k * Ct X Y d k j) x y = ev r (ev X x y) (ev Y x y) := by
  rw [show (fun j => S (d + 1) fun k => co r k * Ct X Y d k j) = fun j => S (d + 1) fun k => co r k * co (Cm X Y d k) j from rfl, ev_comb (fun k hk => Cm_len hX hY (by omega)), ev_S, hr]
  exact S_congr fun k hk => by rw [ev_Cm hX hY, Nat.add_sub_cancel]
theorem tb_eq {w : Nat} {f g : Nat → Int} (h : ∀ x y, ev (tb w f) x y = ev (tb w g) x y) {j : Nat} (hj : j < w) : f j = g j := by
  have e := ev_inj (by rw [tb_len, tb_len]) h
  have := congrArg (fun l => co l j) e
  rw [co_tb, co_tb, if_pos hj, if_pos hj] at this
  exact this
/-- the rows of two forms, changed -/
theorem res_chg {X Y F G : List Int} (hX : X.length = 2) (hY : Y.length = 2) (f1 : 2 ≤ F.length) (g1 : 2 ≤ G.length) : Res F G * det (F.length + G.length - 2) (Ct X Y (F.length + G.length - 3)) = det (G.length - 1) (Ct X Y (G.length - 2)) * det (F.length - 1) (Ct X Y (F.length - 2)) * Res (changed X Y F) (changed X Y G) := by
  have lF := changed_len hX hY (l := F) (by intro e; rw [e] at f1; cases f1)
  have lG := changed_len hX hY (l := G) (by intro e; rw [e] at g1; cases g1)
  have nF : F ≠ [] := by intro e; rw [e] at f1; cases f1
  have nG : G ≠ [] := by intro e; rw [e] at g1; cases g1
  obtain ⟨d, hd⟩ : ∃ d, F.length + G.length = d + 3 := ⟨F.length + G.length - 3, by omega⟩
  unfold Res
  rw [lF, lG, show F.length + G.length - 2 = d + 1 by omega, show F.length + G.length - 3 = d by omega, ← det_mul, ← det_blk, show G.length - 1 + (F.length - 1) = d + 1 by omega, ← det_mul]
  refine det_congr fun i j hi hj => ?_
  have lr : ∀ (f g : List Int) (k : Nat), k < d + 1 → f.length = F.length → g.length = G.length → ((urows f g d).getD k []).length = d + 1 := fun f g k hk h1 h2 => urows_w _ (mem_row (by rw [urows_len]; omega))
  -- both are rows of one form
  refine tb_eq (w := d + 1) (f := fun j => mulT (d + 1) (row (urows F G d)) (Ct X Y d) i j) (g := fun j => mulT (d + 1) (blk (G.length - 1) (Ct X Y (G.length - 2)) (Ct X Y (F.length - 2))) (row (urows (changed X Y F) (changed X Y G) d)) i j) (fun x y => ?_) hj
  have e1 := ev_chd hX hY (r := (urows F G d).getD i []) (lr F G i hi rfl rfl) x y
  refine Eq.trans e1 ?_
  have e2 := ev_comb (w := d + 1) (m := d + 1) (c := fun k => blk (G.length - 1) (Ct X Y (G.length - 2)) (Ct X Y (F.length - 2)) i k) (R := fun k => (urows (changed X Y F) (changed X Y G) d).getD k []) (fun k hk => lr _ _ k hk lF lG) x y
  refine Eq.trans ?_ e2.symm
  have sh : ∀ (f g : List Int), f.length = F.length → g.length = G.length → ∀ k, k < d + 1 → ∀ x y, ev ((urows f g d).getD k []) x y = if k < G.length - 1 then y ^ k * (x ^ (G.length - 2 - k) * ev f x y) else y ^ (k - (G.length - 1)) * (x ^ (F.length - 2 - (k - (G.length - 1))) * ev g x y) := fun f g h1 h2 k hk x y => by
    unfold urows
    rw [List.getD_eq_getElem?_getD]
    by_cases c : k < G.length - 1
    · rw [if_pos c, List.getElem?_append_left (by rw [shf_len]; omega)]
      unfold shf
      rw [List.getElem?_map, List.getElem?_range (by omega)]
      show ev (List.replicate k 0 ++ f ++ List.replicate _ 0) x y = _
      rw [ev_shrow, show d + 1 - f.length - k = G.length - 2 - k by omega]
    · rw [if_neg c, List.getElem?_append_right (by rw [shf_len]; omega), shf_len]
      unfold shf
      rw [show k - (d + 2 - f.length) = k - (G.length - 1) by omega, List.getElem?_map, List.getElem?_range (by omega)]
      show ev (List.replicate (k - (G.length - 1)) 0 ++ g ++ List.replicate _ 0) x y = _
      rw [ev_shrow, show d + 1 - g.length - (k - (G.length - 1)) = F.length - 2 - (k - (G.length - 1)) by omega]
  rw [sh F G rfl rfl i hi]
  by_cases c : i < G.length - 1
  · rw [if_pos c, S_ext (n := G.length - 1) (by omega) fun k h1 => by
      show blk _ _ _ i k * _ = 0
      unfold blk
      rw [if_pos c, if_neg (by omega), Int.zero_mul]]
    rw [S_congr (g := fun k => co (Cm X Y (G.length - 2) i) k * (x ^ (G.length - 2 - k) * y ^ k) * ev (changed X Y F) x y) fun k hk => by
      show blk _ _ _ i k * _ = _
      rw [sh _ _ lF lG k (by omega), if_pos hk]
      unfold blk
      rw [if_pos c, if_pos hk]
      show Ct X Y (G.length - 2) i k * _ = _
      unfold Ct
      grind]
    rw [S_mulr]
    have e3 := ev_S (Cm X Y (G.length - 2) i) x y
    rw [Cm_len hX hY (by omega), show G.length - 2 + 1 - 1 = G.length - 2 by omega, ev_Cm hX hY] at e3
    rw [show G.length - 1 = G.length - 2 + 1 by omega, ← e3, ev_changed hX hY nF]
    grind
  · rw [if_neg c]
    have spl : ∀ (f : Nat → Int), S (d + 1) f = S (G.length - 1) f + S (F.length - 1) fun k => f (G.length - 1 + k) := fun f => by
      have go : ∀ m, S (G.length - 1 + m) f = S (G.length - 1) f + S m fun k => f (G.length - 1 + k) := fun m => by
        induction m with
        | zero => exact (Int.add_zero _).symm
        | succ m ih =>
          show S (G.length - 1 + m) f + f (G.length - 1 + m) = S (G.length - 1) f + (S m _ + f (G.length - 1 + m))
          rw [ih]
          omega
      have := go (F.length - 1)
      rw [show G.length - 1 + (F.length - 1) = d + 1 by omega] at this
      exact this
    rw [spl, S_zero fun k hk => by
      show blk _ _ _ i k * _ = 0
      unfold blk
      rw [if_neg c, if_pos hk, Int.zero_mul], Int.zero_add]
    rw [S_congr (g := fun k => co (Cm X Y (F.length - 2) (i - (G.length - 1))) k * (x ^ (F.length - 2 - k) * y ^ k) * ev (changed X Y G) x y) fun k hk => by
      show blk _ _ _ i (G.length - 1 + k) * _ = _
      rw [sh _ _ lF lG _ (by omega), if_neg (by omega), Nat.add_sub_cancel_left]
      unfold blk
      rw [if_neg c, if_neg (by omega), Nat.add_sub_cancel_left]
      unfold Ct
      grind]
    rw [S_mulr]
    have e3 := ev_S (Cm X Y (F.length - 2) (i - (G.length - 1))) x y
    rw [Cm_len hX hY (by omega), show F.length - 2 + 1 - 1 = F.length - 2 by omega, ev_Cm hX hY] at e3
    rw [show F.length - 1 = F.length - 2 + 1 by omega, ← e3, ev_changed hX hY nG]
    grind
/-- 1 + 2 + .. + d -/
def tri : Nat → Nat
  | 0 => 0
  | d + 1 => tri d + (d + 1)
theorem prd_mulc (c : Int) (f : Nat → Int) : ∀ n, prd n (fun i => c * f i) = c ^ n * prd n f
  | 0 => by rw [Int.pow_zero]; rfl
  | n + 1 => by
    show prd n (fun i => c * f i) * (c * f n) = c ^ (n + 1) * (prd n f * f n)
    rw [prd_mulc c f n, Int.pow_succ]
    grind
theorem prd_tri (a e : Int) : ∀ d, prd (d + 1) (fun i => a ^ (d - i) * e ^ i) = a ^ tri d * e ^ tri d
  | 0 => by
    show 1 * (a ^ 0 * e ^ 0) = a ^ 0 * e ^ 0
    omega
  | d + 1 => by
    show prd (d + 1) (fun i => a ^ (d + 1 - i) * e ^ i) * (a ^ (d + 1 - (d + 1)) * e ^ (d + 1)) = a ^ (tri d + (d + 1)) * e ^ (tri d + (d + 1))
    rw [prd_congr (g := fun i => a * (a ^ (d - i) * e ^ i)) fun i hi => by
      rw [show d + 1 - i = d - i + 1 by omega, Int.pow_succ]
      grind, prd_mulc, prd_tri a e d, Nat.sub_self, Int.pow_zero, Int.pow_add, Int.pow_add]
    grind
theorem ev_last {l : List Int} (h : 1 ≤ l.length) : ev l 0 1 = co l (l.length - 1) := by
  rw [ev_S, S_one (p := l.length - 1) (by omega) fun k hk c => by
    rw [show l.length - 1 - k = (l.length - 1 - k - 1) + 1 by omega, Int.pow_succ, Int.mul_zero, Int.zero_mul, Int.mul_zero], Nat.sub_self, Int.pow_zero, Int.one_pow, Int.one_mul, Int.mul_one]
theorem ev_two (a b x y : Int) : ev [a, b] x y = a * x + b * y := by
  rw [ev_cons, ev_cons, ev_nil]
  show a * x ^ 1 + y * (b * x ^ 0 + y * 0) = _
  rw [Int.pow_succ, Int.pow_zero]
  grind
theorem det_lower (a c e : Int) (d : Nat) : det (d + 1) (Ct [a, 0] [c, e] d) = a ^ tri d * e ^ tri d := by
  have el : ∀ i, i ≤ d → Cm [a, 0] [c, e] d i = (pow [c, e] i).map (a ^ (d - i) * ·) ++ List.replicate (d - i) 0 := fun i hi => by
    refine ev_inj ?_ fun x y => ?_
    · rw [Cm_len rfl rfl hi, List.length_append, List.length_map, List.length_replicate, pow_len rfl]
      omega
    · rw [ev_Cm rfl rfl, ev_sx, ev_map, ev_pow (by simp), ev_two a 0, Int.zero_mul, Int.add_zero, Int.mul_pow]
      grind
  rw [det_diagL fun i u h1 h2 => ?_, prd_congr (g := fun i => a ^ (d - i) * e ^ i) fun i hi => ?_, prd_tri]
  · show co (Cm [a, 0] [c, e] d i) i = _
    rw [el i (by omega), co_appz, co_scale]
    congr 1
    have e1 := ev_last (l := pow [c, e] i) (by rw [pow_len rfl]; omega)
    rw [pow_len rfl, Nat.add_sub_cancel, ev_pow (by simp), ev_two, Int.mul_zero, Int.zero_add, Int.mul_one] at e1
    exact e1.symm
  · show co (Cm [a, 0] [c, e] d i) u = 0
    rw [el i (by omega), co_appz, co_far (by rw [List.length_map, pow_len rfl]; omega)]
theorem det_upper (a b e : Int) (d : Nat) : det (d + 1) (Ct [a, b] [0, e] d) = a ^ tri d * e ^ tri d := by
  have el : ∀ i, i ≤ d → Cm [a, b] [0, e] d i = List.replicate i 0 ++ (pow [a, b] (d - i)).map (e ^ i * ·) := fun i hi => by
    refine ev_inj ?_ fun x y => ?_
    · rw [Cm_len rfl rfl hi, List.length_append, List.length_map, List.length_replicate, pow_len rfl]
      omega
    · rw [ev_Cm rfl rfl, ev_ry, ev_map, ev_pow (by simp), ev_two 0 e, Int.zero_mul, Int.zero_add, Int.mul_pow]
      grind
  rw [det_diagU fun i u h1 h2 => ?_, prd_congr (g := fun i => a ^ (d - i) * e ^ i) fun i hi => ?_, prd_tri]
  · show co (Cm [a, b] [0, e] d i) i = _
    rw [el i (by omega), co_app, if_neg (by rw [List.length_replicate]; omega), List.length_replicate, Nat.sub_self, co_scale, ← ev_lead, ev_pow (by simp), ev_two, Int.mul_zero, Int.add_zero, Int.mul_one]
    grind
  · show co (Cm [a, b] [0, e] d i) u = 0
    rw [el i (by omega), co_app, if_pos (by rw [List.length_replicate]; omega), co_z]
/-- one change after the other -/
theorem Ct_mul (a b c e a' b' c' e' : Int) (d : Nat) : det (d + 1) (Ct [a, b] [c, e] d) * det (d + 1) (Ct [a', b'] [c', e'] d) = det (d + 1) (Ct [a * a' + b * c', a * b' + b * e'] [c * a' + e * c', c * b' + e * e'] d) := by
  rw [← det_mul]
  refine det_congr fun i j hi hj => ?_
  refine tb_eq (w := d + 1) (f := fun j => mulT (d + 1) (Ct [a, b] [c, e] d) (Ct [a', b'] [c', e'] d) i j) (g := fun j => Ct [a * a' + b * c', a * b' + b * e'] [c * a' + e * c', c * b' + e * e'] d i j) (fun x y => ?_) hj
  have e1 := ev_chd (X := [a', b']) (Y := [c', e']) rfl rfl (r := Cm [a, b] [c, e] d i) (Cm_len rfl rfl (by omega)) x y
  refine Eq.trans e1 ?_
  have e2 : tb (d + 1) (fun j => Ct [a * a' + b * c', a * b' + b * e'] [c * a' + e * c', c * b' + e * e'] d i j) = Cm [a * a' + b * c', a * b' + b * e'] [c * a' + e * c', c * b' + e * e'] d i := by
    refine co_inj (by rw [tb_len, Cm_len rfl rfl (by omega)]) fun k => ?_
    rw [co_tb]
    split
    · rfl
    · rw [co_far (by rw [Cm_len rfl rfl (by omega)]; omega)]
  rw [e2, ev_Cm rfl rfl, ev_Cm rfl rfl, ev_two, ev_two, ev_two, ev_two, ev_two, ev_two]
  congr 1
  · congr 1
    grind
  · congr 1
    grind
theorem pow_nz {a : Int} (h : a ≠ 0) : ∀ k : Nat, a ^ k ≠ 0
  | 0 => by rw [Int.pow_zero]; decide
  | k + 1 => by rw [Int.pow_succ]; exact Int.mul_ne_zero (pow_nz h k) h
theorem det_Ct_a {a : Int} (ha : a ≠ 0) (b c e : Int) (d : Nat) : det (d + 1) (Ct [a, b] [c, e] d) = (a * e - b * c) ^ tri d := by
  have e1 := Ct_mul 1 0 0 a a b c e d
  have e2 := Ct_mul 1 0 c 1 a b 0 (a * e - b * c) d
  rw [det_lower, Int.one_pow, Int.one_mul] at e1
  rw [det_lower, det_upper, Int.one_pow, Int.one_mul, Int.one_mul] at e2
  have e3 : a ^ tri d * det (d + 1) (Ct [a, b] [c, e] d) = a ^ tri d * (a * e - b * c) ^ tri d := by
    rw [e1, e2]
    congr 2
    · grind
    · grind
  exact Int.eq_of_mul_eq_mul_left (pow_nz ha _) e3
theorem det_Ct {a b c e : Int} (hd : a * e - b * c ≠ 0) (d : Nat) : det (d + 1) (Ct [a, b] [c, e] d) = (a * e - b * c) ^ tri d := by
  by_cases ha : a = 0
  · have hc : c ≠ 0 := fun z => hd (by rw [ha, z]; omega)
    have e1 := Ct_mul 1 1 0 1 a b c e d
    rw [det_upper, Int.one_pow, Int.one_mul, Int.one_mul] at e1
    rw [e1, show (1 * a + 1 * c) = c by omega, det_Ct_a hc]
    congr 1
    rw [ha]
    grind
  · exact det_Ct_a ha b c e d
theorem tri_add (m n : Nat) : tri (m + n + 1) = tri m + tri n + (m + 1) * (n + 1) := by
  induction m with
  | zero => show tri (0 + n) + (0 + n + 1) = 0 + tri n + (0 + 1) * (n + 1); rw [Nat.zero_add]; omega
  | succ m ih =>
    rw [show m + 1 + n + 1 = (m + n + 1) + 1 by omega]
    show tri (m + n + 1) + (m + n + 1 + 1) = tri m + (m + 1) + tri n + (m + 1 + 1) * (n + 1)
    rw [ih, Nat.succ_mul (m + 1)]
    omega
/-- changed forms: a power of the determinant -/
theorem res_changed {a b c e : Int} (hd : a * e - b * c ≠ 0) {F G : List Int} (f1 : 2 ≤ F.length) (g1 : 2 ≤ G.length) : Res (changed [a, b] [c, e] F) (changed [a, b] [c, e] G) = Res F G * (a * e - b * c) ^ ((F.length - 1) * (G.length - 1)) := by
  have h := res_chg (X := [a, b]) (Y := [c, e]) rfl rfl f1 g1
  obtain ⟨m, hm⟩ : ∃ m, F.length = m + 2 := ⟨F.length - 2, by omega⟩
  obtain ⟨n, hn⟩ : ∃ n, G.length = n + 2 := ⟨G.length - 2, by omega⟩
  rw [hm, hn] at h ⊢
  rw [show m + 2 + (n + 2) - 2 = m + n + 1 + 1 by omega, show m + 2 + (n + 2) - 3 = m + n + 1 by omega, show n + 2 - 1 = n + 1 by omega, show m + 2 - 1 = m + 1 by omega, Nat.add_sub_cancel, Nat.add_sub_cancel, det_Ct hd, det_Ct hd, det_Ct hd, tri_add] at h
  refine Int.eq_of_mul_eq_mul_left (pow_nz hd (tri m + tri n)) ?_
  rw [Int.pow_add] at h ⊢
  rw [Int.pow_add] at h
  rw [show m + 2 - 1 = m + 1 by omega, show n + 2 - 1 = n + 1 by omega]
  grind
/-- when it is 0 -/
theorem res_zero {F G : List Int} (f1 : 2 ≤ F.length) (g1 : 2 ≤ G.length) : Res F G = 0 ↔ (ech lless (urows F G (F.length + G.length - 3)) (F.length + G.length - 2)).length < F.length + G.length - 2 := by
  obtain ⟨d, hd⟩ : ∃ d, F.length + G.length = d + 3 := ⟨F.length + G.length - 3, by omega⟩
  have hu := urows_w (f := F) (g := G) (d := d)
  have hl : (urows F G d).length = d + 1 := by rw [urows_len]; omega
  unfold Res
  rw [show F.length + G.length - 2 = d + 1 by omega, show F.length + G.length - 3 = d by omega]
  have hT := told lePL (M := nm (urows F G d).flatten) hu fun r hr x hx => nm_mem (List.mem_flatten.mpr ⟨r, hr, hx⟩)
  have le : (ech lless (urows F G d) (d + 1)).length ≤ d + 1 := by
    have := steinitz hT.base.ind (m := (urows F G d).length) (B := row (urows F G d)) hT.base.of
    omega
  constructor
  · intro z
    refine Nat.lt_of_le_of_ne le fun e => ?_
    refine det_ind.mpr ?_ z
    have b := hT.base
    rw [e, hl] at b
    exact ind_of b.ind b.of
  · intro lt
    refine Classical.byContradiction fun ne => ?_
    have hI := det_ind.mp ne
    have := full_ind lePL hu (by rw [hl]; exact hI)
    omega
end K77

set_option Elab.async false
set_option linter.all false
set_option maxRecDepth 100000
set_option maxHeartbeats 2000000
set_option exponentiation.threshold 10000
/-! plain: resultants of exchanged forms, and of products with lines -/
namespace K77
open PySem PySem.Spec PyProof.Rows L2 FDivQ LA
/-- the first row, put behind k others -/
def bub (A : Tab) (k : Nat) : Tab := fun i => if i < k then A (i + 1) else if i = k then A 0 else A i
theorem det_bub {N : Nat} (A : Tab) : ∀ k, k < N → det N (bub A k) = LA.sg k * det N A
  | 0, h => by
    show _ = 1 * _
    rw [Int.one_mul]
    congr 1
    funext i
    unfold bub
    rw [if_neg (Nat.not_lt_zero i)]
    split
    · next e => rw [e]
    · rfl
  | k + 1, h => by
    rw [sg_succ, Int.neg_mul, ← det_bub A k (by omega), ← (det_alt N).swap (A := bub A k) (p := k) (q := k + 1) (by omega) h (by omega)]
    congr 1
    funext i
    unfold swp setR bub
    by_cases c : i = k + 1
    · rw [if_neg (by omega), if_pos c, if_pos c, if_neg (by omega), if_pos rfl]
    · rw [if_neg c, if_neg c]
      by_cases d : i = k
      · rw [if_pos (by omega), if_pos d, if_neg (by omega), if_neg (by omega), d]
      · rw [if_neg d]
        by_cases e : i < k
        · rw [if_pos (by omega), if_pos e]
        · rw [if_neg (by omega), if_neg e, if_neg d]
def rot (N k : Nat) (A : Tab) : Tab := fun i => if i + k < N then A (i + k) else A (i + k - N)
theorem det_rot {N : Nat} (A : Tab) : ∀ k, k ≤ N → det N (rot N k A) = LA.sg ((N - 1) * k) * det N A
  | 0, h => by
    rw [Nat.mul_zero]
    show _ = 1 * _
    rw [Int.one_mul]
    refine det_congr fun i j hi hj => ?_
    unfold rot
    rw [if_pos (by omega), Nat.add_zero]
  | k + 1, h => by
    have e : det N (rot N (k + 1) A) = det N (bub (rot N k A) (N - 1)) := det_congr fun i j hi hj => by
      unfold bub
      by_cases c : i < N - 1
      · rw [if_pos c]
        unfold rot
        rw [show i + (k + 1) = i + 1 + k by omega]
      · rw [if_neg c, if_pos (by omega)]
        unfold rot
        rw [if_neg (by omega), if_pos (by omega), show i + (k + 1) - N = 0 + k by omega]
    rw [e, det_bub _ (N - 1) (by omega), det_rot A k (by omega), Nat.mul_succ, sg_add]
    grind
theorem sg_par {x y : Nat} (h : x % 2 = y % 2) : LA.sg x = LA.sg y := by
  unfold LA.sg
  rw [h]
/-- exchanged forms -/
theorem res_swap {F G : List Int} (f1 : 2 ≤ F.length) (g1 : 2 ≤ G.length) : Res G F = Res F G * LA.sg ((F.length - 1) * (G.length - 1)) := by
  obtain ⟨d, hd⟩ : ∃ d, F.length + G.length = d + 3 := ⟨F.length + G.length - 3, by omega⟩
  unfold Res
  rw [show G.length + F.length - 2 = d + 1 by omega, show G.length + F.length - 3 = d by omega, show F.length + G.length - 2 = d + 1 by omega, show F.length + G.length - 3 = d by omega]
  have e : det (d + 1) (row (urows G F d)) = det (d + 1) (rot (d + 1) (G.length - 1) (row (urows F G d))) := det_congr fun i j hi hj => by
    have g : ∀ {f g : List Int} {k : Nat}, row (urows f g d) k = if k < (shf f d).length then row (shf f d) k else row (shf g d) (k - (shf f d).length) := fun {f g k} => by
      unfold urows row
      rw [List.getD_eq_getElem?_getD]
      by_cases c : k < (shf f d).length
      · rw [if_pos c, List.getElem?_append_left c, ← List.getD_eq_getElem?_getD]
      · rw [if_neg c, List.getElem?_append_right (by omega), ← List.getD_eq_getElem?_getD]
    unfold rot
    rw [g, g, g, shf_len, shf_len]
    by_cases c : i < d + 2 - G.length
    · rw [if_pos c, if_pos (by omega), if_neg (by omega), show i + (G.length - 1) - (d + 2 - F.length) = i by omega]
    · rw [if_neg c, if_neg (by omega), if_pos (by omega), show i - (d + 2 - G.length) = i + (G.length - 1) - (d + 1) by omega]
  rw [e, det_rot _ _ (by omega), Int.mul_comm]
  congr 1
  obtain ⟨a, ha⟩ : ∃ a, G.length = a + 1 := ⟨G.length - 1, by omega⟩
  obtain ⟨b, hb⟩ : ∃ b, F.length = b + 1 := ⟨F.length - 1, by omega⟩
  have dd : d + 1 - 1 = b + a - 1 := by omega
  rw [dd, ha, hb, Nat.add_sub_cancel, Nat.add_sub_cancel]
  refine sg_par ?_
  obtain ⟨a', rfl⟩ : ∃ a', a = a' + 1 := ⟨a - 1, by omega⟩
  rw [show b + (a' + 1) - 1 = b + a' by omega, Nat.add_mul, Nat.add_mod]
  have : (a' * (a' + 1)) % 2 = 0 := by
    rcases Nat.mod_two_eq_zero_or_one a' with h | h
    · rw [Nat.mul_mod, h]
      simp
    · rw [Nat.mul_mod, Nat.add_mod, h]
  rw [this, Nat.add_zero, Nat.mod_mod]
theorem det_neg {N : Nat} (A : Tab) : ∀ n, n ≤ N → det N (fun i j => if i < n then - A i j else A i j) = LA.sg n * det N A
  | 0, _ => by
    show _ = 1 * _
    rw [Int.one_mul]
    exact det_congr fun i j _ _ => if_neg (Nat.not_lt_zero i)
  | n + 1, h => by
    rw [sg_succ, Int.neg_mul, ← det_neg A n (by omega)]
    have e := det_lin (n := N) (A := fun i j => if i < n then - A i j else A i j) (p := n) (-1) 0 (A n) (A n) (by omega)
    rw [Int.zero_mul, Int.add_zero] at e
    have e1 : det N (setR (fun i j => if i < n then - A i j else A i j) n (A n)) = det N fun i j => if i < n then - A i j else A i j := det_congr fun i j _ _ => by
      unfold setR
      by_cases c : i = n
      · rw [if_pos c, c, if_neg (Nat.lt_irrefl n)]
      · rw [if_neg c]
    rw [e1] at e
    rw [show - det N (fun i j => if i < n then - A i j else A i j) = -1 * det N (fun i j => if i < n then - A i j else A i j) by omega, ← e]
    refine det_congr fun i j _ _ => ?_
    unfold setR
    by_cases c : i = n
    · rw [if_pos c, if_pos (by omega), c]
      omega
    · rw [if_neg c]
      show _ = if i < n then - A i j else A i j
      by_cases d : i < n
      · rw [if_pos d, if_pos (by omega)]
      · rw [if_neg d, if_neg (by omega)]
theorem row_shfz {g : List Int} {d i j : Nat} (hi : i < d + 2 - g.length) : row (shf g d) i j = co (List.replicate i 0 ++ g) j := by
  unfold row shf
  rw [List.getD_eq_getElem?_getD, List.getElem?_map, List.getElem?_range hi]
  exact co_appz _ _ _
theorem co_rz (i : Nat) (X : List Int) (k : Nat) : co (List.replicate i 0 ++ 0 :: X) (k + 1) = co (List.replicate i 0 ++ X) k := by
  rw [co_app, co_app, List.length_replicate, co_z, co_z]
  by_cases c : k < i
  · rw [if_pos c]
    by_cases e : k + 1 < i
    · rw [if_pos e]
    · rw [if_neg e, show k + 1 - i = 0 by omega]
      rfl
  · rw [if_neg c, if_neg (by omega), show k + 1 - i = (k - i) + 1 by omega]
    rfl
theorem co_succ (a : Int) (X : List Int) (k : Nat) : co (a :: X) (k + 1) = co X k := rfl
/-- the line y -/
theorem res_y {F G : List Int} (f1 : 1 ≤ F.length) (g1 : 2 ≤ G.length) : Res (0 :: F.map ((-1) * ·)) G = co G 0 * Res F G := by
  obtain ⟨n, hn⟩ : ∃ n, G.length = n + 1 := ⟨G.length - 1, by omega⟩
  obtain ⟨p, hp⟩ : ∃ p, F.length = p + 1 := ⟨F.length - 1, by omega⟩
  obtain ⟨n', hn'⟩ : ∃ n', n = n' + 1 := ⟨n - 1, by omega⟩
  unfold Res
  rw [List.length_cons, List.length_map, hp, hn, show p + 1 + 1 + (n + 1) - 2 = p + n + 1 by omega, show p + 1 + 1 + (n + 1) - 3 = p + n by omega, show p + 1 + (n + 1) - 2 = p + n by omega, show p + 1 + (n + 1) - 3 = p + n' by omega]
  have g : ∀ {f : List Int} {d k j : Nat}, d + 2 - f.length = n → k < n + (d + 2 - G.length) → row (urows f G d) k j = if k < n then co (List.replicate k 0 ++ f) j else co (List.replicate (k - n) 0 ++ G) j := fun {f d k j} hs hk => by
    unfold urows
    show co ((shf f d ++ shf G d).getD k []) j = _
    rw [List.getD_eq_getElem?_getD]
    by_cases c : k < n
    · rw [if_pos c, List.getElem?_append_left (by rw [shf_len]; omega), ← List.getD_eq_getElem?_getD]
      exact row_shfz (by omega)
    · rw [if_neg c, List.getElem?_append_right (by rw [shf_len]; omega), ← List.getD_eq_getElem?_getD, shf_len, hs]
      exact row_shfz (by omega)
  obtain ⟨A, hA⟩ : ∃ A, A = row (urows (0 :: F.map ((-1) * ·)) G (p + n)) := ⟨_, rfl⟩
  have gA : ∀ {k j : Nat}, k < p + n + 1 → A k j = if k < n then co (List.replicate k 0 ++ 0 :: F.map ((-1) * ·)) j else co (List.replicate (k - n) 0 ++ G) j := fun {k j} hk => by
    rw [hA]
    exact g (by rw [List.length_cons, List.length_map]; omega) (by omega)
  rw [← hA]
  obtain ⟨M, hM⟩ : ∃ M : Tab, M = fun i => if i = 0 then A n else if i ≤ n then A (i - 1) else A i := ⟨_, rfl⟩
  have M0 : M 0 = A n := by rw [hM]; rfl
  have Ms : ∀ i, M (i + 1) = if i < n then A i else A (i + 1) := fun i => by
    rw [hM]
    show (if i + 1 = 0 then A n else if i + 1 ≤ n then A (i + 1 - 1) else A (i + 1)) = _
    rw [if_neg (by omega), Nat.add_sub_cancel]
    by_cases c : i < n
    · rw [if_pos c, if_pos (by omega)]
    · rw [if_neg c, if_neg (by omega)]
  have eb : det (p + n + 1) A = det (p + n + 1) (bub M n) := det_congr fun i j hi hj => by
    unfold bub
    by_cases c : i < n
    · rw [if_pos c, Ms, if_pos c]
    · rw [if_neg c]
      by_cases d : i = n
      · rw [if_pos d, M0, d]
      · rw [if_neg d, show i = i - 1 + 1 by omega, Ms, if_neg (by omega)]
  rw [eb, det_bub _ n (by omega), det_first fun i hi => ?_]
  · rw [M0, gA (by omega), if_neg (Nat.lt_irrefl n), Nat.sub_self]
    have e2 : det (p + n) (fun i k => M (i + 1) (k + 1)) = det (p + n) (fun i j => if i < n then - row (urows F G (p + n')) i j else row (urows F G (p + n')) i j) := det_congr fun i k hi hk => by
      rw [g (by omega) (by omega), Ms]
      by_cases c : i < n
      · rw [if_pos c, if_pos c, if_pos c, gA (by omega), if_pos c, co_rz, co_app, co_app]
        split
        · rw [co_z]; rfl
        · rw [co_scale]; omega
      · rw [if_neg c, if_neg c, if_neg c, gA (by omega), if_neg (by omega), show i + 1 - n = (i - n) + 1 by omega, List.replicate_succ, List.cons_append, co_succ]
    rw [e2, det_neg _ n (by omega)]
    have := sg_sq n
    show LA.sg n * (co G 0 * (LA.sg n * _)) = _
    grind
  · rw [Ms]
    by_cases c : i < n
    · rw [if_pos c, gA (by omega), if_pos c]
      cases i with
      | zero => rfl
      | succ i => rfl
    · rw [if_neg c, gA (by omega), if_neg (by omega), show i + 1 - n = (i - n) + 1 by omega]
      rfl
theorem bezN : ∀ a b : Nat, ∃ r s : Int, (a : Int) * r + (b : Int) * s = (Nat.gcd a b : Nat) := by
  intro a
  induction a using Nat.strongRecOn with
  | ind a ih =>
    intro b
    by_cases h : a = 0
    · exact ⟨0, 1, by rw [h, Nat.gcd_zero_left]; omega⟩
    · obtain ⟨r, s, e⟩ := ih (b % a) (Nat.mod_lt b (by omega)) a
      refine ⟨s - (b / a : Nat) * r, r, ?_⟩
      rw [Nat.gcd_rec a b, ← e]
      have : (b : Int) = (a : Int) * ((b / a : Nat) : Int) + ((b % a : Nat) : Int) := by
        have := Nat.div_add_mod b a
        exact_mod_cast this.symm
      generalize ((b / a : Nat) : Int) = q at *
      generalize ((b % a : Nat) : Int) = m at *
      rw [this]
      grind
theorem bezI {u v : Int} (h : Nat.gcd u.natAbs v.natAbs = 1) : ∃ r s : Int, u * r - s * v = 1 := by
  obtain ⟨r, s, e⟩ := bezN u.natAbs v.natAbs
  rw [h] at e
  have hu : ∃ a : Int, u * a = (u.natAbs : Int) := by
    by_cases c : 0 ≤ u
    · exact ⟨1, by omega⟩
    · exact ⟨-1, by omega⟩
  have hv : ∃ a : Int, v * a = (v.natAbs : Int) := by
    by_cases c : 0 ≤ v
    · exact ⟨1, by omega⟩
    · exact ⟨-1, by omega⟩
  obtain ⟨a, ea⟩ := hu
  obtain ⟨b, eb⟩ := hv
  refine ⟨a * r, - (b * s), ?_⟩
  rw [← ea, ← eb] at e
  have e' : u * a * r + v * b * s = 1 := e
  grind
/-- a number in place of a form -/
theorem res_const (c : Int) {G : List Int} (g1 : 2 ≤ G.length) : Res [c] G = c ^ (G.length - 1) := by
  obtain ⟨n, hn⟩ : ∃ n, G.length = n + 2 := ⟨G.length - 2, by omega⟩
  unfold Res
  rw [List.length_singleton, hn, show 1 + (n + 2) - 2 = n + 1 by omega, show 1 + (n + 2) - 3 = n by omega, show n + 2 - 1 = n + 1 by omega]
  have g : ∀ {k j : Nat}, k < n + 1 → row (urows [c] G n) k j = co (List.replicate k 0 ++ [c]) j := fun {k j} hk => by
    unfold urows
    show co ((shf [c] n ++ shf G n).getD k []) j = _
    rw [List.getD_eq_getElem?_getD, List.getElem?_append_left (by rw [shf_len, List.length_singleton]; omega), ← List.getD_eq_getElem?_getD]
    exact row_shfz (by rw [List.length_singleton]; omega)
  have v : ∀ k j : Nat, co (List.replicate k 0 ++ [c]) j = if j = k then c else 0 := fun k j => by
    rw [co_app, List.length_replicate, co_z]
    by_cases d : j = k
    · rw [if_pos d, if_neg (by omega), d, Nat.sub_self]
      rfl
    · rw [if_neg d]
      by_cases e : j < k
      · rw [if_pos e]
      · rw [if_neg e]
        exact co_far (by rw [List.length_singleton]; omega)
  rw [det_diagU fun i u h1 h2 => by rw [g h2, v, if_neg (by omega)]]
  have : ∀ m, m ≤ n + 1 → prd m (fun u => row (urows [c] G n) u u) = c ^ m := fun m => by
    induction m with
    | zero => intro _; rw [Int.pow_zero]; rfl
    | succ m ih =>
      intro hm
      show prd m _ * row (urows [c] G n) m m = _
      rw [ih (by omega), g (by omega), v, if_pos rfl, Int.pow_succ]
  exact this _ (Nat.le_refl _)
/-- a line more -/
theorem res_line {u v : Int} (h : Nat.gcd u.natAbs v.natAbs = 1) {F G : List Int} (f1 : 1 ≤ F.length) (g1 : 2 ≤ G.length) : Res (ml [v, 0 - u] F) G = ev G u v * Res F G := by
  obtain ⟨r, s, e⟩ := bezI h
  have nF : F ≠ [] := by intro z; rw [z] at f1; cases f1
  have nG : G ≠ [] := by intro z; rw [z] at g1; cases g1
  have lL : (ml [v, 0 - u] F).length = F.length + 1 := by rw [ml_len]; show 2 + F.length - 1 = _; omega
  have hd : u * r - s * v ≠ 0 := by rw [e]; decide
  have e1 := res_changed hd (F := ml [v, 0 - u] F) (G := G) (by omega) g1
  rw [e, Int.one_pow, Int.mul_one] at e1
  have lF := changed_len (X := [u, s]) (Y := [v, r]) rfl rfl nF
  have lG := changed_len (X := [u, s]) (Y := [v, r]) rfl rfl nG
  have e2 : changed [u, s] [v, r] (ml [v, 0 - u] F) = 0 :: (changed [u, s] [v, r] F).map ((-1) * ·) := by
    refine ev_inj (by rw [changed_len rfl rfl (by intro z; rw [z] at lL; cases lL), lL, List.length_cons, List.length_map, lF]) fun x y => ?_
    rw [ev_changed rfl rfl (by intro z; rw [z] at lL; cases lL), ev_ml (by simp) nF, ev_sy, ev_map, ev_changed rfl rfl nF, ev_two, ev_two, ev_two]
    generalize ev F _ _ = f
    have : v * (u * x + s * y) + (0 - u) * (v * x + r * y) = - y * (u * r - s * v) := by grind
    rw [this, e]
    grind
  have e3 : co (changed [u, s] [v, r] G) 0 = ev G u v := by
    rw [← ev_lead, ev_changed rfl rfl nG, ev_two, ev_two]
    congr 1
    · omega
    · omega
  have e4 : Res (changed [u, s] [v, r] F) (changed [u, s] [v, r] G) = Res F G := by
    by_cases c : F.length = 1
    · rcases List.length_eq_one_iff.mp c with ⟨a, rfl⟩
      have : changed [u, s] [v, r] [a] = [a] := by
        refine ev_inj (by rw [changed_len rfl rfl (by simp)]) fun x y => ?_
        have one : ∀ X Y : Int, ev [a] X Y = a := fun X Y => by
          rw [ev_cons, ev_nil]
          show a * X ^ 0 + Y * 0 = a
          rw [Int.pow_zero]
          omega
        rw [ev_changed rfl rfl (by simp), one, one]
      rw [this, res_const a (by omega), res_const a g1, lG]
    · have := res_changed hd (F := F) (G := G) (by omega) g1
      rw [e, Int.one_pow, Int.mul_one] at this
      exact this
  rw [← e1, e2, res_y (by omega) (by omega), e3, e4]
end K77

set_option Elab.async false
set_option linter.all false
set_option maxRecDepth 100000
set_option maxHeartbeats 4000000
set_option exponentiation.threshold 10000
/-! heads of rows -/
namespace K77
open PySem PySem.Spec PyProof.Rows L2 StX RZ MyR SlX OwnR OwnF EnumT SeqE GxR GenNx FDivQ LA
def lswA (as : List Addr) (t h : Nat) : List Addr := (as.set t (as.getD h 0)).set h (as.getD t 0)
theorem RX.setA {p : Addr → List Int → Prop} {a : Addr} {r : List Int} (k : p a r) : ∀ {as : List Addr} {rs : List (List Int)} (i : Nat), RX p as rs → RX p (as.set i a) (rs.set i r)
  | [], [], i, _ => True.intro
  | _ :: _, _ :: _, 0, h => ⟨k, h.2⟩
  | _ :: _, _ :: _, i + 1, h => ⟨h.1, RX.setA k i h.2⟩
  | [], _ :: _, _, h => h.elim
  | _ :: _, [], _, h => h.elim
theorem RX.at {p : Addr → List Int → Prop} {as : List Addr} {rs : List (List Int)} (h : RX p as rs) {i : Nat} (hi : i < rs.length) : (as.map V.ref)[i]? = some (.ref (as.getD i 0)) ∧ p (as.getD i 0) (rs.getD i []) := by
  obtain ⟨a, r, e1, e2, k⟩ := RX.get h hi
  rw [List.getElem?_map, e1, List.getD_eq_getElem?_getD, e1, List.getD_eq_getElem?_getD, e2]
  exact ⟨rfl, k⟩
theorem RX.lsw {p : Addr → List Int → Prop} {as : List Addr} {rs : List (List Int)} (h : RX p as rs) {t k : Nat} (ht : t < rs.length) (hk : k < rs.length) : RX p (lswA as t k) (lsw rs t k) :=
  RX.setA (RX.at h ht).2 k (RX.setA (RX.at h hk).2 t h)
section
variable {P : Program} {w : World} {K : PySem.W.Frag} {mg : Str → Option Value} {base : Heap} {Ps : List Addr}
def spSwap : Sp := fun vs H Q _ => ∃ (D : Addr) (as : List Addr) (L : List (List Int)) (t : Nat), vs = [.ref D, .int (t : Nat)] ∧ H D = some (.lst (as.map V.ref)) ∧ RR H as L ∧ (∀ i, i < L.length → (L.getD i []).length = L.length) ∧ t < L.length ∧ L.length ≤ 50 ∧
  (hdt L t = [] → ∀ H', Same H H' → Q (.int 0) H') ∧ (∀ h l, hdt L t = h :: l → ∀ H', (∀ b o, b ≠ D → H b = some o → H' b = some o) → H' D = some (.lst ((lswA as t h).map V.ref)) → Q (.int (if h = t then 1 else -1)) H')
theorem ok_swapped_head (T : Facts K mg) : FnOk P w K mg base CX0 1 T.f_swapped_head T.fd_swapped_head ["rows", "place"] spSwap := by
  refine T.F_swapped_head.ok sc_swapped_head (fun vs H Q E h => ?_) (fun cdv A outer s H vs Q E hr h => ?_)
  · obtain ⟨D, as, L, t, rfl, _⟩ := h
    rfl
  · obtain ⟨D, as, L, t, rfl, hD, hR, hl, ht, h50, q0, q1⟩ := h
    have la := RX.len hR
    refine ⟨_, (PSs.nox (pss_cons (ps_setLc (i := 2) (own := [("at", 3)]) (g := (gName 3)) rfl sc_swapped_head.nd rfl rfl (sw_true rfl rfl rfl (by decide +kernel)) (pi_range2 (by rfl) T.z_range (pa_cons (pv 1) (pa_cons (pe_callB call_len_seq (by rfl) T.z_len (by decide +kernel) (pa_cons (pv 0) pa_nil)) pa_nil))) (blkOk_by (N := N_swapped_head) (sc := defScope s_swapped_head) (by decide +kernel)) (fun _ _ _ _ _ => (pg_name (i := 3) sc_swapped_head.nd rfl (.inl rfl))) (fun _ _ _ _ _ => (pts_one (pt_cmpR op_ne (pe_ix (ix_list : IxR _ (rIxL K)) (pe_ix (ix_list : IxR _ (rIxL K)) (pv 0) (pv 3) (fun _ _ => rfl)) (pv 1) (fun _ _ => rfl)) pe_int (nomark _)))) (fun _ _ _ _ _ => (pv 3)))
    (pss_cons (ps_if (pt_cmpR (op_eqD (hu64 hr)) (pv 2) (pe_lst pa_nil) (nomark _))
      (pss_one (ps_ret pe_int))
      pss_nil)
    (pss_cons (ps_set (i := 3) sc_swapped_head.nd rfl (.inl rfl) (pe_ix ix_list (pv 2) pe_int (fun _ _ => rfl)))
    (pss_cons (ps_asg (pe_tup (pa_cons (pe_ix ix_list (pv 0) (pv 3) (fun _ _ => rfl)) (pa_cons (pe_ix ix_list (pv 0) (pv 1) (fun _ _ => rfl)) pa_nil))) (pg_tup (by rfl) (pgs_cons (pg_sub (pv 0) (pv 1) set_list) (pgs_cons (pg_sub (pv 0) (pv 3) set_list) pgs_nil))))
    (pss_one (ps_ret (pe_ifExp (pt_cmpR op_eq (pv 3) (pv 1) (nomark _)) pe_int (pe_un un_neg pe_int))))))))), ?_⟩
    refine ⟨_, rfl, _, rfl, D, _, rfl, .inl (SqL.of hD), t, _, rfl, by rw [List.length_map]; omega, fun E hE => ?_⟩
    rw [List.length_map, la, show ((L.length : Int) - (t : Int)).toNat = L.length - t by omega]
    refine lc_range (n := L.length - t) (fun j H' => Same H H' ∧ H' E = some (ls ((((List.range j).map (t + ·)).filter fun i => co (L.getD i []) t != 0).map fun (i : Nat) => (i : Int)))) ⟨same_upd0 hE, upd_same⟩ (fun j H' hj hP => ?_) (fun H' hP => ?_)
    · obtain ⟨s1, e1⟩ := hP
      obtain ⟨g1, g2⟩ := RX.at hR (show t + j < L.length by omega)
      have hlr := hl (t + j) (by omega)
      refine ⟨rfl, _, rfl, _, rfl, D, _, _, _, rfl, rfl, SqL.of (s1 _ _ hD), at_of (show (t : Int) + (j : Int) = ((t + j : Nat) : Int) by omega) g1, _, rfl, as.getD (t + j) 0, _, t, _, rfl, rfl, SqL.of (s1 _ _ g2), atI_nat (get_int (by omega)), rfl, _, rfl, ?_⟩
      have ef : ((List.range (j + 1)).map (t + ·)).filter (fun i => co (L.getD i []) t != 0) = ((List.range j).map (t + ·)).filter (fun i => co (L.getD i []) t != 0) ++ if co (L.getD (t + j) []) t = 0 then [] else [t + j] := by
        rw [List.range_succ, List.map_append, List.filter_append]
        congr 1
        show List.filter _ [t + j] = _
        by_cases c : co (L.getD (t + j) []) t = 0
        · rw [if_pos c, List.filter_cons_of_neg (by simpa using c)]
          rfl
        · rw [if_neg c, List.filter_cons_of_pos (by simpa using c)]
          rfl
      rw [ef]
      by_cases c : co (L.getD (t + j) []) t = 0
      · rw [c, if_pos rfl, List.append_nil]
        exact iteF ⟨s1, e1⟩
      · rw [if_neg c, decide_eq_false fun e => c (V.int.inj e)]
        refine iteT ⟨_, rfl, _, e1, ?_, fun b o e => ?_, ?_⟩
        · rw [List.length_map, List.length_map]
          have h1 := List.length_filter_le (fun i => co (L.getD i []) t != 0) ((List.range j).map (t + ·))
          rw [List.length_map, List.length_range] at h1
          exact small1000 (by omega)
        · rw [upd_ne (ne_of_none e hE)]
          exact s1 _ _ e
        · rw [upd_same, List.map_append]
          show _ = some (HO.lst (List.map V.int (_ ++ _)))
          rw [List.map_append]
          show some (HO.lst (_ ++ [V.int ((t : Int) + (j : Int))])) = some (HO.lst (_ ++ [V.int ((t + j : Nat) : Int)]))
          rw [show (t : Int) + (j : Int) = ((t + j : Nat) : Int) by omega]
    · obtain ⟨s1, e1⟩ := hP
      have e1' : H' E = some (ls ((hdt L t).map fun (i : Nat) => (i : Int))) := e1
      refine ⟨_, rfl, sz0, fun p0 n0 => gen_upd H' p0 (ls []) n0 fun H1 s2 e2 => eq_lints (ys := []) (SqL.of (s2 _ _ e1')) (SqL.of e2) ⟨_, rfl, ?_⟩⟩
      have s12 := s1.trans s2
      cases hh : hdt L t with
      | nil =>
        rw [decide_eq_true (show ([] : List Nat).map (fun (i : Nat) => (i : Int)) = [] from rfl)]
        exact iteT (q0 hh H1 s12)
      | cons h l =>
        rw [decide_eq_false (show ¬ (h :: l).map (fun (i : Nat) => (i : Int)) = [] by simp)]
        obtain ⟨⟨h1, h2⟩, h3⟩ := mem_hdt.mp (show h ∈ hdt L t by rw [hh]; exact .head _)
        rw [hh] at e1'
        have e3 := s2 _ _ e1'
        have hD1 := s12 _ _ hD
        refine iteF ⟨_, rfl, E, _, 0, .int (h : Nat), rfl, rfl, SqL.of e3, atI_nat (j := 0) rfl, ?_⟩
        refine ⟨_, rfl, _, rfl, D, _, _, _, rfl, rfl, SqL.of hD1, atI_nat (RX.at hR h2).1, _, rfl, _, rfl, D, _, _, _, rfl, rfl, SqL.of hD1, atI_nat (RX.at hR ht).1, sz2, fun p1 n1 => gen_upd H1 p1 _ n1 fun H2 s3 e4 => ?_⟩
        refine ⟨p1, _, rfl, SqT.of e4, rfl, ?_⟩
        have hD2 := s3 _ _ hD1
        refine ⟨_, _, rfl, _, rfl, _, rfl, D, _, _, t, rfl, rfl, hD2, ix_at rfl (by rw [List.length_map]; omega), ?_⟩
        refine ⟨_, _, rfl, _, rfl, _, rfl, D, _, _, h, rfl, rfl, upd_same, ix_at rfl (by rw [List.length_set, List.length_map]; omega), rfl, ?_⟩
        rw [upd_upd]
        have e5 : ((as.map V.ref).set t (V.ref (as.getD h 0))).set h (V.ref (as.getD t 0)) = (lswA as t h).map V.ref := by
          unfold lswA
          rw [List.map_set, List.map_set]
        rw [e5]
        have fin := q1 h l hh (upd H2 D (.lst ((lswA as t h).map V.ref))) (fun b o ne e => by
          rw [upd_ne ne]
          exact s3 _ _ (s12 _ _ e)) upd_same
        refine ⟨_, rfl, _, rfl, rfl, _, rfl, ?_⟩
        by_cases c : h = t
        · rw [if_pos c] at fin
          rw [c, decide_eq_true (rfl : V.int (t : Nat) = V.int (t : Nat))]
          rw [c] at fin
          exact iteT fin
        · rw [if_neg c] at fin
          rw [decide_eq_false (fun e => c (by have := V.int.inj e; omega))]
          exact iteF ⟨_, rfl, fin⟩
end
end K77

set_option Elab.async false
set_option linter.all false
set_option maxRecDepth 100000
set_option maxHeartbeats 4000000
set_option exponentiation.threshold 10000
/-! determinants -/
namespace K77
open PySem PySem.Spec PyProof.Rows L2 StX RZ MyR SlX OwnR OwnF EnumT SeqE GxR GenNx FDivQ LA
theorem list_ext {A B : List (List Int)} (h : A.length = B.length) (e : ∀ i, i < A.length → A.getD i [] = B.getD i []) : A = B := by
  refine List.ext_getElem h fun i h1 h2 => ?_
  have := e i h1
  rw [List.getD_eq_getElem?_getD, List.getElem?_eq_getElem h1, List.getD_eq_getElem?_getD, List.getElem?_eq_getElem h2] at this
  exact this
theorem bst_zero (L : List (List Int)) (t : Nat) (last : Int) : bst L t last 0 = L :=
  list_ext (bst_len ..) fun i hi => by
    rw [bst_len] at hi
    rw [bst_get hi, if_neg (by omega)]
theorem bst_succ {L : List (List Int)} {t : Nat} {last : Int} {j : Nat} (h : t + 1 + j < L.length) : bst L t last (j + 1) = (bst L t last j).set (t + 1 + j) (bnew (L.getD (t + 1 + j) []) (L.getD t []) t last) :=
  list_ext (by rw [List.length_set, bst_len, bst_len]) fun i hi => by
    rw [bst_len] at hi
    rw [bst_get hi, List.getD_eq_getElem?_getD (l := List.set ..), List.getElem?_set]
    by_cases c : t + 1 + j = i
    · rw [if_pos c, if_pos (show t < i ∧ i < t + 1 + (j + 1) by omega), if_pos (show t + 1 + j < (bst L t last j).length by rw [bst_len]; exact h), ← c]
      rfl
    · rw [if_neg c, ← List.getD_eq_getElem?_getD, bst_get hi]
      by_cases d : t < i ∧ i < t + 1 + j
      · rw [if_pos d, if_pos (by omega)]
      · rw [if_neg d, if_neg (by omega)]
theorem bst_full {L : List (List Int)} {t : Nat} {last : Int} {j k : Nat} (h1 : L.length ≤ t + 1 + j) (h2 : L.length ≤ t + 1 + k) : bst L t last j = bst L t last k :=
  list_ext (by rw [bst_len, bst_len]) fun i hi => by
    rw [bst_len] at hi
    rw [bst_get hi, bst_get hi]
    by_cases d : t < i
    · rw [if_pos ⟨d, by omega⟩, if_pos ⟨d, by omega⟩]
    · rw [if_neg (by omega), if_neg (by omega)]
/-- what a turn of the elimination does -/
theorem bgo_cons {r t h : Nat} {l : List Nat} {L : List (List Int)} {s last : Int} (e : hdt L t = h :: l) : bgo (r + 1) t L s last = bgo r (t + 1) (bst (lsw L t h) t last L.length) (if h = t then s else -s) (co ((lsw L t h).getD t []) t) := by
  show (match hdt L t with | [] => 0 | h :: _ => bgo r (t + 1) (bst (lsw L t h) t last L.length) (if h = t then s else -s) (co ((lsw L t h).getD t []) t)) = _
  rw [e]
theorem bgo_nil {r t : Nat} {L : List (List Int)} {s last : Int} (e : hdt L t = []) : bgo (r + 1) t L s last = 0 := by
  show (match hdt L t with | [] => 0 | h :: _ => bgo r (t + 1) (bst (lsw L t h) t last L.length) (if h = t then s else -s) (co ((lsw L t h).getD t []) t)) = _
  rw [e]
theorem piv {L : List (List Int)} {t h : Nat} (ht : t < L.length) (hh : h < L.length) : (lsw L t h).getD t [] = L.getD h [] := by
  rw [lsw_get ht hh]
  by_cases c : t = h
  · rw [if_pos c, c]
  · rw [if_neg c, if_pos rfl]
theorem rr_upd {H : Hp} {D : Addr} {o : HO} {as : List Addr} {L : List (List Int)} {xs : List Addr} (h : RR H as L) (hD : H D = some (.lst (xs.map V.ref))) (hx : xs ≠ []) : RR (L2.upd H D o) as L := RR.upd h hD fun _ => hx
/-- what the walk of a determinant asks -/
structure DetOk (n M : Nat) (L : List (List Int)) : Prop where
  ln : L.length = n
  lr : ∀ r ∈ L, r.length = n
  hM : ∀ r ∈ L, ∀ x ∈ r, x.natAbs ≤ M
  n1 : 1 ≤ n
  n20 : n ≤ 40
  M1 : 1 ≤ M
  bd : (n * M) ^ n < 2 ^ 4000
theorem DetOk.det {n M : Nat} {L : List (List Int)} (ok : DetOk n M L) : (bdet L).natAbs ≤ (n * M) ^ n := by
  rw [bdet_det ok.ln ok.lr]
  have ln := ok.ln
  exact det_bd fun i j hi hj => ok.hM _ (mem_row (by omega)) _ (co_memE (by rw [ok.lr _ (mem_row (by omega))]; exact hj))
theorem sm_cm {a b : Int} {B : Nat} (hB : B < 2 ^ 4000) (h1 : a.natAbs ≤ B) (h2 : b.natAbs ≤ B) : CMulW a b := cmulw_of (L := 4000) (by decide) (Nat.lt_of_le_of_lt h1 hB) (Nat.lt_of_le_of_lt h2 hB)
section
variable {P : Program} {w : World} {K : PySem.W.Frag} {mg : Str → Option Value} {base : Heap} {Ps : List Addr}
def spWD : Sp := fun vs H Q _ => ∃ (t : Addr) (as : List Addr) (L : List (List Int)) (n M : Nat), vs = [.ref t] ∧ H t = some (.lst (as.map V.ref)) ∧ RR H as L ∧ DetOk n M L ∧ ∀ H', Same H H' → Q (.int (bdet L)) H'
theorem ok_whole_determinant (T : Facts K mg) : FnOk P w K mg base CX0 2 T.f_whole_determinant T.fd_whole_determinant ["rows"] spWD := by
  have G_swapped_head := ok_swapped_head (P := P) (w := w) (base := base) T
  refine T.F_whole_determinant.ok sc_whole_determinant (fun vs H Q E h => ?_) (fun cdv A outer s0 H vs Q E hr h => ?_)
  · obtain ⟨t, as, L, n, M, rfl, _⟩ := h
    rfl
  · obtain ⟨t, as0, L0, n, M, rfl, ht, hR0, ok, q⟩ := h
    refine ⟨_, (PSs.nox (pss_cons (ps_asg (pe_tup (pa_cons (pe_lc (own := [("row", 4)]) (g := (gName 4)) (tt := tYes) (by rfl) sc_whole_determinant.nd (pi_list (pv 0)) (blkOk_by (N := N_whole_determinant) (sc := defScope s_whole_determinant) (by decide +kernel)) (fun _ _ _ _ _ => (pg_name (i := 4) sc_whole_determinant.nd rfl (.inl rfl))) (fun _ _ _ _ _ => pts_nil) (fun _ _ _ _ _ => (pe_callTy (ListOf.call_list_ofK (by rfl) : CallR _ (.type "list") (ListOf.rListOf K)) (by rfl) T.z_list (by decide +kernel) (pa_cons (pv 4) pa_nil)))) (pa_cons pe_int (pa_cons pe_int pa_nil)))) (pg_tup (by rfl) (pgs_cons (pg_name (i := 1) sc_whole_determinant.nd rfl (.inl rfl)) (pgs_cons (pg_name (i := 2) sc_whole_determinant.nd rfl (.inl rfl)) (pgs_cons (pg_name (i := 3) sc_whole_determinant.nd rfl (.inr rfl)) pgs_nil)))))
    (pss_cons (ps_for PassesOwn.never (by rfl) (pi_range1 (by rfl) T.z_range (pa_cons (pe_callB call_len_seq (by rfl) T.z_len (by decide +kernel) (pa_cons (pv 1) pa_nil)) pa_nil)) (pg_name (i := 5) sc_whole_determinant.nd rfl (.inr rfl))
      (pss_cons (ps_aug (i := 2) sc_whole_determinant.nd rfl (.inl rfl) (pe_call G_swapped_head hr (by rfl) T.g_swapped_head T.F_swapped_head.kp T.b_swapped_head .nil pass0 (pa_cons (pv 1) (pa_cons (pv 5) pa_nil))) AugM.ip_mulW)
      (pss_cons (ps_if (pt_cmpR op_eq (pv 2) pe_int (nomark _))
        (pss_one (ps_ret pe_int))
        pss_nil)
      (pss_cons (ps_set (i := 6) sc_whole_determinant.nd rfl (.inr rfl) (pe_ix ix_list (pv 1) (pv 5) (fun _ _ => rfl)))
      (pss_cons (ps_for PassesOwn.never (by rfl) (pi_range2 (by rfl) T.z_range (pa_cons (pe_op op_add (pv 5) pe_int) (pa_cons (pe_callB call_len_seq (by rfl) T.z_len (by decide +kernel) (pa_cons (pv 1) pa_nil)) pa_nil))) (pg_name (i := 7) sc_whole_determinant.nd rfl (.inl rfl))
        (pss_cons (ps_set (i := 4) sc_whole_determinant.nd rfl (.inr rfl) (pe_ix ix_list (pv 1) (pv 7) (fun _ _ => rfl)))
        (pss_one (ps_asg (pe_lc (own := [("entry", 8), ("taken", 9)]) (g := (gTup K 2 (gCons (gName 8) (gCons (gName 9) gNil)))) (tt := tYes) (by rfl) sc_whole_determinant.nd (pi_zipA (by rfl) T.z_zip (pa_cons (pv 4) (pa_cons (pv 6) pa_nil))) (blkOk_by (N := N_whole_determinant) (sc := defScope s_whole_determinant) (by decide +kernel)) (fun _ _ _ _ _ => (pg_tup (by rfl) (pgs_cons (pg_name (i := 8) sc_whole_determinant.nd rfl (.inl rfl)) (pgs_cons (pg_name (i := 9) sc_whole_determinant.nd rfl (.inl rfl)) pgs_nil)))) (fun _ _ _ _ _ => pts_nil) (fun _ _ _ _ _ => (pe_op FDivQ.op_fdivQ (pe_op op_sub (pe_op op_mulW (pv 8) (pe_ix (ix_list : IxR _ (rIxL K)) (pv 6) (pv 5) (fun _ _ => rfl))) (pe_op op_mulW (pe_ix (ix_list : IxR _ (rIxL K)) (pv 4) (pv 5) (fun _ _ => rfl)) (pv 9))) (pv 3)))) (pg_sub (pv 1) (pv 7) set_list)))))
      (pss_one (ps_set (i := 3) sc_whole_determinant.nd rfl (.inr rfl) (pe_ix ix_list (pv 6) (pv 5) (fun _ _ => rfl)))))))))
    (pss_one (ps_ret (pe_op op_mulW (pv 2) (pv 3))))))), ?_⟩
    have ln := ok.ln
    have n1 := ok.n1
    have n20 := ok.n20
    refine ⟨_, rfl, t, rfl, ⟨_, SqL.of ht⟩, fun D hD => lc_rows (f := id) hD ht hR0 (by omega) (fun _ => rfl) (fun ad r H2 Q2 hr2 s2 e2 kq => ⟨_, rfl, ad, _, rfl, .inl (SqL.of e2), fun p np => kq p _ (same_upd0 np) upd_same⟩) (fun r hr2 z => ?_) (fun bs H1 s1 e1 r1 => ?_)⟩
    · have := ok.lr r hr2
      rw [show r = [] from z] at this
      have : (0 : Nat) = n := this
      omega
    rw [List.map_id] at r1
    have lb := RX.len r1
    refine ⟨sz3, fun p0 n0 => gen_upd H1 p0 _ n0 fun H2 s2 e2 => ⟨p0, _, rfl, SqT.of e2, rfl, _, _, rfl, _, _, rfl, _, _, rfl, rfl, ?_⟩⟩
    refine ⟨_, rfl, D, _, rfl, .inl (SqL.of (s2 _ _ e1)), n, ?_, by omega, by omega, ?_⟩
    · show [V.int _] = _
      rw [List.length_map, lb, ln]
    refine for_range (n := (n : Int).toNat) (fun i σ H' => ∃ (as : List Addr) (L : List (List Int)) (s last : Int) (y4 y5 y6 y7 : Option V), σ = [some (.ref t), some (.ref D), some (.int s), some (.int last), y4, y5, y6, y7, none, none] ∧ H' D = some (.lst (as.map V.ref)) ∧ RR H' as L ∧ BS n i M L last ∧ bgo (n - i) i L s last = bdet L0 ∧ s.natAbs = 1 ∧ Same H H') ⟨bs, L0, 1, 1, none, none, none, none, rfl, s2 _ _ e1, r1.same s2, BS.init ln ok.lr ok.hM, by unfold bdet; rw [ln]; rfl, rfl, s1.trans s2⟩ (fun i σ H' hi hP => ?_) (fun σ H' hP => ?_)
    · obtain ⟨as, L, s, last, y4, y5, y6, y7, rfl, eD, rR, B, eb, s1', sH⟩ := hP
      have hi' : i < n := by omega
      have lL := B.ln
      have la := RX.len rR
      have asne : as ≠ [] := fun z => by
        rw [z] at la
        have : (0 : Nat) = L.length := la
        omega
      obtain ⟨r, er⟩ : ∃ r, n - i = r + 1 := ⟨n - i - 1, by omega⟩
      refine ⟨_, rfl, _, rfl, _, rfl, D, as, L, i, ?_, eD, rR, (fun k hk => by rw [B.lr k (by omega), lL]), by omega, by omega, fun hn H3 s3 => ?_, fun h l hh H3 sN eN => ?_⟩
      · show [V.ref D, V.int (0 + (i : Int))] = _
        rw [Int.zero_add]
      · refine ⟨s, 0, rfl, rfl, cmulw_of (L := 10) (by decide) (by rw [s1']; decide) (by decide), ?_⟩
        rw [er, bgo_nil hn] at eb
        refine ⟨_, rfl, rfl, _, rfl, ?_⟩
        rw [Int.mul_zero, eb]
        rw [← eb]
        exact iteT (eb ▸ q H3 (sH.trans s3))
      · obtain ⟨⟨h1, h2⟩, h3⟩ := mem_hdt.mp (show h ∈ hdt L i by rw [hh]; exact .head _)
        have iL : i < L.length := by omega
        have B1 := B.swap h1 (show h < n by omega)
        have pv := piv iL h2
        rw [er, bgo_cons hh] at eb
        have rN : RR H3 (lswA as i h) (lsw L i h) := RX.lsw (RX.imp (fun a r e => sN a _ (row_ne e eD asne) e) rR) iL h2
        have sH3 : Same H H3 := fun b o e => sN b o (ne_of_none e hD) (sH b o e)
        have pne : co ((lsw L i h).getD i []) i ≠ 0 := by rw [pv]; exact h3
        obtain ⟨s2', es, hs2⟩ : ∃ s2 : Int, s2 = (if h = i then s else -s) ∧ s2.natAbs = 1 := ⟨_, rfl, by split <;> omega⟩
        refine ⟨s, _, rfl, rfl, cmulw_of (L := 10) (by decide) (by rw [s1']; decide) (by split <;> decide), ?_⟩
        rw [show s * (if h = i then (1 : Int) else -1) = s2' by rw [es]; split <;> omega]
        rw [← es] at eb
        have lL1 := B1.ln
        have lA := RX.len rN
        have lr1 := B1.lr
        generalize lsw L i h = L1 at *
        generalize lswA as i h = as1 at *
        have rN' := rN
        clear es hh h1 h2 h3 pv sN eD rR B asne la sH
        refine ⟨_, rfl, rfl, _, rfl, ?_⟩
        rw [decide_eq_false (show ¬ V.int s2' = V.int 0 from fun e => by have := V.int.inj e; omega)]
        have hd0 := RX.at rN (show i < L1.length by omega)
        refine iteF ⟨_, rfl, _, rfl, D, _, _, _, rfl, rfl, SqL.of eN, at_of (show (0 : Int) + (i : Int) = (i : Nat) by omega) hd0.1, ?_⟩
        obtain ⟨hd, ehd⟩ : ∃ hd, hd = as1.getD i 0 := ⟨_, rfl⟩
        rw [← ehd] at hd0 ⊢
        refine ⟨_, rfl, _, _, rfl, rfl, _, rfl, D, _, rfl, .inl (SqL.of eN), (i + 1 : Nat), (n : Nat), ?_, by omega, ?_⟩
        · show [V.int (0 + (i : Int) + 1), V.int _] = _
          rw [List.length_map, lA, lL1, show 0 + (i : Int) + 1 = ((i + 1 : Nat) : Int) by omega]
        rw [show (((n : Nat) : Int) - ((i + 1 : Nat) : Int)).toNat = n - (i + 1) by omega]
        refine for_range (n := n - (i + 1)) (fun j σ H4 => ∃ (as : List Addr) (y4 y7 : Option V), σ = [some (.ref t), some (.ref D), some (.int s2'), some (.int last), y4, some (.int (0 + (i : Int))), some (.ref hd), y7, none, none] ∧ H4 D = some (.lst (as.map V.ref)) ∧ RR H4 as (bst L1 i last j) ∧ Same H H4 ∧ as.getD i 0 = hd) ⟨as1, y4, y7, rfl, eN, by rw [bst_zero]; exact rN, sH3, ehd.symm⟩ (fun j σ H4 hj hP => ?_) (fun σ H4 hP => ?_)
        · obtain ⟨as, y4, y7, rfl, eD, rR, sH, eh⟩ := hP
          have lb := bst_len L1 i last j
          have la := RX.len rR
          rw [lb] at la
          have asne : as ≠ [] := fun z => by
            rw [z] at la
            have : (0 : Nat) = L1.length := la
            omega
          have ga := RX.at rR (show i + 1 + j < (bst L1 i last j).length by omega)
          have gh := RX.at rR (show i < (bst L1 i last j).length by omega)
          rw [bst_get (by omega), if_neg (by omega)] at ga gh
          rw [eh] at gh
          refine ⟨_, rfl, _, rfl, D, _, _, _, rfl, rfl, SqL.of eD, at_of (show ((i + 1 : Nat) : Int) + (j : Int) = ((i + 1 + j : Nat) : Int) by omega) ga.1, ?_⟩
          obtain ⟨ar, ear⟩ : ∃ ar, ar = as.getD (i + 1 + j) 0 := ⟨_, rfl⟩
          rw [← ear] at ga ⊢
          have lr0 := lr1 (i + 1 + j) (by omega)
          have lh0 := lr1 i hi'
          have b1 := B1.bd ok.M1 (show i ≤ i + 1 + j by omega) (by omega)
          have b2 := B1.bd ok.M1 (Nat.le_refl i) hi'
          have bdv := B1.div ok.M1 ok.bd hi' pne (show i < i + 1 + j by omega) (by omega)
          have ebn : bnew (L1.getD (i + 1 + j) []) (L1.getD i []) i last = tb n fun k => (co (L1.getD (i + 1 + j) []) k * co (L1.getD i []) i - co (L1.getD (i + 1 + j) []) i * co (L1.getD i []) k).fdiv last := by
            unfold bnew
            rw [lh0]
          have ebs := bst_succ (L := L1) (t := i) (last := last) (j := j) (by omega)
          rw [ebn] at ebs
          generalize L1.getD (i + 1 + j) [] = r0 at *
          generalize L1.getD i [] = h0 at *
          refine ⟨_, rfl, _, rfl, ar, hd, _, _, rfl, .inl ⟨SqL.of ga.2, SqL.of gh.2, fun D2 hD2 => ?_⟩⟩
          refine lc_zipL (xs := r0.map V.int) (ys := h0.map V.int) (by rw [List.length_map, List.length_map, lr0, lh0]) (fun k H5 => Same H4 H5 ∧ H5 D2 = some (.lst (tab k fun k => (co r0 k * co h0 i - co r0 i * co h0 k).fdiv last))) ⟨same_upd0 hD2, upd_same⟩ (fun k H5 _ hP => ⟨SqL.of (hP.1 _ _ ga.2), SqL.of (hP.1 _ _ gh.2)⟩) (fun k x y A1 H5 hx hy hP hA => ?_) (fun H5 hP => ?_)
          · obtain ⟨s5, d5⟩ := hP
            obtain ⟨hk, rfl⟩ := int_get hx
            obtain ⟨_, rfl⟩ := int_get hy
            have sA := same_upd0 (o := .tup [.int (co r0 k), .int (co h0 k)]) hA
            refine ⟨A1, _, rfl, SqT.of upd_same, rfl, _, _, rfl, _, _, rfl, rfl, rfl, _, rfl, _, rfl, _, rfl, hd, _, _, .int (co h0 i), rfl, rfl, SqL.of (sA _ _ (s5 _ _ gh.2)), at_of (show (0 : Int) + (i : Int) = (i : Nat) by omega) (get_int (by omega)), _, _, rfl, rfl, sm_cm ok.bd (b1 k) (b2 i), _, rfl, _, rfl, ar, _, _, .int (co r0 i), rfl, rfl, SqL.of (sA _ _ (s5 _ _ ga.2)), at_of (show (0 : Int) + (i : Int) = (i : Nat) by omega) (get_int (by omega)), _, rfl, _, _, rfl, rfl, sm_cm ok.bd (b1 i) (b2 k), _, _, rfl, rfl, _, rfl, _, _, rfl, rfl, bdv k, _, sA _ _ d5, ?_, fun b o e => ?_, ?_⟩
            · rw [tab_len]
              exact small1000 (by omega)
            · rw [upd_ne (ne_of_none e hD2)]
              exact sA _ _ (s5 _ _ e)
            · rw [upd_same, ← tab_snoc]
          · obtain ⟨s5, d5⟩ := hP
            rw [List.length_map, tab_tb, lr0] at d5
            have eD5 := s5 _ _ eD
            have dne : D2 ≠ D := fun z => by rw [z, eD] at hD2; cases hD2
            have r5 := rr_upd (o := .lst ((as.set (i + 1 + j) D2).map V.ref)) (rR.same s5) eD5 asne
            refine ⟨_, rfl, _, rfl, D, _, _, i + 1 + j, rfl, rfl, eD5, ix_at (show ((i + 1 : Nat) : Int) + (j : Int) = ((i + 1 + j : Nat) : Int) by omega) (by rw [List.length_map]; omega), ?_⟩
            rw [← List.map_set]
            refine ⟨as.set (i + 1 + j) D2, _, _, rfl, upd_same, ?_, fun b o e => ?_, ?_⟩
            · rw [ebs]
              exact RX.setA (by rw [upd_ne dne]; exact d5) (i + 1 + j) r5
            · rw [upd_ne (ne_of_none e hD)]
              exact s5 _ _ (sH b o e)
            · rw [List.getD_eq_getElem?_getD, List.getElem?_set, if_neg (by omega), ← List.getD_eq_getElem?_getD]
              exact eh
        · obtain ⟨as, y4, y7, rfl, eD, rR, sH, eh⟩ := hP
          have gh := RX.at rR (show i < (bst L1 i last (n - (i + 1))).length by rw [bst_len]; omega)
          rw [bst_get (by omega), if_neg (by omega), eh] at gh
          have B2 := B1.step hi' pne
          have ef : bst L1 i last (n - (i + 1)) = bst L1 i last n := bst_full (by omega) (by omega)
          rw [ef] at rR
          have lL0 : L.length = n := lL
          refine ⟨_, rfl, _, rfl, hd, _, _, .int (co (L1.getD i []) i), rfl, rfl, SqL.of gh.2, at_of (show (0 : Int) + (i : Int) = (i : Nat) by omega) (get_int (by rw [lr1 i hi']; exact hi')), ?_⟩
          refine ⟨as, bst L1 i last n, s2', _, _, _, _, _, rfl, eD, rR, B2, ?_, hs2, sH⟩
          rw [lL0] at eb
          rw [show n - (i + 1) = r by omega]
          exact eb
    · obtain ⟨as, L, s, last, y4, y5, y6, y7, rfl, eD, rR, B, eb, s1', sH⟩ := hP
      rw [Int.toNat_natCast, Nat.sub_self] at eb
      refine ⟨_, rfl, _, rfl, _, _, rfl, rfl, ?_, ?_⟩
      · have hb := ok.det
        rw [← (show s * last = bdet L0 from eb), Int.natAbs_mul, s1', Nat.one_mul] at hb
        exact sm_cm ok.bd (Nat.le_trans (by rw [s1']; exact Nat.pow_pos (Nat.mul_pos n1 ok.M1)) (Nat.le_refl _)) hb
      · have e : s * last = bdet L0 := eb
        show Q (V.int (s * last)) H'
        rw [e]
        exact q H' sH
end
end K77

set_option Elab.async false
set_option linter.all false
set_option maxRecDepth 100000
set_option maxHeartbeats 4000000
set_option exponentiation.threshold 10000
/-! the law's determinant -/
namespace K77
open PySem PySem.Spec PyProof.Rows L2 StX RZ MyR SlX OwnR OwnF EnumT SeqE GxR GenNx FDivQ LA
theorem joinS {G : Prop} {R : Int → Hp → Prop} (C : Int → Hp → Prop) (main : (∀ s H, C s H → R s H) → G) (rest : ∀ s H, C s H → R s H) : G := main rest
theorem lswA_comm {as : List Addr} {t h : Nat} (ne : h ≠ t) : (as.set h (as.getD t 0)).set t (as.getD h 0) = lswA as t h := by
  unfold lswA
  exact List.set_comm _ _ ne
section
variable {P : Program} {w : World} {K : PySem.W.Frag} {mg : Str → Option Value} {base : Heap} {Ps : List Addr}
def spLDet : Sp := fun vs H Q _ => ∃ (t : Addr) (as : List Addr) (L : List (List Int)) (n M : Nat), vs = [.ref t] ∧ H t = some (.tup (as.map V.ref)) ∧ RT H as L ∧ DetOk n M L ∧ ∀ H', Same H H' → Q (.int (bdet L)) H'
theorem ok_law_det_of (T : Facts K mg) : FnOk P w K mg base CX0 1 T.f_law_det_of T.fd_law_det_of ["_law_rows"] spLDet := by
  refine T.F_law_det_of.ok sc_law_det_of (fun vs H Q E h => ?_) (fun cdv A outer s0 H vs Q E hr h => ?_)
  · obtain ⟨t, as, L, n, M, rfl, _⟩ := h
    rfl
  · obtain ⟨t, as0, L0, n, M, rfl, ht, hR0, ok, q⟩ := h
    refine ⟨_, (PSs.nox (pss_cons (ps_asg (pe_tup (pa_cons (pe_lc (own := [("_law_row", 4)]) (g := (gName 4)) (tt := tYes) (by rfl) sc_law_det_of.nd (pi_tup (pv 0)) (blkOk_by (N := N_law_det_of) (sc := defScope s_law_det_of) (by decide +kernel)) (fun _ _ _ _ _ => (pg_name (i := 4) sc_law_det_of.nd rfl (.inl rfl))) (fun _ _ _ _ _ => pts_nil) (fun _ _ _ _ _ => (pe_callTy (ListOf.call_list_ofK (by rfl) : CallR _ (.type "list") (ListOf.rListOf K)) (by rfl) T.z_list (by decide +kernel) (pa_cons (pv 4) pa_nil)))) (pa_cons pe_int (pa_cons pe_int pa_nil)))) (pg_tup (by rfl) (pgs_cons (pg_name (i := 1) sc_law_det_of.nd rfl (.inr rfl)) (pgs_cons (pg_name (i := 2) sc_law_det_of.nd rfl (.inl rfl)) (pgs_cons (pg_name (i := 3) sc_law_det_of.nd rfl (.inr rfl)) pgs_nil)))))
    (pss_cons (ps_for PassesOwn.never (by rfl) (pi_range1 (by rfl) T.z_range (pa_cons (pe_callB call_len_seq (by rfl) T.z_len (by decide +kernel) (pa_cons (pv 1) pa_nil)) pa_nil)) (pg_name (i := 5) sc_law_det_of.nd rfl (.inr rfl))
      (pss_cons (ps_setLc (i := 6) (own := [("_law_at", 7)]) (g := (gName 7)) rfl sc_law_det_of.nd rfl rfl (sw_true rfl rfl rfl (by decide +kernel)) (pi_range2 (by rfl) T.z_range (pa_cons (pv 5) (pa_cons (pe_callB call_len_seq (by rfl) T.z_len (by decide +kernel) (pa_cons (pv 1) pa_nil)) pa_nil))) (blkOk_by (N := N_law_det_of) (sc := defScope s_law_det_of) (by decide +kernel)) (fun _ _ _ _ _ => (pg_name (i := 7) sc_law_det_of.nd rfl (.inl rfl))) (fun _ _ _ _ _ => (pts_one (pt_cmpR op_ne (pe_ix (ix_list : IxR _ (rIxL K)) (pe_ix (ix_list : IxR _ (rIxL K)) (pv 1) (pv 7) (fun _ _ => rfl)) (pv 5) (fun _ _ => rfl)) pe_int (nomark _)))) (fun _ _ _ _ _ => (pv 7)))
      (pss_cons (ps_if (pt_cmpR (op_eqD (hu64 hr)) (pv 6) (pe_lst pa_nil) (nomark _))
        (pss_one (ps_ret pe_int))
        pss_nil)
      (pss_cons (ps_set (i := 7) sc_law_det_of.nd rfl (.inl rfl) (pe_ix ix_list (pv 6) pe_int (fun _ _ => rfl)))
      (pss_cons (ps_if (pt_cmpR op_ne (pv 7) (pv 5) (nomark _))
        (pss_cons (ps_asg (pe_tup (pa_cons (pe_ix ix_list (pv 1) (pv 5) (fun _ _ => rfl)) (pa_cons (pe_ix ix_list (pv 1) (pv 7) (fun _ _ => rfl)) pa_nil))) (pg_tup (by rfl) (pgs_cons (pg_sub (pv 1) (pv 7) set_list) (pgs_cons (pg_sub (pv 1) (pv 5) set_list) pgs_nil))))
        (pss_one (ps_set (i := 2) sc_law_det_of.nd rfl (.inl rfl) (pe_op op_sub pe_int (pv 2)))))
        pss_nil)
      (pss_cons (ps_set (i := 8) sc_law_det_of.nd rfl (.inl rfl) (pe_ix ix_list (pv 1) (pv 5) (fun _ _ => rfl)))
      (pss_cons (ps_for PassesOwn.never (by rfl) (pi_range2 (by rfl) T.z_range (pa_cons (pe_op op_add (pv 5) pe_int) (pa_cons (pe_callB call_len_seq (by rfl) T.z_len (by decide +kernel) (pa_cons (pv 1) pa_nil)) pa_nil))) (pg_name (i := 9) sc_law_det_of.nd rfl (.inl rfl))
        (pss_cons (ps_asg (pe_tup (pa_cons (pe_ix ix_list (pv 1) (pv 9) (fun _ _ => rfl)) (pa_cons (pe_ix ix_list (pv 8) (pv 5) (fun _ _ => rfl)) pa_nil))) (pg_tup (by rfl) (pgs_cons (pg_name (i := 4) sc_law_det_of.nd rfl (.inl rfl)) (pgs_cons (pg_name (i := 10) sc_law_det_of.nd rfl (.inr rfl)) pgs_nil))))
        (pss_cons (ps_set (i := 11) sc_law_det_of.nd rfl (.inr rfl) (pe_ix ix_list (pv 4) (pv 5) (fun _ _ => rfl)))
        (pss_one (ps_asg (pe_lc (own := [("_law_entry", 12), ("_law_taken", 13)]) (g := (gTup K 2 (gCons (gName 12) (gCons (gName 13) gNil)))) (tt := tYes) (by rfl) sc_law_det_of.nd (pi_zipA (by rfl) T.z_zip (pa_cons (pv 4) (pa_cons (pv 8) pa_nil))) (blkOk_by (N := N_law_det_of) (sc := defScope s_law_det_of) (by decide +kernel)) (fun _ _ _ _ _ => (pg_tup (by rfl) (pgs_cons (pg_name (i := 12) sc_law_det_of.nd rfl (.inl rfl)) (pgs_cons (pg_name (i := 13) sc_law_det_of.nd rfl (.inl rfl)) pgs_nil)))) (fun _ _ _ _ _ => pts_nil) (fun _ _ _ _ _ => (pe_op FDivQ.op_fdivQ (pe_op op_sub (pe_op op_mulW (pv 12) (pv 10)) (pe_op op_mulW (pv 11) (pv 13))) (pv 3)))) (pg_sub (pv 1) (pv 9) set_list))))))
      (pss_one (ps_set (i := 3) sc_law_det_of.nd rfl (.inr rfl) (pe_ix ix_list (pv 8) (pv 5) (fun _ _ => rfl)))))))))))
    (pss_one (ps_ret (pe_op op_mulW (pv 2) (pv 3))))))), ?_⟩
    have ln := ok.ln
    have n1 := ok.n1
    have n20 := ok.n20
    have la0 := RX.len hR0
    refine ⟨_, rfl, t, rfl, ⟨_, SqT.of ht⟩, fun D hD => ?_⟩
    refine lc_tup (xs := as0.map V.ref) (fun j H' => Same H H' ∧ ∃ bs : List Addr, H' D = some (.lst (bs.map V.ref)) ∧ RR H' bs (L0.take j)) ⟨same_upd0 hD, [], upd_same, True.intro⟩ (fun j H' _ hP => SqT.of (hP.1 _ _ ht)) (fun j x H' hx hP => ?_) (fun H1 hP => ?_)
    · obtain ⟨s1, bs, e1, r1⟩ := hP
      rw [List.getElem?_map] at hx
      obtain ⟨a, ha, rfl⟩ := Option.map_eq_some_iff.mp hx
      have hj : j < L0.length := by
        rw [← la0]
        exact (List.getElem?_eq_some_iff.mp ha).1
      obtain ⟨a', r, e2, e3, k⟩ := RX.get hR0 hj
      rw [ha] at e2
      cases e2
      have lb := RX.len r1
      rw [List.length_take] at lb
      refine ⟨rfl, _, rfl, a, _, rfl, .inr (SqT.of (s1 _ _ k)), fun p np => gen_upd H' p (ls r) np fun H2 s2 e4 => ?_⟩
      have rne : r ≠ [] := fun z => by
        have h1 := ok.lr r (List.mem_of_getElem? e3)
        rw [z] at h1
        have : (0 : Nat) = n := h1
        omega
      have e1' := s2 _ _ e1
      refine ⟨_, e1', ?_, fun b o e => ?_, bs ++ [p], ?_, ?_⟩
      · rw [List.length_map]
        exact small1000 (by omega)
      · rw [upd_ne (ne_of_none e hD)]
        exact s2 _ _ (s1 _ _ e)
      · rw [upd_same, List.map_append]
        rfl
      · rw [List.take_add_one, e3]
        have keep : ∀ {b : Addr} {r : List Int}, r ≠ [] → H2 b = some (ls r) → upd H2 D (.lst (bs.map V.ref ++ [V.ref p])) b = some (ls r) := fun {b r} hr e => by
          rw [upd_ne (row_ne2 e e1' hr)]
          exact e
        refine RX.app (bs := [p]) (ss := [r]) ⟨keep rne e4, True.intro⟩ ?_
        have go : ∀ {as : List Addr} {rs : List (List Int)}, (∀ r ∈ rs, r ≠ []) → RX (fun a r => H' a = some (ls r)) as rs → RX (fun a r => upd H2 D (.lst (bs.map V.ref ++ [V.ref p])) a = some (ls r)) as rs := fun {as rs} hn h => by
          induction rs generalizing as with
          | nil => cases as with
            | nil => exact True.intro
            | cons _ _ => exact h.elim
          | cons x xs ih => cases as with
            | nil => exact h.elim
            | cons y ys => exact ⟨keep (hn x (.head _)) (s2 _ _ h.1), ih (fun r hr => hn r (.tail _ hr)) h.2⟩
        exact go (fun r hr z => by
          have h1 := ok.lr r (List.mem_of_mem_take hr)
          rw [z] at h1
          have : (0 : Nat) = n := h1
          omega) r1
    obtain ⟨s1, bs, e1, r1⟩ := hP
    rw [List.length_map, la0, List.take_length] at r1
    have lb := RX.len r1
    refine ⟨sz3, fun p0 n0 => gen_upd H1 p0 _ n0 fun H2 s2 e2 => ⟨p0, _, rfl, SqT.of e2, rfl, _, _, rfl, _, _, rfl, _, _, rfl, rfl, ?_⟩⟩
    refine ⟨_, rfl, D, _, rfl, .inl (SqL.of (s2 _ _ e1)), n, ?_, by omega, by omega, ?_⟩
    · show [V.int _] = _
      rw [List.length_map, lb, ln]
    refine for_range (n := (n : Int).toNat) (fun i σ H' => ∃ (as : List Addr) (L : List (List Int)) (s last : Int) (y4 y5 y6 y7 y8 y9 y10 y11 : Option V), σ = [some (.ref t), some (.ref D), some (.int s), some (.int last), y4, y5, y6, y7, y8, y9, y10, y11, none, none] ∧ H' D = some (.lst (as.map V.ref)) ∧ RR H' as L ∧ BS n i M L last ∧ bgo (n - i) i L s last = bdet L0 ∧ s.natAbs = 1 ∧ Same H H') ⟨bs, L0, 1, 1, none, none, none, none, none, none, none, none, rfl, s2 _ _ e1, r1.same s2, BS.init ln ok.lr ok.hM, by unfold bdet; rw [ln]; rfl, rfl, s1.trans s2⟩ (fun i σ H' hi hP => ?_) (fun σ H' hP => ?_)
    · obtain ⟨as, L, s, last, y4, y5, y6, y7, y8, y9, y10, y11, rfl, eD, rR, B, eb, s1', sH⟩ := hP
      have hi' : i < n := by omega
      have lL := B.ln
      have la := RX.len rR
      have asne : as ≠ [] := fun z => by
        rw [z] at la
        have : (0 : Nat) = L.length := la
        omega
      obtain ⟨r, er⟩ : ∃ r, n - i = r + 1 := ⟨n - i - 1, by omega⟩
      refine ⟨_, rfl, _, rfl, D, _, rfl, .inl (SqL.of eD), i, (n : Nat), ?_, by omega, fun E1 hE => ?_⟩
      · show [V.int (0 + (i : Int)), V.int _] = _
        rw [Int.zero_add, List.length_map, la, lL]
      rw [show (((n : Nat) : Int) - (i : Int)).toNat = L.length - i by omega]
      refine lc_range (n := L.length - i) (fun j H5 => Same H' H5 ∧ H5 E1 = some (ls ((((List.range j).map (i + ·)).filter fun k => co (L.getD k []) i != 0).map fun (k : Nat) => (k : Int)))) ⟨same_upd0 hE, upd_same⟩ (fun j H5 hj hP => ?_) (fun H5 hP => ?_)
      · obtain ⟨s5, e5⟩ := hP
        obtain ⟨g1, g2⟩ := RX.at rR (show i + j < L.length by omega)
        have hlr := B.lr (i + j) (by omega)
        refine ⟨rfl, _, rfl, _, rfl, D, _, _, _, rfl, rfl, SqL.of (s5 _ _ eD), at_of (show (i : Int) + (j : Int) = ((i + j : Nat) : Int) by omega) g1, _, rfl, as.getD (i + j) 0, _, _, _, rfl, rfl, SqL.of (s5 _ _ g2), at_of (show (0 : Int) + (i : Int) = (i : Nat) by omega) (get_int (by omega)), rfl, _, rfl, ?_⟩
        have ef : ((List.range (j + 1)).map (i + ·)).filter (fun k => co (L.getD k []) i != 0) = ((List.range j).map (i + ·)).filter (fun k => co (L.getD k []) i != 0) ++ if co (L.getD (i + j) []) i = 0 then [] else [i + j] := by
          rw [List.range_succ, List.map_append, List.filter_append]
          congr 1
          show List.filter _ [i + j] = _
          by_cases c : co (L.getD (i + j) []) i = 0
          · rw [if_pos c, List.filter_cons_of_neg (by simpa using c)]
            rfl
          · rw [if_neg c, List.filter_cons_of_pos (by simpa using c)]
            rfl
        rw [ef]
        by_cases c : co (L.getD (i + j) []) i = 0
        · rw [c, if_pos rfl, List.append_nil]
          exact iteF ⟨s5, e5⟩
        · rw [if_neg c, decide_eq_false fun e => c (V.int.inj e)]
          refine iteT ⟨_, rfl, _, e5, ?_, fun b o e => ?_, ?_⟩
          · rw [List.length_map, List.length_map]
            have h1 := List.length_filter_le (fun k => co (L.getD k []) i != 0) ((List.range j).map (i + ·))
            rw [List.length_map, List.length_range] at h1
            exact small1000 (by omega)
          · rw [upd_ne (ne_of_none e hE)]
            exact s5 _ _ e
          · rw [upd_same, List.map_append]
            show _ = some (HO.lst (List.map V.int (_ ++ _)))
            rw [List.map_append]
            show some (HO.lst (_ ++ [V.int ((i : Int) + (j : Int))])) = some (HO.lst (_ ++ [V.int ((i + j : Nat) : Int)]))
            rw [show (i : Int) + (j : Int) = ((i + j : Nat) : Int) by omega]
      · obtain ⟨s5, e5⟩ := hP
        have e5' : H5 E1 = some (ls ((hdt L i).map fun (k : Nat) => (k : Int))) := e5
        refine ⟨_, rfl, sz0, fun p1 n1 => gen_upd H5 p1 (ls []) n1 fun H6 s6 e6 => eq_lints (ys := []) (SqL.of (s6 _ _ e5')) (SqL.of e6) ⟨_, rfl, ?_⟩⟩
        have s56 := s5.trans s6
        cases hh : hdt L i with
        | nil =>
          rw [decide_eq_true (show ([] : List Nat).map (fun (k : Nat) => (k : Int)) = [] from rfl)]
          rw [er, bgo_nil hh] at eb
          have fin := q H6 (sH.trans s56)
          rw [← eb] at fin
          exact iteT fin
        | cons h l =>
          rw [decide_eq_false (show ¬ (h :: l).map (fun (k : Nat) => (k : Int)) = [] by simp)]
          obtain ⟨⟨h1, h2⟩, h3⟩ := mem_hdt.mp (show h ∈ hdt L i by rw [hh]; exact .head _)
          rw [hh] at e5'
          have e7 := s6 _ _ e5'
          have eD6 := s56 _ _ eD
          have rR6 := rR.same s56
          have sH6 := sH.trans s56
          have iL : i < L.length := by omega
          have B1 := B.swap h1 (show h < n by omega)
          have pv := piv iL h2
          rw [er, bgo_cons hh] at eb
          have pne : co ((lsw L i h).getD i []) i ≠ 0 := by rw [pv]; exact h3
          refine iteF ⟨_, rfl, E1, _, 0, .int (h : Nat), rfl, rfl, SqL.of e7, atI_nat (j := 0) rfl, ?_⟩
          apply joinS fun s2 H7 => s2 = (if h = i then s else -s) ∧ H7 D = some (.lst ((lswA as i h).map V.ref)) ∧ RR H7 (lswA as i h) (lsw L i h) ∧ Same H H7
          · intro rest
            refine ⟨_, rfl, _, rfl, rfl, _, rfl, ite2 ?_ ?_⟩
            rotate_left
            · intro c
              have hi0 : h = i := by
                refine Classical.byContradiction fun n => c ?_
                rw [decide_eq_false (fun e => n (by have := V.int.inj e; omega))]
                rfl
              have ea : lswA as i h = as := by
                rw [hi0]
                unfold lswA
                refine List.ext_getElem (by rw [List.length_set, List.length_set]) fun k k1 k2 => ?_
                rw [List.getElem_set]
                by_cases d : i = k
                · subst d
                  rw [if_pos rfl, List.getD_eq_getElem?_getD, List.getElem?_eq_getElem k2]
                  rfl
                · rw [if_neg d, List.getElem_set, if_neg d]
              have el : lsw L i h = L := by
                rw [hi0]
                refine list_ext (lsw_len ..) fun k hk => ?_
                rw [lsw_get iL iL]
                by_cases d : k = i
                · rw [if_pos d, d]
                · rw [if_neg d, if_neg d]
              have facts : s = (if h = i then s else -s) ∧ H6 D = some (.lst ((lswA as i h).map V.ref)) ∧ RR H6 (lswA as i h) (lsw L i h) ∧ Same H H6 := ⟨by rw [if_pos hi0], by rw [ea]; exact eD6, by rw [ea, el]; exact rR6, sH6⟩
              dsimp only [tNext]
              generalize hs9 : s = s9
              generalize hH9 : H6 = H9
              exact rest s9 H9 (by rw [← hs9, ← hH9]; exact facts)
            · intro c
              have hi0 : h ≠ i := fun z => by
                rw [z, decide_eq_true (show V.int ((i : Nat) : Int) = V.int (0 + (i : Int)) by rw [Int.zero_add])] at c
                cases c
              refine ⟨_, rfl, _, rfl, D, _, _, _, rfl, rfl, SqL.of eD6, at_of (show (0 : Int) + (i : Int) = (i : Nat) by omega) (RX.at rR6 iL).1, _, rfl, _, rfl, D, _, _, _, rfl, rfl, SqL.of eD6, atI_nat (RX.at rR6 h2).1, sz2, fun p2 n2 => gen_upd H6 p2 _ n2 fun H7 s7 e8 => ?_⟩
              have eD7 := s7 _ _ eD6
              refine ⟨p2, _, rfl, SqT.of e8, rfl, _, _, rfl, _, rfl, _, rfl, D, _, _, h, rfl, rfl, eD7, ix_at rfl (by rw [List.length_map]; omega), _, _, rfl, _, rfl, _, rfl, D, _, _, i, rfl, rfl, upd_same, ix_at (show (0 : Int) + (i : Int) = (i : Nat) by omega) (by rw [List.length_set, List.length_map]; omega), rfl, ?_⟩
              rw [upd_upd]
              have e5a : ((as.map V.ref).set h (V.ref (as.getD i 0))).set i (V.ref (as.getD h 0)) = (lswA as i h).map V.ref := by
                rw [← lswA_comm hi0, List.map_set, List.map_set]
              rw [e5a]
              refine ⟨_, rfl, _, _, rfl, rfl, ?_⟩
              have facts : 0 - s = (if h = i then s else -s) ∧ upd H7 D (.lst ((lswA as i h).map V.ref)) D = some (.lst ((lswA as i h).map V.ref)) ∧ RR (upd H7 D (.lst ((lswA as i h).map V.ref))) (lswA as i h) (lsw L i h) ∧ Same H (upd H7 D (.lst ((lswA as i h).map V.ref))) := ⟨by rw [if_neg hi0]; omega, upd_same, RX.lsw (rr_upd (rR6.same s7) eD7 asne) iL h2, fun b o e => by
                rw [upd_ne (ne_of_none e hD)]
                exact s7 _ _ (sH6 b o e)⟩
              exact rest (0 - s) _ facts
          · rintro s2' H7 ⟨es, eN, rN, sH3⟩
            have hs2 : s2'.natAbs = 1 := by rw [es]; split <;> omega
            rw [← es] at eb
            have lL1 := B1.ln
            have lA := RX.len rN
            have lr1 := B1.lr
            have lL0 : L.length = n := lL
            rw [lL0] at eb
            generalize lsw L i h = L1 at *
            generalize lswA as i h = as1 at *
            clear es hh h1 h2 h3 pv eD6 rR6 eD rR B asne la sH6 s56 s5 s6 e5 e5' e6 e7 sH
            have hd0 := RX.at rN (show i < L1.length by omega)
            refine ⟨_, rfl, _, rfl, D, _, _, _, rfl, rfl, SqL.of eN, at_of (show (0 : Int) + (i : Int) = (i : Nat) by omega) hd0.1, ?_⟩
            obtain ⟨hd, ehd⟩ : ∃ hd, hd = as1.getD i 0 := ⟨_, rfl⟩
            rw [← ehd] at hd0 ⊢
            refine ⟨_, rfl, _, _, rfl, rfl, _, rfl, D, _, rfl, .inl (SqL.of eN), (i + 1 : Nat), (n : Nat), ?_, by omega, ?_⟩
            · show [V.int (0 + (i : Int) + 1), V.int _] = _
              rw [List.length_map, lA, lL1, show 0 + (i : Int) + 1 = ((i + 1 : Nat) : Int) by omega]
            rw [show (((n : Nat) : Int) - ((i + 1 : Nat) : Int)).toNat = n - (i + 1) by omega]
            refine for_range (n := n - (i + 1)) (fun j σ H4 => ∃ (as : List Addr) (y4 y9 y10 y11 : Option V), σ = [some (.ref t), some (.ref D), some (.int s2'), some (.int last), y4, some (.int (0 + (i : Int))), some (.ref E1), some (.int (h : Nat)), some (.ref hd), y9, y10, y11, none, none] ∧ H4 D = some (.lst (as.map V.ref)) ∧ RR H4 as (bst L1 i last j) ∧ Same H H4 ∧ as.getD i 0 = hd) ⟨as1, y4, y9, y10, y11, rfl, eN, by rw [bst_zero]; exact rN, sH3, ehd.symm⟩ (fun j σ H4 hj hP => ?_) (fun σ H4 hP => ?_)
            · obtain ⟨as, y4, y9, y10, y11, rfl, eD, rR, sH, eh⟩ := hP
              have lb := bst_len L1 i last j
              have la := RX.len rR
              rw [lb] at la
              have asne : as ≠ [] := fun z => by
                rw [z] at la
                have : (0 : Nat) = L1.length := la
                omega
              have ga := RX.at rR (show i + 1 + j < (bst L1 i last j).length by omega)
              have gh := RX.at rR (show i < (bst L1 i last j).length by omega)
              rw [bst_get (by omega), if_neg (by omega)] at ga gh
              rw [eh] at gh
              obtain ⟨ar, ear⟩ : ∃ ar, ar = as.getD (i + 1 + j) 0 := ⟨_, rfl⟩
              rw [← ear] at ga
              have lr0 := lr1 (i + 1 + j) (by omega)
              have lh0 := lr1 i hi'
              have b1 := B1.bd ok.M1 (show i ≤ i + 1 + j by omega) (by omega)
              have b2 := B1.bd ok.M1 (Nat.le_refl i) hi'
              have bdv := B1.div ok.M1 ok.bd hi' pne (show i < i + 1 + j by omega) (by omega)
              have ebn : bnew (L1.getD (i + 1 + j) []) (L1.getD i []) i last = tb n fun k => (co (L1.getD (i + 1 + j) []) k * co (L1.getD i []) i - co (L1.getD (i + 1 + j) []) i * co (L1.getD i []) k).fdiv last := by
                unfold bnew
                rw [lh0]
              have ebs := bst_succ (L := L1) (t := i) (last := last) (j := j) (by omega)
              rw [ebn] at ebs
              generalize L1.getD (i + 1 + j) [] = r0 at *
              generalize L1.getD i [] = h0 at *
              refine ⟨_, rfl, _, rfl, D, _, _, _, rfl, rfl, SqL.of eD, at_of (show ((i + 1 : Nat) : Int) + (j : Int) = ((i + 1 + j : Nat) : Int) by omega) ga.1, _, rfl, _, rfl, hd, _, _, .int (co h0 i), rfl, rfl, SqL.of gh.2, at_of (show (0 : Int) + (i : Int) = (i : Nat) by omega) (get_int (by omega)), sz2, fun p3 n3 => gen_upd H4 p3 _ n3 fun H5 s5 e9 => ⟨p3, _, rfl, SqT.of e9, rfl, _, _, rfl, _, _, rfl, rfl, ?_⟩⟩
              have gaH := s5 _ _ ga.2
              have ghH := s5 _ _ gh.2
              refine ⟨_, rfl, _, rfl, ar, _, _, .int (co r0 i), rfl, rfl, SqL.of gaH, at_of (show (0 : Int) + (i : Int) = (i : Nat) by omega) (get_int (by omega)), ?_⟩
              refine ⟨_, rfl, _, rfl, ar, hd, _, _, rfl, .inl ⟨SqL.of gaH, SqL.of ghH, fun D2 hD2 => ?_⟩⟩
              refine lc_zipL (xs := r0.map V.int) (ys := h0.map V.int) (by rw [List.length_map, List.length_map, lr0, lh0]) (fun k H6 => Same H5 H6 ∧ H6 D2 = some (.lst (tab k fun k => (co r0 k * co h0 i - co r0 i * co h0 k).fdiv last))) ⟨same_upd0 hD2, upd_same⟩ (fun k H6 _ hP => ⟨SqL.of (hP.1 _ _ gaH), SqL.of (hP.1 _ _ ghH)⟩) (fun k x y A1 H6 hx hy hP hA => ?_) (fun H6 hP => ?_)
              · obtain ⟨s6, d5⟩ := hP
                obtain ⟨hk, rfl⟩ := int_get hx
                obtain ⟨_, rfl⟩ := int_get hy
                have sA := same_upd0 (o := .tup [.int (co r0 k), .int (co h0 k)]) hA
                refine ⟨A1, _, rfl, SqT.of upd_same, rfl, _, _, rfl, _, _, rfl, rfl, rfl, _, rfl, _, rfl, _, _, rfl, rfl, sm_cm ok.bd (b1 k) (b2 i), _, rfl, _, rfl, _, _, rfl, rfl, sm_cm ok.bd (b1 i) (b2 k), _, _, rfl, rfl, _, rfl, _, _, rfl, rfl, bdv k, _, sA _ _ d5, ?_, fun b o e => ?_, ?_⟩
                · rw [tab_len]
                  exact small1000 (by omega)
                · rw [upd_ne (ne_of_none e hD2)]
                  exact sA _ _ (s6 _ _ e)
                · rw [upd_same, ← tab_snoc]
              · obtain ⟨s6, d5⟩ := hP
                rw [List.length_map, tab_tb, lr0] at d5
                have s46 := s5.trans s6
                have eD5 := s46 _ _ eD
                have dne : D2 ≠ D := fun z => by rw [z, s5 _ _ eD] at hD2; cases hD2
                have r5 := rr_upd (o := .lst ((as.set (i + 1 + j) D2).map V.ref)) (rR.same s46) eD5 asne
                refine ⟨_, rfl, _, rfl, D, _, _, i + 1 + j, rfl, rfl, eD5, ix_at (show ((i + 1 : Nat) : Int) + (j : Int) = ((i + 1 + j : Nat) : Int) by omega) (by rw [List.length_map]; omega), ?_⟩
                rw [← List.map_set]
                refine ⟨as.set (i + 1 + j) D2, _, _, _, _, rfl, upd_same, ?_, fun b o e => ?_, ?_⟩
                · rw [ebs]
                  exact RX.setA (by rw [upd_ne dne]; exact d5) (i + 1 + j) r5
                · rw [upd_ne (ne_of_none e hD)]
                  exact s46 _ _ (sH b o e)
                · rw [List.getD_eq_getElem?_getD, List.getElem?_set, if_neg (by omega), ← List.getD_eq_getElem?_getD]
                  exact eh
            · obtain ⟨as, y4, y9, y10, y11, rfl, eD, rR, sH, eh⟩ := hP
              have gh := RX.at rR (show i < (bst L1 i last (n - (i + 1))).length by rw [bst_len]; omega)
              rw [bst_get (by omega), if_neg (by omega), eh] at gh
              have B2 := B1.step hi' pne
              have ef : bst L1 i last (n - (i + 1)) = bst L1 i last n := bst_full (by omega) (by omega)
              rw [ef] at rR
              refine ⟨_, rfl, _, rfl, hd, _, _, .int (co (L1.getD i []) i), rfl, rfl, SqL.of gh.2, at_of (show (0 : Int) + (i : Int) = (i : Nat) by omega) (get_int (by rw [lr1 i hi']; exact hi')), ?_⟩
              refine ⟨as, bst L1 i last n, s2', _, _, _, _, _, _, _, _, _, rfl, eD, rR, B2, ?_, hs2, sH⟩
              rw [show n - (i + 1) = r by omega]
              exact eb
    · obtain ⟨as, L, s, last, y4, y5, y6, y7, y8, y9, y10, y11, rfl, eD, rR, B, eb, s1', sH⟩ := hP
      rw [Int.toNat_natCast, Nat.sub_self] at eb
      refine ⟨_, rfl, _, rfl, _, _, rfl, rfl, ?_, ?_⟩
      · have hb := ok.det
        rw [← (show s * last = bdet L0 from eb), Int.natAbs_mul, s1', Nat.one_mul] at hb
        exact sm_cm ok.bd (Nat.le_trans (by rw [s1']; exact Nat.pow_pos (Nat.mul_pos n1 ok.M1)) (Nat.le_refl _)) hb
      · have e : s * last = bdet L0 := eb
        show Q (V.int (s * last)) H'
        rw [e]
        exact q H' sH
end
end K77

set_option Elab.async false
set_option linter.all false
set_option maxRecDepth 100000
set_option maxHeartbeats 4000000
set_option exponentiation.threshold 10000
/-! Sylvester tables, resultants -/
namespace K77
open PySem PySem.Spec PyProof.Rows L2 StX RZ MyR SlX OwnR OwnF EnumT SeqE GxR GenNx FDivQ LA
/-- a comprehension over range(n) that makes a list of each -/
theorem lc_rangeL {n : Nat} {f : Nat → List Int} {te : TE} {σ : _root_.L2.St} {k : Nat} {H1 : Hp} {D : Addr} {Qd : Hp → Prop} (hD : H1 D = none) (hl : n ≤ 100) (hf : ∀ i, i < n → f i ≠ [])
    (hw : ∀ x, wipe ((wipe σ [k]).set k (some x)) [k] = wipe σ [k])
    (hte : ∀ (i : Nat) (H2 : Hp) (Q : VK), i < n → Same H1 H2 → (∀ q H3, Same H2 H3 → H3 q = some (ls (f i)) → Q (.ref q) H3) → te ((wipe σ [k]).set k (some (.int (i : Nat)))) H2 Q)
    (hd : ∀ bs H6, Same H1 H6 → H6 D = some (.lst (bs.map V.ref)) → RR H6 bs ((List.range n).map f) → Qd H6) :
    ∃ W : Nat → Nat → Hp → Prop, (∃ m, W 0 m (upd H1 D (.lst []))) ∧ ∀ i m H, W i m H →
      ((Itr 0 n).stop i H ∧ Qd H) ∨ ((Itr 0 n).go i H ∧ ∃ Nx : Hp → Prop, (∀ H', Nx H' → ∃ m', m' < m ∧ W (i + 1) m' H') ∧ ∀ x H', (Itr 0 n).yld i H x H' → gName k x (wipe σ [k]) H' fun σ2 H2 => wipe σ2 [k] = wipe σ [k] ∧ tYes σ2 H2 fun b H3 =>
        if b = true then te σ2 H3 fun y H4 => ∃ acc, H4 D = some (.lst acc) ∧ acc.length < sizeLine ∧ Nx (upd H4 D (.lst (acc ++ [y]))) else Nx H3) := by
  refine lc_range (n := n) (fun j H' => j ≤ n ∧ ∃ bs, Same H1 H' ∧ H' D = some (.lst (bs.map V.ref)) ∧ bs.length = j ∧ RR H' bs ((List.range j).map f)) ⟨Nat.zero_le _, [], same_upd0 hD, upd_same, rfl, True.intro⟩ (fun j H' hj hP => ?_) (fun H' hP => ?_)
  · obtain ⟨jn, bs, s1, h1, h2, h3⟩ := hP
    rw [Int.zero_add]
    refine ⟨hw _, ?_⟩
    show te _ _ _
    refine hte j H' _ hj s1 fun q H3 s3 e4 => ⟨bs.map V.ref, s3 _ _ h1, ?_, hj, bs ++ [q], fun b o e => ?_, ?_, ?_, ?_⟩
    · rw [List.length_map, h2]
      exact small1000 (by omega)
    · rw [upd_ne (ne_of_none e hD)]
      exact s3 _ _ (s1 _ _ e)
    · rw [upd_same, List.map_append]
      rfl
    · rw [List.length_append, h2]
      rfl
    · rw [List.range_succ, List.map_append]
      have hD3 := s3 _ _ h1
      refine RX.snoc ((h3.same s3).updN fun a ha => ?_) ?_
      · obtain ⟨r, hr, e⟩ := RX.memA (h3.same s3) ha
        obtain ⟨i, hi, rfl⟩ := List.mem_map.mp hr
        exact row_ne2 e hD3 (hf i (by have := List.mem_range.mp hi; omega))
      · show upd H3 D _ q = _
        rw [upd_ne (row_ne2 e4 hD3 (hf j hj))]
        exact e4
  · obtain ⟨_, bs, s1, h1, h2, h3⟩ := hP
    exact hd bs H' s1 h1 h3
section
variable {P : Program} {w : World} {K : PySem.W.Frag} {mg : Str → Option Value} {base : Heap} {Ps : List Addr}
def spSylIn : Sp := fun vs H Q _ => ∃ (a b : Addr) (F G : List Int), vs = [.ref a, .ref b] ∧ H a = some (tp F) ∧ H b = some (tp G) ∧ 2 ≤ F.length ∧ 2 ≤ G.length ∧ F.length ≤ 20 ∧ G.length ≤ 20 ∧ ∀ p bs H', Same H H' → H' p = some (.lst (bs.map V.ref)) → RR H' bs (urows F G (F.length + G.length - 3)) → Q (.ref p) H'
theorem ok_sylvester_in (T : Facts K mg) : FnOk P w K mg base CX0 1 T.f_sylvester_in T.fd_sylvester_in ["one", "other"] spSylIn := by
  refine T.F_sylvester_in.ok sc_sylvester_in (fun vs H Q E h => ?_) (fun cdv A outer s H vs Q E hr h => ?_)
  · obtain ⟨a, b, F, G, rfl, _⟩ := h
    rfl
  · obtain ⟨a, b, F, G, rfl, ha, hb, f2, g2, f20, g20, q⟩ := h
    refine ⟨_, (PSs.nox (pss_cons (ps_asg (pe_tup (pa_cons (pe_op op_sub (pe_callB call_len_seq (by rfl) T.z_len (by decide +kernel) (pa_cons (pv 0) pa_nil)) pe_int) (pa_cons (pe_op op_sub (pe_callB call_len_seq (by rfl) T.z_len (by decide +kernel) (pa_cons (pv 1) pa_nil)) pe_int) pa_nil))) (pg_tup (by rfl) (pgs_cons (pg_name (i := 2) sc_sylvester_in.nd rfl (.inr rfl)) (pgs_cons (pg_name (i := 3) sc_sylvester_in.nd rfl (.inr rfl)) pgs_nil))))
    (pss_cons (ps_setLc (i := 4) (own := [("i", 5)]) (g := (gName 5)) (tt := tYes) rfl sc_sylvester_in.nd rfl rfl (sw_true rfl rfl rfl (by decide +kernel)) (pi_range1 (by rfl) T.z_range (pa_cons (pv 3) pa_nil)) (blkOk_by (N := N_sylvester_in) (sc := defScope s_sylvester_in) (by decide +kernel)) (fun _ _ _ _ _ => (pg_name (i := 5) sc_sylvester_in.nd rfl (.inl rfl))) (fun _ _ _ _ _ => pts_nil) (fun _ _ _ _ _ => (pe_op op_cat (pe_op op_cat (pe_op op_rep (pe_lst (pa_cons pe_int pa_nil)) (pv 5)) (pe_callTy (ListOf.call_list_ofK (by rfl) : CallR _ (.type "list") (ListOf.rListOf K)) (by rfl) T.z_list (by decide +kernel) (pa_cons (pv 0) pa_nil))) (pe_op op_rep (pe_lst (pa_cons pe_int pa_nil)) (pe_op op_sub (pe_op op_sub (pv 3) pe_int) (pv 5))))))
    (pss_one (ps_ret (pe_lst (pa_star (pv 4) (pa_star (pe_lc (own := [("i", 5)]) (g := (gName 5)) (tt := tYes) (by rfl) sc_sylvester_in.nd (pi_range1 (by rfl) T.z_range (pa_cons (pv 2) pa_nil)) (blkOk_by (N := N_sylvester_in) (sc := defScope s_sylvester_in) (by decide +kernel)) (fun _ _ _ _ _ => (pg_name (i := 5) sc_sylvester_in.nd rfl (.inl rfl))) (fun _ _ _ _ _ => pts_nil) (fun _ _ _ _ _ => (pe_op op_cat (pe_op op_cat (pe_op op_rep (pe_lst (pa_cons pe_int pa_nil)) (pv 5)) (pe_callTy (ListOf.call_list_ofK (by rfl) : CallR _ (.type "list") (ListOf.rListOf K)) (by rfl) T.z_list (by decide +kernel) (pa_cons (pv 1) pa_nil))) (pe_op op_rep (pe_lst (pa_cons pe_int pa_nil)) (pe_op op_sub (pe_op op_sub (pv 2) pe_int) (pv 5)))))) pa_nil)))))))), ?_⟩
    refine ⟨_, rfl, a, _, rfl, .inr (SqT.of ha), _, _, rfl, rfl, _, rfl, b, _, rfl, .inr (SqT.of hb), _, _, rfl, rfl, sz2, fun p0 n0 => gen_upd H p0 _ n0 fun H1 s1 e1 => ?_⟩
    refine ⟨p0, _, rfl, SqT.of e1, rfl, _, _, rfl, _, _, rfl, rfl, ?_⟩
    rw [List.length_map, List.length_map]
    have em : ∀ X : List Int, 2 ≤ X.length → (fun i j => V.int (i - j)) (X.length : Int) 1 = V.int ((X.length - 1 : Nat) : Int) := fun X hX => by
      show V.int _ = V.int _
      congr 1
      omega
    rw [em F f2, em G g2]
    obtain ⟨d, hd⟩ : ∃ d, d = F.length + G.length - 3 := ⟨_, rfl⟩
    have row : ∀ {n j : Nat} {X : List Int} {σ : _root_.L2.St} {u : Addr} {H2 : Hp} {iu ic ij : Nat} {Q2 : VK}, n ≤ 20 → 1 ≤ X.length → X.length ≤ 20 → j < n → n + X.length = d + 2 → σ[iu]? = some (some (.ref u)) → σ[ic]? = some (some (.int (n : Nat))) → σ[ij]? = some (some (.int (j : Nat))) → H2 u = some (tp X) →
        (∀ q H3, Same H2 H3 → H3 q = some (ls (List.replicate j 0 ++ X ++ List.replicate (d + 1 - X.length - j) 0)) → Q2 (.ref q) H3) →
        tOp rCat (tOp rCat (tOp rRep (tLst (tCons (tC (V.int 0)) tNil)) (tVar ij)) (tCB (ListOf.rListOf K) (tCons (tVar iu) tNil))) (tOp rRep (tLst (tCons (tC (V.int 0)) tNil)) (tOp (rI0 fun i j => V.int (i - j)) (tOp (rI0 fun i j => V.int (i - j)) (tVar ic) (tC (V.int 1))) (tVar ij))) σ H2 Q2 := fun {n j X σ u H2 iu ic ij Q2} hn hX1 hX hj hd2 h1 h2 h3 hu kq => by
      have rep : ∀ {p : Addr} {H : Hp} {z : Int} {m : Nat} {R : VK}, H p = some (ls [0]) → z = (m : Int) → m ≤ 100 → (∀ q H', Same H H' → H' q = some (ls (List.replicate m 0)) → R (.ref q) H') → rRep (.ref p) (.int z) H R := fun {p H z m R} hp hz hm k => by
        subst hz
        refine ⟨p, _, [V.int 0], rfl, rfl, hp, by omega, by omega, ?_, fun q nq => k q _ (same_upd0 nq) ?_⟩
        · exact Nat.le_trans (show [V.int 0].length * ((m : Nat) : Int).toNat ≤ 100 by rw [List.length_singleton]; omega) (by decide)
        · rw [upd_same, Int.toNat_natCast, List.flatten_replicate_singleton]
          show some (HO.lst _) = some (HO.lst (List.map V.int _))
          rw [List.map_replicate]
      have cat : ∀ {p q : Addr} {H : Hp} {xs ys : List Int} {R : VK}, H p = some (ls xs) → H q = some (ls ys) → xs.length + ys.length ≤ 100 → (∀ t H', Same H H' → H' t = some (ls (xs ++ ys)) → R (.ref t) H') → rCat (.ref p) (.ref q) H R := fun {p q H xs ys R} hp hq hl k => by
        refine ⟨p, q, _, _, rfl, rfl, hp, hq, ?_, fun t nt => k t _ (same_upd0 nt) ?_⟩
        · rw [List.length_map, List.length_map]
          exact Nat.le_trans hl (by decide)
        · rw [upd_same]
          show _ = some (HO.lst (List.map V.int _))
          rw [List.map_append]
      refine ⟨sz1, fun p0 n0 => gen_upd H2 p0 (ls [0]) n0 fun H3 s3 f3 => ⟨_, h3, rep f3 rfl (by omega) fun p1 H4 s4 f4 => ⟨_, h1, u, _, rfl, .inr (SqT.of (s4 _ _ (s3 _ _ hu))), fun px nx => gen_upd H4 px (ls X) nx fun H4' s4' f4' => cat (s4' _ _ f4) f4' (by rw [List.length_replicate]; omega) fun p2 H5 s5 f5 => ⟨sz1, fun p3 n3 => gen_upd H5 p3 (ls [0]) n3 fun H6 s6 f6 => ⟨_, h2, _, _, rfl, rfl, _, h3, _, _, rfl, rfl, rep f6 (m := d + 1 - X.length - j) (by omega) (by omega) fun p4 H7 s7 f7 => cat (s7 _ _ (s6 _ _ f5)) f7 (by rw [List.length_append, List.length_replicate, List.length_replicate]; omega) fun p5 H8 s8 f8 => kq p5 H8 (s3.trans (s4.trans (s4'.trans (s5.trans (s6.trans (s7.trans s8)))))) f8⟩⟩⟩⟩⟩
    have nel : ∀ {X : List Int} (i m : Nat), 1 ≤ X.length → List.replicate i 0 ++ X ++ List.replicate m 0 ≠ [] := fun {X} i m h z => by
      have := congrArg List.length z
      rw [List.length_append, List.length_append, List.length_replicate, List.length_replicate] at this
      have : i + X.length + m = 0 := this
      omega
    refine ⟨_, rfl, _, rfl, by omega, by omega, fun D hD => ?_⟩
    refine lc_rangeL (n := G.length - 1) (f := fun i => List.replicate i 0 ++ F ++ List.replicate (d + 1 - F.length - i) 0) hD (by omega) (fun i _ => nel _ _ (by omega)) (fun _ => rfl) (fun j H2 Q2 hj s2 kq => row (n := G.length - 1) (X := F) (by omega) (by omega) f20 hj (by omega) rfl rfl rfl (s2 _ _ (s1 _ _ ha)) kq) (fun bs H2 s2 d2 r2 => ?_)
    refine ⟨_, rfl, D, _, rfl, .inr (SqL.of d2), ?_⟩
    refine ⟨_, rfl, _, rfl, by omega, by omega, fun D2 hD2 => ?_⟩
    refine lc_rangeL (n := F.length - 1) (f := fun i => List.replicate i 0 ++ G ++ List.replicate (d + 1 - G.length - i) 0) hD2 (by omega) (fun i _ => nel _ _ (by omega)) (fun _ => rfl) (fun j H3 Q2 hj s3 kq => row (n := F.length - 1) (X := G) (by omega) (by omega) g20 hj (by omega) rfl rfl rfl (s3 _ _ (s2 _ _ (s1 _ _ hb))) kq) (fun cs H3 s3 d3 r3 => ?_)
    have lb := RX.len r2
    have lc := RX.len r3
    rw [List.length_map, List.length_range] at lb lc
    refine ⟨D2, _, rfl, .inr (SqL.of d3), ?_⟩
    dsimp only [tNil]
    rw [List.append_nil]
    refine ⟨?_, fun p4 n4 => gen_upd H3 p4 _ n4 fun H4 s4 e4 => q p4 (bs ++ cs) H4 (s1.trans (s2.trans (s3.trans s4))) ?_ ?_⟩
    · rw [List.length_append, List.length_map, List.length_map]
      exact Nat.le_trans (m := 100) (by omega) (by decide)
    · rw [e4, List.map_append]
    · unfold urows shf
      rw [← hd, show d + 2 - F.length = G.length - 1 by omega, show d + 2 - G.length = F.length - 1 by omega]
      exact RX.app (RX.imp (fun _ _ e => s4 _ _ e) r3) (RX.imp (fun _ _ e => s4 _ _ (s3 _ _ e)) r2)
def spResIn : Sp := fun vs H Q _ => ∃ (a b : Addr) (F G : List Int) (M : Nat), vs = [.ref a, .ref b] ∧ H a = some (tp F) ∧ H b = some (tp G) ∧ 2 ≤ F.length ∧ 2 ≤ G.length ∧ F.length ≤ 20 ∧ G.length ≤ 20 ∧ DetOk (F.length + G.length - 2) M (urows F G (F.length + G.length - 3)) ∧ ∀ H', Same H H' → Q (.int (Res F G)) H'
theorem res_bdet {F G : List Int} (f2 : 2 ≤ F.length) (g2 : 2 ≤ G.length) : bdet (urows F G (F.length + G.length - 3)) = Res F G := by
  unfold Res
  refine bdet_det (by rw [urows_len]; omega) fun r hr => ?_
  rw [urows_w r hr]
  omega
theorem ok_resultant_in (T : Facts K mg) : FnOk P w K mg base CX0 3 T.f_resultant_in T.fd_resultant_in ["one", "other"] spResIn := by
  have G_whole_determinant := ok_whole_determinant (P := P) (w := w) (base := base) T
  have G_sylvester_in := ok_sylvester_in (P := P) (w := w) (base := base) T
  refine T.F_resultant_in.ok sc_resultant_in (fun vs H Q E h => ?_) (fun cdv A outer s H vs Q E hr h => ?_)
  · obtain ⟨a, b, F, G, M, rfl, _⟩ := h
    rfl
  · obtain ⟨a, b, F, G, M, rfl, ha, hb, f2, g2, f20, g20, ok, q⟩ := h
    refine ⟨_, (PSs.nox (pss_one (ps_ret (pe_call G_whole_determinant hr (by rfl) T.g_whole_determinant T.F_whole_determinant.kp T.b_whole_determinant .nil pass0 (pa_cons (pe_call G_sylvester_in (hr.mono (by decide)) (by rfl) T.g_sylvester_in T.F_sylvester_in.kp T.b_sylvester_in .nil pass0 (pa_cons (pv 0) (pa_cons (pv 1) pa_nil))) pa_nil))))), ?_⟩
    refine ⟨_, rfl, _, rfl, a, b, F, G, rfl, ha, hb, f2, g2, f20, g20, fun p bs H1 s1 e1 r1 => ⟨p, bs, _, _, M, rfl, e1, r1, ok, fun H2 s2 => ?_⟩⟩
    rw [res_bdet f2 g2]
    exact q H2 (s1.trans s2)
def spReqSyl (C : Addr) : Sp := fun vs H Q _ => ∃ (a b : Addr) (F G : List Int), vs = [.ref a, .ref b] ∧ Fo C H a F ∧ Fo C H b G ∧ 2 ≤ F.length ∧ 2 ≤ G.length ∧ F.length + G.length ≤ 26 ∧ Q .non H
theorem ok_require_sylvester (T : Facts K mg) : FnOk P w K mg base CX0 3 T.f_require_sylvester T.fd_require_sylvester ["one", "other"] (spReqSyl T.C_Form) := by
  have G_require_two := ok_require_two (P := P) (w := w) (base := base) T
  have G_Form_degree := ok_Form_degree (P := P) (w := w) (base := base) T
  refine T.F_require_sylvester.ok sc_require_sylvester (fun vs H Q E h => ?_) (fun cdv A outer s H vs Q E hr h => ?_)
  · obtain ⟨a, b, F, G, rfl, _⟩ := h
    rfl
  · obtain ⟨a, b, F, G, rfl, fa, fb, f2, g2, fg, q⟩ := h
    refine ⟨_, (PSs.nox (pss_cons (ps_expr (pe_call G_require_two hr (by rfl) T.g_require_two T.F_require_two.kp T.b_require_two .nil pass0 (pa_cons (pv 0) (pa_cons (pv 1) pa_nil))))
    (pss_cons (ps_if (pw_or (pt_cmpR op_eq (pe_prp (pv 0) T.oc_Form T.pr_Form_degree G_Form_degree T.b_Form_degree (hr.mono (by decide))) pe_int (nomark _)) (pw_or1 (pt_cmpR op_eq (pe_prp (pv 1) T.oc_Form T.pr_Form_degree G_Form_degree T.b_Form_degree (hr.mono (by decide))) pe_int (nomark _)))).pt
      (pss_one ps_never)
      pss_nil)
    (pss_one (ps_if (pt_cmpR op_gt (pe_op op_add (pe_prp (pv 0) T.oc_Form T.pr_Form_degree G_Form_degree T.b_Form_degree (hr.mono (by decide))) (pe_prp (pv 1) T.oc_Form T.pr_Form_degree G_Form_degree T.b_Form_degree (hr.mono (by decide)))) (pe_glob (v := .int 24) (by rfl) T.c_MAX_SUM.choose_spec ⟨_, rfl⟩) (nomark _))
      (pss_one ps_never)
      pss_nil))))), ?_⟩
    refine ⟨_, rfl, _, rfl, a, b, F, G, rfl, fa, fb, _, rfl, prop_deg fa ⟨rfl, _, rfl, ?_⟩⟩
    rw [decide_eq_false (show ¬ V.int ((F.length : Int) - 1) = V.int 0 from fun e => by have := V.int.inj e; omega)]
    refine iteF ⟨_, rfl, prop_deg fb ⟨rfl, _, rfl, ?_⟩⟩
    rw [decide_eq_false (show ¬ V.int ((G.length : Int) - 1) = V.int 0 from fun e => by have := V.int.inj e; omega)]
    refine iteF ⟨_, rfl, prop_deg fa ⟨_, rfl, prop_deg fb ⟨_, _, rfl, rfl, _, _, rfl, rfl, _, rfl, ?_⟩⟩⟩
    rw [decide_eq_false (show ¬ (24 : Int) < (F.length : Int) - 1 + ((G.length : Int) - 1) by omega)]
    exact iteF q
def spRes (C : Addr) : Sp := fun vs H Q _ => ∃ (a b : Addr) (F G : List Int) (M : Nat), vs = [.ref a, .ref b] ∧ Fo C H a F ∧ Fo C H b G ∧ 2 ≤ F.length ∧ 2 ≤ G.length ∧ F.length ≤ 12 ∧ G.length ≤ 12 ∧ DetOk (F.length + G.length - 2) M (urows F G (F.length + G.length - 3)) ∧ ∀ H', Same H H' → Q (.int (Res F G)) H'
theorem ok_resultant (T : Facts K mg) : FnOk P w K mg base CX0 4 T.f_resultant T.fd_resultant ["one", "other"] (spRes T.C_Form) := by
  have G_require_sylvester := ok_require_sylvester (P := P) (w := w) (base := base) T
  have G_resultant_in := ok_resultant_in (P := P) (w := w) (base := base) T
  have G_Form_entries : FnOk P w K mg base CX0 1 T.f_Form_entries T.fd_Form_entries ["self"] (spEnt T.C_Form) := ok_Form_entries T
  refine T.F_resultant.ok sc_resultant (fun vs H Q E h => ?_) (fun cdv A outer s H vs Q E hr h => ?_)
  · obtain ⟨a, b, F, G, M, rfl, _⟩ := h
    rfl
  · obtain ⟨a, b, F, G, M, rfl, fa, fb, f2, g2, f12, g12, ok, q⟩ := h
    refine ⟨_, (PSs.nox (pss_cons (ps_expr (pe_call G_require_sylvester hr (by rfl) T.g_require_sylvester T.F_require_sylvester.kp T.b_require_sylvester .nil pass0 (pa_cons (pv 0) (pa_cons (pv 1) pa_nil))))
    (pss_one (ps_ret (pe_call G_resultant_in hr (by rfl) T.g_resultant_in T.F_resultant_in.kp T.b_resultant_in .nil pass0 (pa_cons (pe_prp (pv 0) T.oc_Form T.pr_Form_entries G_Form_entries T.b_Form_entries (hr.mono (by decide))) (pa_cons (pe_prp (pv 1) T.oc_Form T.pr_Form_entries G_Form_entries T.b_Form_entries (hr.mono (by decide))) pa_nil))))))), ?_⟩
    refine ⟨_, rfl, _, rfl, a, b, F, G, rfl, fa, fb, f2, g2, by omega, ?_⟩
    exact ⟨_, rfl, prop_ent fa fun u hu => ⟨_, rfl, prop_ent fb fun v hv => ⟨u, v, F, G, M, rfl, hu, hv, f2, g2, by omega, by omega, ok, q⟩⟩⟩
end
end K77

set_option Elab.async false
set_option linter.all false
set_option maxRecDepth 100000
set_option maxHeartbeats 4000000
set_option exponentiation.threshold 10000
/-! a drawn pair -/
namespace K77
open PySem PySem.Spec PyProof.Rows L2 StX RZ MyR SlX OwnR OwnF EnumT SeqE GxR GenNx FDivQ LA
theorem bt_mem {L : Nat} {l : List Int} (h : bt L l) : ∀ x ∈ l, x.natAbs ≤ 2 ^ L := fun x hx => by
  obtain ⟨k, _, ek⟩ := mem_co hx
  rw [← ek]
  exact Nat.le_of_lt (h k)
theorem pow_rw {X : List Int} {b i : Nat} (h : Bd X 1 b) (hi : i ≤ 90) (hb : b ≤ 2 ^ 10) : Rw (pow X i) := (bd_pow h i).rw (by omega) (Nat.lt_of_le_of_lt (Nat.pow_le_pow_left hb i) (Nat.lt_of_le_of_lt (Nat.pow_le_pow_right (by decide) hi) (by decide +kernel)))
/-- what is drawn -/
structure PrR (F G : List Int) : Prop where
  f2 : 2 ≤ F.length
  g2 : 2 ≤ G.length
  f7 : F.length ≤ 7
  g6 : G.length ≤ 6
  bF : Bd F (F.length - 1) (10 ^ 15)
  bG : Bd G (G.length - 1) (10 ^ 15)
section
variable {P : Program} {w : World} {K : PySem.W.Frag} {mg : Str → Option Value} {base : Heap} {Ps : List Addr}
theorem lch_ok {X Y l : List Int} {n B : Nat} (hX : Bd X 1 6) (hY : Bd Y 1 6) (hl : Bd l n B) (hn : n ≤ 12) (hB : B < 2 ^ 4000) : LchOk X Y l where
  ne := hl.ne
  len := by rw [hl.len]; omega
  lX := hX.len
  lY := hY.len
  pX := fun i hi => pow_rw hX (by rw [hl.len] at hi; omega) (by decide)
  pY := fun i hi => pow_rw hY (by rw [hl.len] at hi; omega) (by decide)
  pm := fun i hi => by
    rw [hl.len] at hi
    refine (bd_ml (bd_pow hX (l.length - 1 - i)) (bd_pow hY i)).rw (by rw [hl.len]; omega) ?_
    rw [hl.len]
    exact Nat.lt_of_le_of_lt (Nat.mul_le_mul (Nat.pow_le_pow_right (by decide) (show n + 1 - 1 - i ≤ 12 by omega)) (Nat.pow_le_pow_right (by decide) (show i ≤ 12 by omega))) (show 6 ^ 12 * 6 ^ 12 < 2 ^ 4000 by decide +kernel)
  sl := fun x hx => Nat.lt_of_le_of_lt (hl.mem x hx) hB
theorem det_le {a b c e : Int} (ha : a.natAbs ≤ 3) (hb : b.natAbs ≤ 3) (hc : c.natAbs ≤ 3) (he : e.natAbs ≤ 3) : (a * e - b * c).natAbs ≤ 18 := by
  have e1 : (a * e).natAbs ≤ 3 * 3 := by rw [Int.natAbs_mul]; exact Nat.mul_le_mul ha he
  have e2 : (b * c).natAbs ≤ 3 * 3 := by rw [Int.natAbs_mul]; exact Nat.mul_le_mul hb hc
  omega
def spRaised : Sp := fun vs H Q _ => ∃ (c : Int) (n : Nat), vs = [.int c, .int n] ∧ (∀ i, i ≤ n → sm (c ^ i)) ∧ sm c ∧ n ≤ 100 ∧ Q (.int (c ^ n)) H
theorem ok_law_raised (T : Facts K mg) : FnOk P w K mg base CX0 1 T.f_law_raised T.fd_law_raised ["_law_number", "_law_times"] spRaised := by
  refine T.F_law_raised.ok sc_law_raised (fun vs H Q E h => ?_) (fun cdv A outer s H vs Q E hr h => ?_)
  · obtain ⟨c, n, rfl, _⟩ := h
    rfl
  · obtain ⟨c, n, rfl, hs, hc, hn, q⟩ := h
    refine ⟨_, (PSs.nox (pss_cons (ps_set (i := 2) sc_law_raised.nd rfl (.inl rfl) pe_int)
    (pss_cons (ps_for PassesOwn.never (by rfl) (pi_range1 (by rfl) T.z_range (pa_cons (pv 1) pa_nil)) (pg_name (i := 3) sc_law_raised.nd rfl (.inl rfl))
      (pss_one (ps_set (i := 2) sc_law_raised.nd rfl (.inl rfl) (pe_op op_mulW (pv 2) (pv 0)))))
    (pss_one (ps_ret (pv 2)))))), ?_⟩
    refine ⟨_, rfl, n, rfl, by omega, by omega, for_range (n := (n : Int).toNat) (fun i σ H' => ∃ y3, σ = [some (.int c), some (.int n), some (.int (c ^ i)), y3] ∧ H' = H) ⟨none, by rw [Int.pow_zero]; rfl, rfl⟩ (fun i σ H' hi hP => ?_) (fun σ H' hP => ?_)⟩
    · obtain ⟨y3, rfl, rfl⟩ := hP
      refine ⟨_, rfl, _, rfl, _, _, rfl, rfl, sm_mul (hs i (by omega)) hc, some (.int (0 + (i : Int))), ?_, rfl⟩
      rw [Int.pow_succ]
      rfl
    · obtain ⟨y3, rfl, rfl⟩ := hP
      rw [Int.toNat_natCast]
      exact ⟨_, rfl, q⟩
end
end K77

set_option Elab.async false
set_option linter.all false
set_option maxRecDepth 100000
set_option maxHeartbeats 2000000
set_option exponentiation.threshold 20000
/-! plain: Bezout tables: symmetric, their determinant is the resultant -/
namespace K77
open PySem PySem.Spec PyProof.Rows L2 FDivQ LA
theorem S_split (f : Nat → Int) (a : Nat) : ∀ b, S (a + b) f = S a f + S b fun k => f (a + k)
  | 0 => by show S a f = S a f + 0; omega
  | b + 1 => by
    show S (a + b) f + f (a + b) = S a f + (S b (fun k => f (a + k)) + f (a + b))
    rw [S_split f a b]
    omega
theorem S_far {f : Nat → Int} {n : Nat} (h : ∀ i, n ≤ i → f i = 0) (d : Nat) : S (n + d) f = S n f := by
  rw [S_split, S_zero (f := fun k => f (n + k)) fun i _ => h _ (by omega), Int.add_zero]
section
variable {F G : List Int}
end
/-! ### determinants -/
theorem det_low : ∀ (t s : Nat) (P : Tab), (∀ i j, i < t → i < j → j < t + s → P i j = 0) → det (t + s) P = prd t (fun u => P u u) * det s fun i k => P (t + i) (t + k)
  | 0, s, L, _ => by
    show _ = 1 * _
    rw [Int.one_mul, Nat.zero_add]
    exact det_congr fun i j _ _ => by rw [Nat.zero_add, Nat.zero_add]
  | t + 1, s, L, h => by
    rw [show t + 1 + s = t + s + 1 by omega]
    show S (t + s + 1) _ = _
    rw [S_one (p := 0) (by omega) fun j hj c => by rw [h 0 j (by omega) (by omega) (by omega), Int.mul_zero, Int.zero_mul], prd_first]
    show 1 * L 0 0 * det (t + s) _ = _
    rw [Int.one_mul, det_low t s (fun i k => L (i + 1) (sk 0 k)) fun i u h1 h2 h3 => ?_, Int.mul_assoc]
    · congr 2
      exact det_congr fun i j _ _ => by
        rw [show sk 0 (t + j) = t + 1 + j by unfold sk; rw [if_neg (Nat.not_lt_zero _)]; omega, show t + i + 1 = t + 1 + i by omega]
    · rw [show sk 0 u = u + 1 by unfold sk; rw [if_neg (Nat.not_lt_zero u)]]
      exact h _ _ (by omega) (by omega) (by omega)
/-- the sign of rows that are turned over -/
def sgt : Nat → Int
  | 0 => 1
  | n + 1 => LA.sg n * sgt n
theorem sgt_sq : ∀ n, sgt n * sgt n = 1
  | 0 => rfl
  | n + 1 => by
    show LA.sg n * sgt n * (LA.sg n * sgt n) = 1
    have h1 := sgt_sq n
    have h2 := LA.sg_sq n
    grind
theorem det_mod {t : Int} : ∀ {n : Nat} {A B : Tab}, (∀ i j, i < n → j < n → t ∣ A i j - B i j) → t ∣ det n A - det n B
  | 0, _, _, _ => ⟨0, by show (1 : Int) - 1 = t * 0; omega⟩
  | n + 1, A, B, h => by
    have : ∀ m, m ≤ n + 1 → t ∣ S m (fun j => LA.sg j * A 0 j * det n fun i k => A (i + 1) (sk j k)) - S m fun j => LA.sg j * B 0 j * det n fun i k => B (i + 1) (sk j k) := fun m => by
      induction m with
      | zero => intro _; exact ⟨0, by show (0 : Int) - 0 = t * 0; omega⟩
      | succ m ih =>
        intro hm
        obtain ⟨a, ea⟩ := ih (by omega)
        obtain ⟨b, eb⟩ := h 0 m (by omega) (by omega)
        obtain ⟨c, ec⟩ := det_mod (t := t) (n := n) (A := fun i k => A (i + 1) (sk m k)) (B := fun i k => B (i + 1) (sk m k)) fun i k hi hk => h _ _ (by omega) (sk_lt hk)
        refine ⟨a + LA.sg m * (b * det n (fun i k => A (i + 1) (sk m k)) + B 0 m * c), ?_⟩
        show (S m _ + LA.sg m * A 0 m * det n _) - (S m _ + LA.sg m * B 0 m * det n _) = _
        generalize det n (fun i k => A (i + 1) (sk m k)) = dA at *
        generalize det n (fun i k => B (i + 1) (sk m k)) = dB at *
        generalize S m (fun j => LA.sg j * A 0 j * det n fun i k => A (i + 1) (sk j k)) = sA at *
        generalize S m (fun j => LA.sg j * B 0 j * det n fun i k => B (i + 1) (sk j k)) = sB at *
        grind
    exact this (n + 1) (Nat.le_refl _)
theorem prd_ne {f : Nat → Int} : ∀ {n : Nat}, (∀ i, i < n → f i ≠ 0) → prd n f ≠ 0
  | 0, _ => by show (1 : Int) ≠ 0; decide
  | n + 1, h => Int.mul_ne_zero (prd_ne fun i hi => h i (by omega)) (h n (by omega))
theorem res_mod {t : Int} {A F G : List Int} (h : A.length = F.length) (f1 : 1 ≤ F.length) (g1 : 1 ≤ G.length) (e : ∀ i, t ∣ co A i - co F i) : t ∣ Res A G - Res F G := by
  unfold Res
  rw [h]
  refine det_mod fun i j hi hj => ?_
  by_cases c : F.length + G.length < 3
  · rw [show F.length + G.length - 2 = 0 by omega] at hi
    omega
  obtain ⟨d, hd⟩ : ∃ d, F.length + G.length = d + 3 := ⟨F.length + G.length - 3, by omega⟩
  rw [show F.length + G.length - 3 = d by omega, row_urows (by omega) g1 (by omega), row_urows f1 g1 (by omega), h]
  by_cases c : i < d + 2 - F.length
  · rw [if_pos c, if_pos c]
    unfold shi
    split
    · exact e _
    · exact ⟨0, by omega⟩
  · rw [if_neg c, if_neg c]
    exact ⟨0, by omega⟩
end K77

set_option Elab.async false
set_option linter.all false
set_option maxRecDepth 100000
set_option maxHeartbeats 2000000
set_option exponentiation.threshold 20000
/-! plain: the rank of a Bezout table, by the common form -/
namespace K77
open PySem PySem.Spec PyProof.Rows L2 FDivQ LA
theorem cv_S (g : Nat → Int) : ∀ (l : List Int) (k : Nat), cv l g k = S (k + 1) fun b => g b * co l (k - b)
  | [], k => (S_zero fun b _ => by rw [show co [] (k - b) = 0 from rfl, Int.mul_zero]).symm
  | x :: xs, 0 => by
    rw [cv_zero]
    show x * g 0 = 0 + g 0 * x
    rw [Int.zero_add, Int.mul_comm]
  | x :: xs, k + 1 => by
    rw [cv_succ, cv_S g xs k]
    show _ = S (k + 1) _ + g (k + 1) * co (x :: xs) (k + 1 - (k + 1))
    rw [Nat.sub_self, show co (x :: xs) 0 = x from rfl, Int.add_comm, Int.mul_comm x]
    congr 1
    exact S_congr fun b hb => by rw [show k + 1 - b = (k - b) + 1 by omega]; rfl
theorem S_to {f : Nat → Int} {a b : Nat} (h1 : ∀ i, a ≤ i → f i = 0) (h2 : ∀ i, b ≤ i → f i = 0) : S a f = S b f := by
  rw [← S_far h1 b, ← S_far h2 a, Nat.add_comm]
end K77

set_option Elab.async false
set_option linter.all false
set_option maxRecDepth 100000
set_option maxHeartbeats 2000000
set_option exponentiation.threshold 20000
/-! plain: resultants of products, and of forms with multiples added -/
namespace K77
open PySem PySem.Spec PyProof.Rows L2 FDivQ LA
def sx (f : Nat → Int) (i j : Nat) : Int := if i ≤ j then f (j - i) else 0
def SyT (q : Nat) (f g : Nat → Int) : Tab := fun i => if i < q then sx f i else sx g (i - q)
theorem shi_sx {X : List Int} {n : Nat} (hX : X.length = n + 1) (i j : Nat) : shi n (co X) i j = sx (co X) i j := by
  unfold shi sx
  by_cases c : i ≤ j
  · rw [if_pos c]
    by_cases e : j - i ≤ n
    · rw [if_pos ⟨c, e⟩]
    · rw [if_neg (fun z => e z.2), co_far (by omega)]
  · rw [if_neg c, if_neg (fun z => c z.1)]
theorem res_rs {F G : List Int} {p q : Nat} (hF : F.length = p + 1) (hG : G.length = q + 1) : Res F G = det (p + q) (SyT q (co F) (co G)) := by
  unfold Res
  rw [show F.length + G.length - 2 = p + q by omega]
  refine det_congr fun i j hi hj => ?_
  obtain ⟨d, hd⟩ : ∃ d, p + q = d + 1 := ⟨p + q - 1, by omega⟩
  rw [show F.length + G.length - 3 = d by omega, row_urows (by omega) (by omega) (by omega), hF, hG, Nat.add_sub_cancel, Nat.add_sub_cancel, show d + 2 - (p + 1) = q by omega]
  unfold SyT
  by_cases c : i < q
  · rw [if_pos c, if_pos c, shi_sx hF]
  · rw [if_neg c, if_neg c, shi_sx hG]
/-- rows of a product -/
theorem conv_row {f g : Nat → Int} {L i j m : Nat} (hg : ∀ b, m < b → g b = 0) (hL : i + m < L) : S L (fun l => sx g i l * sx f l j) = if i ≤ j then S (j - i + 1) (fun b => g b * f (j - i - b)) else 0 := by
  unfold sx
  rw [show L = i + (L - i) by omega, S_split, S_zero fun l hl => by rw [if_neg (show ¬ i ≤ l by omega), Int.zero_mul], Int.zero_add]
  by_cases c : i ≤ j
  · rw [if_pos c]
    refine (S_congr (g := fun b => if b ≤ j - i then g b * f (j - i - b) else 0) fun b _ => ?_).trans ?_
    · rw [if_pos (by omega), Nat.add_sub_cancel_left]
      by_cases e : b ≤ j - i
      · rw [if_pos (by omega), if_pos e, show j - (i + b) = j - i - b by omega]
      · rw [if_neg (by omega), if_neg e, Int.mul_zero]
    · rw [S_congr (n := j - i + 1) (f := fun b => g b * f (j - i - b)) (g := fun b => if b ≤ j - i then g b * f (j - i - b) else 0) fun b hb => by rw [if_pos (by omega)]]
      refine S_to (fun b hb => ?_) fun b hb => if_neg (by omega)
      rw [hg b (by omega), Int.zero_mul]
      split <;> rfl
  · rw [if_neg c]
    exact S_zero fun b _ => by rw [if_neg (show ¬ i + b ≤ j by omega), Int.mul_zero]
theorem conv_ml {F G : List Int} (nG : G ≠ []) {L i j : Nat} (hL : i + G.length - 1 < L) : S L (fun l => sx (co G) i l * sx (co F) l j) = sx (co (ml F G)) i j := by
  have h1 : 1 ≤ G.length := List.length_pos_iff.mpr nG
  rw [conv_row (m := G.length - 1) (fun b hb => co_far (by omega)) (by omega)]
  unfold sx
  by_cases c : i ≤ j
  · rw [if_pos c, if_pos c, co_ml nG, cv_S]
  · rw [if_neg c, if_neg c]
/-- what holds for all other values of an entry holds for the value 0 -/
theorem eq_mod {f g : Int → Int} (h : ∀ t, t ≠ 0 → f t = g t) (hf : ∀ t, t ∣ f t - f 0) (hg : ∀ t, t ∣ g t - g 0) : f 0 = g 0 := by
  obtain ⟨t, ht⟩ : ∃ t : Int, t = ((f 0 - g 0).natAbs : Int) + 1 := ⟨_, rfl⟩
  have e := h t (by omega)
  obtain ⟨a, ea⟩ := hf t
  obtain ⟨b, eb⟩ := hg t
  have hd : t ∣ f 0 - g 0 := ⟨b - a, by rw [Int.mul_sub, ← ea, ← eb]; omega⟩
  have : f 0 - g 0 = 0 := Classical.byContradiction fun ne => by
    have := Int.le_of_dvd (b := ((f 0 - g 0).natAbs : Int)) (by omega) (Int.dvd_natAbs.mpr hd)
    omega
  omega
theorem prd_steps (c : Int) (k m : Nat) : ∀ n, prd (k + m + n) (fun i => if i < k then 1 else if i < k + m then c else 1) = prd m fun _ => c := fun n => by
  have one : ∀ n, prd n (fun _ => (1 : Int)) = 1 := fun n => by
    induction n with
    | zero => rfl
    | succ n ih =>
      show prd n _ * 1 = 1
      rw [ih]
      rfl
  induction n with
  | zero =>
    rw [Nat.add_zero]
    have : ∀ j, j ≤ m → prd (k + j) (fun i => if i < k then 1 else if i < k + m then c else 1) = prd j fun _ => c := fun j => by
      induction j with
      | zero =>
        intro _
        rw [Nat.add_zero, prd_congr (g := fun _ => 1) fun i hi => by rw [if_pos hi], one]
        rfl
      | succ j ih =>
        intro hj
        show prd (k + j) _ * (if k + j < k then 1 else if k + j < k + m then c else 1) = prd j _ * c
        rw [ih (by omega), if_neg (by omega), if_pos (by omega)]
    exact this m (Nat.le_refl m)
  | succ n ih =>
    show prd (k + m + n) _ * (if k + m + n < k then 1 else if k + m + n < k + m then c else 1) = _
    rw [ih, if_neg (by omega), if_neg (by omega), Int.mul_one]
theorem res_mul0 {F G H : List Int} {n m k : Nat} (lF : F.length = n + 1) (lG : G.length = m + 1) (lH : H.length = k + 1) (f0 : co F 0 ≠ 0) : Res (ml F G) H = Res F H * Res G H := by
  have nF : F ≠ [] := fun z => by rw [z] at lF; cases lF
  have nG : G ≠ [] := fun z => by rw [z] at lG; cases lG
  have nH : H ≠ [] := fun z => by rw [z] at lH; cases lH
  have lP : (ml F G).length = n + m + 1 := by rw [ml_len]; omega
  rw [res_rs lP lH, res_rs lF lH, res_rs lG lH]
  let M1 : Tab := blk (m + k) (SyT k (co G) (co H)) idT
  let M2 : Tab := fun i => if i < m + k then sx (co F) i else sx (co H) (m + (i - (m + k)))
  let T : Tab := fun i j => if i < k then idT i j else if i < m + k then (if k ≤ j then sx (co F) (i - k) (j - k) else 0) else idT i j
  have d1 : det (m + k + n) M1 = det (m + k) (SyT k (co G) (co H)) := by rw [det_blk, det_one, Int.mul_one]
  have d2 : det (m + (n + k)) M2 = prd m (fun _ => co F 0) * det (n + k) (SyT k (co F) (co H)) := by
    rw [det_up m (n + k) M2 fun i u h1 h2 h3 => ?_, prd_congr (g := fun _ => co F 0) fun u hu => ?_]
    · congr 1
      refine det_congr fun i j hi hj => ?_
      show (if m + i < m + k then sx (co F) (m + i) else sx (co H) (m + (m + i - (m + k)))) (m + j) = (if i < k then sx (co F) i else sx (co H) (i - k)) j
      by_cases c : i < k
      · rw [if_pos (by omega), if_pos c]
        unfold sx
        by_cases e : i ≤ j
        · rw [if_pos (by omega), if_pos e, Nat.add_sub_add_left]
        · rw [if_neg (by omega), if_neg e]
      · rw [if_neg (by omega), if_neg c]
        unfold sx
        by_cases e : i - k ≤ j
        · rw [if_pos (by omega), if_pos e, show m + j - (m + (m + i - (m + k))) = j - (i - k) by omega]
        · rw [if_neg (by omega), if_neg e]
    · show (if u < m + k then sx (co F) u else _) u = co F 0
      rw [if_pos (by omega)]
      unfold sx
      rw [if_pos (Nat.le_refl u), Nat.sub_self]
    · show (if i < m + k then sx (co F) i else _) u = 0
      by_cases c : i < m + k
      · rw [if_pos c]
        exact if_neg (by omega)
      · rw [if_neg c]
        exact if_neg (by omega)
  have d3 : det (n + m + k) T = prd m fun _ => co F 0 := by
    rw [det_diagU fun i u h1 h2 => ?_, show n + m + k = k + m + n by omega, ← prd_steps (co F 0) k m n]
    · refine prd_congr fun i hi => ?_
      show (if i < k then idT i i else if i < m + k then (if k ≤ i then sx (co F) (i - k) (i - k) else 0) else idT i i) = _
      by_cases c : i < k
      · rw [if_pos c, if_pos c]
        exact if_pos rfl
      · rw [if_neg c, if_neg c]
        by_cases e : i < m + k
        · rw [if_pos e, if_pos (by omega), if_pos (by omega)]
          unfold sx
          rw [if_pos (Nat.le_refl _), Nat.sub_self]
        · rw [if_neg e, if_neg (by omega)]
          exact if_pos rfl
    · show (if i < k then idT i u else if i < m + k then (if k ≤ u then sx (co F) (i - k) (u - k) else 0) else idT i u) = 0
      by_cases c : i < k
      · rw [if_pos c]
        exact if_neg (by omega)
      · rw [if_neg c]
        by_cases e : i < m + k
        · rw [if_pos e]
          by_cases g : k ≤ u
          · rw [if_pos g]
            exact if_neg (by omega)
          · rw [if_neg g]
        · rw [if_neg e]
          exact if_neg (by omega)
  have key : det (n + m + k) (mulT (n + m + k) M1 M2) = det (n + m + k) (mulT (n + m + k) T (SyT k (co (ml F G)) (co H))) := det_congr fun i j hi hj => by
    unfold mulT
    by_cases c : i < m + k
    · -- the product's rows
      have e1 : S (n + m + k) (fun l => M1 i l * M2 l j) = S (m + k) fun l => SyT k (co G) (co H) i l * sx (co F) l j := by
        rw [show n + m + k = (m + k) + n by omega, S_split, S_zero (f := fun l => M1 i (m + k + l) * M2 (m + k + l) j) fun l _ => by
          show (if i < m + k then (if m + k + l < m + k then _ else 0) else _) * _ = 0
          rw [if_pos c, if_neg (by omega), Int.zero_mul], Int.add_zero]
        exact S_congr fun l hl => by
          show (if i < m + k then (if l < m + k then SyT k (co G) (co H) i l else 0) else _) * (if l < m + k then sx (co F) l else _) j = _
          rw [if_pos c, if_pos hl, if_pos hl]
      rw [e1]
      by_cases d : i < k
      · rw [S_one (n := n + m + k) (f := fun l => T i l * SyT k (co (ml F G)) (co H) l j) (p := i) hi fun l hl ne => by
          show (if i < k then idT i l else _) * _ = 0
          rw [if_pos d, show idT i l = 0 from if_neg (Ne.symm ne), Int.zero_mul]]
        show _ = (if i < k then idT i i else _) * (if i < k then sx (co (ml F G)) i else _) j
        rw [if_pos d, if_pos d, show idT i i = 1 from if_pos rfl, Int.one_mul, ← conv_ml nG (L := m + k) (by omega)]
        exact S_congr fun l _ => by
          unfold SyT
          rw [if_pos d]
      · have e2 : S (n + m + k) (fun l => T i l * SyT k (co (ml F G)) (co H) l j) = S (n + m) fun l => sx (co F) (i - k) l * sx (co H) l j := by
          rw [show n + m + k = k + (n + m) by omega, S_split, S_zero (f := fun l => T i l * SyT k (co (ml F G)) (co H) l j) fun l hl => by
            show (if i < k then _ else if i < m + k then (if k ≤ l then _ else 0) else _) * _ = 0
            rw [if_neg d, if_pos c, if_neg (by omega), Int.zero_mul], Int.zero_add]
          exact S_congr fun l _ => by
            show (if i < k then _ else if i < m + k then (if k ≤ k + l then sx (co F) (i - k) (k + l - k) else 0) else _) * (if k + l < k then _ else sx (co H) (k + l - k)) j = _
            rw [if_neg d, if_pos c, if_pos (by omega), if_neg (by omega), Nat.add_sub_cancel_left]
        rw [e2, conv_ml (F := H) (G := F) nF (by omega), ml_comm, ← conv_ml nH (L := m + k) (by omega)]
        exact S_congr fun l _ => by
          unfold SyT
          rw [if_neg d]
    · rw [S_one (n := n + m + k) (f := fun l => M1 i l * M2 l j) (p := i) hi fun l hl ne => ?_, S_one (n := n + m + k) (f := fun l => T i l * SyT k (co (ml F G)) (co H) l j) (p := i) hi fun l hl ne => ?_]
      · show (if i < m + k then _ else if i < m + k then 0 else idT (i - (m + k)) (i - (m + k))) * (if i < m + k then _ else sx (co H) (m + (i - (m + k)))) j = (if i < k then _ else if i < m + k then _ else idT i i) * (if i < k then _ else sx (co H) (i - k)) j
        rw [if_neg c, if_neg c, if_neg c, if_neg (by omega), if_neg c, if_neg (by omega), show idT i i = 1 from if_pos rfl, show idT (i - (m + k)) (i - (m + k)) = 1 from if_pos rfl, show m + (i - (m + k)) = i - k by omega]
      · show (if i < k then idT i l else if i < m + k then _ else idT i l) * _ = 0
        rw [if_neg (by omega), if_neg c, show idT i l = 0 from if_neg (Ne.symm ne), Int.zero_mul]
      · show (if i < m + k then _ else if l < m + k then 0 else idT (i - (m + k)) (l - (m + k))) * _ = 0
        rw [if_neg c]
        by_cases e : l < m + k
        · rw [if_pos e, Int.zero_mul]
        · rw [if_neg e, show idT (i - (m + k)) (l - (m + k)) = 0 from if_neg (by omega), Int.zero_mul]
  rw [det_mul, det_mul, d3] at key
  rw [show n + m + k = m + k + n by omega, d1, show m + k + n = m + (n + k) by omega, d2] at key
  have nz : prd m (fun _ => co F 0) ≠ 0 := prd_ne fun _ _ => f0
  refine Int.eq_of_mul_eq_mul_left nz ?_
  rw [show n + m + k = m + (n + k) by omega, ← key]
  generalize prd m (fun _ => co F 0) = p
  grind
theorem S_mod {t : Int} {f g : Nat → Int} : ∀ n, (∀ i, i < n → t ∣ f i - g i) → t ∣ S n f - S n g
  | 0, _ => ⟨0, by show (0 : Int) - 0 = t * 0; omega⟩
  | n + 1, h => by
    obtain ⟨a, ea⟩ := S_mod n fun i hi => h i (by omega)
    obtain ⟨b, eb⟩ := h n (by omega)
    refine ⟨a + b, ?_⟩
    show S n f + f n - (S n g + g n) = _
    rw [Int.mul_add, ← ea, ← eb]
    omega
theorem ml_mod {t : Int} {A F G : List Int} (nG : G ≠ []) (nA : A ≠ []) (nF : F ≠ []) (e : ∀ i, t ∣ co A i - co F i) (i : Nat) : t ∣ co (ml A G) i - co (ml F G) i := by
  rw [ml_comm A, ml_comm F, co_ml nA, co_ml nF, cv_S, cv_S]
  refine S_mod _ fun b _ => ?_
  obtain ⟨c, ec⟩ := e b
  refine ⟨c * co G (i - b), ?_⟩
  rw [← Int.sub_mul, ec, Int.mul_assoc]
theorem co_head {t : Int} (r : List Int) (i : Nat) : t ∣ co (t :: r) i - co (0 :: r) i := by
  cases i with
  | zero => exact ⟨1, by show t - 0 = t * 1; omega⟩
  | succ i => exact ⟨0, by show co r i - co r i = t * 0; omega⟩
theorem mul_mod {t a b c d : Int} (h : t ∣ a - b) (g : t ∣ c - d) : t ∣ a * c - b * d := by
  obtain ⟨x, hx⟩ := h
  obtain ⟨y, hy⟩ := g
  exact ⟨x * c + b * y, by grind⟩
/-- the resultant of a product -/
theorem res_mul {F G H : List Int} (nF : F ≠ []) (nG : G ≠ []) (nH : H ≠ []) : Res (ml F G) H = Res F H * Res G H := by
  have lG := List.length_pos_iff.mpr nG
  have lH := List.length_pos_iff.mpr nH
  match F, nF with
  | a :: r, _ =>
    by_cases c : a = 0
    · rw [c]
      refine eq_mod (f := fun t => Res (ml (t :: r) G) H) (g := fun t => Res (t :: r) H * Res G H) (fun t ht => ?_) (fun t => ?_) (fun t => ?_)
      · exact res_mul0 (n := r.length) (m := G.length - 1) (k := H.length - 1) rfl (by omega) (by omega) ht
      · refine res_mod (by rw [ml_len, ml_len]; rfl) ?_ (by omega) (ml_mod nG (by simp) (by simp) (co_head r))
        rw [ml_len]
        show 1 ≤ r.length + 1 + G.length - 1
        omega
      · exact mul_mod (res_mod (A := t :: r) (F := 0 :: r) rfl (by show 1 ≤ r.length + 1; omega) (by omega) (co_head r)) ⟨0, by omega⟩
    · exact res_mul0 (n := r.length) (m := G.length - 1) (k := H.length - 1) rfl (by omega) (by omega) c
/-- multiples of one form added to the other -/
theorem res_addR {F G Q : List Int} {p q : Nat} (lF : F.length = p + 1) (lG : G.length = q + 1) (lQ : Q.length + p = q + 1) (nQ : Q ≠ []) : Res F (zs 1 G (ml Q F)) = Res F G := by
  have nF : F ≠ [] := fun z => by rw [z] at lF; cases lF
  have h1 : 1 ≤ Q.length := List.length_pos_iff.mpr nQ
  have lM : (ml Q F).length = q + 1 := by rw [ml_len]; omega
  rw [res_rs (p := p) (q := q) lF (by rw [zs_len (by rw [lG, lM]), lG]), res_rs lF lG]
  let T : Tab := fun i j => if i < q then idT i j else if j < q then sx (co Q) (i - q) j else idT i j
  have dT : det (p + q) T = 1 := by
    rw [det_diagL fun i u h1 h2 => ?_, prd_congr (g := fun _ => 1) fun i hi => ?_]
    · have : ∀ n, prd n (fun _ => (1 : Int)) = 1 := fun n => by
        induction n with
        | zero => rfl
        | succ n ih =>
          show prd n _ * 1 = 1
          rw [ih]
          rfl
      exact this _
    · show (if i < q then idT i i else if i < q then _ else idT i i) = 1
      by_cases c : i < q
      · rw [if_pos c]
        exact if_pos rfl
      · rw [if_neg c, if_neg c]
        exact if_pos rfl
    · show (if i < q then idT i u else if u < q then _ else idT i u) = 0
      by_cases c : i < q
      · rw [if_pos c]
        exact if_neg (by omega)
      · rw [if_neg c, if_neg (by omega)]
        exact if_neg (by omega)
  have h := det_mul (p + q) T (SyT q (co F) (co G))
  rw [dT, Int.one_mul] at h
  rw [← h]
  refine det_congr fun i j hi hj => ?_
  unfold mulT
  by_cases c : i < q
  · rw [S_one (p := i) hi fun l hl ne => by
      show (if i < q then idT i l else _) * _ = 0
      rw [if_pos c, show idT i l = 0 from if_neg (Ne.symm ne), Int.zero_mul]]
    show (if i < q then sx (co F) i else _) j = (if i < q then idT i i else _) * (if i < q then sx (co F) i else _) j
    rw [if_pos c, if_pos c, if_pos c, show idT i i = 1 from if_pos rfl, Int.one_mul]
  · rw [show p + q = q + p by omega, S_split, S_one (n := p) (f := fun l => T i (q + l) * SyT q (co F) (co G) (q + l) j) (p := i - q) (by omega) fun l hl ne => by
      show (if i < q then _ else if q + l < q then _ else idT i (q + l)) * _ = 0
      rw [if_neg c, if_neg (by omega), show idT i (q + l) = 0 from if_neg (by omega), Int.zero_mul]]
    show (if i < q then _ else sx (co (zs 1 G (ml Q F))) (i - q)) j = S q (fun l => (if i < q then _ else if l < q then sx (co Q) (i - q) l else _) * (if l < q then sx (co F) l else _) j) + (if i < q then _ else if q + (i - q) < q then _ else idT i (q + (i - q))) * (if q + (i - q) < q then _ else sx (co G) (q + (i - q) - q)) j
    rw [if_neg c, if_neg c, if_neg (by omega), if_neg (by omega), show idT i (q + (i - q)) = 1 from if_pos (by omega), Int.one_mul, show q + (i - q) - q = i - q by omega, S_congr (g := fun l => sx (co Q) (i - q) l * sx (co F) l j) fun l hl => by rw [if_neg c, if_pos hl, if_pos hl], conv_ml (F := F) (G := Q) nQ (by omega)]
    unfold sx
    by_cases e : i - q ≤ j
    · rw [if_pos e, if_pos e, if_pos e, co_zs' 1 (by rw [lG, lM]), Int.one_mul, ml_comm, Int.add_comm]
    · rw [if_neg e, if_neg e, if_neg e]
      rfl
theorem res_addL {F G Q : List Int} {p q : Nat} (lF : F.length = p + 1) (lG : G.length = q + 1) (lQ : Q.length + q = p + 1) (nQ : Q ≠ []) : Res (zs 1 F (ml Q G)) G = Res F G := by
  have nG : G ≠ [] := fun z => by rw [z] at lG; cases lG
  have h1 : 1 ≤ Q.length := List.length_pos_iff.mpr nQ
  have lM : (ml Q G).length = p + 1 := by rw [ml_len]; omega
  rw [res_rs (p := p) (q := q) (by rw [zs_len (by rw [lF, lM]), lF]) lG, res_rs lF lG]
  let T : Tab := fun i j => if i < q then (if j < q then idT i j else sx (co Q) i (j - q)) else idT i j
  have dT : det (p + q) T = 1 := by
    rw [det_diagU fun i u h1 h2 => ?_, prd_congr (g := fun _ => 1) fun i hi => ?_]
    · have : ∀ n, prd n (fun _ => (1 : Int)) = 1 := fun n => by
        induction n with
        | zero => rfl
        | succ n ih =>
          show prd n _ * 1 = 1
          rw [ih]
          rfl
      exact this _
    · show (if i < q then (if i < q then idT i i else _) else idT i i) = 1
      by_cases c : i < q
      · rw [if_pos c, if_pos c]
        exact if_pos rfl
      · rw [if_neg c]
        exact if_pos rfl
    · show (if i < q then (if u < q then idT i u else _) else idT i u) = 0
      by_cases c : i < q
      · rw [if_pos c, if_pos (by omega)]
        exact if_neg (by omega)
      · rw [if_neg c]
        exact if_neg (by omega)
  have h := det_mul (p + q) T (SyT q (co F) (co G))
  rw [dT, Int.one_mul] at h
  rw [← h]
  refine det_congr fun i j hi hj => ?_
  unfold mulT
  by_cases c : i < q
  · rw [show p + q = q + p by omega, S_split, S_one (n := q) (f := fun l => T i l * SyT q (co F) (co G) l j) (p := i) c fun l hl ne => by
      show (if i < q then (if l < q then idT i l else _) else _) * _ = 0
      rw [if_pos c, if_pos hl, show idT i l = 0 from if_neg (Ne.symm ne), Int.zero_mul]]
    show (if i < q then sx (co (zs 1 F (ml Q G))) i else _) j = (if i < q then (if i < q then idT i i else _) else _) * (if i < q then sx (co F) i else _) j + S p (fun l => (if i < q then (if q + l < q then _ else sx (co Q) i (q + l - q)) else _) * (if q + l < q then _ else sx (co G) (q + l - q)) j)
    rw [if_pos c, if_pos c, if_pos c, if_pos c, show idT i i = 1 from if_pos rfl, Int.one_mul, S_congr (g := fun l => sx (co Q) i l * sx (co G) l j) fun l hl => by rw [if_pos c, if_neg (by omega), if_neg (by omega), Nat.add_sub_cancel_left], conv_ml (F := G) (G := Q) nQ (by omega)]
    unfold sx
    by_cases e : i ≤ j
    · rw [if_pos e, if_pos e, if_pos e, co_zs' 1 (by rw [lF, lM]), Int.one_mul, ml_comm]
    · rw [if_neg e, if_neg e, if_neg e]
      rfl
  · rw [S_one (p := i) hi fun l hl ne => by
      show (if i < q then _ else idT i l) * _ = 0
      rw [if_neg c, show idT i l = 0 from if_neg (Ne.symm ne), Int.zero_mul]]
    show (if i < q then _ else sx (co G) (i - q)) j = (if i < q then _ else idT i i) * (if i < q then _ else sx (co G) (i - q)) j
    rw [if_neg c, if_neg c, if_neg c, show idT i i = 1 from if_pos rfl, Int.one_mul]
theorem prd_const (c : Int) : ∀ n, prd n (fun _ => c) = c ^ n
  | 0 => by rw [Int.pow_zero]; rfl
  | n + 1 => by
    show prd n _ * c = _
    rw [prd_const c n, Int.pow_succ]
theorem pow_mod {t a b : Int} (h : t ∣ a - b) : ∀ n : Nat, t ∣ a ^ n - b ^ n
  | 0 => ⟨0, by rw [Int.pow_zero, Int.pow_zero]; omega⟩
  | n + 1 => by
    rw [Int.pow_succ, Int.pow_succ]
    exact mul_mod (pow_mod h n) h
def Bk (p : Nat) (a b c e : Int) : Tab := fun i j => if i < p then (if j < p then a * idT i j else c * idT i (j - p)) else if j < p then b * idT (i - p) j else e * idT (i - p) (j - p)
theorem det_cid (c : Int) (p : Nat) : det p (fun i j => c * idT i j) = c ^ p := by
  rw [det_diagU fun i u h1 h2 => by rw [show idT i u = 0 from if_neg (by omega), Int.mul_zero], prd_congr (g := fun _ => c) fun i _ => by rw [show idT i i = 1 from if_pos rfl, Int.mul_one], prd_const]
theorem det_Bk0 {p : Nat} {a : Int} (ha : a ≠ 0) (b c e : Int) : det (p + p) (Bk p a b c e) = (a * e - b * c) ^ p := by
  let L : Tab := fun i j => if i < p then idT i j else if j < p then - b * idT (i - p) j else a * idT (i - p) (j - p)
  have dL : det (p + p) L = a ^ p := by
    rw [det_low p p L fun i j h1 h2 h3 => by
      show (if i < p then idT i j else _) = 0
      rw [if_pos h1]
      exact if_neg (by omega), prd_congr (g := fun _ => 1) fun i hi => by
      show (if i < p then idT i i else _) = 1
      rw [if_pos hi]
      exact if_pos rfl, prd_const, Int.one_pow, Int.one_mul, ← det_cid]
    refine det_congr fun i j _ _ => ?_
    show (if p + i < p then _ else if p + j < p then _ else a * idT (p + i - p) (p + j - p)) = _
    rw [if_neg (by omega), if_neg (by omega), Nat.add_sub_cancel_left, Nat.add_sub_cancel_left]
  have m0 : ∀ i j, i < p → mulT (p + p) L (Bk p a b c e) i j = Bk p a b c e i j := fun i j hi => by
    unfold mulT
    rw [S_one (p := i) (by omega) fun l hl ne => by
      show (if i < p then idT i l else _) * _ = 0
      rw [if_pos hi, show idT i l = 0 from if_neg (Ne.symm ne), Int.zero_mul]]
    show (if i < p then idT i i else _) * _ = _
    rw [if_pos hi, show idT i i = 1 from if_pos rfl, Int.one_mul]
  have m1 : ∀ i j, i < p → mulT (p + p) L (Bk p a b c e) (p + i) j = - b * Bk p a b c e i j + a * Bk p a b c e (p + i) j := fun i j hi => by
    unfold mulT
    rw [S_split]
    congr 1
    · rw [S_one (p := i) hi fun l hl ne => by
        show (if p + i < p then _ else if l < p then - b * idT (p + i - p) l else _) * _ = 0
        rw [if_neg (by omega), if_pos hl, Nat.add_sub_cancel_left, show idT i l = 0 from if_neg (Ne.symm ne), Int.mul_zero, Int.zero_mul]]
      show (if p + i < p then _ else if i < p then - b * idT (p + i - p) i else _) * _ = _
      rw [if_neg (by omega), if_pos hi, Nat.add_sub_cancel_left, show idT i i = 1 from if_pos rfl, Int.mul_one]
    · rw [S_one (p := i) hi fun l hl ne => by
        show (if p + i < p then _ else if p + l < p then _ else a * idT (p + i - p) (p + l - p)) * _ = 0
        rw [if_neg (by omega), if_neg (by omega), Nat.add_sub_cancel_left, Nat.add_sub_cancel_left, show idT i l = 0 from if_neg (Ne.symm ne), Int.mul_zero, Int.zero_mul]]
      show (if p + i < p then _ else if p + i < p then _ else a * idT (p + i - p) (p + i - p)) * _ = _
      rw [if_neg (by omega), if_neg (by omega), Nat.add_sub_cancel_left, show idT i i = 1 from if_pos rfl, Int.mul_one]
  have b0 : ∀ i j, i < p → Bk p a b c e i j = if j < p then a * idT i j else c * idT i (j - p) := fun i j hi => if_pos hi
  have b1 : ∀ i j, Bk p a b c e (p + i) j = if j < p then b * idT i j else e * idT i (j - p) := fun i j => by
    show (if p + i < p then _ else if j < p then b * idT (p + i - p) j else e * idT (p + i - p) (j - p)) = _
    rw [if_neg (by omega), Nat.add_sub_cancel_left]
  have h := det_mul (p + p) L (Bk p a b c e)
  rw [dL, det_up p p (mulT (p + p) L (Bk p a b c e)) fun i u h1 h2 h3 => ?_, prd_congr (g := fun _ => a) fun i hi => ?_, prd_const, det_congr (B := fun i j => (a * e - b * c) * idT i j) fun i j hi hj => ?_, det_cid] at h
  · exact (Int.eq_of_mul_eq_mul_left (pow_nz ha p) h).symm
  · rw [m1 i _ hi, b0 i _ hi, b1, if_neg (by omega), if_neg (by omega), Nat.add_sub_cancel_left]
    grind
  · rw [m0 i _ hi, b0 i _ hi, if_pos hi, show idT i i = 1 from if_pos rfl, Int.mul_one]
  · by_cases d : i < p
    · rw [m0 i _ d, b0 i _ d, if_pos h1, show idT i u = 0 from if_neg (by omega), Int.mul_zero]
    · rw [show i = p + (i - p) by omega, m1 _ _ (by omega), b0 _ _ (by omega), b1, if_pos h1, if_pos h1]
      grind
theorem det_Bk (p : Nat) (a b c e : Int) : det (p + p) (Bk p a b c e) = (a * e - b * c) ^ p := by
  by_cases ha : a = 0
  · rw [ha]
    refine eq_mod (f := fun t => det (p + p) (Bk p t b c e)) (g := fun t => (t * e - b * c) ^ p) (fun t ht => det_Bk0 ht b c e) (fun t => det_mod fun i j _ _ => ?_) (fun t => pow_mod ⟨e, by rw [Int.zero_mul]; omega⟩ p)
    unfold Bk
    by_cases c1 : i < p
    · rw [if_pos c1, if_pos c1]
      by_cases c2 : j < p
      · rw [if_pos c2, if_pos c2]
        exact ⟨idT i j, by omega⟩
      · rw [if_neg c2, if_neg c2]
        exact ⟨0, by omega⟩
    · rw [if_neg c1, if_neg c1]
      exact ⟨0, by omega⟩
  · exact det_Bk0 ha b c e
theorem sx_zs {F G : List Int} (a b : Int) (h : F.length = G.length) (i j : Nat) : sx (co (zs 1 (F.map (a * ·)) (G.map (b * ·)))) i j = a * sx (co F) i j + b * sx (co G) i j := by
  unfold sx
  by_cases c : i ≤ j
  · rw [if_pos c, if_pos c, if_pos c, co_zs' 1 (by rw [List.length_map, List.length_map, h]), co_scale, co_scale, Int.one_mul]
  · rw [if_neg c, if_neg c, if_neg c]
    omega
/-- two forms of one degree, led over by a table -/
theorem res_lin {F G : List Int} {p : Nat} (lF : F.length = p + 1) (lG : G.length = p + 1) (a b c e : Int) : Res (zs 1 (F.map (a * ·)) (G.map (c * ·))) (zs 1 (F.map (b * ·)) (G.map (e * ·))) = (a * e - b * c) ^ p * Res F G := by
  have hz : ∀ x y : Int, (zs 1 (F.map (x * ·)) (G.map (y * ·))).length = p + 1 := fun x y => by rw [zs_len (by rw [List.length_map, List.length_map, lF, lG]), List.length_map, lF]
  rw [res_rs (p := p) (q := p) (hz a c) (hz b e), res_rs lF lG, ← det_Bk, ← det_mul]
  refine det_congr fun i j hi hj => ?_
  unfold mulT
  rw [S_split]
  have s0 : ∀ l, l < p → SyT p (co F) (co G) l j = sx (co F) l j := fun l hl => by
    unfold SyT
    rw [if_pos hl]
  have s1 : ∀ l, SyT p (co F) (co G) (p + l) j = sx (co G) l j := fun l => by
    unfold SyT
    rw [if_neg (by omega), Nat.add_sub_cancel_left]
  by_cases d : i < p
  · rw [S_one (p := i) d fun l hl ne => by
      show (if i < p then (if l < p then a * idT i l else _) else _) * _ = 0
      rw [if_pos d, if_pos hl, show idT i l = 0 from if_neg (Ne.symm ne), Int.mul_zero, Int.zero_mul], S_one (n := p) (f := fun k => Bk p a b c e i (p + k) * SyT p (co F) (co G) (p + k) j) (p := i) d fun l hl ne => by
      show (if i < p then (if p + l < p then _ else c * idT i (p + l - p)) else _) * _ = 0
      rw [if_pos d, if_neg (by omega), Nat.add_sub_cancel_left, show idT i l = 0 from if_neg (Ne.symm ne), Int.mul_zero, Int.zero_mul]]
    rw [s0 i d, s1 i]
    show (if i < p then sx _ i else _) j = (if i < p then (if i < p then a * idT i i else _) else _) * _ + (if i < p then (if p + i < p then _ else c * idT i (p + i - p)) else _) * _
    rw [if_pos d, if_pos d, if_pos d, if_pos d, if_neg (by omega), Nat.add_sub_cancel_left, show idT i i = 1 from if_pos rfl, Int.mul_one, Int.mul_one, sx_zs a c (by rw [lF, lG])]
  · have hi' : i - p < p := by omega
    rw [S_one (p := i - p) hi' fun l hl ne => by
      show (if i < p then _ else if l < p then b * idT (i - p) l else _) * _ = 0
      rw [if_neg d, if_pos hl, show idT (i - p) l = 0 from if_neg (Ne.symm ne), Int.mul_zero, Int.zero_mul], S_one (n := p) (f := fun k => Bk p a b c e i (p + k) * SyT p (co F) (co G) (p + k) j) (p := i - p) hi' fun l hl ne => by
      show (if i < p then _ else if p + l < p then _ else e * idT (i - p) (p + l - p)) * _ = 0
      rw [if_neg d, if_neg (by omega), Nat.add_sub_cancel_left, show idT (i - p) l = 0 from if_neg (Ne.symm ne), Int.mul_zero, Int.zero_mul]]
    rw [s0 _ hi', s1]
    show (if i < p then _ else sx _ (i - p)) j = (if i < p then _ else if i - p < p then b * idT (i - p) (i - p) else _) * _ + (if i < p then _ else if p + (i - p) < p then _ else e * idT (i - p) (p + (i - p) - p)) * _
    rw [if_neg d, if_neg d, if_neg d, if_pos hi', if_neg (by omega), Nat.add_sub_cancel_left, show idT (i - p) (i - p) = 1 from if_pos rfl, Int.mul_one, Int.mul_one, sx_zs b e (by rw [lF, lG])]
end K77

set_option Elab.async false
set_option linter.all false
set_option maxRecDepth 100000
set_option maxHeartbeats 2000000
set_option exponentiation.threshold 20000
/-! plain: discriminants -/
namespace K77
open PySem PySem.Spec PyProof.Rows L2 FDivQ LA
/-- the rule of products -/
theorem dX_ml {F G : List Int} (hF : 2 ≤ F.length) (hG : 2 ≤ G.length) : dX (ml F G) = zs 1 (ml (dX F) G) (ml (dX G) F) := by
  have nF := ne_of2 (show 1 ≤ F.length by omega)
  have nG := ne_of2 (show 1 ≤ G.length by omega)
  have hl : (ml (dX F) G).length = (ml (dX G) F).length := by rw [ml_len, ml_len, dX_len, dX_len]; omega
  refine ev_inj (by rw [dX_len, ml_len, zs_len hl, ml_len, dX_len]; omega) fun x y => step_eq fun k => ?_
  obtain ⟨R, e1⟩ := ev_step x y 1 0 k (ml F G)
  obtain ⟨A, e2⟩ := ev_step x y 1 0 k F
  obtain ⟨B, e3⟩ := ev_step x y 1 0 k G
  rw [ev_ml nF nG, ev_ml nF nG, e2, e3] at e1
  rw [ev_zs 1 hl, ev_ml (dX_ne hF) nG, ev_ml (dX_ne hG) nF]
  generalize ev (dX (ml F G)) x y = p at *
  generalize ev (dY (ml F G)) x y = p' at *
  generalize ev (dX F) x y = q at *
  generalize ev (dY F) x y = q' at *
  generalize ev (dX G) x y = r at *
  generalize ev (dY G) x y = r' at *
  generalize ev F x y = f at *
  generalize ev G x y = g at *
  refine ⟨q * r + A * g + f * B - R + k * (q * B + A * r) + k * k * A * B, ?_⟩
  grind
theorem pow_sg : ∀ n : Nat, (-1 : Int) ^ n = LA.sg n
  | 0 => rfl
  | n + 1 => by
    rw [Int.pow_succ, pow_sg n, sg_succ]
    omega
theorem ev_m10 : ∀ (l : List Int), 1 ≤ l.length → ev l (-1) 0 = LA.sg (l.length - 1) * co l 0
  | a :: l, _ => by
    rw [ev_cons, pow_sg, Int.zero_mul, Int.add_zero, List.length_cons, Nat.add_sub_cancel, Int.mul_comm]
    rfl
theorem zs_comm {l m : List Int} (h : l.length = m.length) : zs 1 l m = zs 1 m l := co_inj (by rw [zs_len h, zs_len h.symm, h]) fun k => by
  rw [co_zs' 1 h, co_zs' 1 h.symm]
  omega
theorem sg_even (n : Nat) : LA.sg (n * (n - 1)) = 1 := by
  cases n with
  | zero => rfl
  | succ n =>
    rw [Nat.add_sub_cancel, sg_par (y := 0)]
    · rfl
    · rcases Nat.mod_two_eq_zero_or_one n with h | h
      · rw [Nat.mul_mod, h, Nat.mul_zero]
      · rw [Nat.mul_mod, Nat.add_mod, h]
theorem sg_mm (n : Nat) : LA.sg (n * n) = LA.sg n := sg_par (by
  rcases Nat.mod_two_eq_zero_or_one n with h | h
  · rw [Nat.mul_mod, h]
  · rw [Nat.mul_mod, h])
theorem sgt_add (n : Nat) : ∀ m, sgt (n + m) = sgt n * sgt m * LA.sg (n * m)
  | 0 => by
    show sgt n = sgt n * 1 * 1
    omega
  | m + 1 => by
    show LA.sg (n + m) * sgt (n + m) = sgt n * (LA.sg m * sgt m) * LA.sg (n * (m + 1))
    rw [sgt_add n m, Nat.mul_add, Nat.mul_one, LA.sg_add, LA.sg_add]
    grind
/-- rows of a form and of its derivatives -/
def Md (n : Nat) (F : List Int) : Tab := fun i => if i < n - 2 then sx (co F) i else if i < n - 1 then sx (co (dX F)) i else sx (co (dY F)) (i - (n - 1))
def Dm (F : List Int) : Int := det (F.length - 2 + (F.length - 2)) (Md (F.length - 1) F)
theorem co_dX (F : List Int) (k : Nat) : co (dX F) k = if k < F.length - 1 then co F k * ((F.length : Int) - 1 - k) else 0 := co_tb k
theorem co_dY (F : List Int) (k : Nat) : co (dY F) k = if k < F.length - 1 then co F (k + 1) * ((k : Int) + 1) else 0 := co_tb k
/-- the resultant of the derivatives holds a power of the degree -/
theorem res_disc {F : List Int} {n : Nat} (lF : F.length = n + 1) (n1 : 1 ≤ n) : Res (dX F) (dY F) = (n : Int) ^ (n - 2) * Dm F := by
  obtain ⟨p, hp⟩ : ∃ p, n = p + 1 := ⟨n - 1, by omega⟩
  have lX : (dX F).length = p + 1 := by rw [dX_len]; omega
  have lY : (dY F).length = p + 1 := by rw [dY_len]; omega
  rw [res_rs lX lY]
  unfold Dm
  rw [show F.length - 2 = p by omega, show F.length - 1 = n by omega]
  let T : Tab := fun i j => if i < n - 2 then idT i j + idT (n + i) j else idT i j
  have dT : det (p + p) T = 1 := by
    rw [det_diagU fun i u h1 h2 => ?_, prd_congr (g := fun _ => 1) fun i hi => ?_, prd_const, Int.one_pow]
    · show (if i < n - 2 then idT i i + idT (n + i) i else idT i i) = 1
      rw [show idT i i = 1 from if_pos rfl, show idT (n + i) i = 0 from if_neg (by omega)]
      split <;> rfl
    · show (if i < n - 2 then idT i u + idT (n + i) u else idT i u) = 0
      rw [show idT i u = 0 from if_neg (by omega), show idT (n + i) u = 0 from if_neg (by omega)]
      split <;> rfl
  let D : Tab := fun i j => if i < n - 2 then (n : Int) * idT i j else idT i j
  have dD : det (p + p) D = (n : Int) ^ (n - 2) := by
    rw [det_diagU fun i u h1 h2 => ?_, ← prd_const, ← prd_steps (n : Int) 0 (n - 2) (p + p - (n - 2)), show 0 + (n - 2) + (p + p - (n - 2)) = p + p by omega]
    · refine prd_congr fun i hi => ?_
      show (if i < n - 2 then (n : Int) * idT i i else idT i i) = _
      rw [show idT i i = 1 from if_pos rfl, if_neg (Nat.not_lt_zero i), Nat.zero_add, Int.mul_one]
    · show (if i < n - 2 then (n : Int) * idT i u else idT i u) = 0
      rw [show idT i u = 0 from if_neg (by omega), Int.mul_zero]
      split <;> rfl
  have h1 := det_mul (p + p) T (SyT p (co (dX F)) (co (dY F)))
  have h2 := det_mul (p + p) D (Md n F)
  rw [dT, Int.one_mul] at h1
  rw [dD] at h2
  rw [← h1, ← h2]
  refine det_congr fun i j hi hj => ?_
  have eD : mulT (p + p) D (Md n F) i j = (if i < n - 2 then (n : Int) else 1) * Md n F i j := by
    unfold mulT
    rw [S_one (p := i) hi fun l hl ne => by
      show (if i < n - 2 then (n : Int) * idT i l else idT i l) * _ = 0
      rw [show idT i l = 0 from if_neg (Ne.symm ne), Int.mul_zero]
      split <;> exact Int.zero_mul _]
    show (if i < n - 2 then (n : Int) * idT i i else idT i i) * _ = _
    rw [show idT i i = 1 from if_pos rfl, Int.mul_one]
  rw [eD]
  by_cases c : i < n - 2
  · have eT : mulT (p + p) T (SyT p (co (dX F)) (co (dY F))) i j = SyT p (co (dX F)) (co (dY F)) i j + SyT p (co (dX F)) (co (dY F)) (n + i) j := by
      unfold mulT
      rw [S_congr (g := fun l => idT i l * SyT p (co (dX F)) (co (dY F)) l j + idT (n + i) l * SyT p (co (dX F)) (co (dY F)) l j) fun l hl => by
        show (if i < n - 2 then idT i l + idT (n + i) l else _) * _ = _
        rw [if_pos c, Int.add_mul], S_add, S_one (p := i) hi fun l hl ne => by rw [show idT i l = 0 from if_neg (Ne.symm ne), Int.zero_mul], S_one (n := p + p) (f := fun l => idT (n + i) l * SyT p (co (dX F)) (co (dY F)) l j) (p := n + i) (by omega) fun l hl ne => by rw [show idT (n + i) l = 0 from if_neg (Ne.symm ne), Int.zero_mul]]
      rw [show idT i i = 1 from if_pos rfl, show idT (n + i) (n + i) = 1 from if_pos rfl, Int.one_mul, Int.one_mul]
    rw [eT, if_pos c]
    show (if i < p then sx (co (dX F)) i else _) j + (if n + i < p then _ else sx (co (dY F)) (n + i - p)) j = (n : Int) * (if i < n - 2 then sx (co F) i else _) j
    rw [if_pos (by omega), if_neg (by omega), if_pos c, show n + i - p = i + 1 by omega]
    unfold sx
    by_cases e : i ≤ j
    · rw [if_pos e, if_pos e, co_dX, lF, Nat.add_sub_cancel]
      by_cases z : j = i
      · rw [if_neg (show ¬ i + 1 ≤ j by omega), if_pos (show j - i < n by omega), z, Nat.sub_self, Int.add_zero, show ((n + 1 : Nat) : Int) - 1 - ((0 : Nat) : Int) = (n : Int) by omega, Int.mul_comm]
      · rw [if_pos (show i + 1 ≤ j by omega), co_dY, lF, Nat.add_sub_cancel, show j - (i + 1) + 1 = j - i by omega]
        by_cases g : j - i < n
        · rw [if_pos g, if_pos (by omega), show ((j - (i + 1) : Nat) : Int) + 1 = ((j - i : Nat) : Int) by omega]
          grind
        · rw [if_neg g]
          by_cases g2 : j - (i + 1) < n
          · rw [if_pos g2, show ((j - (i + 1) : Nat) : Int) + 1 = (n : Int) by omega]
            grind
          · rw [if_neg g2, co_far (l := F) (by omega)]
            omega
    · rw [if_neg e, if_neg e, if_neg (by omega)]
      omega
  · have eT : mulT (p + p) T (SyT p (co (dX F)) (co (dY F))) i j = SyT p (co (dX F)) (co (dY F)) i j := by
      unfold mulT
      rw [S_one (p := i) hi fun l hl ne => by
        show (if i < n - 2 then _ else idT i l) * _ = 0
        rw [if_neg c, show idT i l = 0 from if_neg (Ne.symm ne), Int.zero_mul]]
      show (if i < n - 2 then _ else idT i i) * _ = _
      rw [if_neg c, show idT i i = 1 from if_pos rfl, Int.one_mul]
    rw [eT, if_neg c, Int.one_mul]
    show (if i < p then sx (co (dX F)) i else sx (co (dY F)) (i - p)) j = (if i < n - 2 then _ else if i < n - 1 then sx (co (dX F)) i else sx (co (dY F)) (i - (n - 1))) j
    rw [if_neg c, show n - 1 = p by omega]
/-- by the resultant with a derivative -/
theorem disc_a0 {F : List Int} {n : Nat} (lF : F.length = n + 1) (n1 : 1 ≤ n) : Res (dX F) F = co F 0 * Dm F := by
  by_cases n2 : n = 1
  · subst n2
    match F, lF with
    | [a, b], _ =>
      have e : dX [a, b] = [a] := by
        show [a * (2 - 1 - 0)] = [a]
        rw [show a * (2 - 1 - 0) = a by omega]
      rw [e, res_const a (G := [a, b]) (Nat.le_refl 2)]
      show a ^ 1 = a * 1
      rw [Int.pow_succ, Int.pow_zero]
      omega
  · have n2 : 2 ≤ n := by omega
    have lX : (dX F).length = n := by rw [dX_len]; omega
    have lY : (dY F).length = n := by rw [dY_len]; omega
    have nX : dX F ≠ [] := dX_ne (by omega)
    have nY : dY F ≠ [] := dY_ne (by omega)
    have nF : F ≠ [] := ne_of2 (by omega)
    have l1 : (ml [1, 0] (dX F)).length = n + 1 := by rw [ml_len, lX]; show 2 + n - 1 = _; omega
    have l2 : (ml [0, 1] (dY F)).length = n + 1 := by rw [ml_len, lY]; show 2 + n - 1 = _; omega
    have eu := euler (l := F) (by omega)
    -- one way
    have a1 : Res (F.map fun x => x * ((F.length : Int) - 1)) (dX F) = (n : Int) ^ (n - 1) * Res F (dX F) := by
      have e : (F.map fun x => x * ((F.length : Int) - 1)) = ml [(n : Int)] F := by
        rw [map_mul_comm, lF, show ((n + 1 : Nat) : Int) - 1 = (n : Int) by omega]
        refine co_inj (by rw [ml_len, List.length_map]; show F.length = 1 + F.length - 1; omega) fun k => ?_
        rw [co_scale, co_ml nF]
        cases k with
        | zero => rw [cv_zero]
        | succ k => rw [cv_succ, cv_nil, Int.add_zero]
      rw [e, res_mul (by simp) nF nX, res_const _ (by omega), lX]
    have a2 : Res (dX F) (F.map fun x => x * ((F.length : Int) - 1)) = (n : Int) ^ (n - 1) * Res (dX F) F := by
      rw [res_swap (F := F.map fun x => x * ((F.length : Int) - 1)) (G := dX F) (by rw [List.length_map]; omega) (by omega), a1, res_swap (F := F) (G := dX F) (by omega) (by omega), List.length_map, Int.mul_assoc]
    -- the other way
    have b1 : Res (dX F) (F.map fun x => x * ((F.length : Int) - 1)) = Res (dX F) (ml [0, 1] (dY F)) := by
      rw [← eu, zs_comm (by rw [l1, l2]), res_addR (p := n - 1) (q := n) (by omega) l2 (by show 2 + (n - 1) = n + 1; omega) (by simp)]
    have b2 : Res [0, 1] (dX F) = LA.sg (n - 1) * co (dX F) 0 := by
      have e := res_line (u := -1) (v := 0) (by decide) (F := [1]) (G := dX F) (by decide) (by omega)
      rw [show ml [0, 0 - -1] [1] = [0, 1] from by rw [ml_one]; rfl, ev_m10 _ (by omega), lX, res_const 1 (by omega), Int.one_pow, Int.mul_one] at e
      exact e
    have b3 : Res (dX F) (ml [0, 1] (dY F)) = (n : Int) * co F 0 * Res (dX F) (dY F) := by
      rw [res_swap (F := ml [0, 1] (dY F)) (G := dX F) (by omega) (by omega), l2, lX, Nat.add_sub_cancel, sg_even, Int.mul_one, res_mul (by simp) nY nX, b2, res_swap (F := dX F) (G := dY F) (by omega) (by omega), lX, lY, sg_mm, co_dX, if_pos (by omega), lF]
      have := LA.sg_sq (n - 1)
      rw [show ((n + 1 : Nat) : Int) - 1 - ((0 : Nat) : Int) = (n : Int) by omega]
      grind
    rw [a2, b3, res_disc lF n1] at b1
    have e : (n : Int) ^ (n - 1) = (n : Int) * (n : Int) ^ (n - 2) := by
      rw [show n - 1 = (n - 2) + 1 by omega, Int.pow_succ, Int.mul_comm]
    rw [e] at b1
    have nz : (n : Int) * (n : Int) ^ (n - 2) ≠ 0 := Int.mul_ne_zero (by omega) (pow_nz (by omega) _)
    refine Int.eq_of_mul_eq_mul_left nz ?_
    rw [b1]
    grind
theorem sx_mod {t : Int} {f g : Nat → Int} (h : ∀ i, t ∣ f i - g i) (i j : Nat) : t ∣ sx f i j - sx g i j := by
  unfold sx
  split
  · exact h _
  · exact ⟨0, by omega⟩
theorem Md_mod {t : Int} {n : Nat} {A F : List Int} (h : ∀ i, t ∣ co A i - co F i) (hX : ∀ i, t ∣ co (dX A) i - co (dX F) i) (hY : ∀ i, t ∣ co (dY A) i - co (dY F) i) (i j : Nat) : t ∣ Md n A i j - Md n F i j := by
  unfold Md
  by_cases c : i < n - 2
  · rw [if_pos c, if_pos c]
    exact sx_mod h _ _
  · rw [if_neg c, if_neg c]
    by_cases d : i < n - 1
    · rw [if_pos d, if_pos d]
      exact sx_mod hX _ _
    · rw [if_neg d, if_neg d]
      exact sx_mod hY _ _
theorem Dm_mod {t : Int} {A F : List Int} (hl : A.length = F.length) (h : ∀ i, t ∣ co A i - co F i) : t ∣ Dm A - Dm F := by
  unfold Dm
  rw [hl]
  refine det_mod fun i j _ _ => Md_mod h (fun i => ?_) (fun i => ?_) i j
  · rw [co_dX, co_dX, hl]
    split
    · exact mul_mod (h _) ⟨0, by omega⟩
    · exact ⟨0, by omega⟩
  · rw [co_dY, co_dY, hl]
    split
    · exact mul_mod (h _) ⟨0, by omega⟩
    · exact ⟨0, by omega⟩
theorem res_mulR {P F G : List Int} (lP : 2 ≤ P.length) (lF : 2 ≤ F.length) (lG : 2 ≤ G.length) : Res P (ml F G) = Res P F * Res P G := by
  have l : (ml F G).length = F.length + G.length - 1 := ml_len _ _
  rw [res_swap (F := ml F G) (G := P) (by omega) lP, res_mul (ne_of2 (by omega)) (ne_of2 (by omega)) (ne_of2 (by omega)), res_swap (F := F) (G := P) lF lP, res_swap (F := G) (G := P) lG lP, l, show (F.length + G.length - 1 - 1) * (P.length - 1) = (F.length - 1) * (P.length - 1) + (G.length - 1) * (P.length - 1) by rw [← Nat.add_mul]; congr 1; omega, LA.sg_add]
  grind
theorem disc_mul0 {F G : List Int} {n m : Nat} (lF : F.length = n + 1) (lG : G.length = m + 1) (n1 : 1 ≤ n) (m1 : 1 ≤ m) (f0 : co F 0 ≠ 0) (g0 : co G 0 ≠ 0) : Dm (ml F G) = LA.sg (n * m) * (Dm F * Dm G * (Res F G * Res F G)) := by
  have nF := ne_of2 (show 1 ≤ F.length by omega)
  have nG := ne_of2 (show 1 ≤ G.length by omega)
  have lP : (ml F G).length = n + m + 1 := by rw [ml_len]; omega
  have lX : (dX F).length = n := by rw [dX_len]; omega
  have lY : (dX G).length = m := by rw [dX_len]; omega
  have nX : dX F ≠ [] := dX_ne (by omega)
  have nY : dX G ≠ [] := dX_ne (by omega)
  have hP := disc_a0 lP (by omega)
  have hF := disc_a0 lF n1
  have hG := disc_a0 lG m1
  have e0 : co (ml F G) 0 = co F 0 * co G 0 := by
    rw [co_ml nG]
    match F, nF with
    | a :: r, _ => rw [cv_zero]; rfl
  have l1 : (ml (dX F) G).length = n + m := by rw [ml_len]; omega
  have l2 : (ml (dX G) F).length = n + m := by rw [ml_len]; omega
  have s1 : Res (dX (ml F G)) F = Res (dX F) F * Res G F := by
    rw [dX_ml (by omega) (by omega), res_addL (p := n + m - 1) (q := n) (by omega) lF (by omega) nY, res_mul nX nG nF]
  have s2 : Res (dX (ml F G)) G = Res (dX G) G * Res F G := by
    rw [dX_ml (by omega) (by omega), zs_comm (by omega), res_addL (p := n + m - 1) (q := m) (by omega) lG (by omega) nX, res_mul nY nF nG]
  rw [res_mulR (by rw [dX_len]; omega) (by omega) (by omega), s1, s2, hF, hG, res_swap (F := F) (G := G) (by omega) (by omega), lF, lG, Nat.add_sub_cancel, Nat.add_sub_cancel, e0] at hP
  refine Int.eq_of_mul_eq_mul_left (Int.mul_ne_zero f0 g0) ?_
  rw [← hP]
  grind
theorem disc_mul1 {F G : List Int} {n m : Nat} (lF : F.length = n + 1) (lG : G.length = m + 1) (n1 : 1 ≤ n) (m1 : 1 ≤ m) (f0 : co F 0 ≠ 0) : Dm (ml F G) = LA.sg (n * m) * (Dm F * Dm G * (Res F G * Res F G)) := by
  have nF := ne_of2 (show 1 ≤ F.length by omega)
  match G, lG with
  | b :: r, lG =>
    by_cases c : b = 0
    · rw [c]
      have len : ∀ t : Int, (t :: r).length = m + 1 := fun t => lG
      have hr : ∀ t : Int, t ∣ Res F (t :: r) - Res F (0 :: r) := fun t => by
        have l1 := len t
        have l2 := len 0
        rw [res_swap (F := t :: r) (G := F) (by omega) (by omega), res_swap (F := 0 :: r) (G := F) (by omega) (by omega), l1, l2]
        exact mul_mod (res_mod (A := t :: r) (F := 0 :: r) rfl (by omega) (by omega) (co_head r)) ⟨0, by omega⟩
      refine eq_mod (f := fun t => Dm (ml F (t :: r))) (g := fun t => LA.sg (n * m) * (Dm F * Dm (t :: r) * (Res F (t :: r) * Res F (t :: r)))) (fun t ht => disc_mul0 lF (len t) n1 m1 f0 ht) (fun t => ?_) (fun t => ?_)
      · refine Dm_mod (by rw [ml_len, ml_len]; rfl) fun i => ?_
        rw [ml_comm F, ml_comm F]
        exact ml_mod nF (by simp) (by simp) (co_head r) i
      · exact mul_mod ⟨0, by omega⟩ (mul_mod (mul_mod ⟨0, by omega⟩ (Dm_mod (A := t :: r) (F := 0 :: r) rfl (co_head r))) (mul_mod (hr t) (hr t)))
    · exact disc_mul0 lF lG n1 m1 f0 c
theorem disc_mul {F G : List Int} {n m : Nat} (lF : F.length = n + 1) (lG : G.length = m + 1) (n1 : 1 ≤ n) (m1 : 1 ≤ m) : Dm (ml F G) = LA.sg (n * m) * (Dm F * Dm G * (Res F G * Res F G)) := by
  have nG := ne_of2 (show 1 ≤ G.length by omega)
  match F, lF with
  | a :: r, lF =>
    by_cases c : a = 0
    · rw [c]
      have len : ∀ t : Int, (t :: r).length = n + 1 := fun t => lF
      have hr : ∀ t : Int, t ∣ Res (t :: r) G - Res (0 :: r) G := fun t => res_mod (A := t :: r) (F := 0 :: r) rfl (by have := len 0; omega) (by omega) (co_head r)
      refine eq_mod (f := fun t => Dm (ml (t :: r) G)) (g := fun t => LA.sg (n * m) * (Dm (t :: r) * Dm G * (Res (t :: r) G * Res (t :: r) G))) (fun t ht => disc_mul1 (len t) lG n1 m1 ht) (fun t => ?_) (fun t => ?_)
      · exact Dm_mod (by rw [ml_len, ml_len]; rfl) (ml_mod nG (by simp) (by simp) (co_head r))
      · exact mul_mod ⟨0, by omega⟩ (mul_mod (mul_mod (Dm_mod (A := t :: r) (F := 0 :: r) rfl (co_head r)) ⟨0, by omega⟩) (mul_mod (hr t) (hr t)))
    · exact disc_mul1 lF lG n1 m1 c
/-- the discriminant -/
def dsc (F : List Int) : Int := sgt (F.length - 1) * Dm F
theorem dsc_mul {F G : List Int} (lF : 2 ≤ F.length) (lG : 2 ≤ G.length) : dsc (ml F G) = dsc F * dsc G * (Res F G * Res F G) := by
  obtain ⟨n, hn⟩ : ∃ n, F.length = n + 1 := ⟨F.length - 1, by omega⟩
  obtain ⟨m, hm⟩ : ∃ m, G.length = m + 1 := ⟨G.length - 1, by omega⟩
  unfold dsc
  rw [disc_mul hn hm (by omega) (by omega), ml_len, hn, hm, Nat.add_sub_cancel, Nat.add_sub_cancel, show n + 1 + (m + 1) - 1 - 1 = n + m by omega, sgt_add]
  have := LA.sg_sq (n * m)
  grind
theorem disc_changed {a b c e : Int} (hd : a * e - b * c ≠ 0) {F : List Int} {n : Nat} (lF : F.length = n + 1) (n2 : 2 ≤ n) : dsc (changed [a, b] [c, e] F) = dsc F * (a * e - b * c) ^ (n * (n - 1)) := by
  have nF := ne_of2 (show 1 ≤ F.length by omega)
  have lC : (changed [a, b] [c, e] F).length = n + 1 := by rw [changed_len rfl rfl nF, lF]
  have lX : (dX F).length = n := by rw [dX_len]; omega
  have lY : (dY F).length = n := by rw [dY_len]; omega
  have l1 : (changed [a, b] [c, e] (dX F)).length = n - 1 + 1 := by rw [changed_len rfl rfl (dX_ne (by omega)), lX]; omega
  have l2 : (changed [a, b] [c, e] (dY F)).length = n - 1 + 1 := by rw [changed_len rfl rfl (dY_ne (by omega)), lY]; omega
  have h := res_disc lC (by omega)
  rw [dX_changed (by omega), dY_changed (by omega), res_lin l1 l2, res_changed hd (by omega) (by omega), res_disc lF (by omega), lX, lY] at h
  have nz : (n : Int) ^ (n - 2) ≠ 0 := pow_nz (by omega) _
  have h2 : Dm (changed [a, b] [c, e] F) = Dm F * (a * e - b * c) ^ (n * (n - 1)) := by
    refine Int.eq_of_mul_eq_mul_left nz ?_
    rw [← h, show n * (n - 1) = (n - 1) + (n - 1) * (n - 1) by
      obtain ⟨k, hk⟩ : ∃ k, n = k + 1 := ⟨n - 1, by omega⟩
      rw [hk, Nat.add_sub_cancel, Nat.add_mul]
      omega, Int.pow_add]
    grind
  unfold dsc
  rw [lC, lF, h2]
  grind
/-- what the program reckons -/
theorem dsc_div {F : List Int} {n : Nat} (lF : F.length = n + 1) (n1 : 1 ≤ n) : (sgt n * Res (dX F) (dY F)).fdiv ((n : Int) ^ (n - 2)) = dsc F := by
  have nz : (n : Int) ^ (n - 2) ≠ 0 := pow_nz (by omega) _
  unfold dsc
  rw [res_disc lF n1, lF, Nat.add_sub_cancel, show sgt n * ((n : Int) ^ (n - 2) * Dm F) = (n : Int) ^ (n - 2) * (sgt n * Dm F) by grind, Int.mul_fdiv_cancel_left _ nz]
theorem dsc_res {F : List Int} {n : Nat} (lF : F.length = n + 1) (n1 : 1 ≤ n) : Res (dX F) (dY F) = sgt n * (n : Int) ^ (n - 2) * dsc F := by
  unfold dsc
  rw [res_disc lF n1, lF, Nat.add_sub_cancel]
  have := sgt_sq n
  grind
theorem dsc_line (p q : Int) : dsc [p, q] = 1 := rfl
theorem res_two (p q r s : Int) : Res [p, q] [r, s] = p * s - r * q := by
  rw [res_rs (p := 1) (q := 1) rfl rfl]
  show 0 + 1 * p * (0 + 1 * s * 1) + -1 * q * (0 + 1 * r * 1) = _
  grind
end K77

set_option Elab.async false
set_option linter.all false
set_option maxRecDepth 100000
set_option maxHeartbeats 4000000
set_option exponentiation.threshold 10000
/-! discriminants -/
namespace K77
open PySem PySem.Spec PyProof.Rows L2 StX RZ MyR SlX OwnR OwnF EnumT SeqE GxR GenNx FDivQ LA
theorem big_det2 : ∀ n, n ≤ 16 → (n * 2 ^ 100) ^ n < 2 ^ 4000 := fun n h => by
  refine Nat.lt_of_le_of_lt (Nat.pow_le_pow_left (Nat.mul_le_mul_right _ h) n) (Nat.lt_of_le_of_lt (Nat.pow_le_pow_right (by decide) h) (by decide +kernel))
theorem detOk2 {F G : List Int} (f2 : 2 ≤ F.length) (g2 : 2 ≤ G.length) (h : F.length + G.length ≤ 18) (bF : bt 100 F) (bG : bt 100 G) : DetOk (F.length + G.length - 2) (2 ^ 100) (urows F G (F.length + G.length - 3)) where
  ln := by rw [urows_len]; omega
  lr := fun r hr => by rw [urows_w r hr]; omega
  hM := urows_mem (bt_mem bF) (bt_mem bG)
  n1 := by omega
  n20 := by omega
  M1 := Nat.one_le_two_pow
  bd := big_det2 _ (by omega)
theorem res_small2 {F G : List Int} (f2 : 2 ≤ F.length) (g2 : 2 ≤ G.length) (h : F.length + G.length ≤ 18) (bF : bt 100 F) (bG : bt 100 G) : (Res F G).natAbs < 2 ^ 3990 := by
  rw [← res_bdet f2 g2]
  refine Nat.lt_of_le_of_lt (detOk2 f2 g2 h bF bG).det ?_
  exact Nat.lt_of_le_of_lt (Nat.pow_le_pow_left (Nat.mul_le_mul_right _ (show F.length + G.length - 2 ≤ 16 by omega)) _) (Nat.lt_of_le_of_lt (Nat.pow_le_pow_right (by decide) (show F.length + G.length - 2 ≤ 16 by omega)) (by decide +kernel))
theorem dX_bt {F : List Int} (hl : F.length ≤ 10) (h : bt 96 F) : bt 100 (dX F) := fun k => by
  rw [co_dX]
  split
  · rw [Int.natAbs_mul]
    refine Nat.lt_of_le_of_lt (Nat.mul_le_mul (Nat.le_of_lt (h k)) (show ((F.length : Int) - 1 - k).natAbs ≤ 9 by omega)) (by decide)
  · decide
theorem dY_bt {F : List Int} (hl : F.length ≤ 10) (h : bt 96 F) : bt 100 (dY F) := fun k => by
  rw [co_dY]
  split
  · rw [Int.natAbs_mul]
    refine Nat.lt_of_le_of_lt (Nat.mul_le_mul (Nat.le_of_lt (h (k + 1))) (show ((k : Int) + 1).natAbs ≤ 9 by omega)) (by decide)
  · decide
theorem sgt_10 : ∀ n : Nat, n < 10 → (if (((n : Int) * ((n : Int) - 1)).fdiv 2 % 2) = 1 then (-1 : Int) else 1) = sgt n := by decide
theorem sgt_abs (n : Nat) : (sgt n).natAbs = 1 := by
  have : (sgt n).natAbs * (sgt n).natAbs = 1 := by rw [← Int.natAbs_mul, sgt_sq n]; rfl
  exact Nat.eq_one_of_mul_eq_one_left this
theorem pw_le {n i : Nat} (hn : n ≤ 10) (hi : i ≤ 10) : ((n : Int) ^ i).natAbs ≤ 2 ^ 40 := by
  rw [Int.natAbs_pow, Int.natAbs_natCast]
  exact Nat.le_trans (Nat.pow_le_pow_left hn i) (Nat.le_trans (Nat.pow_le_pow_right (by decide) hi) (by decide))
theorem nm_leB {L : Nat} {l : List Int} (h : ∀ x ∈ l, x.natAbs ≤ 2 ^ L) : nm l ≤ l.length * 2 ^ L := by
  unfold nm
  induction l with
  | nil => exact Nat.zero_le _
  | cons a l ih =>
    rw [List.map_cons, List.sum_cons, List.length_cons, Nat.succ_mul]
    have := ih fun x hx => h x (.tail _ hx)
    have := h a (.head _)
    omega
theorem sm_pw {n i : Nat} (hn : n ≤ 10) (hi : i ≤ 10) : sm ((n : Int) ^ i) := sm_small (pw_le hn hi)
theorem bt_nm {L : Nat} {l : List Int} (h : bt L l) : nm l ≤ l.length * 2 ^ L := nm_leB (bt_mem h)
theorem dd10 (F : List Int) : dd 1 0 F = dX F := rfl
theorem dd01 (F : List Int) : dd 0 1 F = dY F := rfl
theorem ddOk1 {F : List Int} {i j : Nat} (h : i + j = 1) (f2 : 2 ≤ F.length) (hl : F.length ≤ 10) (b : bt 96 F) : DdOk i j F := by
  refine ddOk_of (by omega) (by omega) ?_
  rw [h, Nat.pow_one]
  have := bt_nm b
  exact Nat.lt_of_le_of_lt (Nat.mul_le_mul hl (Nat.le_trans this (Nat.mul_le_mul_right _ hl))) (show 10 * (10 * 2 ^ 96) < 2 ^ 4000 by decide +kernel)
section
variable {P : Program} {w : World} {K : PySem.W.Frag} {mg : Str → Option Value} {base : Heap} {Ps : List Addr}
theorem ok_raised_to (T : Facts K mg) : FnOk P w K mg base CX0 1 T.f_raised_to T.fd_raised_to ["number", "many"] spRaised := by
  refine T.F_raised_to.ok sc_raised_to (fun vs H Q E h => ?_) (fun cdv A outer s H vs Q E hr h => ?_)
  · obtain ⟨c, n, rfl, _⟩ := h
    rfl
  · obtain ⟨c, n, rfl, hs, hc, hn, q⟩ := h
    refine ⟨_, (PSs.nox (pss_cons (ps_set (i := 2) sc_raised_to.nd rfl (.inl rfl) pe_int)
    (pss_cons (ps_for PassesOwn.never (by rfl) (pi_range1 (by rfl) T.z_range (pa_cons (pv 1) pa_nil)) (pg_name (i := 3) sc_raised_to.nd rfl (.inl rfl))
      (pss_one (ps_aug (i := 2) sc_raised_to.nd rfl (.inl rfl) (pv 0) AugM.ip_mulW)))
    (pss_one (ps_ret (pv 2)))))), ?_⟩
    refine ⟨_, rfl, n, rfl, by omega, by omega, for_range (n := (n : Int).toNat) (fun i σ H' => ∃ y3, σ = [some (.int c), some (.int n), some (.int (c ^ i)), y3] ∧ H' = H) ⟨none, by rw [Int.pow_zero]; rfl, rfl⟩ (fun i σ H' hi hP => ?_) (fun σ H' hP => ?_)⟩
    · obtain ⟨y3, rfl, rfl⟩ := hP
      refine ⟨_, rfl, _, rfl, _, _, rfl, rfl, sm_mul (hs i (by omega)) hc, ⟨some (.int (0 + (i : Int))), ?_, rfl⟩⟩
      rw [Int.pow_succ]
      rfl
    · obtain ⟨y3, rfl, rfl⟩ := hP
      rw [Int.toNat_natCast]
      exact ⟨_, rfl, q⟩
def spDscIn : Sp := fun vs H Q _ => ∃ (t : Addr) (F : List Int), vs = [.ref t] ∧ H t = some (tp F) ∧ 3 ≤ F.length ∧ F.length ≤ 10 ∧ bt 96 F ∧ ∀ H', Same H H' → Q (.int (dsc F)) H'
theorem ok_discriminant_in (T : Facts K mg) : FnOk P w K mg base CX0 4 T.f_discriminant_in T.fd_discriminant_in ["entries"] spDscIn := by
  have G_resultant_in := ok_resultant_in (P := P) (w := w) (base := base) T
  have G_derived_in := ok_derived_in (P := P) (w := w) (base := base) T
  have G_raised_to := ok_raised_to (P := P) (w := w) (base := base) T
  refine T.F_discriminant_in.ok sc_discriminant_in (fun vs H Q E h => ?_) (fun cdv A outer s H vs Q E hr h => ?_)
  · obtain ⟨t, F, rfl, _⟩ := h
    rfl
  · obtain ⟨t, F, rfl, ht, f3, f10, bF, q⟩ := h
    refine ⟨_, (PSs.nox (pss_cons (ps_set (i := 1) sc_discriminant_in.nd rfl (.inl rfl) (pe_op op_sub (pe_callB call_len_seq (by rfl) T.z_len (by decide +kernel) (pa_cons (pv 0) pa_nil)) pe_int))
    (pss_cons (ps_set (i := 2) sc_discriminant_in.nd rfl (.inl rfl) (pe_call G_resultant_in hr (by rfl) T.g_resultant_in T.F_resultant_in.kp T.b_resultant_in .nil pass0 (pa_cons (pe_call G_derived_in (hr.mono (by decide)) (by rfl) T.g_derived_in T.F_derived_in.kp T.b_derived_in .nil pass0 (pa_cons (pv 0) (pa_cons pe_int (pa_cons pe_int pa_nil)))) (pa_cons (pe_call G_derived_in (hr.mono (by decide)) (by rfl) T.g_derived_in T.F_derived_in.kp T.b_derived_in .nil pass0 (pa_cons (pv 0) (pa_cons pe_int (pa_cons pe_int pa_nil)))) pa_nil))))
    (pss_cons (ps_set (i := 3) sc_discriminant_in.nd rfl (.inl rfl) (pe_ifExp (pt_cmpR op_eq (pe_op op_mod (pe_op op_fdivZ (pe_op op_mulW (pv 1) (pe_op op_sub (pv 1) pe_int)) pe_int) pe_int) pe_int (nomark _)) (pe_un un_neg pe_int) pe_int))
    (pss_one (ps_ret (pe_op op_fdivZ (pe_op op_mulW (pv 3) (pv 2)) (pe_call G_raised_to (hr.mono (by decide)) (by rfl) T.g_raised_to T.F_raised_to.kp T.b_raised_to .nil pass0 (pa_cons (pv 1) (pa_cons (pe_op op_sub (pv 1) pe_int) pa_nil)))))))))), ?_⟩
    obtain ⟨n, hn⟩ : ∃ n, F.length = n + 1 := ⟨F.length - 1, by omega⟩
    refine ⟨_, rfl, t, _, rfl, .inr (SqT.of ht), _, _, rfl, rfl, ?_⟩
    rw [List.length_map, hn, show (fun i j => V.int (i - j)) ((n + 1 : Nat) : Int) 1 = V.int (n : Int) from by show V.int _ = V.int _; congr 1; omega]
    refine ⟨_, rfl, t, F, 1, 0, rfl, ht, ddOk1 rfl (by omega) f10 bF, fun a H1 s1 e1 => ⟨_, rfl, t, F, 0, 1, rfl, s1 _ _ ht, ddOk1 rfl (by omega) f10 bF, fun b H2 s2 e2 => ?_⟩⟩
    rw [dd10] at e1
    rw [dd01] at e2
    have lX : (dX F).length = n := by rw [dX_len]; omega
    have lY : (dY F).length = n := by rw [dY_len]; omega
    have bX := dX_bt f10 bF
    have bY := dY_bt f10 bF
    refine ⟨a, b, dX F, dY F, _, rfl, s2 _ _ e1, e2, by omega, by omega, by omega, by omega, detOk2 (by omega) (by omega) (by omega) bX bY, fun H3 s3 => ?_⟩
    have rs := res_small2 (F := dX F) (G := dY F) (by omega) (by omega) (by omega) bX bY
    have s03 := s1.trans (s2.trans s3)
    clear e1 e2 s1 s2 s3
    refine ⟨_, rfl, _, rfl, _, _, rfl, rfl, _, _, rfl, rfl, sm_mul (sm_small (show ((n : Int)).natAbs ≤ 2 ^ 40 by omega)) (sm_small (show ((n : Int) - 1).natAbs ≤ 2 ^ 40 by omega)), _, _, rfl, rfl, (show (2 : Int) ≠ 0 ∧ (2 : Int).natAbs.log2 < 9000 from ⟨by decide, by decide⟩), _, _, rfl, rfl, (by show (0 : Int) < 2; decide), rfl, _, rfl, ?_⟩
    have sg := sgt_10 n (by omega)
    have fin : ∀ H', Same H H' → Q (.int ((sgt n * Res (dX F) (dY F)).fdiv ((n : Int) ^ (n - 2)))) H' := fun H' s' => by
      rw [dsc_div hn (by omega)]
      exact q H' s'
    have f3 := fin H3 s03
    have mul : CMulW (sgt n) (Res (dX F) (dY F)) := wide_mul (a := 1) (b := 3990) (by rw [sgt_abs]; decide) rs (by decide) (by decide) (by decide)
    have dv : CDivZ (sgt n * Res (dX F) (dY F)) ((n : Int) ^ (n - 2)) := ⟨pow_nz (by omega) _, Nat.lt_of_lt_of_le (log_lt (k := 41) (Nat.lt_of_le_of_lt (pw_le (by omega) (by omega)) (by decide)) (by decide)) (by decide)⟩
    have e2 : [V.int (n : Int), V.int ((n : Int) - 2)] = [V.int (n : Int), V.int ((n - 2 : Nat) : Int)] := by
      rw [show ((n - 2 : Nat) : Int) = (n : Int) - 2 by omega]
    show (fun c H1 => _) (decide (V.int (((n : Int) * ((n : Int) - 1)).fdiv 2 % 2) = V.int 1)) H3
    by_cases c : ((n : Int) * ((n : Int) - 1)).fdiv 2 % 2 = 1
    · rw [if_pos c] at sg
      rw [decide_eq_true (show V.int _ = V.int 1 from congrArg V.int c)]
      rw [← sg] at mul dv f3
      exact iteT ⟨_, rfl, _, rfl, _, rfl, _, _, rfl, rfl, mul, _, rfl, _, rfl, _, _, rfl, rfl, n, n - 2, e2, fun i hi => sm_pw (by omega) (by omega), sm_small (show ((n : Int)).natAbs ≤ 2 ^ 40 by omega), by omega, _, _, rfl, rfl, dv, f3⟩
    · rw [if_neg c] at sg
      rw [decide_eq_false (fun z => c (V.int.inj z))]
      rw [← sg] at mul dv f3
      exact iteF ⟨_, rfl, _, rfl, _, _, rfl, rfl, mul, _, rfl, _, rfl, _, _, rfl, rfl, n, n - 2, e2, fun i hi => sm_pw (by omega) (by omega), sm_small (show ((n : Int)).natAbs ≤ 2 ^ 40 by omega), by omega, _, _, rfl, rfl, dv, f3⟩
def spDisc (C : Addr) : Sp := fun vs H Q _ => ∃ (a : Addr) (F : List Int), vs = [.ref a] ∧ Fo C H a F ∧ 3 ≤ F.length ∧ F.length ≤ 10 ∧ bt 96 F ∧ ∀ H', Same H H' → Q (.int (dsc F)) H'
theorem ok_discriminant (T : Facts K mg) : FnOk P w K mg base CX0 5 T.f_discriminant T.fd_discriminant ["form"] (spDisc T.C_Form) := by
  have G_require_form := ok_require_form (P := P) (w := w) (base := base) T
  have G_discriminant_in := ok_discriminant_in (P := P) (w := w) (base := base) T
  have G_Form_degree := ok_Form_degree (P := P) (w := w) (base := base) T
  have G_Form_entries : FnOk P w K mg base CX0 1 T.f_Form_entries T.fd_Form_entries ["self"] (spEnt T.C_Form) := ok_Form_entries T
  refine T.F_discriminant.ok sc_discriminant (fun vs H Q E h => ?_) (fun cdv A outer s H vs Q E hr h => ?_)
  · obtain ⟨a, F, rfl, _⟩ := h
    rfl
  · obtain ⟨a, F, rfl, fa, f3, f10, bF, q⟩ := h
    refine ⟨_, (PSs.nox (pss_cons (ps_expr (pe_call G_require_form (hr.mono (by decide)) (by rfl) T.g_require_form T.F_require_form.kp T.b_require_form .nil pass0 (pa_cons (pv 0) pa_nil)))
    (pss_cons (ps_if (pt_cmpR op_lt (pe_prp (pv 0) T.oc_Form T.pr_Form_degree G_Form_degree T.b_Form_degree (hr.mono (by decide))) pe_int (nomark _))
      (pss_one ps_never)
      pss_nil)
    (pss_cons (ps_if (pt_cmpR op_gt (pe_prp (pv 0) T.oc_Form T.pr_Form_degree G_Form_degree T.b_Form_degree (hr.mono (by decide))) (pe_glob (v := .int 12) (by rfl) T.c_MAX_DISCRIMINANT.choose_spec ⟨_, rfl⟩) (nomark _))
      (pss_one ps_never)
      pss_nil)
    (pss_one (ps_ret (pe_call G_discriminant_in hr (by rfl) T.g_discriminant_in T.F_discriminant_in.kp T.b_discriminant_in .nil pass0 (pa_cons (pe_prp (pv 0) T.oc_Form T.pr_Form_entries G_Form_entries T.b_Form_entries (hr.mono (by decide))) pa_nil)))))))), ?_⟩
    refine ⟨_, rfl, a, F, rfl, fa, _, rfl, prop_deg fa ⟨_, _, rfl, rfl, _, rfl, ?_⟩⟩
    rw [decide_eq_false (show ¬ (F.length : Int) - 1 < 2 by omega)]
    refine iteF ⟨_, rfl, prop_deg fa ⟨_, _, rfl, rfl, _, rfl, ?_⟩⟩
    rw [decide_eq_false (show ¬ (12 : Int) < (F.length : Int) - 1 by omega)]
    exact iteF ⟨_, rfl, prop_ent fa fun u hu => ⟨u, F, rfl, hu, f3, f10, bF, q⟩⟩
end
end K77

set_option Elab.async false
set_option linter.all false
set_option maxRecDepth 100000
set_option maxHeartbeats 2000000
set_option exponentiation.threshold 20000
/-! plain: sizes of divisors, exact quotients; which discriminants are 0 -/
namespace K77
open PySem PySem.Spec PyProof.Rows L2 FDivQ LA
/-! ### the quotient by x - k -/
def synA (k : Int) : Int → List Int → List Int
  | _, [] => []
  | a, b :: r => a :: synA k (b + k * a) r
def remA (k : Int) : Int → List Int → Int
  | a, [] => a
  | a, b :: r => remA k (b + k * a) r
theorem synA_len (k : Int) : ∀ (l : List Int) (a : Int), (synA k a l).length = l.length
  | [], _ => rfl
  | b :: r, a => by
    show (synA k (b + k * a) r).length + 1 = r.length + 1
    rw [synA_len k r]
theorem ev_syn (k x : Int) : ∀ (l : List Int) (a : Int), ev (a :: l) x 1 = (x - k) * ev (synA k a l) x 1 + remA k a l
  | [], a => by
    show ev [a] x 1 = (x - k) * ev [] x 1 + a
    rw [ev_cons, show ev [] x 1 = 0 from rfl, List.length_nil, Int.pow_zero]
    grind
  | b :: r, a => by
    show ev (a :: b :: r) x 1 = (x - k) * ev (a :: synA k (b + k * a) r) x 1 + remA k (b + k * a) r
    have h := ev_syn k x r (b + k * a)
    rw [ev_cons] at h
    rw [ev_cons, ev_cons, ev_cons, synA_len, List.length_cons, Int.pow_succ]
    generalize ev (synA k (b + k * a) r) x 1 = s at *
    generalize ev r x 1 = t at *
    generalize remA k (b + k * a) r = u at *
    generalize x ^ r.length = y at *
    grind
theorem syn_bd {k : Int} {E V : Nat} (hk : k.natAbs ≤ 12) : ∀ (l : List Int) (a : Int), (∀ i, (co (synA k a l) i).natAbs ≤ E) → (remA k a l).natAbs ≤ V → a.natAbs ≤ E + V ∧ ∀ j, (co l j).natAbs ≤ 13 * E + V
  | [], a, _, hV => ⟨Nat.le_trans hV (Nat.le_add_left _ _), fun j => Nat.zero_le _⟩
  | b :: r, a, hE, hV => by
    obtain ⟨h1, h2⟩ := syn_bd hk r (b + k * a) (fun i => hE (i + 1)) hV
    have ha : a.natAbs ≤ E := hE 0
    have hka : (k * a).natAbs ≤ 12 * E := by
      rw [Int.natAbs_mul]
      exact Nat.mul_le_mul hk ha
    refine ⟨by omega, fun j => ?_⟩
    cases j with
    | zero =>
      show b.natAbs ≤ _
      omega
    | succ j => exact h2 j
theorem pts_bd {V : Nat} : ∀ (e : Nat) (D ks : List Int) (V : Nat), D.length = e + 1 → e + 1 ≤ ks.length → ks.Nodup → (∀ k ∈ ks, k.natAbs ≤ 12 ∧ (ev D k 1).natAbs ≤ V) → ∀ j, (co D j).natAbs ≤ 27 ^ e * V
  | 0, D, ks, V, hD, hk, _, h, j => by
    match D, hD, ks, hk with
    | [a], _, k :: ks, _ =>
      have := (h k (.head _)).2
      rw [ev_cons, List.length_nil, Int.pow_zero, show ev [] k 1 = 0 from rfl] at this
      rw [Nat.pow_zero, Nat.one_mul]
      cases j with
      | zero =>
        show a.natAbs ≤ V
        omega
      | succ j => exact Nat.zero_le _
  | e + 1, D, ks, V, hD, hk, nd, h, j => by
    match D, hD, ks, hk, nd with
    | a :: l, hD, k :: ks, hk, nd =>
      rw [List.length_cons] at hD hk
      obtain ⟨nk, nd⟩ := List.nodup_cons.mp nd
      have hr : remA k a l = ev (a :: l) k 1 := by rw [ev_syn k k, Int.sub_self, Int.zero_mul, Int.zero_add]
      have h0 := h k (.head _)
      have ih := pts_bd (V := V) e (synA k a l) ks (2 * V) (by rw [synA_len]; omega) (by omega) nd fun q hq => ⟨(h q (.tail _ hq)).1, by
        have hq2 := (h q (.tail _ hq)).2
        have eq := ev_syn k q l a
        rw [hr] at eq
        have ne : q - k ≠ 0 := fun z => nk (by rw [show k = q by omega]; exact hq)
        have : ((q - k) * ev (synA k a l) q 1).natAbs ≤ 2 * V := by omega
        rw [Int.natAbs_mul] at this
        exact Nat.le_trans (Nat.le_mul_of_pos_left _ (Int.natAbs_pos.mpr ne)) this⟩
      obtain ⟨h1, h2⟩ := syn_bd h0.1 l a ih (by rw [hr]; exact h0.2)
      have key : 13 * (27 ^ e * (2 * V)) + V ≤ 27 ^ (e + 1) * V := by
        rw [Nat.pow_succ]
        have p : 1 ≤ 27 ^ e := Nat.one_le_pow _ _ (by decide)
        have e1 : 13 * (27 ^ e * (2 * V)) = 26 * (27 ^ e * V) := by rw [Nat.mul_left_comm (27 ^ e)]; omega
        have e2 : 27 ^ e * 27 * V = 27 * (27 ^ e * V) := by rw [Nat.mul_comm (27 ^ e) 27, Nat.mul_assoc]
        have e3 : V ≤ 27 ^ e * V := Nat.le_mul_of_pos_left _ p
        omega
      cases j with
      | zero =>
        show a.natAbs ≤ _
        omega
      | succ j =>
        have := h2 j
        show (co l j).natAbs ≤ _
        omega
def pts : List Int := (List.range 13).map fun i => ((i : Nat) : Int)
theorem pts_nd : pts.Nodup := by decide
theorem pts_12 : ∀ k ∈ pts, k.natAbs ≤ 12 := by decide
theorem filter_two (p : Int → Bool) : ∀ l : List Int, (l.filter p).length + (l.filter fun x => !p x).length = l.length
  | [] => rfl
  | x :: l => by
    have := filter_two p l
    rw [List.filter_cons, List.filter_cons]
    cases p x
    · show (l.filter p).length + ((l.filter fun x => !p x).length + 1) = l.length + 1
      omega
    · show (l.filter p).length + 1 + (l.filter fun x => !p x).length = l.length + 1
      omega
/-- places where a form is not 0 -/
theorem pts_live {W : List Int} (hW : W.length ≤ 7) (nz : co W 0 ≠ 0) : 7 ≤ (pts.filter fun k => !decide (ev W k 1 = 0)).length := by
  have h := filter_two (fun k => decide (ev W k 1 = 0)) pts
  have hp : pts.length = 13 := rfl
  refine Classical.byContradiction fun c => nz ?_
  have h1 : 1 ≤ W.length := Classical.byContradiction fun d => nz (co_far (by omega))
  have := pts_bd (V := 0) (W.length - 1) W (pts.filter fun k => decide (ev W k 1 = 0)) 0 (by omega) (by omega) (pts_nd.sublist List.filter_sublist) (fun k hk => by
    obtain ⟨a, b⟩ := List.mem_filter.mp hk
    exact ⟨pts_12 k a, by rw [of_decide_eq_true b]; exact Nat.le_refl _⟩) 0
  omega
theorem ev_bd12 {W : List Int} {b : Nat} (hW : W.length ≤ 7) (hb : nm W ≤ b) (h1 : b ≤ 2 ^ 60) {k : Int} (hk : k.natAbs ≤ 12) : (ev W k 1).natAbs ≤ b * 12 ^ 7 := by
  have vb : Vb W k 1 12 := ⟨hk, by decide, by decide, Nat.lt_of_le_of_lt (Nat.mul_le_mul (Nat.le_trans hb h1) (Nat.pow_le_pow_right (by decide) hW)) (by decide +kernel), Nat.lt_of_le_of_lt (Nat.pow_le_pow_right (by decide) (show W.length + 1 ≤ 8 by omega)) (by decide +kernel)⟩
  have h := (vfs_bd vb W.length (Nat.le_refl _)).1
  rw [vfs_ev, List.take_length] at h
  exact Nat.le_trans h (Nat.mul_le_mul hb (Nat.pow_le_pow_right (by decide) hW))
/-- a divisor is small -/
theorem div_bd {D Q W : List Int} (e : ml D Q = W) (nD : D ≠ []) (nQ : Q ≠ []) (hW : W.length ≤ 7) (nz : co W 0 ≠ 0) (hb : nm W ≤ 2 ^ 48) : bt 110 D := fun j => by
  have lD := List.length_pos_iff.mpr nD
  have lQ := List.length_pos_iff.mpr nQ
  have lW : W.length = D.length + Q.length - 1 := by rw [← e, ml_len]
  have h := pts_bd (V := 0) (D.length - 1) D (pts.filter fun k => !decide (ev W k 1 = 0)) (2 ^ 48 * 12 ^ 7) (by omega) (by have := pts_live hW nz; omega) (pts_nd.sublist List.filter_sublist) (fun k hk => by
    obtain ⟨a, b⟩ := List.mem_filter.mp hk
    have ne : ev W k 1 ≠ 0 := fun z => by simp [z] at b
    refine ⟨pts_12 k a, Nat.le_trans ?_ (ev_bd12 hW hb (by decide) (pts_12 k a))⟩
    rw [← e, ev_ml nD nQ] at ne ⊢
    rw [Int.natAbs_mul]
    exact Nat.le_mul_of_pos_right _ (Int.natAbs_pos.mpr fun z => ne (by rw [z, Int.mul_zero]))) j
  exact Nat.lt_of_le_of_lt h (Nat.lt_of_le_of_lt (Nat.mul_le_mul_right _ (Nat.pow_le_pow_right (by decide) (show D.length - 1 ≤ 6 by omega))) (by decide +kernel))
/-! ### quotients without fractions -/
theorem prim_cont {z : List Int} (h : ∃ j, co (primE z) j ≠ 0) : cont (primE z) = 1 := by
  have h1 := gl_primE z
  rw [← gl_cont] at h1
  have h0 : cont (primE z) ≠ 0 := fun c => by
    obtain ⟨j, hj⟩ := h
    by_cases d : j < (primE z).length
    · exact hj (cont_zero c _ (co_memE d))
    · exact hj (co_far (by omega))
  omega
theorem gauss_q {c : Int} {F D A : List Int} (hc : c ≠ 0) (hD : cont D = 1) (nD : D ≠ []) (nA : A ≠ []) (e : F.map (c * ·) = ml D A) : ∃ Q, ml D Q = F ∧ Q.length = A.length := by
  have h := congrArg cont e
  rw [cont_scale, cont_ml nD nA, hD, Nat.one_mul] at h
  have hd : ∀ x ∈ A, c ∣ x := fun x hx => by
    have := cont_dvd A x hx
    rw [← h] at this
    refine Int.dvd_trans ?_ this
    rw [Int.natCast_mul]
    exact Int.dvd_trans (Int.dvd_natAbs.mpr (Int.dvd_refl c)) ⟨_, rfl⟩
  refine ⟨A.map fun x => x / c, ?_, by rw [List.length_map]⟩
  have eA : A = (A.map fun x => x / c).map (c * ·) := by
    rw [List.map_map]
    conv => lhs; rw [← List.map_id A]
    exact List.map_congr_left fun x hx => (Int.mul_ediv_cancel' (hd x hx)).symm
  have nQ : (A.map fun x => x / c) ≠ [] := fun z => nA (List.map_eq_nil_iff.mp z)
  have lF := congrArg List.length e
  rw [List.length_map, ml_len] at lF
  refine ev_inj (by rw [ml_len, List.length_map, lF]) fun x y => ?_
  have h2 : ev (F.map (c * ·)) x y = ev (ml D A) x y := by rw [e]
  rw [ev_map, ev_ml nD nA, eA, ev_map] at h2
  rw [ev_ml nD nQ]
  refine Int.eq_of_mul_eq_mul_left hc ?_
  rw [h2]
  grind
/-! ### which discriminants are 0 -/
theorem dX_z (l : List Int) : dX (0 :: l) = if l = [] then [] else 0 :: dX l := by
  by_cases c : l = []
  · rw [if_pos c, c]
    rfl
  · rw [if_neg c]
    have h1 := List.length_pos_iff.mpr c
    refine co_inj (by rw [dX_len, List.length_cons, List.length_cons, dX_len]; omega) fun k => ?_
    rw [co_dX]
    cases k with
    | zero =>
      show (if 0 < l.length + 1 - 1 then 0 * _ else 0) = 0
      split
      · omega
      · rfl
    | succ k =>
      show (if k + 1 < l.length + 1 - 1 then co l k * (((l.length + 1 : Nat) : Int) - 1 - ((k + 1 : Nat) : Int)) else 0) = co (dX l) k
      rw [co_dX]
      by_cases d : k < l.length - 1
      · rw [if_pos (by omega), if_pos d]
        congr 1
        omega
      · rw [if_neg (by omega), if_neg d]
theorem res_col0 {P Q : List Int} {p q : Nat} (lP : P.length = p + 1) (lQ : Q.length = q + 1) (h : 1 ≤ p + q) (h1 : co P 0 = 0) (h2 : co Q 0 = 0) : Res P Q = 0 := by
  rw [res_rs lP lQ]
  obtain ⟨N, hN⟩ : ∃ N, p + q = N + 1 := ⟨p + q - 1, by omega⟩
  rw [hN]
  refine det_col0 fun i hi => ?_
  show (if i < q then sx (co P) i else sx (co Q) (i - q)) 0 = 0
  by_cases c : i < q
  · rw [if_pos c]
    unfold sx
    split
    · rw [Nat.zero_sub]
      exact h1
    · rfl
  · rw [if_neg c]
    unfold sx
    split
    · rw [Nat.zero_sub]
      exact h2
    · rfl
theorem cut_pos {F : List Int} (nF : Nz (ev F)) : co (cut F) 0 ≠ 0 := cut_lead (cut_ne nF)
theorem nz_co {l : List Int} (h : co l 0 ≠ 0) : Nz (ev l) := ⟨1, 0, by rw [ev_lead]; exact h⟩
theorem cut_same {l : List Int} (h : co l 0 ≠ 0) : cut l = l ∧ ah l = 0 := by
  match l, h with
  | a :: r, h =>
    have h : a ≠ 0 := h
    refine ⟨cut_n h r, ?_⟩
    unfold ah
    rw [List.takeWhile_cons_of_neg (by simpa using h)]
    rfl
/-- y divides no form whose first entry is not 0 -/
theorem dv_y {E : List Int} {m : Nat} {φ : Bi} (hE : co E 0 ≠ 0) (lE : 1 ≤ E.length) (hφ : Fm m φ) (m1 : 1 ≤ m) (d : Dv E.length (m + 1) (ev E) fun x y => y * φ x y) : Dv E.length m (ev E) φ := by
  obtain ⟨c, A, hc, hA, e⟩ := d
  have e : ∀ x y, c * (y * φ x y) = ev E x y * A x y := e
  by_cases le : E.length ≤ m
  · obtain ⟨L, lL, eL⟩ := hA.list
    match L, lL with
    | a :: r, lL =>
      rw [List.length_cons] at lL
      have h0 := e 1 0
      rw [← eL, ev_lead, ev_lead, Int.zero_mul, Int.mul_zero] at h0
      have a0 : a = 0 := (Int.mul_eq_zero.mp h0.symm).resolve_left hE
      subst a0
      refine ⟨c, ev r, hc, (Fm.of r).cast (by omega), (hφ.mulc c).cy (((Fm.of E).mul (Fm.of r) (k := m) (by omega))) fun x y => ?_⟩
      have := e x y
      rw [← eL, ev_sy] at this
      grind
    | [], lL => exact absurd lL (by rw [List.length_nil]; omega)
  · -- the divisor is longer: then all is 0
    obtain ⟨L, lL, eL⟩ := hA.list
    by_cases le2 : E.length = m + 1
    · match L, lL with
      | [a], _ =>
        have h0 := e 1 0
        rw [← eL, ev_lead, ev_lead, Int.zero_mul, Int.mul_zero] at h0
        have a0 : a = 0 := (Int.mul_eq_zero.mp h0.symm).resolve_left hE
        subst a0
        have z : ∀ x y, φ x y = 0 := (hφ.cy (Fm.zero m) fun x y => by
          have := e x y
          rw [← eL, ev_cons, List.length_nil, Int.zero_mul, show ev [] x y = 0 from rfl] at this
          have : c * (y * φ x y) = 0 := by rw [this]; grind
          rw [(Int.mul_eq_zero.mp this).resolve_left hc, Int.mul_zero])
        exact ⟨c, fun _ _ => 0, hc, Fm.zero _, fun x y => by rw [z, Int.mul_zero, Int.mul_zero]⟩
      | [], lL => exact absurd lL (by rw [List.length_nil]; omega)
      | _ :: _ :: _, lL => exact absurd lL (by rw [List.length_cons, List.length_cons]; omega)
    · have l0 : L = [] := List.length_eq_zero_iff.mp (by omega)
      have z : ∀ x y, φ x y = 0 := (hφ.cy (Fm.zero m) fun x y => by
        have := e x y
        rw [← eL, l0, show ev [] x y = 0 from rfl, Int.mul_zero] at this
        rw [(Int.mul_eq_zero.mp this).resolve_left hc, Int.mul_zero])
      exact ⟨c, fun _ _ => 0, hc, Fm.zero _, fun x y => by rw [z, Int.mul_zero, Int.mul_zero]⟩
theorem res_z0 {F G : List Int} (f2 : 2 ≤ F.length) (g2 : 2 ≤ G.length) (z : ∀ x y, ev F x y = 0) : Res F G = 0 := by
  have h := ev0_all z
  rw [res_rs (p := F.length - 1) (q := G.length - 1) (by omega) (by omega)]
  refine (det_alt _).zero (p := 0) (by omega) fun j hj => ?_
  show (if 0 < G.length - 1 then sx (co F) 0 else _) j = 0
  rw [if_pos (by omega)]
  unfold sx
  rw [if_pos (Nat.zero_le j)]
  by_cases c : j - 0 < F.length
  · exact h _ (co_memE c)
  · exact co_far (by omega)
theorem ev_euler {F : List Int} {n : Nat} (lF : F.length = n + 1) (n1 : 1 ≤ n) (x y : Int) : x * ev (dX F) x y + y * ev (dY F) x y = (n : Int) * ev F x y := by
  have h := congrArg (fun l => ev l x y) (euler (l := F) (by omega))
  have l1 : (ml [1, 0] (dX F)).length = (ml [0, 1] (dY F)).length := by rw [ml_len, ml_len, dX_len, dY_len]; rfl
  have h : ev (zs 1 (ml [1, 0] (dX F)) (ml [0, 1] (dY F))) x y = ev (F.map fun x => x * ((F.length : Int) - 1)) x y := h
  rw [ev_zs 1 l1, ev_ml (by simp) (dX_ne (by omega)), ev_ml (by simp) (dY_ne (by omega)), ev_two, ev_two, map_mul_comm, ev_map, lF] at h
  rw [show ((n + 1 : Nat) : Int) - 1 = (n : Int) by omega] at h
  grind
theorem dX_zeros {l : List Int} (h : l ≠ []) : ∀ n, dX (List.replicate n 0 ++ l) = List.replicate n 0 ++ dX l
  | 0 => rfl
  | n + 1 => by
    rw [List.replicate_succ, List.cons_append, dX_z, if_neg (by simp [h]), dX_zeros h n]
    rfl
theorem co_ah {F : List Int} {i : Nat} (h : i < ah F) : co F i = 0 := by
  rw [cut_rep F, co_app, List.length_replicate, if_pos h, co_z]
/-- a form by its part whose first entry is not 0 -/
theorem split_W (F : List Int) : F = List.replicate (ah F) 0 ++ (primE (cut F)).map (pf (cut F) * ·) := by
  conv => lhs; rw [cut_rep F]
  congr 1
  exact ev_inj (by rw [List.length_map, primE_len]) fun x y => by rw [ev_map, ev_pf]
theorem disc_crit {F : List Int} {n : Nat} (lF : F.length = n + 1) (n2 : 2 ≤ n) (nF : Nz (ev F)) : dsc F = 0 ↔ 2 ≤ ah F ∨ (2 ≤ (primE (cut F)).length ∧ 2 ≤ (cmn (primE (cut F)) (dX (primE (cut F)))).length) := by
  have hc := cut_pos nF
  have W0 : co (primE (cut F)) 0 ≠ 0 := prim_lead hc
  have hs := split_W F
  have lW := cut_split F
  rw [← primE_len (cut F)] at lW
  have p0 := pf_ne (cut F)
  generalize primE (cut F) = W at *
  generalize pf (cut F) = c at *
  obtain ⟨h, hh⟩ : ∃ h, h = ah F := ⟨_, rfl⟩
  rw [← hh] at hs lW ⊢
  have nW : W ≠ [] := fun z => W0 (by rw [z]; rfl)
  have nWc : W.map (c * ·) ≠ [] := by simpa using nW
  have lW1 := List.length_pos_iff.mpr nW
  have lX : (dX F).length = n := by rw [dX_len]; omega
  have lY : (dY F).length = n := by rw [dY_len]; omega
  have eF : ∀ x y, ev F x y = y ^ h * (c * ev W x y) := fun x y => by
    rw [hs, ev_ry, ev_map]
  have eX : ∀ x y, ev (dX F) x y = y ^ h * (c * ev (dX W) x y) := fun x y => by
    rw [hs, dX_zeros nWc, dX_map, ev_ry, ev_map]
  have eu := ev_euler lF (by omega)
  have r0 : dsc F = 0 ↔ Res (dX F) (dY F) = 0 := by
    rw [dsc_res lF (by omega)]
    constructor
    · intro z
      rw [z, Int.mul_zero]
    · intro z
      refine (Int.mul_eq_zero.mp z).resolve_left (Int.mul_ne_zero (fun z => ?_) (pow_nz (by omega) _))
      have := sgt_sq n
      rw [z] at this
      exact absurd this (by decide)
  rw [r0]
  have nXW : 2 ≤ W.length → Nz (ev (dX W)) := fun h2 => nz_co (by
    rw [co_dX, if_pos (by omega)]
    exact Int.mul_ne_zero W0 (by omega))
  have nXF : 2 ≤ W.length → Nz (ev (dX F)) := fun h2 => by
    obtain ⟨x, y, h0⟩ := Nz.yk (nXW h2) (Fm.of (dX W)) h
    exact ⟨x, y, fun z => h0 (by
      rw [eX] at z
      have : c * (y ^ h * ev (dX W) x y) = 0 := by rw [← z]; grind
      exact (Int.mul_eq_zero.mp this).resolve_left p0)⟩
  obtain ⟨d, hd⟩ : ∃ d, (dX F).length + (dY F).length = d + 3 := ⟨n + n - 3, by omega⟩
  have rz := res_zero (F := dX F) (G := dY F) (by omega) (by omega)
  rw [show (dX F).length + (dY F).length - 3 = d by omega, show (dX F).length + (dY F).length - 2 = d + 1 by omega] at rz
  constructor
  · intro z
    refine Classical.byContradiction fun no => ?_
    have h1 : h ≤ 1 := Classical.byContradiction fun q => no (.inl (by omega))
    have W2 : 2 ≤ W.length := by omega
    refine no (.inr ⟨W2, ?_⟩)
    -- what divides both derivatives
    obtain ⟨T, T2, dTX, dTY⟩ : ∃ T : List Int, 2 ≤ T.length ∧ Dv T.length n (ev T) (ev (dX F)) ∧ Dv T.length n (ev T) (ev (dY F)) := by
      by_cases nY : Nz (ev (dY F))
      · have cm := cmn_com (nXF W2) nY
        have fl := (cmn_full (nXF W2) nY).2.2.2.2
        have rk := full_rank hd (by omega) (by omega) (nXF W2) nY cm.nz cm.df cm.dg fl
        have lt := rz.mp z
        have e1 := cm.df
        have e2 := cm.dg
        rw [lX] at e1
        rw [lY] at e2
        exact ⟨_, by omega, e1, e2⟩
      · refine ⟨dX F, by omega, by rw [lX]; exact Dv.self _, ?_⟩
        rw [lX]
        have : ∀ x y, ev (dY F) x y = 0 := fun x y => Classical.byContradiction fun q => nY ⟨x, y, q⟩
        rw [show ev (dY F) = fun _ _ => 0 from funext fun x => funext fun y => this x y]
        exact Dv.zero _
    have dTF : Dv T.length (n + 1) (ev T) (ev F) := by
      have tl := dTX.le (nXF W2)
      obtain ⟨a, A, a0, hA, ea⟩ := dTX
      obtain ⟨b, B, b0, hB, eb⟩ := dTY
      refine ⟨a * b * n, fun x y => b * (x ^ 1 * A x y) + a * (y ^ 1 * B x y), Int.mul_ne_zero (Int.mul_ne_zero a0 b0) (by omega), ?_, fun x y => ?_⟩
      · exact (((hA.px 1).mulc b).add ((hB.py 1).mulc a)).cast (by omega)
      · have e1 := eu x y
        have e2 := ea x y
        have e3 := eb x y
        show a * b * n * ev F x y = ev T x y * (b * (x ^ 1 * A x y) + a * (y ^ 1 * B x y))
        rw [show x ^ 1 = x by rw [Int.pow_succ, Int.pow_zero, Int.one_mul], show y ^ 1 = y by rw [Int.pow_succ, Int.pow_zero, Int.one_mul]]
        grind
    have both : Dv T.length W.length (ev T) (ev W) ∧ Dv T.length (dX W).length (ev T) (ev (dX W)) := by
      have lXW : (dX W).length = W.length - 1 := dX_len W
      by_cases c0 : h = 0
      · subst c0
        have a1 : W.length = n + 1 := by omega
        have a2 : (dX W).length = n := by omega
        rw [a1, a2]
        exact ⟨dTF.congr (a := 1) (b := c) (by decide) (fun x y => by rw [eF, Int.pow_zero]; omega) p0, dTX.congr (a := 1) (b := c) (by decide) (fun x y => by rw [eX, Int.pow_zero]; omega) p0⟩
      · have c1 : h = 1 := by omega
        subst c1
        have T0 : co T 0 ≠ 0 := fun z0 => by
          obtain ⟨b, B, b0, hB, eb⟩ := dTY
          have e1 := eb 1 0
          rw [ev_lead, ev_lead, z0, Int.zero_mul, co_dY, if_pos (by omega)] at e1
          have e2 := (Int.mul_eq_zero.mp e1).resolve_left b0
          have e3 : co F 1 = c * co W 0 := by
            rw [hs]
            show co ([0] ++ W.map (c * ·)) 1 = _
            rw [co_app, List.length_singleton, if_neg (by omega)]
            show co (W.map (c * ·)) 0 = _
            rw [co_scale]
          rw [e3] at e2
          refine Int.mul_ne_zero (Int.mul_ne_zero p0 W0) ?_ e2
          decide
        have a1 : W.length = n := by omega
        have a2 : (dX W).length = n - 1 := by omega
        refine ⟨?_, ?_⟩
        · rw [a1]
          refine dv_y (m := n) T0 (by omega) ((Fm.of W).cast a1) (by omega) ?_
          exact dTF.congr (a := 1) (b := c) (by decide) (fun x y => by rw [eF, Int.pow_succ, Int.pow_zero]; grind) p0
        · rw [a2]
          refine dv_y (m := n - 1) T0 (by omega) ((Fm.of (dX W)).cast a2) (by omega) ?_
          rw [show n - 1 + 1 = n by omega]
          exact dTX.congr (a := 1) (b := c) (by decide) (fun x y => by rw [eX, Int.pow_succ, Int.pow_zero]; grind) p0
    have cm := cmn_com (nz_co W0) (nXW W2)
    have nT : Nz (ev T) := by
      obtain ⟨a, A, a0, hA, ea⟩ := both.1
      obtain ⟨x, y, q⟩ := nz_co W0
      exact ⟨x, y, fun zz => q (by
        have := ea x y
        rw [zz, Int.zero_mul] at this
        exact (Int.mul_eq_zero.mp this).resolve_left a0)⟩
    have := (cm.most (Fm.of T) nT both.1 both.2).le cm.nz
    omega
  · intro hyp
    rcases hyp with h2 | ⟨W2, E2⟩
    · refine res_col0 (p := n - 1) (q := n - 1) (by omega) (by omega) (by omega) ?_ ?_
      · rw [co_dX]
        split
        · rw [co_ah (by omega), Int.zero_mul]
        · rfl
      · rw [co_dY]
        split
        · rw [co_ah (by omega), Int.zero_mul]
        · rfl
    · have cm := cmn_com (nz_co W0) (nXW W2)
      generalize cmn W (dX W) = E at *
      have lXW : (dX W).length = W.length - 1 := dX_len W
      obtain ⟨a, A, a0, hA, ea⟩ := cm.df
      obtain ⟨b, B, b0, hB, eb⟩ := cm.dg
      have E0 : co E 0 ≠ 0 := fun z0 => by
        have e1 := ea 1 0
        rw [ev_lead, ev_lead, z0, Int.zero_mul] at e1
        exact Int.mul_ne_zero a0 W0 e1
      by_cases nY : Nz (ev (dY F))
      · have tE := cm.df.le (nz_co W0)
        have tE2 := cm.dg.le (nXW W2)
        have d1 : Dv E.length (dX F).length (ev E) (ev (dX F)) := ⟨b, fun x y => c * (y ^ h * B x y), b0, ((hB.py h).mulc c).cast (by omega), fun x y => by
          have := eb x y
          rw [eX]
          grind⟩
        have d2 : Dv E.length (n + 1) (ev E) fun x y => y * ev (dY F) x y := by
          refine ⟨a * b, fun x y => (b * n * c) * (y ^ h * A x y) + (- (a * c)) * (x ^ 1 * (y ^ h * B x y)), Int.mul_ne_zero a0 b0, ?_, fun x y => ?_⟩
          · exact (((hA.py h).mulc (b * n * c)).cast (by omega)).add ((((hB.py h).px 1).mulc (- (a * c))).cast (by omega))
          · have e1 := eu x y
            have e2 := ea x y
            have e3 := eb x y
            rw [eF, eX] at e1
            show a * b * (y * ev (dY F) x y) = ev E x y * (b * n * c * (y ^ h * A x y) + -(a * c) * (x ^ 1 * (y ^ h * B x y)))
            rw [show x ^ 1 = x by rw [Int.pow_succ, Int.pow_zero, Int.one_mul]]
            generalize y ^ h = Y at *
            grind
        have d3 := dv_y E0 (by omega) ((Fm.of (dY F)).cast lY) (by omega) d2
        have cm2 := cmn_com (nXF W2) nY
        have fl := (cmn_full (nXF W2) nY).2.2.2.2
        have rk := full_rank hd (by omega) (by omega) (nXF W2) nY cm2.nz cm2.df cm2.dg fl
        rw [← lY] at d3
        have := (cm2.most (Fm.of E) cm.nz d1 d3).le cm2.nz
        exact rz.mpr (by omega)
      · have : ∀ x y, ev (dY F) x y = 0 := fun x y => Classical.byContradiction fun q => nY ⟨x, y, q⟩
        rw [res_swap (F := dY F) (G := dX F) (by omega) (by omega), res_z0 (by omega) (by omega) this, Int.zero_mul]
end K77

set_option Elab.async false
set_option linter.all false
set_option maxRecDepth 100000
set_option maxHeartbeats 4000000
set_option exponentiation.threshold 10000
/-! exact quotients, slopes -/
namespace K77
open PySem PySem.Spec PyProof.Rows L2 StX RZ MyR SlX OwnR OwnF EnumT SeqE GxR GenNx FDivQ LA
theorem ml_head (a : Int) (t o : List Int) (ho : o ≠ []) : co (ml (a :: t) o) 0 = a * co o 0 := by rw [co_ml ho, cv_zero]
theorem ml_step (a : Int) (t o : List Int) (ho : o ≠ []) (k : Nat) : co (ml (a :: t) o) (k + 1) - a * co o (k + 1) = co (ml t o) k := by
  rw [co_ml ho, co_ml ho, cv_succ]
  omega
theorem ml_rest (a : Int) (t o : List Int) (ho : o ≠ []) : (tb (ml (a :: t) o).length fun k => co (ml (a :: t) o) k - a * co (lng (ml (a :: t) o) o) k).drop 1 = ml t o := by
  have lo := List.length_pos_iff.mpr ho
  refine co_inj (by rw [List.length_drop, tb_len, ml_len, ml_len, List.length_cons]; omega) fun k => ?_
  rw [co_drop1, co_tb]
  by_cases c : k + 1 < (ml (a :: t) o).length
  · rw [if_pos c, co_lng, ml_step a t o ho]
  · rw [if_neg c, co_far]
    rw [ml_len, List.length_cons] at c
    rw [ml_len]
    omega
section
variable {P : Program} {w : World} {K : PySem.W.Frag} {mg : Str → Option Value} {base : Heap} {Ps : List Addr}
def spExq : Sp := fun vs H Q _ => ∃ (a b : Addr) (q o : List Int), vs = [.ref a, .ref b] ∧ H a = some (ls (ml q o)) ∧ H b = some (ls o) ∧ q ≠ [] ∧ co o 0 ≠ 0 ∧ q.length ≤ 40 ∧ o.length ≤ 40 ∧ bt 1000 q ∧ bt 1000 o ∧ ∀ p H', Same H H' → H' p = some (ls q) → Q (.ref p) H'
theorem ok_exact_quotient (T : Facts K mg) : FnOk P w K mg base CX0 1 T.f_exact_quotient T.fd_exact_quotient ["one", "other"] spExq := by
  refine T.F_exact_quotient.ok sc_exact_quotient (fun vs H Q E h => ?_) (fun cdv A outer s H vs Q E hr h => ?_)
  · obtain ⟨a, b, q, o, rfl, _⟩ := h
    rfl
  · obtain ⟨a, b, q, o, rfl, ha, hb, nq, o0, lq, lo, bq, bo, fin⟩ := h
    refine ⟨_, (PSs.nox (pss_cons (ps_par (i := 2) (j := 3) (by rfl) sc_exact_quotient.nd rfl rfl (by decide) rfl rfl (pa_cons (pe_callTy call_list_of (by rfl) T.z_list (by decide +kernel) (pa_cons (pv 0) pa_nil)) (pa_cons (pe_lst pa_nil) pa_nil)) (by rfl))
    (pss_cons (ps_while PassesOwn.never (pt_cmpR op_ge (pe_callB call_len_seq (by rfl) T.z_len (by decide +kernel) (pa_cons (pv 2) pa_nil)) (pe_callB call_len_seq (by rfl) T.z_len (by decide +kernel) (pa_cons (pv 1) pa_nil)) (nomark _))
      (pss_cons (ps_set (i := 4) sc_exact_quotient.nd rfl (.inr rfl) (pe_op op_fdivZ (pe_ix ix_list (pv 2) pe_int (fun _ _ => rfl)) (pe_ix ix_list (pv 1) pe_int (fun _ _ => rfl))))
      (pss_cons (ps_expr (pe_bm PySem.F.plainAttrs_list PySem.F.slot_list_append PySem.F.type_list_append mt_append (pv 3) (pa_cons (pv 4) pa_nil)))
      (pss_cons (ps_set (i := 5) sc_exact_quotient.nd rfl (.inl rfl) (pe_lst (pa_star (pv 1) (pa_star (pe_op op_rep (pe_lst (pa_cons pe_int pa_nil)) (pe_op op_sub (pe_callB call_len_seq (by rfl) T.z_len (by decide +kernel) (pa_cons (pv 2) pa_nil)) (pe_callB call_len_seq (by rfl) T.z_len (by decide +kernel) (pa_cons (pv 1) pa_nil)))) pa_nil))))
      (pss_one (ps_set (i := 2) sc_exact_quotient.nd rfl (.inl rfl) (pe_slice sl_list (pe_lc (own := [("number", 6), ("taken", 7)]) (g := (gTup K 2 (gCons (gName 6) (gCons (gName 7) gNil)))) (tt := tYes) (by rfl) sc_exact_quotient.nd (pi_zipA (by rfl) T.z_zip (pa_cons (pv 2) (pa_cons (pv 5) pa_nil))) (blkOk_by (N := N_exact_quotient) (sc := defScope s_exact_quotient) (by decide +kernel)) (fun _ _ _ _ _ => (pg_tup (by rfl) (pgs_cons (pg_name (i := 6) sc_exact_quotient.nd rfl (.inl rfl)) (pgs_cons (pg_name (i := 7) sc_exact_quotient.nd rfl (.inl rfl)) pgs_nil)))) (fun _ _ _ _ _ => pts_nil) (fun _ _ _ _ _ => (pe_op op_sub (pv 6) (pe_op op_mulW (pv 4) (pv 7))))) (po_some pe_int) po_none)))))))
    (pss_one (ps_ret (pv 3)))))), ?_⟩
    have no : o ≠ [] := fun z => o0 (by rw [z]; rfl)
    have lo1 := List.length_pos_iff.mpr no
    have lq1 := List.length_pos_iff.mpr nq
    refine ⟨_, rfl, a, (ml q o).map V.int, rfl, .inl (SqL.of ha), fun L0 hL0 => ⟨sz0, fun F hF => ⟨_, _, rfl, ?_⟩⟩⟩
    have hL0' : upd H L0 (.lst ((ml q o).map V.int)) F = none := hF
    have nF : H F = none := by
      by_cases e : F = L0
      · rw [e, upd_same] at hF
        cases hF
      · rwa [upd_ne e] at hF
    have nFL : F ≠ L0 := fun e => by rw [e, upd_same] at hF; cases hF
    refine WhileD.while_m (fun m σ H' => ∃ (n : Nat) (L : Addr) (o4 o5 : Option V), m = q.length - n ∧ n ≤ q.length ∧ σ = [some (.ref a), some (.ref b), some (.ref L), some (.ref F), o4, o5, none, none] ∧ Same H H' ∧ L ≠ F ∧ H' L = some (ls (ml (q.drop n) o)) ∧ H' F = some (ls (q.take n))) ⟨_, 0, L0, none, none, rfl, Nat.zero_le _, rfl, (same_upd0 hL0).trans (same_upd0 hF), Ne.symm nFL, (by rw [upd_ne (Ne.symm nFL), upd_same]; rfl), upd_same⟩ (fun m σ H' hP => ?_)
    obtain ⟨n, L, o4, o5, rfl, hn, rfl, sH, nLF, hL, hF'⟩ := hP
    have hb' := sH _ _ hb
    refine ⟨_, rfl, L, _, rfl, .inl (SqL.of hL), _, rfl, b, _, rfl, .inl (SqL.of hb'), _, _, rfl, rfl, _, rfl, ?_⟩
    rw [List.length_map, List.length_map]
    by_cases c : n < q.length
    · obtain ⟨x, t, et⟩ : ∃ x t, q.drop n = x :: t := by
        cases h : q.drop n with
        | nil =>
          have := congrArg List.length h
          rw [List.length_drop, List.length_nil] at this
          omega
        | cons x t => exact ⟨x, t, rfl⟩
      have lt : t.length + 1 = q.length - n := by
        have := congrArg List.length et
        rw [List.length_drop, List.length_cons] at this
        exact this.symm
      have ll : (ml (q.drop n) o).length = t.length + o.length := by rw [et, ml_len, List.length_cons]; omega
      have ex : x = co q n := by
        have := congrArg (fun l => co l 0) et
        have h2 : co (q.drop n) 0 = x := this
        rw [← h2, co_get (by rw [List.length_drop]; omega), List.getElem_drop, ← co_get (by omega), Nat.add_zero]
      have dt : q.drop (n + 1) = t := by rw [← List.drop_drop, et]; rfl
      have hd := ml_head x t o no
      have rs := ml_rest x t o no
      rw [← et] at hd rs
      have b1 : ∀ k, CMulW x (co o k) := fun k => wide_mul (a := 1000) (b := 1000) (by rw [ex]; exact bq n) (bo k) (by decide) (by decide) (by decide)
      generalize hl : ml (q.drop n) o = l at *
      rw [decide_eq_true (show (o.length : Int) ≤ (l.length : Int) by omega)]
      have dvz : CDivZ (co l 0) (co o 0) := ⟨o0, Nat.lt_of_lt_of_le (log_lt (k := 1000) (bo 0) (by decide)) (by decide)⟩
      have fx : (co l 0).fdiv (co o 0) = x := by rw [hd, Int.mul_fdiv_cancel _ o0]
      refine iteT (WhileD.turnM ⟨_, rfl, L, _, 0, .int (co l 0), rfl, rfl, SqL.of hL, atI_nat (j := 0) (get_int (by omega)), _, rfl, b, _, 0, .int (co o 0), rfl, rfl, SqL.of hb', atI_nat (j := 0) (get_int lo1), _, _, rfl, rfl, dvz, ?_⟩)
      rw [show (fun i j => V.int (i.fdiv j)) (co l 0) (co o 0) = V.int x from congrArg V.int fx]
      refine ⟨_, rfl, .inl ⟨rfl, _, SqL.of hF'⟩, _, rfl, F, _, _, rfl, rfl, hF', ?_, gen_app _ _ _ fun H1 e1 k1 => ?_⟩
      · rw [List.length_map, List.length_take]
        exact small1000 (by omega)
      have s1 : Same H H1 := fun u v e => by rw [k1 u fun z => by rw [z, nF] at e; cases e]; exact sH u v e
      have hL1 : H1 L = some (ls l) := (k1 L nLF).trans hL
      have hb1 := s1 _ _ hb
      have e1' : H1 F = some (ls (q.take (n + 1))) := by
        rw [e1]
        show some (HO.lst _) = some (HO.lst (List.map V.int (q.take (n + 1))))
        rw [List.take_add_one, List.map_append]
        congr 3
        rw [List.getElem?_eq_getElem c, Option.toList_some, List.map_singleton, ex, co_get c]
      refine ⟨_, rfl, b, _, rfl, .inr (SqL.of hb1), sz1, fun p2 n2 => gen_upd H1 p2 (ls [0]) n2 fun H2 s2 e2 => ?_⟩
      refine ⟨_, rfl, L, _, rfl, .inl (SqL.of (s2 _ _ hL1)), _, rfl, b, _, rfl, .inl (SqL.of (s2 _ _ hb1)), _, _, rfl, rfl, ?_⟩
      rw [List.length_map, List.length_map]
      refine ⟨p2, _, [V.int 0], rfl, rfl, e2, by omega, by omega, ?_, fun p3 n3 => gen_upd H2 p3 _ n3 fun H3 s3 e3 => ⟨p3, _, rfl, .inr (SqL.of e3), ?_⟩⟩
      · exact Nat.le_trans (show [V.int 0].length * ((l.length : Int) - (o.length : Int)).toNat ≤ 100 by rw [List.length_singleton]; omega) (by decide)
      have e3' : o.map V.int ++ ((List.replicate ((l.length : Int) - (o.length : Int)).toNat [V.int 0]).flatten ++ []) = (lng l o).map V.int := by
        unfold lng
        rw [List.append_nil, List.map_append, List.map_replicate, List.flatten_replicate_singleton, show ((l.length : Int) - (o.length : Int)).toNat = l.length - o.length by omega]
      dsimp only [tNil]
      rw [e3']
      refine ⟨by rw [List.length_map, lng_len (by omega)]; exact Nat.le_trans (show l.length ≤ 100 by omega) (by decide), fun p4 n4 => gen_upd H3 p4 (ls (lng l o)) n4 fun H4 s4 e4 => ?_⟩
      have s14 := s2.trans (s3.trans s4)
      have hL4 := s14 _ _ hL1
      refine ⟨_, rfl, _, rfl, L, p4, _, _, rfl, .inl ⟨SqL.of hL4, SqL.of e4, fun D hD => ?_⟩⟩
      refine lc_zipL (xs := l.map V.int) (ys := (lng l o).map V.int) (by rw [List.length_map, List.length_map, lng_len (by omega)]) (fun j H' => Same H4 H' ∧ H' D = some (.lst (tab j fun k => co l k - x * co (lng l o) k))) ⟨same_upd0 hD, upd_same⟩ (fun j H' _ hP => ⟨SqL.of (hP.1 _ _ hL4), SqL.of (hP.1 _ _ e4)⟩) (fun j y z A H' hy hz hP hA => ?_) (fun H' hP => ?_)
      · obtain ⟨sH5, hD'⟩ := hP
        obtain ⟨hj, rfl⟩ := int_get hy
        obtain ⟨_, rfl⟩ := int_get hz
        have sA := same_upd0 (o := .tup [.int (co l j), .int (co (lng l o) j)]) hA
        refine ⟨A, _, rfl, SqT.of upd_same, rfl, _, _, rfl, _, _, rfl, rfl, rfl, _, rfl, _, rfl, _, rfl, _, _, rfl, rfl, (by rw [co_lng]; exact b1 j), _, _, rfl, rfl, _, sA _ _ hD', ?_, fun u v e => ?_, ?_⟩
        · rw [tab_len]
          exact small1000 (by omega)
        · rw [upd_ne (ne_of_none e hD)]
          exact sA _ _ (sH5 _ _ e)
        · rw [upd_same, ← tab_snoc]
      · obtain ⟨s5, hD'⟩ := hP
        rw [List.length_map, tab_tb] at hD'
        have e6 : cutV ((tb l.length fun k => co l k - x * co (lng l o) k).map V.int) (some ((1 : Nat) : Int)) none = (ml t o).map V.int := by
          unfold cutV
          rw [HT.sIx_none, HT.sIx_nat, List.length_map, tb_len, Nat.min_eq_left (by omega), ← List.map_drop, ← List.map_take, List.take_of_length_le (by rw [List.length_drop, tb_len]; omega), rs]
        refine ⟨_, rfl, D, _, rfl, SqL.of hD', fun p5 n5 => ⟨_, ?_, n + 1, p5, _, _, rfl, by omega, rfl, s1.trans (s14.trans (s5.trans (same_upd0 n5))), ?_, ?_, ?_⟩⟩
        · show q.length - (n + 1) < q.length - n
          omega
        · exact fun z => by rw [z, (s14.trans s5) _ _ e1'] at n5; cases n5
        · rw [upd_same, dt]
          show some (HO.lst (cutV ((tb l.length fun k => co l k - x * co (lng l o) k).map V.int) (some ((1 : Nat) : Int)) none)) = _
          rw [e6]
        · rw [upd_ne fun z => by rw [← z, (s14.trans s5) _ _ e1'] at n5; cases n5]
          exact (s14.trans s5) _ _ e1'
    · have en : n = q.length := by omega
      subst en
      rw [decide_eq_false (show ¬ (o.length : Int) ≤ ((ml (q.drop q.length) o).length : Int) by rw [ml_len, List.length_drop]; omega)]
      rw [List.take_length] at hF'
      exact iteF ⟨_, rfl, fin F H' sH hF'⟩
def spSlope : Sp := fun vs H Q _ => ∃ (a : Addr) (l : List Int), vs = [.ref a] ∧ H a = some (ls l) ∧ 1 ≤ l.length ∧ l.length ≤ 100 ∧ (∀ x ∈ l, sm x) ∧ ∀ p H', Same H H' → H' p = some (ls (dX l)) → Q (.ref p) H'
theorem ok_slope_of (T : Facts K mg) : FnOk P w K mg base CX0 1 T.f_slope_of T.fd_slope_of ["one"] spSlope := by
  refine T.F_slope_of.ok sc_slope_of (fun vs H Q E h => ?_) (fun cdv A outer s H vs Q E hr h => ?_)
  · obtain ⟨a, l, rfl, _⟩ := h
    rfl
  · obtain ⟨a, l, rfl, ha, l1, l100, sl, fin⟩ := h
    refine ⟨_, (PSs.nox (pss_cons (ps_set (i := 1) sc_slope_of.nd rfl (.inr rfl) (pe_op op_sub (pe_callB call_len_seq (by rfl) T.z_len (by decide +kernel) (pa_cons (pv 0) pa_nil)) pe_int))
    (pss_one (ps_ret (pe_lc (own := [("at", 2), ("number", 3)]) (g := (gTup K 2 (gCons (gName 2) (gCons (gName 3) gNil)))) (tt := tYes) (by rfl) sc_slope_of.nd (pi_enum (by rfl) T.z_enumerate (pa_cons (pe_slice sl_list (pv 0) po_none (po_some (pe_un un_neg pe_int))) pa_nil)) (blkOk_by (N := N_slope_of) (sc := defScope s_slope_of) (by decide +kernel)) (fun _ _ _ _ _ => (pg_tup (by rfl) (pgs_cons (pg_name (i := 2) sc_slope_of.nd rfl (.inl rfl)) (pgs_cons (pg_name (i := 3) sc_slope_of.nd rfl (.inl rfl)) pgs_nil)))) (fun _ _ _ _ _ => pts_nil) (fun _ _ _ _ _ => (pe_op op_mulW (pv 3) (pe_op op_sub (pv 1) (pv 2))))))))), ?_⟩
    refine ⟨_, rfl, a, _, rfl, .inl (SqL.of ha), _, _, rfl, rfl, ?_⟩
    have l1' : 1 ≤ (l.map V.int).length := by rw [List.length_map]; exact l1
    refine ⟨_, rfl, _, rfl, _, rfl, a, _, rfl, SqL.of ha, fun p1 n1 => gen_upd H p1 _ n1 fun H1 s1 e1 => ?_⟩
    rw [cut_init _ l1', ← List.map_take, List.length_map] at e1
    refine ⟨p1, _, rfl, SqL.of e1, fun D hD => lc_enumL (xs := (l.take (l.length - 1)).map V.int) (fun k H' => Same H1 H' ∧ H' D = some (.lst (tab k fun k => co l k * ((l.length : Int) - 1 - k)))) ⟨same_upd0 hD, upd_same⟩ (fun k H' _ hP => SqL.of (hP.1 _ _ e1)) (fun k x B H' hx hP hB => ?_) (fun H3 hP => ?_)⟩
    · obtain ⟨sH, hL⟩ := hP
      obtain ⟨hk, rfl⟩ := int_get hx
      rw [List.length_take] at hk
      rw [co_take (by omega)]
      refine gen_upd H' B _ hB fun H4 s4 f4 => ⟨B, _, rfl, SqT.of f4, rfl, _, _, rfl, _, _, rfl, rfl, rfl, ?_⟩
      refine ⟨_, rfl, _, rfl, _, rfl, _, _, rfl, rfl, _, _, rfl, rfl, ?_, _, s4 _ _ hL, ?_, fun b o e => ?_, ?_⟩
      · rw [List.length_map]
        exact sm_mul (sm_co sl (by omega)) (Nat.lt_of_le_of_lt (show ((l.length : Int) - 1 - (k : Int)).natAbs ≤ 100 by omega) (Nat.lt_of_lt_of_le (show 100 < 2 ^ 7 by decide) (Nat.pow_le_pow_right (by decide) (by decide))))
      · rw [tab_len]
        exact small1000 (by omega)
      · rw [upd_ne (ne_of_none e hD)]
        exact s4 _ _ (sH _ _ e)
      · rw [upd_same, ← tab_snoc, List.length_map]
    · obtain ⟨s3, e3⟩ := hP
      rw [List.length_map, tab_tb, List.length_take, Nat.min_eq_left (by omega)] at e3
      exact fin D H3 (s1.trans s3) e3
end
end K77

set_option Elab.async false
set_option linter.all false
set_option maxRecDepth 100000
set_option maxHeartbeats 2000000
set_option exponentiation.threshold 20000
/-! plain: parts of a form by how often their roots stand; the degree of the plain part -/
namespace K77
open PySem PySem.Spec PyProof.Rows L2 FDivQ LA
theorem dv_quot {l D : List Int} (nD : co D 0 ≠ 0) (cD : cont D = 1) (nl : Nz (ev l)) (d : Dv D.length l.length (ev D) (ev l)) : ∃ q, ml q D = l ∧ q ≠ [] := by
  have hle := d.le nl
  obtain ⟨c, A, hc, hA, e⟩ := d
  obtain ⟨L, lL, eL⟩ := hA.list
  have nD' : D ≠ [] := fun z => nD (by rw [z]; rfl)
  have nL : L ≠ [] := fun z => by rw [z, List.length_nil] at lL; omega
  have lD := List.length_pos_iff.mpr nD'
  have eq : l.map (c * ·) = ml D L := ev_inj (by rw [List.length_map, ml_len, lL]; omega) fun x y => by rw [ev_map, ev_ml nD' nL, eL, e]
  obtain ⟨Q, h1, h2⟩ := gauss_q hc cD nD' nL eq
  exact ⟨Q, by rw [ml_comm, h1], fun z => nL (List.length_eq_zero_iff.mp (by rw [← h2, z]; rfl))⟩
/-- what two lists share -/
def shr (l r : List Int) : List Int := primE (shp r.length l r)
theorem shr_cmn {l r : List Int} (hl : co l 0 ≠ 0) (hr : co r 0 ≠ 0) : cmn l r = shr l r := by
  unfold cmn shr
  rw [(cut_same hl).1, (cut_same hl).2, (cut_same hr).1, (cut_same hr).2]
  rfl
theorem shr_lead {l r : List Int} (hl : co l 0 ≠ 0) (hr : co r 0 ≠ 0) : co (shr l r) 0 ≠ 0 := by
  have := (euc r.length l r hl (.inr hr) (Nat.le_refl _)).h0
  rw [ev_lead] at this
  exact prim_lead this
theorem shr_quot {l r : List Int} (hl : co l 0 ≠ 0) (hr : co r 0 ≠ 0) : (∃ q, ml q (shr l r) = l ∧ q ≠ []) ∧ ∃ q, ml q (shr l r) = r ∧ q ≠ [] := by
  have h0 := shr_lead hl hr
  have cm := cmn_com (nz_co hl) (nz_co hr)
  rw [shr_cmn hl hr] at cm
  have c1 : cont (shr l r) = 1 := prim_cont ⟨0, h0⟩
  exact ⟨dv_quot h0 c1 (nz_co hl) cm.df, dv_quot h0 c1 (nz_co hr) cm.dg⟩
theorem ml_lead {l m : List Int} (hm : m ≠ []) : co (ml l m) 0 = co l 0 * co m 0 := by
  rw [co_ml hm]
  cases l with
  | nil =>
    show (0 : Int) = co [] 0 * _
    rw [show co [] 0 = 0 from rfl, Int.zero_mul]
  | cons a l => rw [cv_zero]; rfl
/-- a part of a form -/
structure Prt (W l : List Int) : Prop where
  lead : co l 0 ≠ 0
  dv : ∃ X, X ≠ [] ∧ ml l X = W
theorem Prt.ne {W l : List Int} (h : Prt W l) : l ≠ [] := fun z => h.lead (by rw [z]; rfl)
theorem Prt.pos {W l : List Int} (h : Prt W l) : 1 ≤ l.length := List.length_pos_iff.mpr h.ne
theorem Prt.len {W l : List Int} (h : Prt W l) : l.length ≤ W.length := by
  obtain ⟨X, nX, e⟩ := h.dv
  have := List.length_pos_iff.mpr nX
  rw [← e, ml_len]
  omega
theorem Prt.bt {W l : List Int} (h : Prt W l) (hW : W.length ≤ 7) (nz : co W 0 ≠ 0) (hb : nm W ≤ 2 ^ 48) : bt 110 l := by
  obtain ⟨X, nX, e⟩ := h.dv
  exact div_bd e h.ne nX hW nz hb
theorem Prt.self {W : List Int} (nz : co W 0 ≠ 0) : Prt W W := ⟨nz, [1], by simp, ml_one W⟩
theorem Prt.two {W l q B : List Int} (h : Prt W l) (e : ml q B = l) (nq : q ≠ []) (nB : B ≠ []) : Prt W q ∧ Prt W B := by
  obtain ⟨X, nX, eX⟩ := h.dv
  have l0 := h.lead
  rw [← e, ml_lead nB] at l0
  have nBX : ∀ {a b : List Int}, a ≠ [] → b ≠ [] → ml a b ≠ [] := fun {a b} ha hb z => by
    have := congrArg List.length z
    have := List.length_pos_iff.mpr ha
    have := List.length_pos_iff.mpr hb
    rw [ml_len, List.length_nil] at *
    omega
  refine ⟨⟨fun z => l0 (by rw [z, Int.zero_mul]), ml B X, nBX nB nX, ?_⟩, ⟨fun z => l0 (by rw [z, Int.mul_zero]), ml q X, nBX nq nX, ?_⟩⟩
  · rw [← ml_assoc nq nB nX, e, eX]
  · rw [← ml_assoc nB nq nX, ml_comm B q, e, eX]
/-- the part that stands more than once, and so on -/
def rst0 (W : List Int) : List Int := if 1 < W.length then shr W (dX W) else W
theorem dX_lead {W : List Int} (h : 1 < W.length) (nz : co W 0 ≠ 0) : co (dX W) 0 ≠ 0 := by
  rw [co_dX, if_pos (by omega)]
  exact Int.mul_ne_zero nz (by omega)
theorem rst0_quot {W : List Int} (nz : co W 0 ≠ 0) : co (rst0 W) 0 ≠ 0 ∧ ∃ q, ml q (rst0 W) = W ∧ q ≠ [] := by
  unfold rst0
  split
  · next c => exact ⟨shr_lead nz (dX_lead c nz), (shr_quot nz (dX_lead c nz)).1⟩
  · exact ⟨nz, [1], by rw [ml_comm, ml_one], by simp⟩
/-- the degree of the plain part -/
def pdeg (F : List Int) : Nat := (if 0 < ah F then 1 else 0) + ((primE (cut F)).length - (rst0 (primE (cut F))).length)
theorem pdeg_crit {F : List Int} {n : Nat} (lF : F.length = n + 1) (n2 : 2 ≤ n) (nF : Nz (ev F)) : dsc F = 0 ↔ pdeg F < n := by
  rw [disc_crit lF n2 nF]
  have W0 : co (primE (cut F)) 0 ≠ 0 := prim_lead (cut_pos nF)
  have lW := cut_split F
  rw [← primE_len (cut F)] at lW
  unfold pdeg
  generalize primE (cut F) = W at *
  have lW1 : 1 ≤ W.length := List.length_pos_iff.mpr fun z => W0 (by rw [z]; rfl)
  obtain ⟨r0, q, eq, nq⟩ := rst0_quot W0
  have lq := List.length_pos_iff.mpr nq
  have lr : 1 ≤ (rst0 W).length := List.length_pos_iff.mpr fun z => r0 (by rw [z]; rfl)
  have le : (rst0 W).length ≤ W.length := by
    have := congrArg List.length eq
    rw [ml_len] at this
    omega
  by_cases c : 1 < W.length
  · have e : cmn W (dX W) = rst0 W := by
      rw [shr_cmn W0 (dX_lead c W0)]
      exact (if_pos c).symm
    rw [e]
    generalize (rst0 W).length = k at *
    split <;> omega
  · have e : rst0 W = W := if_neg c
    rw [e]
    split <;> omega
theorem nm_cut (l : List Int) : nm (cut l) ≤ nm l := by
  conv => rhs; rw [cut_rep l]
  unfold nm
  rw [List.map_append, List.sum_append]
  omega
theorem nm_prim (l : List Int) : nm (primE l) ≤ nm l := by
  have h : ∀ (a b : List Int), a.length = b.length → (∀ k, (co a k).natAbs ≤ (co b k).natAbs) → nm a ≤ nm b := by
    intro a
    induction a with
    | nil => exact fun b _ _ => Nat.zero_le _
    | cons x a ih =>
      intro b hl h
      match b, hl with
      | y :: b, hl =>
        have h1 := ih b (Nat.succ.inj hl) fun k => h (k + 1)
        have h2 : x.natAbs ≤ y.natAbs := h 0
        unfold nm at *
        rw [List.map_cons, List.map_cons, List.sum_cons, List.sum_cons]
        omega
  exact h _ _ (primE_len l) (prim_le l)
end K77

set_option Elab.async false
set_option linter.all false
/-! dicts with numbers as keys: a dict that is made for a walk is locked from then on -/
namespace DkL
open PySem PySem.Spec PyProof.Rows L2
theorem hu1 {k : Nat} {A : Around} (hr : Room k A) : A.units + 1 < cLine := by
  have := hr.units
  omega
/-- the value is a dict (or another thing that may change); from here on it is locked -/
def tLockV (te : TE) : TE := fun σ H Q => te σ H fun x H1 => ∃ d u, x = .ref d ∧ H1 d = some u ∧ Mut (some u) ∧ ∀ od, Q x (upd H1 d (.frz od u))
theorem pe_lockV {X : Cx} {e : Expr} {te : TE} (h : PE X e te) : PE X e (tLockV te) := by
  refine ⟨fun pins s σ H Q I hw => ?_⟩
  refine thn (h.run pins s σ H _ I hw) fun v s1 ⟨x, H1, I1, rx, d, u, ex, hd, mu, q⟩ => ?_
  obtain ⟨od, I2⟩ := I1.lock hd mu
  exact ⟨x, _, I2, rx, q od⟩
end DkL

set_option Elab.async false
set_option linter.all false
set_option maxRecDepth 100000
/-! dicts from numbers to lists of numbers: told by their keys, in order, and by what stands at each key; comprehensions over a list; a loop over the values -/
namespace DkI
open PySem PySem.Spec PyProof.Rows L2
def kvf (ks : List Int) (ad : Int → Addr) : List (Key × V) := ks.map fun k => (.inl k, .ref (ad k))
def upf {α : Type} (f : Int → α) (k : Int) (x : α) : Int → α := fun j => if j = k then x else f j
theorem upf_same {α : Type} (f : Int → α) (k : Int) (x : α) : upf f k x k = x := if_pos rfl
theorem upf_ne {α : Type} {f : Int → α} {k : Int} {x : α} {j : Int} (h : j ≠ k) : upf f k x j = f j := if_neg h
theorem valV_kvf (ad : Int → Addr) (k : Int) : ∀ ks : List Int, valV (kvf ks ad) (.inl k) = if k ∈ ks then some (.ref (ad k)) else none
  | [] => rfl
  | j :: ks => by
    show valV ((.inl j, .ref (ad j)) :: kvf ks ad) (.inl k) = _
    by_cases e : j = k
    · subst e
      rw [valV_pos rfl, if_pos (.head _)]
    · rw [valV_neg fun z => e (Sum.inl.inj z), valV_kvf ad k ks]
      by_cases m : k ∈ ks
      · rw [if_pos m, if_pos (.tail _ m)]
      · rw [if_neg m, if_neg fun z => (List.mem_cons.mp z).elim (fun q => e q.symm) m]
theorem put_old {ks : List Int} {ad : Int → Addr} {k : Int} {p : Addr} (h : k ∈ ks) : putK (kvf ks ad) (.inl k) (.ref p) = kvf ks (upf ad k p) := by
  unfold putK
  rw [valV_any, valV_kvf, if_pos h]
  rw [if_pos (by rfl)]
  unfold kvf
  rw [List.map_map]
  refine List.map_congr_left fun j _ => ?_
  show (if (Sum.inl j : Key) = .inl k then ((Sum.inl j : Key), V.ref p) else (.inl j, .ref (ad j))) = (.inl j, .ref (upf ad k p j))
  by_cases e : j = k
  · rw [if_pos (congrArg _ e), e, upf_same]
  · rw [if_neg fun z => e (Sum.inl.inj z), upf_ne e]
theorem kvf_congr {ks : List Int} {a b : Int → Addr} (h : ∀ k ∈ ks, a k = b k) : kvf ks a = kvf ks b := List.map_congr_left fun k hk => by rw [h k hk]
theorem put_new {ks : List Int} {ad : Int → Addr} {k : Int} {p : Addr} (h : k ∉ ks) : putK (kvf ks ad) (.inl k) (.ref p) = kvf (ks ++ [k]) (upf ad k p) := by
  rw [putK_new _ (by rw [valV_kvf, if_neg h])]
  unfold kvf
  rw [List.map_append, List.map_singleton, upf_same]
  congr 1
  exact kvf_congr fun j hj => (upf_ne fun e => h (by rw [← e]; exact hj)).symm
/-- how much longer than one entry the rows are, together -/
def xs1 (ks : List Int) (ll : Int → List Int) : Nat := (ks.map fun k => (ll k).length - 1).sum
theorem xs1_congr {ks : List Int} {a b : Int → List Int} (h : ∀ k ∈ ks, a k = b k) : xs1 ks a = xs1 ks b := by
  unfold xs1
  rw [List.map_congr_left fun k hk => by rw [h k hk]]
theorem xs1_new {ks : List Int} {ll : Int → List Int} {k : Int} {l : List Int} (h : k ∉ ks) : xs1 (ks ++ [k]) (upf ll k l) = xs1 ks ll + (l.length - 1) := by
  have := xs1_congr (ks := ks) (a := upf ll k l) (b := ll) fun j hj => upf_ne fun e => h (by rw [← e]; exact hj)
  unfold xs1 at *
  rw [List.map_append, List.sum_append, List.map_singleton, upf_same, this]
  rfl
theorem xs1_old {k : Int} {ll : Int → List Int} {l : List Int} : ∀ {ks : List Int}, k ∈ ks → ks.Nodup → xs1 ks (upf ll k l) + ((ll k).length - 1) = xs1 ks ll + (l.length - 1)
  | j :: ks, m, nd => by
    obtain ⟨nj, nd⟩ := List.nodup_cons.mp nd
    have e : ∀ f : Int → List Int, xs1 (j :: ks) f = ((f j).length - 1) + xs1 ks f := fun f => by
      unfold xs1
      rw [List.map_cons, List.sum_cons]
    rw [e, e]
    by_cases c : k = j
    · subst c
      rw [upf_same, xs1_congr (ks := ks) (a := upf ll k l) (b := ll) fun i hi => upf_ne fun z => nj (by rw [← z]; exact hi)]
      omega
    · have m' : k ∈ ks := (List.mem_cons.mp m).resolve_left c
      have := xs1_old (ll := ll) (l := l) m' nd
      rw [upf_ne fun z => c z.symm]
      omega
theorem xs1_perm {ks js : List Int} (h : ks.Perm js) (ll : Int → List Int) : xs1 ks ll = xs1 js ll := by
  unfold xs1
  induction h with
  | nil => rfl
  | cons x _ ih => rw [List.map_cons, List.map_cons, List.sum_cons, List.sum_cons, ih]
  | swap x y l =>
    rw [List.map_cons, List.map_cons, List.map_cons, List.map_cons, List.sum_cons, List.sum_cons, List.sum_cons, List.sum_cons]
    omega
  | trans _ _ i j => exact i.trans j
theorem xs1_len {ks : List Int} {ll : Int → List Int} (h : ∀ k ∈ ks, 2 ≤ (ll k).length) : ks.length ≤ xs1 ks ll := by
  induction ks with
  | nil => exact Nat.zero_le _
  | cons k ks ih =>
    have h1 := h k (.head _)
    have h2 := ih fun j hj => h j (.tail _ hj)
    unfold xs1 at *
    rw [List.map_cons, List.sum_cons, List.length_cons]
    omega
/-- the dict at d -/
structure DkR (H : Hp) (d : Addr) (ks : List Int) (ad : Int → Addr) (ll : Int → List Int) : Prop where
  at_ : H d = some (.dK (kvf ks ad))
  nd : ks.Nodup
  row : ∀ k ∈ ks, H (ad k) = some (.lst ((ll k).map V.int))
theorem DkR.mono {H H' : Hp} {d : Addr} {ks : List Int} {ad : Int → Addr} {ll : Int → List Int} (h : DkR H d ks ad ll) (hd : H' d = H d) (k : ∀ a xs, H a = some (.lst xs) → H' a = some (.lst xs)) : DkR H' d ks ad ll :=
  ⟨hd.trans h.at_, h.nd, fun j hj => k _ _ (h.row j hj)⟩
theorem DkR.nil {H : Hp} {d : Addr} (ad : Int → Addr) (ll : Int → List Int) (h : H d = some (.dK [])) : DkR H d [] ad ll := ⟨h, List.nodup_nil, fun k hk => absurd hk (by simp)⟩
theorem DkR.put {H : Hp} {d p : Addr} {ks : List Int} {ad : Int → Addr} {ll : Int → List Int} {k : Int} {l : List Int} (h : DkR H d ks ad ll) (hp : H p = some (.lst (l.map V.int))) (hl : ks.length < sizeLine) :
    ∃ ks' H', DPut H d (.int k) (.ref p) H' ∧ H' = upd H d (.dK (kvf ks' (upf ad k p))) ∧ DkR H' d ks' (upf ad k p) (upf ll k l) ∧ (∀ j, j ∈ ks' ↔ j ∈ ks ∨ j = k) ∧ xs1 ks' (upf ll k l) + (if k ∈ ks then (ll k).length - 1 else 0) = xs1 ks ll + (l.length - 1) := by
  have pd : p ≠ d := fun e => by rw [e, h.at_] at hp; cases hp
  have rows : ∀ {ks' : List Int}, (∀ j, j ∈ ks' → j ∈ ks ∨ j = k) → ∀ j ∈ ks', upd H d (.dK (kvf ks' (upf ad k p))) (upf ad k p j) = some (.lst ((upf ll k l j).map V.int)) := fun {ks'} hm j hj => by
    by_cases e : j = k
    · rw [e, upf_same, upf_same, upd_ne pd, hp]
    · have hr := h.row j ((hm j hj).resolve_right e)
      rw [upf_ne e, upf_ne e, upd_ne (fun z => by rw [z, h.at_] at hr; cases hr), hr]
  by_cases m : k ∈ ks
  · refine ⟨ks, _, DPut.k (k := .inl k) h.at_ (by unfold kvf; rw [List.length_map]; exact hl), ?_, ?_, fun j => ⟨.inl, fun z => z.elim id fun e => e ▸ m⟩, by rw [if_pos m]; exact xs1_old m h.nd⟩
    · rw [put_old m]
    · rw [put_old m]
      exact ⟨upd_same, h.nd, rows fun j hj => .inl hj⟩
  · have mm : ∀ j, j ∈ ks ++ [k] ↔ j ∈ ks ∨ j = k := fun j => by rw [List.mem_append, List.mem_singleton]
    refine ⟨ks ++ [k], _, DPut.k (k := .inl k) h.at_ (by unfold kvf; rw [List.length_map]; exact hl), ?_, ?_, mm, by rw [if_neg m]; exact xs1_new m⟩
    · rw [put_new m]
    · rw [put_new m]
      refine ⟨upd_same, ?_, rows fun j hj => (mm j).mp hj⟩
      rw [List.nodup_append]
      exact ⟨h.nd, by simp, fun a ha b hb e => m (by rw [← List.mem_singleton.mp hb, ← e]; exact ha)⟩
theorem DkR.get {H : Hp} {d : Addr} {ks : List Int} {ad : Int → Addr} {ll : Int → List Int} (h : DkR H d ks ad ll) (k : Int) : DGet H d (.int k) (if k ∈ ks then some (.ref (ad k)) else none) := by
  have := DGet.k (k := .inl k) h.at_
  rw [valV_kvf] at this
  exact this
/-- a dict comprehension over a list that stays -/
theorem dc_list {K : PySem.W.Frag} {a : Addr} {xs : List V} {g : TG} {tt : TT} {tk tv : TE} {vs : List Nat} {σ : L2.St} {H1 : Hp} {D : Addr} {Qd : Hp → Prop} (Pv : Nat → Hp → Prop) (h0 : Pv 0 (upd H1 D (.dK []))) (hl : ∀ i H, i ≤ xs.length → Pv i H → SqL K H a xs)
    (hs : ∀ i x H, xs[i]? = some x → Pv i H → g x (wipe σ vs) H fun σ2 H2 => wipe σ2 vs = wipe σ vs ∧ tt σ2 H2 fun b H3 =>
      if b = true then tk σ2 H3 fun y H4 => tv σ2 H4 fun z H5 => ∃ kvs k, y = kV k ∧ H5 D = some (.dK kvs) ∧ kvs.length < sizeLine ∧ Pv (i + 1) (upd H5 D (.dK (putK kvs k z))) else Pv (i + 1) H3) (hd : ∀ H, Pv xs.length H → Qd H) :
    ∃ W : Nat → Nat → Hp → Prop, (∃ m, W 0 m (upd H1 D (.dK []))) ∧ ∀ i m H, W i m H →
      ((Itl K a).stop i H ∧ Qd H) ∨ ((Itl K a).go i H ∧ ∃ Nx : Hp → Prop, (∀ H', Nx H' → ∃ m', m' < m ∧ W (i + 1) m' H') ∧ ∀ x H', (Itl K a).yld i H x H' → g x (wipe σ vs) H' fun σ2 H2 => wipe σ2 vs = wipe σ vs ∧ tt σ2 H2 fun b H3 =>
        if b = true then tk σ2 H3 fun y H4 => tv σ2 H4 fun z H5 => ∃ kvs k, y = kV k ∧ H5 D = some (.dK kvs) ∧ kvs.length < sizeLine ∧ Nx (upd H5 D (.dK (putK kvs k z))) else Nx H3) := by
  refine ⟨fun i m H => m = xs.length - i ∧ i ≤ xs.length ∧ Pv i H, ⟨xs.length, by simp, Nat.zero_le _, h0⟩, ?_⟩
  rintro i m H ⟨rfl, hi, p⟩
  have q := hl i H hi p
  by_cases hlt : i < xs.length
  · refine .inr ⟨⟨xs, xs[i], q, by simp [hlt]⟩, Pv (i + 1), fun H' p' => ⟨xs.length - (i + 1), by omega, rfl, hlt, p'⟩, fun x H' y => ?_⟩
    obtain ⟨e, y⟩ := y
    subst e
    exact hs i x _ (y xs q) p
  · have e : i = xs.length := by omega
    subst e
    exact .inl ⟨⟨xs, q, Nat.le_refl _⟩, hd H p⟩
/-- a loop over the values of a dict that is locked -/
theorem for_vals {d : Addr} {o : Obj} {kvs : List (Key × V)} {g : TG} {tb : TS} {D : Ends} {σ : L2.St} {H : Hp} (Pv : Nat → L2.St → Hp → Prop) (h0 : Pv 0 σ H) (hq : ∀ i σ H, Pv i σ H → H d = some (.frz o (.dK kvs)))
    (hs : ∀ (i : Nat) (k : Key) (x : V) (σ : L2.St) (H : Hp), kvs[i]? = some (k, x) → Pv i σ H → g x σ H fun σ2 H2 => tb { D with nx := Pv (i + 1), ct := Pv (i + 1), bk := D.nx } σ2 H2) (hd : ∀ σ H, Pv kvs.length σ H → D.nx σ H) :
    ∃ W : Nat → Nat → L2.St → Hp → Prop, (∃ m, W 0 m σ H) ∧ ∀ i m σ H, W i m σ H →
      ((Itd d o kvs).stop i H ∧ D.nx σ H) ∨ ((Itd d o kvs).go i H ∧ ∃ N : L2.St → Hp → Prop, (∀ σ' H', N σ' H' → ∃ m', m' < m ∧ W (i + 1) m' σ' H') ∧ ∀ v H', (Itd d o kvs).yld i H v H' → g v σ H' fun σ2 H2 => tb { D with nx := N, ct := N, bk := D.nx } σ2 H2) := by
  refine ⟨fun i m σ H => m = kvs.length - i ∧ i ≤ kvs.length ∧ Pv i σ H, ⟨kvs.length, rfl, Nat.zero_le _, h0⟩, ?_⟩
  rintro i m σ H ⟨rfl, hi, p⟩
  have qx := hq i σ H p
  by_cases hlt : i < kvs.length
  · refine .inr ⟨⟨qx, hlt⟩, Pv (i + 1), fun σ' H' p' => ⟨kvs.length - (i + 1), by omega, rfl, hlt, p'⟩, fun v H' y => ?_⟩
    obtain ⟨rfl, k, e⟩ := y
    exact hs i k v σ H' e p
  · have e : i = kvs.length := by omega
    subst e
    exact .inl ⟨⟨qx, Nat.le_refl _⟩, hd σ H p⟩
end DkI

set_option Elab.async false
set_option linter.all false
set_option maxRecDepth 100000
set_option maxHeartbeats 4000000
set_option exponentiation.threshold 10000
/-! parts of a form -/
namespace K77
open PySem PySem.Spec PyProof.Rows L2 StX RZ MyR SlX OwnR OwnF EnumT SeqE GxR GenNx FDivQ LA DkI
theorem meet1 {G : Prop} {R : Addr → Hp → Prop} (C : Addr → Hp → Prop) (main : (∀ c H, C c H → R c H) → G) (rest : ∀ c H, C c H → R c H) : G := main rest
theorem meet0 {G : Prop} {R : Hp → Prop} (C : Hp → Prop) (main : (∀ H, C H → R H) → G) (rest : ∀ H, C H → R H) : G := main rest
theorem co_le_nm (l : List Int) (k : Nat) : (co l k).natAbs ≤ nm l := by
  by_cases c : k < l.length
  · exact nm_mem (co_memE c)
  · rw [co_far (by omega)]
    exact Nat.zero_le _
theorem bt_sm {l : List Int} (h : bt 110 l) : ∀ x ∈ l, sm x := fun x hx => by
  obtain ⟨k, _, ek⟩ := mem_co hx
  rw [← ek]
  exact Nat.lt_of_lt_of_le (h k) (Nat.pow_le_pow_right (by decide) (by decide))
theorem xs1_mem {k : Int} {ll : Int → List Int} : ∀ {ks : List Int}, k ∈ ks → (ll k).length - 1 ≤ xs1 ks ll
  | j :: ks, m => by
    have e : xs1 (j :: ks) ll = ((ll j).length - 1) + xs1 ks ll := by
      unfold xs1
      rw [List.map_cons, List.sum_cons]
    rcases List.mem_cons.mp m with rfl | m
    · omega
    · have := xs1_mem (ll := ll) m
      omega
theorem tg_upd {Ps : List Addr} {H : Hp} {D : Addr} {o o' : HO} (h : Tg Ps H) (hD : H D = some o') (n : ∀ ps, o' ≠ .tbl ps) : Tg Ps (L2.upd H D o) := fun P m => by
  obtain ⟨ps, e, k⟩ := h P m
  refine ⟨ps, ?_, k⟩
  rw [upd_ne fun z => by rw [z, hD] at e; exact n _ (Option.some.inj e)]
  exact e
theorem dkr_sts {Ps : List Addr} {H H' : Hp} {d : Addr} {ks : List Int} {ad : Int → Addr} {ll : Int → List Int} (h : DkR H d ks ad ll) (s : Sts Ps H H') (g : Tg Ps H) : DkR H' d ks ad ll :=
  h.mono ((s _ _ (g.ne h.at_ fun _ e => nomatch e) h.at_).trans h.at_.symm) fun a xs e => s.lst g e
/-- what is asked of the form -/
structure FrOk (F : List Int) : Prop where
  nz : Nz (ev F)
  len : F.length ≤ 7
  nm : nm F ≤ 2 ^ 48
def wh (F : List Int) : List Int := primE (cut F)
theorem FrOk.w0 {F : List Int} (h : FrOk F) : co (wh F) 0 ≠ 0 := prim_lead (cut_pos h.nz)
theorem FrOk.wl {F : List Int} (h : FrOk F) : (wh F).length ≤ 7 := by
  have := cut_len F
  have := h.len
  unfold wh
  rw [primE_len]
  omega
theorem FrOk.wn {F : List Int} (h : FrOk F) : K77.nm (wh F) ≤ 2 ^ 48 := Nat.le_trans (nm_prim _) (Nat.le_trans (nm_cut F) h.nm)
theorem FrOk.pt {F l : List Int} (h : FrOk F) (p : Prt (wh F) l) : bt 110 l := p.bt h.wl h.w0 h.wn
theorem FrOk.sh {F l r : List Int} (h : FrOk F) (pl : l.length ≤ 7) (pr : r.length ≤ 7) (bl : bt 110 l) (br : bt 110 r) : ShOk r.length l r := (shOk_of r.length l.length r.length 114 114 l r (sz_pairs _ (by omega) _ (by omega)) rfl rfl (Nat.le_refl _) (bl.mono (by decide)) (br.mono (by decide))).1
theorem FrOk.slope {F : List Int} (h : FrOk F) : bt 110 (dX (wh F)) := fun k => by
  rw [co_dX]
  have hl := h.wl
  have hn := h.wn
  split
  · rw [Int.natAbs_mul]
    exact Nat.lt_of_le_of_lt (Nat.mul_le_mul (Nat.le_trans (co_le_nm (wh F) k) hn) (show (((wh F).length : Int) - 1 - k).natAbs ≤ 7 by omega)) (by decide)
  · decide
/-- what stands before a turn -/
structure PI0 (Ps : List Addr) (H : Hp) (F : List Int) (L0 : Nat) (d lf rs : Addr) (l r : List Int) (n : Int) (ks : List Int) (ad : Int → Addr) (ll : Int → List Int) (H' : Hp) : Prop where
  el : H' lf = some (ls l)
  er : H' rs = some (ls r)
  pl : Prt (wh F) l
  pr : Prt (wh F) r
  dk : DkR H' d ks ad ll
  kn : ∀ k ∈ ks, k < n
  kr : ∀ k ∈ ks, 2 ≤ (ll k).length ∧ bt 110 (ll k)
  sum : xs1 ks ll + (l.length - 1) = L0
  st : Sts Ps H H'
  tg : Tg Ps H'
theorem none_of {Ps : List Addr} {H H' : Hp} {D : Addr} (s : Sts Ps H H') (g : Tg Ps H') (h : H' D = none) : H D = none := by
  cases e : H D with
  | none => rfl
  | some o =>
    by_cases m : D ∈ Ps
    · obtain ⟨ps, e1, _⟩ := g D m
      rw [h] at e1
      cases e1
    · rw [s D o m e] at h
      cases h
theorem sts_upd {Ps : List Addr} {H H' : Hp} {D : Addr} {o : HO} (s : Sts Ps H H') (h : H D = none) : Sts Ps H (upd H' D o) := fun b v m e => by
  rw [upd_ne fun z => by rw [z, h] at e; cases e]
  exact s b v m e
theorem bt_cons0 {L : Nat} {l : List Int} (h : bt L l) : bt L (0 :: l) := fun k => by
  cases k with
  | zero => exact Nat.two_pow_pos L
  | succ k => exact h k
section
variable {P : Program} {w : World} {K : PySem.W.Frag} {mg : Str → Option Value} {base : Heap} {Ps : List Addr}
def spParts (Ps : List Addr) : Sp := fun vs H Q _ => ∃ (t : Addr) (F : List Int), vs = [.ref t] ∧ H t = some (tp F) ∧ FrOk F ∧ Tg Ps H ∧ ∀ d ks ad ll H', Sts Ps H H' → Tg Ps H' → H d = none → DkR H' d ks ad ll → xs1 ks ll = pdeg F → (∀ k ∈ ks, 2 ≤ (ll k).length ∧ bt 110 (ll k)) → Q (.ref d) H'
theorem ok_parts_in (T : Facts K mg) (TB_first_of : TabB base mg T.c_first_of T.P_first_of) (hP : T.P_first_of ∈ Ps) : FnOk P w K mg base CX0 5 T.f_parts_in T.fd_parts_in ["entries"] (spParts Ps) := by
  have G_cut_line : FnOk P w K mg base CX0 1 T.f_cut_line T.fd_cut_line ["numbers"] spCut := ok_cut_line T
  have G_primitive_of := ok_primitive_of (P := P) (w := w) (base := base) T TB_first_of hP
  have G_shared_part := ok_shared_part (P := P) (w := w) (base := base) T TB_first_of hP
  have G_slope_of := ok_slope_of (P := P) (w := w) (base := base) T
  have G_exact_quotient := ok_exact_quotient (P := P) (w := w) (base := base) T
  have G_ahead_of : FnOk P w K mg base CX0 2 T.f_ahead_of T.fd_ahead_of ["entries"] spAhead := ok_ahead_of T
  refine T.F_parts_in.ok sc_parts_in (fun vs H Q E h => ?_) (fun cdv A outer s H vs Q E hr h => ?_)
  · obtain ⟨t, F, rfl, _⟩ := h
    rfl
  · obtain ⟨t, F, rfl, ht, ok, g0, fin⟩ := h
    refine ⟨_, (PSs.nox (pss_cons (ps_asg (pe_tup (pa_cons pe_dnewK (pa_cons pe_int pa_nil))) (pg_tup (by rfl) (pgs_cons (pg_name (i := 1) sc_parts_in.nd rfl (.inr rfl)) (pgs_cons (pg_name (i := 2) sc_parts_in.nd rfl (.inl rfl)) pgs_nil))))
    (pss_cons (ps_set (i := 3) sc_parts_in.nd rfl (.inl rfl) (pe_call G_primitive_of (hr.mono (by decide)) (by rfl) T.g_primitive_of T.F_primitive_of.kp T.b_primitive_of .nil pass0 (pa_cons (pe_call G_cut_line (hr.mono (by decide)) (by rfl) T.g_cut_line T.F_cut_line.kp T.b_cut_line .nil pass0 (pa_cons (pv 0) pa_nil)) pa_nil)))
    (pss_cons (ps_set (i := 4) sc_parts_in.nd rfl (.inl rfl) (pe_ifExp (pt_cmpR op_gt (pe_callB call_len_seq (by rfl) T.z_len (by decide +kernel) (pa_cons (pv 3) pa_nil)) pe_int (nomark _)) (pe_call G_shared_part hr (by rfl) T.g_shared_part T.F_shared_part.kp T.b_shared_part .nil pass0 (pa_cons (pv 3) (pa_cons (pe_call G_slope_of (hr.mono (by decide)) (by rfl) T.g_slope_of T.F_slope_of.kp T.b_slope_of .nil pass0 (pa_cons (pv 3) pa_nil)) pa_nil))) (pv 3)))
    (pss_cons (ps_set (i := 5) sc_parts_in.nd rfl (.inl rfl) (pe_call G_exact_quotient (hr.mono (by decide)) (by rfl) T.g_exact_quotient T.F_exact_quotient.kp T.b_exact_quotient .nil pass0 (pa_cons (pv 3) (pa_cons (pv 4) pa_nil))))
    (pss_cons (ps_while PassesOwn.never (pt_cmpR op_gt (pe_callB call_len_seq (by rfl) T.z_len (by decide +kernel) (pa_cons (pv 5) pa_nil)) pe_int (nomark _))
      (pss_cons (ps_set (i := 6) sc_parts_in.nd rfl (.inl rfl) (pe_call G_shared_part hr (by rfl) T.g_shared_part T.F_shared_part.kp T.b_shared_part .nil pass0 (pa_cons (pv 5) (pa_cons (pv 4) pa_nil))))
      (pss_cons (ps_set (i := 7) sc_parts_in.nd rfl (.inl rfl) (pe_call G_exact_quotient (hr.mono (by decide)) (by rfl) T.g_exact_quotient T.F_exact_quotient.kp T.b_exact_quotient .nil pass0 (pa_cons (pv 5) (pa_cons (pv 6) pa_nil))))
      (pss_cons (ps_if (pt_cmpR op_gt (pe_callB call_len_seq (by rfl) T.z_len (by decide +kernel) (pa_cons (pv 7) pa_nil)) pe_int (nomark _))
        (pss_one (ps_dput (DkL.hu1 hr) (pv 1) (pv 2) (pe_call G_primitive_of (hr.mono (by decide)) (by rfl) T.g_primitive_of T.F_primitive_of.kp T.b_primitive_of .nil pass0 (pa_cons (pv 7) pa_nil)) (by rfl)))
        pss_nil)
      (pss_one (ps_par3 (i := 5) (j := 4) (l := 2) (by rfl) sc_parts_in.nd rfl rfl rfl (by decide) (by decide) (by decide) rfl rfl rfl (pa_cons (pv 6) (pa_cons (pe_call G_exact_quotient (hr.mono (by decide)) (by rfl) T.g_exact_quotient T.F_exact_quotient.kp T.b_exact_quotient .nil pass0 (pa_cons (pv 4) (pa_cons (pv 6) pa_nil))) (pa_cons (pe_op op_add (pv 2) pe_int) pa_nil))) (by rfl)))))))
    (pss_cons (ps_set (i := 8) sc_parts_in.nd rfl (.inl rfl) (pe_call G_ahead_of (hr.mono (by decide)) (by rfl) T.g_ahead_of T.F_ahead_of.kp T.b_ahead_of .nil pass0 (pa_cons (pv 0) pa_nil)))
    (pss_cons (ps_if (pt_cmpR op_gt (pv 8) pe_int (nomark _))
      (pss_one (ps_dput (DkL.hu1 hr) (pv 1) (pv 8) (pe_lst (pa_cons pe_int (pa_star (pe_dget2 (DkL.hu1 hr) (pv 1) (pv 8) (pe_lst (pa_cons pe_int pa_nil)) ⟨by rfl, by rfl, by rfl, by rfl⟩) pa_nil))) (by rfl)))
      pss_nil)
    (pss_one (ps_ret (pe_dc (own := [("many", 9)]) (g := (gName 9)) (tt := tYes) (by rfl) sc_parts_in.nd (pi_list (pe_callB (call_sortedDI (by rfl)) (by rfl) T.z_sorted (by decide +kernel) (pa_cons (pv 1) pa_nil))) (blkOk_by (N := N_parts_in) (sc := defScope s_parts_in) (by decide +kernel)) (fun _ _ _ _ _ => (pg_name (i := 9) sc_parts_in.nd rfl (.inl rfl))) (fun _ _ _ _ _ => pts_nil) (fun _ _ _ _ _ => (pv 9)) (fun _ _ _ _ _ => (pe_dget (DkL.hu1 hr) (pv 1) (pv 9) (fun _ _ => rfl)))))))))))))), ?_⟩
    have hF := ok.len
    have W0 := ok.w0
    have bW : bt 110 (wh F) := fun k => Nat.lt_of_le_of_lt (Nat.le_trans (co_le_nm (wh F) k) ok.wn) (by decide)
    have bF : bt 110 (cut F) := fun k => Nat.lt_of_le_of_lt (Nat.le_trans (co_le_nm (cut F) k) (Nat.le_trans (nm_cut F) ok.nm)) (by decide)
    refine (fun d nd => gen_upd H d (.dK []) nd fun H1 s1 e1 => ⟨sz2, fun p0 n0 => gen_upd H1 p0 (.tup [.ref d, .int 1]) n0 fun H2 s2 e2 => ⟨p0, _, rfl, SqT.of e2, rfl, _, _, rfl, _, _, rfl, rfl, ?_⟩⟩)
    have s12 := s1.trans s2
    refine ⟨_, rfl, t, F, rfl, .inl (s12 _ _ ht), by omega, fun p3 H3 s3 e3 => ⟨p3, _, rfl, e3, Nat.le_trans (cut_len F) (by omega), divOk_9 (bF.mono (by decide)), g0.same (s12.trans s3), fun pw H4 s4 g4 e4 => ?_⟩⟩
    have S4 : Sts Ps H H4 := (Sts.of (s12.trans s3)).trans s4
    have D4 : DkR H4 d [] (fun _ => 0) (fun _ => []) := dkr_sts (DkR.nil _ _ ((s2.trans s3) _ _ e1)) s4 (g0.same (s12.trans s3))
    have ht4 := S4.tup g0 ht
    clear e1 e2 e3 s1 s2 s3 s4 s12 n0
    have lw := ok.wl
    have w1 : 1 ≤ (wh F).length := List.length_pos_iff.mpr fun z => W0 (by rw [z]; rfl)
    have e4' : H4 pw = some (ls (wh F)) := e4
    refine ⟨_, rfl, pw, _, rfl, .inl (SqL.of e4'), _, _, rfl, rfl, _, rfl, ?_⟩
    rw [List.length_map]
    apply meet1 fun r H' => Sts Ps H4 H' ∧ Tg Ps H' ∧ H' r = some (ls (rst0 (wh F)))
    · intro k
      by_cases c : 1 < (wh F).length
      · rw [decide_eq_true (show (1 : Int) < ((wh F).length : Int) by omega)]
        have lX : (dX (wh F)).length = (wh F).length - 1 := dX_len _
        refine iteT ⟨_, rfl, _, rfl, pw, wh F, rfl, e4', w1, by omega, bt_sm bW, fun pd H5 s5 e5 => ⟨pw, pd, wh F, dX (wh F), (dX (wh F)).length, rfl, s5 _ _ e4', e5, by omega, by omega, ok.sh (by omega) (by omega) bW ok.slope, g4.same s5, fun pr H6 s6 g6 e6 => k pr H6 ⟨(Sts.of s5).trans s6, g6, ?_⟩⟩⟩
        rw [e6]
        unfold rst0 shr
        rw [if_pos c]
      · rw [decide_eq_false (show ¬ (1 : Int) < ((wh F).length : Int) by omega)]
        refine iteF ⟨_, rfl, k pw H4 ⟨Sts.rf Ps H4, g4, ?_⟩⟩
        rw [e4']
        unfold rst0
        rw [if_neg c]
    rintro r H5 ⟨s5, g5, e5⟩
    obtain ⟨r0, q0, eq0, nq0⟩ := rst0_quot W0
    have nr0 : rst0 (wh F) ≠ [] := fun z => r0 (by rw [z]; rfl)
    obtain ⟨pq, pr⟩ := (Prt.self W0).two eq0 nq0 nr0
    refine ⟨_, rfl, _, rfl, pw, r, q0, rst0 (wh F), rfl, (by rw [eq0]; exact s5.lst g4 e4'), e5, nq0, r0, by have := pq.len; omega, by have := pr.len; omega, (ok.pt pq).mono (by decide), (ok.pt pr).mono (by decide), fun lf H6 s6 e6 => ?_⟩
    have S6 : Sts Ps H H6 := S4.trans (s5.trans (Sts.of s6))
    have g6 := g5.same s6
    have D6 := dkr_sts (dkr_sts D4 s5 g4) (Sts.of s6) g5
    have h6 := s6 _ _ e5
    clear s5 s6 e5 g5 D4 e4 e4' g4
    obtain ⟨L0, hL0⟩ : ∃ L0, L0 = q0.length - 1 := ⟨_, rfl⟩
    have pd : L0 + (if 0 < ah F then 1 else 0) = pdeg F := by
      have := congrArg List.length eq0
      rw [ml_len] at this
      have := List.length_pos_iff.mpr nq0
      have := List.length_pos_iff.mpr nr0
      show _ = (if 0 < ah F then 1 else 0) + ((wh F).length - (rst0 (wh F)).length)
      omega
    refine WhileD.while_m (fun m σ H' => ∃ (lf rs : Addr) (l r : List Int) (n : Int) (ks : List Int) (ad : Int → Addr) (ll : Int → List Int) (o6 o7 : Option V), m = l.length + r.length ∧ σ = [some (.ref t), some (.ref d), some (.int n), some (.ref pw), some (.ref rs), some (.ref lf), o6, o7, none, none] ∧ PI0 Ps H F L0 d lf rs l r n ks ad ll H') ⟨_, lf, r, q0, rst0 (wh F), 1, [], _, _, none, none, rfl, rfl, ⟨e6, h6, pq, pr, D6, fun k hk => absurd hk (by simp), fun k hk => absurd hk (by simp), (by rw [hL0]; exact Nat.zero_add _), S6, g6⟩⟩ (fun m σ H' hP => ?_)
    clear e6 h6 D6 S6 g6 S4 ht4 pq pr
    obtain ⟨lf', rs', l, r', n, ks, ad, ll, o6, o7, rfl, rfl, I⟩ := hP
    refine ⟨_, rfl, lf', _, rfl, .inl (SqL.of I.el), _, _, rfl, rfl, _, rfl, ?_⟩
    rw [List.length_map]
    have l7 : l.length ≤ 7 := Nat.le_trans I.pl.len lw
    have r7 : r'.length ≤ 7 := Nat.le_trans I.pr.len lw
    have sl : 1000 ≤ sizeLine := by decide
    have kl : ks.length ≤ L0 := by
      have := xs1_len fun k hk => (I.kr k hk).1
      have := I.sum
      omega
    have L7 : L0 ≤ 7 := by
      have := congrArg List.length eq0
      rw [ml_len] at this
      have := List.length_pos_iff.mpr nr0
      omega
    by_cases c : 1 < l.length
    · rw [decide_eq_true (show (1 : Int) < (l.length : Int) by omega)]
      obtain ⟨⟨q1, eq1, nq1⟩, q2, eq2, nq2⟩ := shr_quot I.pl.lead I.pr.lead
      have b0 := shr_lead I.pl.lead I.pr.lead
      have nB : shr l r' ≠ [] := fun z => b0 (by rw [z]; rfl)
      obtain ⟨p1, pB⟩ := I.pl.two eq1 nq1 nB
      obtain ⟨p2, _⟩ := I.pr.two eq2 nq2 nB
      have m1 := congrArg List.length eq1
      have m2 := congrArg List.length eq2
      rw [ml_len] at m1 m2
      have lq1 := List.length_pos_iff.mpr nq1
      have lq2 := List.length_pos_iff.mpr nq2
      have lB := List.length_pos_iff.mpr nB
      refine iteT (WhileD.turnM ⟨_, rfl, _, rfl, lf', rs', l, r', r'.length, rfl, I.el, I.er, by omega, by omega, ok.sh l7 r7 (ok.pt I.pl) (ok.pt I.pr), I.tg, fun pb H7 s7 g7 e7 => ?_⟩)
      have e7' : H7 pb = some (ls (shr l r')) := e7
      refine ⟨_, rfl, _, rfl, lf', pb, q1, shr l r', rfl, (by rw [eq1]; exact s7.lst I.tg I.el), e7', nq1, b0, by omega, by omega, (ok.pt p1).mono (by decide), (ok.pt pB).mono (by decide), fun pp H8 s8 e8 => ?_⟩
      have s78 : Sts Ps H' H8 := s7.trans (Sts.of s8)
      have g8 := g7.same s8
      have S8 := I.st.trans s78
      have D8 := dkr_sts I.dk s78 I.tg
      have eB := s8 _ _ e7'
      have eR := s78.lst I.tg I.er
      refine ⟨_, rfl, pp, _, rfl, .inl (SqL.of e8), _, _, rfl, rfl, _, rfl, ?_⟩
      rw [List.length_map]
      apply meet0 fun H' => ∃ ks' ad' ll', DkR H' d ks' ad' ll' ∧ (∀ k ∈ ks', k < n + 1) ∧ (∀ k ∈ ks', 2 ≤ (ll' k).length ∧ bt 110 (ll' k)) ∧ xs1 ks' ll' = xs1 ks ll + (q1.length - 1) ∧ Sts Ps H H' ∧ Tg Ps H' ∧ H' pb = some (ls (shr l r')) ∧ H' rs' = some (ls r')
      · intro k
        by_cases c1 : 1 < q1.length
        · rw [decide_eq_true (show (1 : Int) < (q1.length : Int) by omega)]
          refine iteT ⟨_, rfl, pp, q1, rfl, e8, by omega, divOk_9 ((ok.pt p1).mono (by decide)), g8, fun pn H9 s9 g9 e9 => ?_⟩
          have D9 := dkr_sts D8 s9 g8
          obtain ⟨ks', H10, dp, eH, D10, mm, sm1⟩ := D9.put (k := n) (l := primE q1) e9 (by omega)
          have nn : n ∉ ks := fun z => by have := I.kn n z; omega
          rw [if_neg nn, primE_len] at sm1
          refine ⟨_, rfl, _, rfl, d, H10, rfl, dp, k H10 ⟨ks', _, _, D10, fun j hj => ?_, fun j hj => ?_, by omega, ?_, ?_, ?_, ?_⟩⟩
          · rcases (mm j).mp hj with z | z
            · have := I.kn j z
              omega
            · omega
          · by_cases e : j = n
            · rw [e, upf_same, primE_len]
              exact ⟨c1, (ok.pt p1).prim⟩
            · rw [upf_ne e]
              exact I.kr j (((mm j).mp hj).resolve_right e)
          · rw [eH]
            exact sts_upd (S8.trans s9) nd
          · rw [eH]
            exact tg_upd g9 D9.at_ fun _ z => nomatch z
          · have := s9.lst g8 eB
            rw [eH, upd_ne fun z => by rw [z, D9.at_] at this; cases this]
            exact this
          · have := s9.lst g8 eR
            rw [eH, upd_ne fun z => by rw [z, D9.at_] at this; cases this]
            exact this
        · rw [decide_eq_false (show ¬ (1 : Int) < (q1.length : Int) by omega)]
          exact iteF (k H8 ⟨ks, ad, ll, D8, fun j hj => by have := I.kn j hj; omega, I.kr, by omega, S8, g8, eB, eR⟩)
      rintro H9 ⟨ks', ad', ll', D9, kn', kr', sm', S9, g9, eB9, eR9⟩
      refine ⟨_, rfl, _, rfl, _, rfl, rs', pb, q2, shr l r', rfl, (by rw [eq2]; exact eR9), eB9, nq2, b0, by omega, by omega, (ok.pt p2).mono (by decide), (ok.pt pB).mono (by decide), fun pr H10 s10 e10 => ⟨_, rfl, _, _, rfl, rfl, _, _, _, rfl, ?_⟩⟩
      exact ⟨_, (by show (shr l r').length + q2.length < l.length + r'.length; omega), pb, pr, shr l r', q2, n + 1, ks', ad', ll', _, _, rfl, rfl, ⟨s10 _ _ eB9, e10, pB, p2, dkr_sts D9 (Sts.of s10) g9, kn', kr', by have := I.sum; omega, S9.trans (Sts.of s10), g9.same s10⟩⟩
    · rw [decide_eq_false (show ¬ (1 : Int) < (l.length : Int) by omega)]
      have sum1 : xs1 ks ll = L0 := by have := I.sum; omega
      refine iteF ⟨_, rfl, t, F, rfl, .inl (I.st.tup g0 ht), by omega, fun H7 s7 => ⟨_, rfl, _, _, rfl, rfl, _, rfl, ?_⟩⟩
      have D7 := dkr_sts I.dk (Sts.of s7) I.tg
      have S7 := I.st.trans (Sts.of s7)
      have g7 := I.tg.same s7
      apply meet0 fun H' => ∃ ks' ad' ll', DkR H' d ks' ad' ll' ∧ (∀ k ∈ ks', 2 ≤ (ll' k).length ∧ bt 110 (ll' k)) ∧ xs1 ks' ll' = pdeg F ∧ Sts Ps H H' ∧ Tg Ps H'
      · intro k
        by_cases c1 : 0 < ah F
        · rw [if_pos c1] at pd
          rw [decide_eq_true (show (0 : Int) < (ah F : Int) by omega)]
          refine iteT ⟨_, rfl, d, rfl, .inl ⟨_, .inl D7.at_⟩, _, rfl, sz1, fun p1 n1 => gen_upd H7 p1 (ls [1]) n1 fun H8 s8 e8 => ?_⟩
          have D8 := dkr_sts D7 (Sts.of s8) g7
          refine ⟨_, D8.get (ah F), ?_⟩
          obtain ⟨y, x, ey, hy, by_, lx, ex⟩ : ∃ y x, (if (ah F : Int) ∈ ks then some (V.ref (ad (ah F))) else none).getD (.ref p1) = .ref y ∧ H8 y = some (ls x) ∧ bt 110 x ∧ 1 ≤ x.length ∧ x.length - 1 = if (ah F : Int) ∈ ks then (ll (ah F)).length - 1 else 0 := by
            by_cases m : (ah F : Int) ∈ ks
            · rw [if_pos m, if_pos m]
              obtain ⟨k1, k2⟩ := I.kr _ m
              exact ⟨_, _, rfl, D8.row _ m, k2, by omega, rfl⟩
            · rw [if_neg m, if_neg m]
              refine ⟨p1, [1], rfl, e8, fun k => ?_, Nat.le_refl 1, rfl⟩
              cases k with
              | zero => show (1 : Int).natAbs < 2 ^ 110; decide
              | succ k => show (0 : Int).natAbs < 2 ^ 110; decide
          rw [ey]
          have lx8 : x.length ≤ 9 := by
            have : (if (ah F : Int) ∈ ks then (ll (ah F)).length - 1 else 0) ≤ xs1 ks ll := by
              split
              · next m => exact xs1_mem m
              · exact Nat.zero_le _
            omega
          refine ⟨y, _, rfl, .inr (SqL.of hy), ?_⟩
          dsimp only [tNil]
          rw [List.append_nil]
          refine ⟨?_, fun A nA => gen_upd H8 A (ls (0 :: x)) nA fun H9 s9 e9 => ?_⟩
          · rw [List.length_cons, List.length_map]
            omega
          have D9 := dkr_sts D8 (Sts.of s9) (g7.same s8)
          have g9 := (g7.same s8).same s9
          obtain ⟨ks', H10, dp, eH, D10, mm, sm1⟩ := D9.put (k := (ah F : Int)) (l := 0 :: x) e9 (by omega)
          rw [List.length_cons] at sm1
          refine ⟨_, rfl, _, rfl, d, H10, rfl, dp, k H10 ⟨ks', _, _, D10, fun j hj => ?_, by omega, ?_, ?_⟩⟩
          · by_cases e : j = (ah F : Int)
            · rw [e, upf_same, List.length_cons]
              exact ⟨by omega, bt_cons0 by_⟩
            · rw [upf_ne e]
              exact I.kr j (((mm j).mp hj).resolve_right e)
          · rw [eH]
            exact sts_upd (S7.trans ((Sts.of s8).trans (Sts.of s9))) nd
          · rw [eH]
            exact tg_upd g9 D9.at_ fun _ z => nomatch z
        · rw [if_neg c1] at pd
          rw [decide_eq_false (show ¬ (0 : Int) < (ah F : Int) by omega)]
          exact iteF (k H7 ⟨ks, ad, ll, D7, I.kr, by omega, S7, g7⟩)
      rintro H8 ⟨ks', ad', ll', D8, kr8, sm8, S8, g8⟩
      have k8 := xs1_len fun k hk => (kr8 k hk).1
      have p8 : pdeg F ≤ 8 := by
        rw [← pd]
        split <;> omega
      refine ⟨_, rfl, d, _, ks', rfl, .inl D8.at_, (by unfold kvf; rw [List.map_map]; rfl), by omega, fun ys p perm srt np => gen_upd H8 p _ np fun H9 s9 e9 => ⟨p, rfl, ⟨_, SqL.of e9⟩, fun D hD => ?_⟩⟩
      have D9 := dkr_sts D8 (Sts.of s9) g8
      have ly := perm.length_eq
      refine dc_list (xs := ys.map V.int) (fun i H' => Same H9 H' ∧ H' D = some (.dK (kvf (ys.take i) ad'))) ⟨same_upd0 hD, by rw [upd_same]; rfl⟩ (fun i H' _ hP => SqL.of (hP.1 _ _ e9)) (fun i x H' hx hP => ?_) (fun H10 hP => ?_)
      · obtain ⟨sH, hD'⟩ := hP
        obtain ⟨hi, rfl⟩ := int_get hx
        have mi : co ys i ∈ ks' := perm.mem_iff.mp (co_memE hi)
        have get := (dkr_sts D9 (Sts.of sH) (g8.same s9)).get (co ys i)
        rw [if_pos mi] at get
        refine ⟨rfl, _, rfl, _, rfl, _, rfl, d, _, rfl, get, _, .inl (co ys i), rfl, hD', ?_, fun b o e => ?_, ?_⟩
        · unfold kvf
          rw [List.length_map, List.length_take]
          omega
        · rw [upd_ne (ne_of_none e hD)]
          exact sH _ _ e
        · have ni : co ys i ∉ ys.take i := fun z => by
            have nd' := perm.nodup_iff.mpr D8.nd
            have nd2 : (ys.take i ++ ys.drop i).Nodup := by rw [List.take_append_drop]; exact nd'
            refine (List.nodup_append.mp nd2).2.2 _ z _ ?_ rfl
            rw [co_get hi, List.drop_eq_getElem_cons hi]
            exact .head _
          rw [upd_same, put_new ni, List.take_add_one, List.getElem?_eq_getElem hi, ← co_get hi, Option.toList_some]
          congr 3
          funext j
          unfold upf
          split
          · next e => rw [e]
          · rfl
      · obtain ⟨s10, e10⟩ := hP
        rw [List.length_map, List.take_length] at e10
        have S10 := S8.trans ((Sts.of s9).trans (Sts.of s10))
        have g9 := g8.same s9
        refine fin D ys ad' ll' H10 S10 (g9.same s10) (none_of (S8.trans (Sts.of s9)) g9 hD) ⟨e10, perm.nodup_iff.mpr D8.nd, fun k hk => ?_⟩ ((xs1_perm perm ll').trans sm8) fun k hk => kr8 k (perm.mem_iff.mp hk)
        exact (s9.trans s10) _ _ (D8.row k (perm.mem_iff.mp hk))
end
end K77

set_option Elab.async false
set_option linter.all false
set_option maxRecDepth 100000
set_option maxHeartbeats 4000000
set_option exponentiation.threshold 10000
/-! the plain part -/
namespace K77
open PySem PySem.Spec PyProof.Rows L2 StX RZ MyR SlX OwnR OwnF EnumT SeqE GxR GenNx FDivQ LA DkI
theorem FrOk.pd {F : List Int} (h : FrOk F) : pdeg F ≤ 8 := by
  have := h.wl
  show (if 0 < ah F then 1 else 0) + ((wh F).length - (rst0 (wh F)).length) ≤ 8
  split <;> omega
theorem pr_le : ∀ i, i ≤ 8 → ((2 : Nat) ^ 114) ^ i < 2 ^ 4000 := by decide +kernel
theorem xs1_take {ks : List Int} {ll : Int → List Int} {i : Nat} (h : i < ks.length) : xs1 (ks.take (i + 1)) ll = xs1 (ks.take i) ll + ((ll (co ks i)).length - 1) := by
  unfold xs1
  rw [List.take_add_one, List.getElem?_eq_getElem h, ← co_get h, List.map_append, List.sum_append]
  rfl
section
variable {P : Program} {w : World} {K : PySem.W.Frag} {mg : Str → Option Value} {base : Heap} {Ps : List Addr}
def spPlainE (Ps : List Addr) : Sp := fun vs H Q _ => ∃ (t : Addr) (F : List Int), vs = [.ref t] ∧ H t = some (tp F) ∧ FrOk F ∧ Tg Ps H ∧ ∀ p X H', Sts Ps H H' → Tg Ps H' → H' p = some (tp X) → X.length = pdeg F + 1 → Q (.ref p) H'
theorem ok_plain_entries (T : Facts K mg) (TB_first_of : TabB base mg T.c_first_of T.P_first_of) (hP : T.P_first_of ∈ Ps) : FnOk P w K mg base CX0 6 T.f_plain_entries T.fd_plain_entries ["entries"] (spPlainE Ps) := by
  have G_parts_in := ok_parts_in (P := P) (w := w) (base := base) T TB_first_of hP
  have G_product_in := ok_product_in (P := P) (w := w) (base := base) T
  refine T.F_plain_entries.ok sc_plain_entries (fun vs H Q E h => ?_) (fun cdv A outer s H vs Q E hr h => ?_)
  · obtain ⟨t, F, rfl, _⟩ := h
    rfl
  · obtain ⟨t, F, rfl, ht, ok, g0, fin⟩ := h
    refine ⟨_, (PSs.nox (pss_cons (ps_set (i := 1) sc_plain_entries.nd rfl (.inl rfl) (pe_tup (pa_cons pe_int pa_nil)))
    (pss_cons (ps_for PassesOwn.never (by rfl) (pi_values (DkL.pe_lockV (pe_call G_parts_in hr (by rfl) T.g_parts_in T.F_parts_in.kp T.b_parts_in .nil pass0 (pa_cons (pv 0) pa_nil)))) (pg_name (i := 2) sc_plain_entries.nd rfl (.inl rfl))
      (pss_one (ps_set (i := 1) sc_plain_entries.nd rfl (.inl rfl) (pe_call G_product_in (hr.mono (by decide)) (by rfl) T.g_product_in T.F_product_in.kp T.b_product_in .nil pass0 (pa_cons (pv 1) (pa_cons (pe_tupleOf (by rfl) T.z_tuple (pv 2)) pa_nil))))))
    (pss_one (ps_ret (pv 1)))))), ?_⟩
    refine ⟨sz1, fun p0 n0 => gen_upd H p0 (tp [1]) n0 fun H1 s1 e1 => ?_⟩
    refine ⟨_, rfl, t, F, rfl, s1 _ _ ht, ok, g0.same s1, fun d ks ad ll H2 s2 g2 nd D2 sm kr => ⟨d, _, rfl, D2.at_, True.intro, fun od => ⟨d, od, _, rfl, upd_same, ?_⟩⟩⟩
    have S2 : Sts Ps H H2 := (Sts.of s1).trans s2
    have nd0 : H d = none := by
      cases e : H d with
      | none => rfl
      | some o => rw [s1 d o e] at nd; cases nd
    have S3 : Sts Ps H (upd H2 d (.frz od (.dK (kvf ks ad)))) := sts_upd S2 nd0
    have g3 : Tg Ps (upd H2 d (.frz od (.dK (kvf ks ad)))) := tg_upd g2 D2.at_ fun _ z => nomatch z
    have d3 : upd H2 d (.frz od (.dK (kvf ks ad))) d = some (.frz od (.dK (kvf ks ad))) := upd_same
    have r3 : ∀ k ∈ ks, upd H2 d (.frz od (.dK (kvf ks ad))) (ad k) = some (ls (ll k)) := fun k hk => by
      have := D2.row k hk
      rw [upd_ne fun z => by rw [z, D2.at_] at this; cases this]
      exact this
    have e3 : upd H2 d (.frz od (.dK (kvf ks ad))) p0 = some (tp [1]) := by
      rw [upd_ne fun z => by rw [← z, e1] at nd; cases nd]
      exact s2.tup (g0.same s1) e1
    generalize upd H2 d (.frz od (.dK (kvf ks ad))) = H3 at *
    have k8 : ks.length ≤ 8 := by
      have := xs1_len fun k hk => (kr k hk).1
      have := ok.pd
      omega
    refine for_vals (fun i σ H' => ∃ pf X y2, σ = [some (.ref t), some (.ref pf), y2] ∧ Same H3 H' ∧ H' pf = some (tp X) ∧ i ≤ ks.length ∧ Bd X (xs1 (ks.take i) ll) ((2 ^ 114) ^ i)) ⟨p0, [1], none, rfl, Same.rf H3, e3, Nat.zero_le _, (show Bd [1] 0 ((2 ^ 114) ^ 0) by rw [Nat.pow_zero]; exact bd_one)⟩ (fun i σ H' hP => ?_) (fun i kk x σ H' hx hP => ?_) (fun σ H' hP => ?_)
    · obtain ⟨pf, X, y2, rfl, sH, hX, hi, bX⟩ := hP
      exact sH _ _ d3
    · obtain ⟨pf, X, y2, rfl, sH, hX, hi, bX⟩ := hP
      have hi : i < ks.length := by
        have := (List.getElem?_eq_some_iff.mp hx).1
        unfold kvf at this
        rwa [List.length_map] at this
      have ex : x = .ref (ad (co ks i)) := by
        unfold kvf at hx
        rw [List.getElem?_map, List.getElem?_eq_getElem hi, ← co_get hi] at hx
        cases hx
        rfl
      subst ex
      have mk : co ks i ∈ ks := co_memE hi
      obtain ⟨l2, bl⟩ := kr _ mk
      have hrow := sH _ _ (r3 _ mk)
      have lrow : (ll (co ks i)).length ≤ 9 := by
        have := xs1_mem (ll := ll) mk
        have := ok.pd
        omega
      have bR : Bd (ll (co ks i)) ((ll (co ks i)).length - 1) (2 ^ 114) := ⟨by omega, Nat.le_trans (bt_nm bl) (Nat.le_trans (Nat.mul_le_mul_right _ lrow) (by decide))⟩
      have bN := bd_ml bX bR
      rw [← xs1_take hi, ← Nat.pow_succ] at bN
      have xl := bX.len
      have xp : xs1 (ks.take i) ll ≤ 40 := by
        have h1 : ∀ j, j ≤ ks.length → xs1 (ks.take j) ll ≤ xs1 (ks.take ks.length) ll := fun j hj => by
          have : ∀ m, j + m ≤ ks.length → xs1 (ks.take j) ll ≤ xs1 (ks.take (j + m)) ll := fun m => by
            induction m with
            | zero => exact fun _ => Nat.le_refl _
            | succ m ih =>
              intro hm
              have := ih (by omega)
              have e := xs1_take (ll := ll) (i := j + m) (show j + m < ks.length by omega)
              rw [show j + (m + 1) = j + m + 1 by omega]
              omega
          have := this (ks.length - j) (by omega)
          rwa [show j + (ks.length - j) = ks.length by omega] at this
        have := h1 i (by omega)
        rw [List.take_length] at this
        have := ok.pd
        omega
      have sX := (bX.rw (by omega) (pr_le i (by omega))).sm
      refine ⟨_, rfl, _, rfl, .inl ⟨_, _, rfl, SqL.of hrow, fun z nz => gen_upd H' z (tp (ll (co ks i))) nz fun H4 s4 e4 => ?_⟩⟩
      exact ⟨pf, z, X, ll (co ks i), rfl, s4 _ _ hX, e4, bX.ne, bR.ne, by omega, by omega, sX, bt_sm bl, fun pn H5 s5 _ e5 => ⟨pn, _, _, rfl, sH.trans (s4.trans s5), e5, hi, bN⟩⟩
    · obtain ⟨pf, X, y2, rfl, sH, hX, hi, bX⟩ := hP
      have el : (kvf ks ad).length = ks.length := by unfold kvf; rw [List.length_map]
      rw [el, List.take_length, sm] at bX
      exact ⟨_, rfl, fin pf X H' (S3.trans (Sts.of sH)) (g3.same sH) hX bX.len⟩
def spPlainP (C : Addr) (Ps : List Addr) : Sp := fun vs H Q _ => ∃ (a : Addr) (F : List Int), vs = [.ref a] ∧ Fo C H a F ∧ lv F ∧ FrOk F ∧ Tg Ps H ∧ ∀ p X H', Sts Ps H H' → Tg Ps H' → Fo C H' p X → X.length = pdeg F + 1 → Q (.ref p) H'
theorem ok_plain_part (T : Facts K mg) (TB_first_of : TabB base mg T.c_first_of T.P_first_of) (hP : T.P_first_of ∈ Ps) : FnOk P w K mg base CX0 8 T.f_plain_part T.fd_plain_part ["form"] (spPlainP T.C_Form Ps) := by
  have G_require_live := ok_require_live (P := P) (w := w) (base := base) T
  have G_plain_entries := ok_plain_entries (P := P) (w := w) (base := base) T TB_first_of hP
  have G_form_of : FnOk P w K mg base CX0 7 T.f_form_of T.fd_form_of ["entries"] (spMake T.C_Form) := ok_form_of T
  have G_Form_entries : FnOk P w K mg base CX0 1 T.f_Form_entries T.fd_Form_entries ["self"] (spEnt T.C_Form) := ok_Form_entries T
  refine T.F_plain_part.ok sc_plain_part (fun vs H Q E h => ?_) (fun cdv A outer s H vs Q E hr h => ?_)
  · obtain ⟨a, F, rfl, _⟩ := h
    rfl
  · obtain ⟨a, F, rfl, fa, hl, ok, g0, fin⟩ := h
    refine ⟨_, (PSs.nox (pss_cons (ps_expr (pe_call G_require_live (hr.mono (by decide)) (by rfl) T.g_require_live T.F_require_live.kp T.b_require_live .nil pass0 (pa_cons (pv 0) pa_nil)))
    (pss_one (ps_ret (pe_call G_form_of hr (by rfl) T.g_form_of T.F_form_of.kp T.b_form_of .nil pass0 (pa_cons (pe_tupleOf (by rfl) T.z_tuple (pe_call G_plain_entries (hr.mono (by decide)) (by rfl) T.g_plain_entries T.F_plain_entries.kp T.b_plain_entries .nil pass0 (pa_cons (pe_prp (pv 0) T.oc_Form T.pr_Form_entries G_Form_entries T.b_Form_entries (hr.mono (by decide))) pa_nil))) pa_nil)))))), ?_⟩
    refine ⟨_, rfl, a, F, rfl, fa, hl, _, rfl, prop_ent fa fun u hu => ⟨u, F, rfl, hu, ok, g0, fun p X H1 s1 g1 e1 lX => ?_⟩⟩
    exact .inr ⟨_, _, rfl, SqT.of e1, p, X, rfl, e1, fun pn H2 s2 _ f2 => fin pn X H2 (s1.trans (Sts.of s2)) (g1.same s2) f2 lX⟩
end
end K77

set_option Elab.async false
set_option linter.all false
set_option maxRecDepth 100000
set_option maxHeartbeats 4000000
set_option exponentiation.threshold 10000
/-! the law's own discriminants -/
namespace K77
open PySem PySem.Spec PyProof.Rows L2 StX RZ MyR SlX OwnR OwnF EnumT SeqE GxR GenNx FDivQ LA
theorem sgt_L : ∀ n : Nat, n < 10 → (1 : Int) - 2 * (((n : Int) * ((n : Int) - 1)).fdiv 2 % 2) = sgt n := by decide
theorem dsc_small {F : List Int} (f3 : 3 ≤ F.length) (f10 : F.length ≤ 10) (b : bt 96 F) : (dsc F).natAbs < 2 ^ 3990 := by
  obtain ⟨n, hn⟩ : ∃ n, F.length = n + 1 := ⟨F.length - 1, by omega⟩
  have lX : (dX F).length = n := by rw [dX_len]; omega
  have lY : (dY F).length = n := by rw [dY_len]; omega
  have h := res_small2 (F := dX F) (G := dY F) (by omega) (by omega) (by omega) (dX_bt f10 b) (dY_bt f10 b)
  rw [dsc_res hn (by omega), Int.natAbs_mul] at h
  refine Nat.lt_of_le_of_lt (Nat.le_mul_of_pos_left _ ?_) h
  refine Int.natAbs_pos.mpr (Int.mul_ne_zero (fun z => ?_) (pow_nz (by omega) _))
  have := sgt_abs n
  rw [z] at this
  cases this
section
variable {P : Program} {w : World} {K : PySem.W.Frag} {mg : Str → Option Value} {base : Heap} {Ps : List Addr}
def spDue : Sp := fun vs H Q _ => ∃ (t : Addr) (F : List Int), vs = [.ref t, .int (dsc F)] ∧ H t = some (tp F) ∧ 3 ≤ F.length ∧ F.length ≤ 10 ∧ bt 96 F ∧ ∀ H', Same H H' → Q (.bl true) H'
theorem ok_law_is_due (T : Facts K mg) : FnOk P w K mg base CX0 2 T.f_law_is_due T.fd_law_is_due ["_law_form_here", "_law_told"] spDue := by
  have G_law_by_x := ok_law_by_x (P := P) (w := w) (base := base) T
  have G_law_by_y := ok_law_by_y (P := P) (w := w) (base := base) T
  have G_law_two_rows := ok_law_two_rows (P := P) (w := w) (base := base) T
  have G_law_det_of := ok_law_det_of (P := P) (w := w) (base := base) T
  have G_law_raised := ok_law_raised (P := P) (w := w) (base := base) T
  refine T.F_law_is_due.ok sc_law_is_due (fun vs H Q E h => ?_) (fun cdv A outer s H vs Q E hr h => ?_)
  · obtain ⟨t, F, rfl, _⟩ := h
    rfl
  · obtain ⟨t, F, rfl, ht, f3, f10, bF, fin⟩ := h
    refine ⟨_, (PSs.nox (pss_cons (ps_set (i := 2) sc_law_is_due.nd rfl (.inl rfl) (pe_op op_sub (pe_callB call_len_seq (by rfl) T.z_len (by decide +kernel) (pa_cons (pv 0) pa_nil)) pe_int))
    (pss_cons (ps_set (i := 3) sc_law_is_due.nd rfl (.inl rfl) (pe_op op_sub pe_int (pe_op op_mulW pe_int (pe_callTy call_int1 (by rfl) T.z_int (by decide +kernel) (pa_cons (pe_op op_mod (pe_op op_fdivZ (pe_op op_mulW (pv 2) (pe_op op_sub (pv 2) pe_int)) pe_int) pe_int) pa_nil)))))
    (pss_one (ps_ret (pe_cmpR op_eq (pe_call G_law_det_of hr (by rfl) T.g_law_det_of T.F_law_det_of.kp T.b_law_det_of .nil pass0 (pa_cons (pe_call G_law_two_rows hr (by rfl) T.g_law_two_rows T.F_law_two_rows.kp T.b_law_two_rows .nil pass0 (pa_cons (pe_call G_law_by_x hr (by rfl) T.g_law_by_x T.F_law_by_x.kp T.b_law_by_x .nil pass0 (pa_cons (pv 0) pa_nil)) (pa_cons (pe_call G_law_by_y hr (by rfl) T.g_law_by_y T.F_law_by_y.kp T.b_law_by_y .nil pass0 (pa_cons (pv 0) pa_nil)) pa_nil))) pa_nil)) (pe_op op_mulW (pe_op op_mulW (pv 3) (pe_call G_law_raised hr (by rfl) T.g_law_raised T.F_law_raised.kp T.b_law_raised .nil pass0 (pa_cons (pv 2) (pa_cons (pe_op op_sub (pv 2) pe_int) pa_nil)))) (pv 1)) (nomark _))))))), ?_⟩
    obtain ⟨n, hn⟩ : ∃ n, F.length = n + 1 := ⟨F.length - 1, by omega⟩
    refine ⟨_, rfl, t, _, rfl, .inr (SqT.of ht), _, _, rfl, rfl, ?_⟩
    rw [List.length_map, hn, show (fun i j => V.int (i - j)) ((n + 1 : Nat) : Int) 1 = V.int (n : Int) from by show V.int _ = V.int _; congr 1; omega]
    have n100 : ((n : Int)).natAbs ≤ 2 ^ 40 := by omega
    refine ⟨_, rfl, _, rfl, _, _, rfl, rfl, _, _, rfl, rfl, sm_mul (sm_small n100) (sm_small (show ((n : Int) - 1).natAbs ≤ 2 ^ 40 by omega)), _, _, rfl, rfl, (show (2 : Int) ≠ 0 ∧ (2 : Int).natAbs.log2 < 9000 from ⟨by decide, by decide⟩), _, _, rfl, rfl, (by show (0 : Int) < 2; decide), .inl ⟨_, rfl, _, _, rfl, rfl, sm_mul (sm_small (by decide)) (sm_small (show (((n : Int) * ((n : Int) - 1)).fdiv 2 % 2).natAbs ≤ 2 ^ 40 by omega)), _, _, rfl, rfl, ?_⟩⟩
    dsimp only []
    rw [sgt_L n (by omega)]
    have lX : (dX F).length = n := by rw [dX_len]; omega
    have lY : (dY F).length = n := by rw [dY_len]; omega
    have bX := dX_bt f10 bF
    have bY := dY_bt f10 bF
    have sF : ∀ z ∈ F, sm z := fun z hz => by
      obtain ⟨k, _, ek⟩ := mem_co hz
      rw [← ek]
      exact Nat.lt_of_lt_of_le (bF k) (Nat.pow_le_pow_right (by decide) (by decide))
    have e2 : [V.int (n : Int), V.int ((n : Int) - 2)] = [V.int (n : Int), V.int ((n - 2 : Nat) : Int)] := by
      rw [show ((n - 2 : Nat) : Int) = (n : Int) - 2 by omega]
    have m1 : CMulW (sgt n) ((n : Int) ^ (n - 2)) := wide_mul (a := 1) (b := 41) (by rw [sgt_abs]; decide) (Nat.lt_of_le_of_lt (pw_le (by omega) (by omega)) (by decide)) (by decide) (by decide) (by decide)
    have m2 : CMulW (sgt n * (n : Int) ^ (n - 2)) (dsc F) := wide_mul (a := 41) (b := 3990) (by rw [Int.natAbs_mul, sgt_abs, Nat.one_mul]; exact Nat.lt_of_le_of_lt (pw_le (by omega) (by omega)) (by decide)) (dsc_small f3 f10 bF) (by decide) (by decide) (by decide)
    refine ⟨_, rfl, t, F, rfl, ht, by omega, by omega, sF, fun a1 H1 s1 e1 => ⟨_, rfl, t, F, rfl, s1 _ _ ht, by omega, by omega, sF, fun a2 H2 s2 e2' => ⟨a1, a2, dX F, dY F, rfl, s2 _ _ e1, e2', by omega, by omega, by omega, by omega, fun R bs H3 s3 eR rR => ⟨R, bs, _, _, 2 ^ 100, rfl, eR, rR, detOk2 (by omega) (by omega) (by omega) bX bY, fun H4 s4 => ?_⟩⟩⟩⟩
    rw [res_bdet (by omega) (by omega)]
    refine ⟨_, rfl, _, rfl, _, rfl, _, _, rfl, rfl, n, n - 2, e2, fun i hi => sm_pw (by omega) (by omega), sm_small n100, by omega, _, _, rfl, rfl, m1, _, rfl, _, _, rfl, rfl, m2, rfl, ?_⟩
    rw [decide_eq_true (show V.int (Res (dX F) (dY F)) = V.int (sgt n * (n : Int) ^ (n - 2) * dsc F) by rw [dsc_res hn (by omega)])]
    exact fin H4 (s1.trans (s2.trans (s3.trans s4)))
theorem ok_law_form_right (T : Facts K mg) (TB_first_of : TabB base mg T.c_first_of T.P_first_of) (hP : T.P_first_of ∈ Ps) : FnOk P w K mg base CX0 9 T.f_law_form_right T.fd_law_form_right ["_law_dice_here"] (spLR Ps) := by
  have G_law_roll : FnOk P w K mg base CX0 1 T.f_law_roll T.fd_law_roll ["_law_dice_here", "_law_total"] spRoll2 := (ok_law_roll T).imp roll2
  have G_law_form := ok_law_form (P := P) (w := w) (base := base) T
  have G_law_product : FnOk P w K mg base CX0 1 T.f_law_product T.fd_law_product ["_law_one", "_law_other"] spProd := ok_law_product T
  have G_law_is_due := ok_law_is_due (P := P) (w := w) (base := base) T
  have G_law_table := ok_law_table (P := P) (w := w) (base := base) T
  have G_law_changed := ok_law_changed (P := P) (w := w) (base := base) T
  have G_law_raised := ok_law_raised (P := P) (w := w) (base := base) T
  have G_law_det := ok_law_det (P := P) (w := w) (base := base) T
  have G_law_shared := ok_law_shared (P := P) (w := w) (base := base) T
  have G_resultant := ok_resultant (P := P) (w := w) (base := base) T
  have G_discriminant := ok_discriminant (P := P) (w := w) (base := base) T
  have G_plain_part := ok_plain_part (P := P) (w := w) (base := base) T TB_first_of hP
  have G_Form_init : FnOk P w K mg base CX0 5 T.f_Form_init T.fd_Form_init ["self", "entries"] (spForm T.C_Told T.C_Form) := ok_Form_init T
  have G_Form_degree := ok_Form_degree (P := P) (w := w) (base := base) T
  refine T.F_law_form_right.ok sc_law_form_right (fun vs H Q E h => ?_) (fun cdv A outer s H vs Q E hr h => ?_)
  · obtain ⟨d, rfl, _⟩ := h
    rfl
  · obtain ⟨d, rfl, D0, fin⟩ := h
    refine ⟨_, (PSs.nox (pss_cons (ps_set (i := 1) sc_law_form_right.nd rfl (.inl rfl) (pe_call G_law_form (hr.mono (by decide)) (by rfl) T.g_law_form T.F_law_form.kp T.b_law_form .nil pass0 (pa_cons (pv 0) (pa_cons (pe_op op_add pe_int (pe_call G_law_roll (hr.mono (by decide)) (by rfl) T.g_law_roll T.F_law_roll.kp T.b_law_roll .nil pass0 (pa_cons (pv 0) (pa_cons pe_int pa_nil)))) pa_nil))))
    (pss_cons (ps_set (i := 2) sc_law_form_right.nd rfl (.inl rfl) (pe_op op_sub (pe_callB call_len_seq (by rfl) T.z_len (by decide +kernel) (pa_cons (pv 1) pa_nil)) pe_int))
    (pss_cons (ps_set (i := 3) sc_law_form_right.nd rfl (.inl rfl) (pe_call G_discriminant (hr.mono (by decide)) (by rfl) T.g_discriminant T.F_discriminant.kp T.b_discriminant .nil pass0 (pa_cons (pe_make T.mk_Form G_Form_init (hr.mono (by decide)) (by rfl) T.g_Form T.b_Form_init .nil pass0 (pa_cons (pv 1) pa_nil)) pa_nil)))
    (pss_cons (ps_if (pt_not (pt_val (pe_call G_law_is_due (hr.mono (by decide)) (by rfl) T.g_law_is_due T.F_law_is_due.kp T.b_law_is_due .nil pass0 (pa_cons (pv 1) (pa_cons (pv 3) pa_nil)))))
      (pss_one (ps_ret pe_bl))
      pss_nil)
    (pss_cons (ps_set (i := 4) sc_law_form_right.nd rfl (.inl rfl) (pe_call G_law_table (hr.mono (by decide)) (by rfl) T.g_law_table T.F_law_table.kp T.b_law_table .nil pass0 (pa_cons (pv 0) (pa_cons pe_int pa_nil))))
    (pss_cons (ps_if (pt_cmpR op_ne (pe_call G_discriminant (hr.mono (by decide)) (by rfl) T.g_discriminant T.F_discriminant.kp T.b_discriminant .nil pass0 (pa_cons (pe_make T.mk_Form G_Form_init (hr.mono (by decide)) (by rfl) T.g_Form T.b_Form_init .nil pass0 (pa_cons (pe_call G_law_changed (hr.mono (by decide)) (by rfl) T.g_law_changed T.F_law_changed.kp T.b_law_changed .nil pass0 (pa_cons (pv 1) (pa_cons (pv 4) pa_nil))) pa_nil)) pa_nil)) (pe_op op_mulW (pv 3) (pe_call G_law_raised (hr.mono (by decide)) (by rfl) T.g_law_raised T.F_law_raised.kp T.b_law_raised .nil pass0 (pa_cons (pe_call G_law_det (hr.mono (by decide)) (by rfl) T.g_law_det T.F_law_det.kp T.b_law_det .nil pass0 (pa_cons (pv 4) pa_nil)) (pa_cons (pe_op op_mulW (pv 2) (pe_op op_sub (pv 2) pe_int)) pa_nil)))) (nomark _))
      (pss_one (ps_ret pe_bl))
      pss_nil)
    (pss_cons (ps_if (pw_and (pt_cmpR op_gt (pe_call G_law_shared (hr.mono (by decide)) (by rfl) T.g_law_shared T.F_law_shared.kp T.b_law_shared .nil pass0 (pa_cons (pv 1) pa_nil)) pe_int (nomark _)) (pw_and1 (pt_cmpR op_ne (pe_cmpR op_eq (pv 3) pe_int (nomark _)) (pe_cmpR op_lt (pe_prp (pe_call G_plain_part hr (by rfl) T.g_plain_part T.F_plain_part.kp T.b_plain_part .nil pass0 (pa_cons (pe_make T.mk_Form G_Form_init (hr.mono (by decide)) (by rfl) T.g_Form T.b_Form_init .nil pass0 (pa_cons (pv 1) pa_nil)) pa_nil)) T.oc_Form T.pr_Form_degree G_Form_degree T.b_Form_degree (hr.mono (by decide))) (pv 2) (nomark _)) (nomark _)))).pt
      (pss_one (ps_ret pe_bl))
      pss_nil)
    (pss_cons (ps_set (i := 5) sc_law_form_right.nd rfl (.inl rfl) (pe_call G_law_form (hr.mono (by decide)) (by rfl) T.g_law_form T.F_law_form.kp T.b_law_form .nil pass0 (pa_cons (pv 0) (pa_cons (pe_op op_add pe_int (pe_call G_law_roll (hr.mono (by decide)) (by rfl) T.g_law_roll T.F_law_roll.kp T.b_law_roll .nil pass0 (pa_cons (pv 0) (pa_cons pe_int pa_nil)))) pa_nil))))
    (pss_cons (ps_set (i := 6) sc_law_form_right.nd rfl (.inl rfl) (pe_call G_resultant (hr.mono (by decide)) (by rfl) T.g_resultant T.F_resultant.kp T.b_resultant .nil pass0 (pa_cons (pe_make T.mk_Form G_Form_init (hr.mono (by decide)) (by rfl) T.g_Form T.b_Form_init .nil pass0 (pa_cons (pv 1) pa_nil)) (pa_cons (pe_make T.mk_Form G_Form_init (hr.mono (by decide)) (by rfl) T.g_Form T.b_Form_init .nil pass0 (pa_cons (pv 5) pa_nil)) pa_nil))))
    (pss_one (ps_ret (pe_cmpR op_eq (pe_call G_discriminant (hr.mono (by decide)) (by rfl) T.g_discriminant T.F_discriminant.kp T.b_discriminant .nil pass0 (pa_cons (pe_make T.mk_Form G_Form_init (hr.mono (by decide)) (by rfl) T.g_Form T.b_Form_init .nil pass0 (pa_cons (pe_call G_law_product (hr.mono (by decide)) (by rfl) T.g_law_product T.F_law_product.kp T.b_law_product .nil pass0 (pa_cons (pv 1) (pa_cons (pv 5) pa_nil))) pa_nil)) pa_nil)) (pe_op op_mulW (pe_op op_mulW (pe_op op_mulW (pv 3) (pe_call G_discriminant (hr.mono (by decide)) (by rfl) T.g_discriminant T.F_discriminant.kp T.b_discriminant .nil pass0 (pa_cons (pe_make T.mk_Form G_Form_init (hr.mono (by decide)) (by rfl) T.g_Form T.b_Form_init .nil pass0 (pa_cons (pv 5) pa_nil)) pa_nil))) (pv 6)) (pv 6)) (nomark _)))))))))))))), ?_⟩
    refine ⟨_, rfl, _, rfl, d, 5, rfl, D0.dd, by decide, by decide, fun r1 H1 hr1 s1 d1 => ⟨_, _, rfl, rfl, d, r1 + 2, ?_, d1, by omega, fun p H2 F s2 d2 hF bF => ?_⟩⟩
    · show [V.ref d, V.int (2 + (r1 : Int))] = _
      rw [show (2 : Int) + r1 = ((r1 + 2 : Nat) : Int) by omega]
    obtain ⟨n, hn⟩ : ∃ n, n = r1 + 2 := ⟨_, rfl⟩
    rw [← hn] at bF
    have lF := bF.len
    have n6 : n ≤ 6 := by omega
    have tF : Tr F := bF.tr (by omega) (by decide +kernel)
    have bF96 : bt 96 F := bF.bt (L := 96) (by decide +kernel)
    have D2 : Dp d Ps H2 := (D0.sx s1 d1).sx s2 d2
    have s02 := s1.trans s2
    clear s1 s2 d1
    refine ⟨_, rfl, p, _, rfl, .inr (SqT.of hF), _, _, rfl, rfl, ?_⟩
    rw [List.length_map, lF, show (fun i j => V.int (i - j)) ((n + 1 : Nat) : Int) 1 = V.int (n : Int) from by show V.int _ = V.int _; congr 1; omega]
    refine ⟨_, rfl, fun a1 b1 x1 x2 x3 => mkF x1 x2 x3 hF tF.pos (by omega) tF.sho fun H3 s3 f3 => ⟨a1, F, rfl, f3, by omega, by omega, bF96, fun H4 s4 => ?_⟩⟩
    have s24 := s3.trans s4
    refine ⟨_, rfl, _, rfl, p, F, rfl, s24 _ _ hF, by omega, by omega, bF96, fun H5 s5 => ⟨_, rfl, iteF ?_⟩⟩
    have D5 := D2.same (s24.trans s5)
    refine ⟨_, rfl, d, 3, rfl, D5.dd, by decide, by decide, fun t H6 a b u v s6 d6 tb ba bb bu bv nd => ?_⟩
    have D6 := D5.sx s6 d6
    have hF6 := D5.tup (Sy.ofD s6) ((s24.trans s5) _ _ hF)
    have s06 := s02.trans ((Sx.of (s24.trans s5)).trans s6)
    clear s02 s24 s3 s4 s5 s6 D2 D5 d2 f3 hF x1 x2 x3
    have bX : Bd [a, b] 1 6 := ⟨rfl, by show a.natAbs + (b.natAbs + 0) ≤ 6; omega⟩
    have bY : Bd [u, v] 1 6 := ⟨rfl, by show u.natAbs + (v.natAbs + 0) ≤ 6; omega⟩
    have cF := changed_bd bX bY bF
    have cF' := cF.mono (show _ ≤ 10 ^ 14 * 6 ^ 6 from Nat.mul_le_mul_left _ (Nat.pow_le_pow_right (by decide) n6))
    have lcF := cF.len
    have tcF : Tr (changed [a, b] [u, v] F) := cF'.tr (by omega) (by decide +kernel)
    have det18 : (a * v - b * u).natAbs ≤ 18 := det_le ba bb bu bv
    have n30 : n * (n - 1) ≤ 30 := Nat.mul_le_mul n6 (show n - 1 ≤ 5 by omega)
    have bd18 : ∀ i, i ≤ n * (n - 1) → ((a * v - b * u) ^ i).natAbs < 2 ^ 150 := fun i hi => by
      rw [Int.natAbs_pow]
      exact Nat.lt_of_le_of_lt (Nat.pow_le_pow_left det18 i) (Nat.lt_of_le_of_lt (Nat.pow_le_pow_right (by decide) (show i ≤ 30 by omega)) (by decide +kernel))
    have e3 : [V.int (a * v - b * u), V.int ((n : Int) * ((n : Int) - 1))] = [V.int (a * v - b * u), V.int ((n * (n - 1) : Nat) : Int)] := by
      rw [Int.natCast_mul, show ((n - 1 : Nat) : Int) = (n : Int) - 1 by omega]
    have dF := dsc_small (F := F) (by omega) (by omega) bF96
    have n100 : ((n : Int)).natAbs ≤ 2 ^ 40 := by omega
    have m1 : CMulW (dsc F) ((a * v - b * u) ^ (n * (n - 1))) := wide_mul dF (bd18 _ (Nat.le_refl _)) (by decide) (by decide) (by decide)
    refine ⟨_, rfl, _, rfl, p, t, F, [a, b], [u, v], rfl, hF6, tb, lch_ok bX bY bF (by omega) (by decide +kernel), fun c1 H7 s7 e7 => fun z1 w1 h1 h2 h3 => mkF h1 h2 h3 e7 tcF.pos (by omega) tcF.sho fun H8 s8 f8 => ⟨z1, changed [a, b] [u, v] F, rfl, f8, by omega, by omega, cF'.bt (by decide +kernel), fun H9 s9 => ?_⟩⟩
    have s69 := s7.trans (s8.trans s9)
    refine ⟨_, rfl, _, rfl, t, a, b, u, v, rfl, tb.same s69, by omega, by omega, by omega, by omega, _, rfl, _, rfl, _, _, rfl, rfl, _, _, rfl, rfl, sm_mul (sm_small n100) (sm_small (show ((n : Int) - 1).natAbs ≤ 2 ^ 40 by omega)), a * v - b * u, n * (n - 1), e3, fun i hi => Nat.lt_of_lt_of_le (bd18 i hi) (Nat.pow_le_pow_right (by decide) (by decide)), sm_small (Nat.le_trans det18 (by decide)), by omega, _, _, rfl, rfl, m1, rfl, ⟨_, rfl, ?_⟩⟩
    rw [decide_eq_true (show V.int (dsc (changed [a, b] [u, v] F)) = V.int (dsc F * (a * v - b * u) ^ (n * (n - 1))) by rw [disc_changed nd lF (by omega)])]
    refine iteF ?_
    have D9 := D6.same s69
    have s09 := s06.trans (Sx.of s69)
    have hF9 := s69 _ _ hF6
    clear s69 s7 s8 s9 s06 D6 hF6 e7 f8 h1 h2 h3 tb
    dsimp only [tNext]
    apply meet0 fun H' => Sy d Ps H H' ∧ Dp d Ps H' ∧ H' p = some (tp F)
    · intro k
      refine ⟨_, rfl, p, F, rfl, hF9, _, _, rfl, rfl, _, rfl, ?_⟩
      by_cases c : cont F = 0
      · rw [decide_eq_false (show ¬ (0 : Int) < (cont F : Int) by omega)]
        exact iteF (iteF (k H9 ⟨Sy.ofD s09, D9, hF9⟩))
      · rw [decide_eq_true (show (0 : Int) < (cont F : Int) by omega)]
        have ex : ∃ x ∈ F, x ≠ 0 := Classical.byContradiction fun q => c (by
          rw [gl_cont]
          exact gl_all0 F fun x hx => Classical.byContradiction fun z => q ⟨x, hx, z⟩)
        have nz : Nz (ev F) := Classical.byContradiction fun q => by
          obtain ⟨x, hx, nx⟩ := ex
          exact nx (ev0_all (fun a b => Classical.byContradiction fun z => q ⟨a, b, z⟩) x hx)
        have hl : lv F := by
          obtain ⟨x, hx, nx⟩ := ex
          exact List.any_eq_true.mpr ⟨x, hx, by simpa using nx⟩
        refine iteT ⟨_, rfl, rfl, _, rfl, fun a1 b1 x1 x2 x3 => mkF x1 x2 x3 hF9 tF.pos (by omega) tF.sho fun H10 s10 f10 => ⟨a1, F, rfl, f10, hl, ⟨nz, by omega, Nat.le_trans bF.nm (by decide)⟩, (D9.same s10).tt, fun pp X H11 s11 g11 fX lX => ?_⟩⟩
        refine prop_deg fX ⟨_, rfl, _, _, rfl, rfl, rfl, _, rfl, ?_⟩
        have crit := pdeg_crit lF (by omega) nz
        have eb : decide (V.int (dsc F) = V.int 0) = decide ((X.length : Int) - 1 < (n : Int)) := by
          by_cases z : dsc F = 0
          · have := crit.mp z
            rw [decide_eq_true (congrArg V.int z), decide_eq_true (by omega)]
          · have : ¬ pdeg F < n := fun q => z (crit.mpr q)
            rw [decide_eq_false fun q => z (V.int.inj q), decide_eq_false (by omega)]
        rw [eb, decide_eq_true (rfl : V.bl (decide ((X.length : Int) - 1 < (n : Int))) = V.bl (decide ((X.length : Int) - 1 < (n : Int))))]
        have s911 := (Sts.of s10).trans s11
        exact iteF (k H11 ⟨(Sy.ofD s09).trans (Sy.ofP s911), D9.sp s911 g11, s911.tup D9.tt hF9⟩)
    rintro H10 ⟨sy, D10, hF10⟩
    clear s09 D9 hF9
    refine ⟨_, rfl, _, rfl, d, 2, rfl, D10.dd, by decide, by decide, fun r2 H11 hr2 s11 d11 => ⟨_, _, rfl, rfl, d, r2 + 2, ?_, d11, by omega, fun p2 H12 G s12 d12 hG bG => ?_⟩⟩
    · show [V.ref d, V.int (2 + (r2 : Int))] = _
      rw [show (2 : Int) + r2 = ((r2 + 2 : Nat) : Int) by omega]
    have lG := bG.len
    have tG : Tr G := bG.tr (by omega) (by decide +kernel)
    have bG96 : bt 96 G := bG.bt (L := 96) (by decide +kernel)
    have dG := dsc_small (F := G) (by omega) (by omega) bG96
    have hF12 := D10.tup (Sy.ofD (s11.trans s12)) hF10
    have D12 : Dp d Ps H12 := (D10.sx s11 d11).sx s12 d12
    have sy12 := sy.trans (Sy.ofD (s11.trans s12))
    clear s11 s12 d11 d12 hF10 D10 sy
    have rO := res_small2 (F := F) (G := G) (by omega) (by omega) (by omega) (bF96.mono (by decide)) (bG96.mono (by decide))
    refine ⟨_, rfl, fun a1 b1 x1 x2 x3 => mkF x1 x2 x3 hF12 tF.pos (by omega) tF.sho fun H13 s13 f13 => ⟨_, rfl, fun a2 b2 y1 y2 y3 => mkF y1 y2 y3 (s13 _ _ hG) tG.pos (by omega) tG.sho fun H14 s14 g14 => ⟨a1, a2, F, G, 2 ^ 100, rfl, f13.same s14, g14, by omega, by omega, by omega, by omega, detOk2 (by omega) (by omega) (by omega) (bF96.mono (by decide)) (bG96.mono (by decide)), fun H15 s15 => ?_⟩⟩⟩
    have s1215 := s13.trans (s14.trans s15)
    have bP := bd_ml bF bG
    have lP := bP.len
    have tP : Tr (ml F G) := bP.tr (by omega) (by decide +kernel)
    have bP96 : bt 96 (ml F G) := bP.bt (L := 96) (by decide +kernel)
    have q1 : CMulW (dsc F) (dsc G) := wide_mul dF dG (by decide) (by decide) (by decide)
    have z1 : (dsc F * dsc G).natAbs < 2 ^ 7980 := by
      rw [Int.natAbs_mul, show 7980 = 3990 + 3990 from rfl, Nat.pow_add]
      exact Nat.mul_lt_mul'' dF dG
    have q2 : CMulW (dsc F * dsc G) (Res F G) := wide_mul z1 rO (by decide) (by decide) (by decide)
    have z2 : (dsc F * dsc G * Res F G).natAbs < 2 ^ 11970 := by
      rw [Int.natAbs_mul, show 11970 = 7980 + 3990 from rfl, Nat.pow_add]
      exact Nat.mul_lt_mul'' z1 rO
    have q3 : CMulW (dsc F * dsc G * Res F G) (Res F G) := wide_mul z2 rO (by decide) (by decide) (by decide)
    refine ⟨_, rfl, _, rfl, p, p2, F, G, rfl, s1215 _ _ hF12, s1215 _ _ hG, bF.ne, bG.ne, by omega, by omega, (bF.rw (by omega) (by decide +kernel)).sm, (bG.rw (by omega) (by decide +kernel)).sm, fun pp H16 s16 _ e16 => fun a3 b3 x1 x2 x3 => mkF x1 x2 x3 e16 tP.pos (by omega) tP.sho fun H17 s17 f17 => ⟨a3, ml F G, rfl, f17, by omega, by omega, bP96, fun H18 s18 => ?_⟩⟩
    have s1218 := s1215.trans (s16.trans (s17.trans s18))
    refine ⟨_, rfl, _, rfl, fun a4 b4 x1 x2 x3 => mkF x1 x2 x3 (s1218 _ _ hG) tG.pos (by omega) tG.sho fun H19 s19 f19 => ⟨a4, G, rfl, f19, by omega, by omega, bG96, fun H20 s20 => ⟨_, _, rfl, rfl, q1, _, rfl, _, _, rfl, rfl, q2, _, rfl, _, _, rfl, rfl, q3, rfl, ?_⟩⟩⟩
    have s1220 := s1218.trans (s19.trans s20)
    rw [decide_eq_true (show V.int (dsc (ml F G)) = V.int (dsc F * dsc G * Res F G * Res F G) by rw [dsc_mul (by omega) (by omega), Int.mul_assoc (dsc F * dsc G)])]
    exact fin H20 (sy12.trans (Sy.of s1220)) (D12.same s1220)
end
end K77

set_option Elab.async false
set_option linter.all false
set_option maxRecDepth 100000
set_option maxHeartbeats 4000000
set_option exponentiation.threshold 10000
/-! discriminants of products of lines -/
namespace K77
open PySem PySem.Spec PyProof.Rows L2 StX RZ MyR SlX OwnR OwnF EnumT SeqE GxR GenNx FDivQ LA EnumL
def rws (ps : List (Int × Int)) : List (List Int) := ps.map fun p => [p.1, p.2]
def hh (a b : Int × Int) : Int := a.1 * b.2 - b.1 * a.2
def sq (a : Int × Int) (D : Int) (b : Int × Int) : Int := D * hh a b * hh a b
def dues (ps : List (Int × Int)) : Nat → Int
  | 0 => 1
  | i + 1 => (ps.take i).foldl (sq (ps.getD i (0, 0))) (dues ps i)
def qq (a : Int × Int) : List (Int × Int) → Int
  | [] => 1
  | b :: l => hh a b * qq a l
theorem fold_sq (a : Int × Int) : ∀ (l : List (Int × Int)) (D : Int), l.foldl (sq a) D = D * (qq a l * qq a l)
  | [], D => by
    show D = D * (1 * 1)
    omega
  | b :: l, D => by
    show l.foldl (sq a) (D * hh a b * hh a b) = D * (hh a b * qq a l * (hh a b * qq a l))
    rw [fold_sq a l]
    grind
theorem res_q (a : Int × Int) : ∀ (l : List (Int × Int)) (X : List Int), X ≠ [] → Res ((rws l).foldl ml X) [a.1, a.2] * Res ((rws l).foldl ml X) [a.1, a.2] = Res X [a.1, a.2] * Res X [a.1, a.2] * (qq a l * qq a l)
  | [], X, _ => by
    show Res X [a.1, a.2] * Res X [a.1, a.2] = _ * (1 * 1)
    omega
  | b :: l, X, nX => by
    show Res ((rws l).foldl ml (ml X [b.1, b.2])) [a.1, a.2] * Res ((rws l).foldl ml (ml X [b.1, b.2])) [a.1, a.2] = _ * (hh a b * qq a l * (hh a b * qq a l))
    rw [res_q a l _ (ml_ne nX (by simp)), res_mul nX (by simp) (by simp), res_two]
    unfold hh
    grind
theorem rws_len (ps : List (Int × Int)) : (rws ps).length = ps.length := List.length_map _
theorem rws_get {ps : List (Int × Int)} {i : Nat} (h : i < ps.length) : (rws ps)[i]'(by rw [rws_len]; exact h) = [(ps.getD i (0, 0)).1, (ps.getD i (0, 0)).2] := by
  unfold rws
  rw [List.getElem_map, List.getD_eq_getElem?_getD, List.getElem?_eq_getElem h]
  rfl
theorem allP_len (ps : List (Int × Int)) : ∀ i, i ≤ ps.length → (allP (rws ps) i).length = i + 1
  | 0, _ => rfl
  | i + 1, h => by
    have hi : i < (rws ps).length := by rw [rws_len]; omega
    rw [allP_succ hi, ml_len, allP_len ps i (by omega), rws_get (by omega)]
    rfl
theorem dues_dsc (ps : List (Int × Int)) : ∀ i, 1 ≤ i → i ≤ ps.length → dsc (allP (rws ps) i) = dues ps i
  | 0, h, _ => absurd h (by decide)
  | i + 1, _, h => by
    have hi : i < (rws ps).length := by rw [rws_len]; omega
    rw [allP_succ hi, rws_get (by omega)]
    by_cases c : i = 0
    · subst c
      show dsc (ml [1] [(ps.getD 0 (0, 0)).1, (ps.getD 0 (0, 0)).2]) = 1
      rw [ml_comm, ml_one]
      exact dsc_line _ _
    · have ih := dues_dsc ps i (by omega) (by omega)
      have li := allP_len ps i (by omega)
      rw [dsc_mul (by omega) (by simp), ih, dsc_line, Int.mul_one]
      show _ = (ps.take i).foldl (sq (ps.getD i (0, 0))) (dues ps i)
      rw [fold_sq]
      have e : allP (rws ps) i = (rws (ps.take i)).foldl ml [1] := by
        unfold allP rws
        rw [List.map_take]
      rw [e, res_q _ _ _ (by simp), res_const 1 (by simp), Int.one_pow, Int.one_mul, Int.one_mul]
/-- numbers as they are drawn -/
def P5 (ps : List (Int × Int)) : Prop := ∀ p ∈ ps, p.1.natAbs ≤ 5 ∧ p.2.natAbs ≤ 5
theorem hh_bd {a b : Int × Int} (ha : a.1.natAbs ≤ 5 ∧ a.2.natAbs ≤ 5) (hb : b.1.natAbs ≤ 5 ∧ b.2.natAbs ≤ 5) : (hh a b).natAbs ≤ 50 := by
  have e1 : (a.1 * b.2).natAbs ≤ 5 * 5 := by rw [Int.natAbs_mul]; exact Nat.mul_le_mul ha.1 hb.2
  have e2 : (b.1 * a.2).natAbs ≤ 5 * 5 := by rw [Int.natAbs_mul]; exact Nat.mul_le_mul hb.1 ha.2
  unfold hh
  omega
theorem fold_bd {a : Int × Int} (ha : a.1.natAbs ≤ 5 ∧ a.2.natAbs ≤ 5) : ∀ (l : List (Int × Int)) (D : Int), P5 l → (l.foldl (sq a) D).natAbs ≤ D.natAbs * 2500 ^ l.length
  | [], D, _ => by
    show D.natAbs ≤ D.natAbs * 1
    omega
  | b :: l, D, h => by
    have h1 := hh_bd ha (h b (.head _))
    have h2 := fold_bd ha l (D * hh a b * hh a b) fun p hp => h p (.tail _ hp)
    show (l.foldl (sq a) (D * hh a b * hh a b)).natAbs ≤ _
    rw [List.length_cons, Nat.pow_succ]
    refine Nat.le_trans h2 ?_
    rw [Int.natAbs_mul, Int.natAbs_mul]
    have : D.natAbs * (hh a b).natAbs * (hh a b).natAbs ≤ D.natAbs * 2500 := by
      rw [Nat.mul_assoc]
      exact Nat.mul_le_mul_left _ (Nat.mul_le_mul h1 h1)
    refine Nat.le_trans (Nat.mul_le_mul_right _ this) (Nat.le_of_eq ?_)
    rw [Nat.mul_assoc, Nat.mul_comm 2500]
theorem P5.get {ps : List (Int × Int)} (h : P5 ps) {i : Nat} (hi : i < ps.length) : (ps.getD i (0, 0)).1.natAbs ≤ 5 ∧ (ps.getD i (0, 0)).2.natAbs ≤ 5 := by
  rw [List.getD_eq_getElem?_getD, List.getElem?_eq_getElem hi]
  exact h _ (List.getElem_mem hi)
theorem dues_bd {ps : List (Int × Int)} (h : P5 ps) (h5 : ps.length ≤ 5) : ∀ i, i ≤ ps.length → (dues ps i).natAbs ≤ 2500 ^ (5 * i)
  | 0, _ => Nat.le_refl _
  | i + 1, hi => by
    have ih := dues_bd h h5 i (by omega)
    have hf := fold_bd (h.get (i := i) (by omega)) (ps.take i) (dues ps i) fun p hp => h p (List.mem_of_mem_take hp)
    refine Nat.le_trans hf (Nat.le_trans (Nat.mul_le_mul ih (Nat.pow_le_pow_right (by decide) (show (ps.take i).length ≤ 5 by rw [List.length_take]; omega))) ?_)
    rw [← Nat.pow_add]
    exact Nat.le_of_eq (by congr 1)
theorem part_bd {ps : List (Int × Int)} (h : P5 ps) (h5 : ps.length ≤ 5) {i j : Nat} (hi : i < ps.length) (hj : j ≤ i) : ((ps.take j).foldl (sq (ps.getD i (0, 0))) (dues ps i)).natAbs < 2 ^ 400 := by
  have ih := dues_bd h h5 i (by omega)
  have hf := fold_bd (h.get hi) (ps.take j) (dues ps i) fun p hp => h p (List.mem_of_mem_take hp)
  refine Nat.lt_of_le_of_lt hf (Nat.lt_of_le_of_lt (Nat.mul_le_mul (Nat.le_trans ih (Nat.pow_le_pow_right (by decide) (show 5 * i ≤ 20 by omega))) (Nat.pow_le_pow_right (by decide) (show (ps.take j).length ≤ 5 by rw [List.length_take]; omega))) (by decide +kernel))
theorem allP_b {ps : List (Int × Int)} (h : P5 ps) : ∀ i, i ≤ ps.length → Bd (allP (rws ps) i) i (10 ^ i)
  | 0, _ => bd_one
  | i + 1, hi => by
    have hi' : i < (rws ps).length := by rw [rws_len]; omega
    rw [allP_succ hi', rws_get (by omega), Nat.pow_succ]
    have := h.get (i := i) (by omega)
    exact bd_ml (allP_b h i (by omega)) ⟨rfl, by show (ps.getD i (0, 0)).1.natAbs + ((ps.getD i (0, 0)).2.natAbs + 0) ≤ 10; omega⟩
section
variable {P : Program} {w : World} {K : PySem.W.Frag} {mg : Str → Option Value} {base : Heap} {Ps : List Addr}
theorem ok_law_lines_right (T : Facts K mg) : FnOk P w K mg base CX0 7 T.f_law_lines_right T.fd_law_lines_right ["_law_dice_here"] (spLR Ps) := by
  have G_law_roll : FnOk P w K mg base CX0 1 T.f_law_roll T.fd_law_roll ["_law_dice_here", "_law_total"] spRoll2 := (ok_law_roll T).imp roll2
  have G_law_near : FnOk P w K mg base CX0 2 T.f_law_near T.fd_law_near ["_law_dice_here", "_law_most"] spNear := ok_law_near T
  have G_law_all_product := ok_law_all_product (P := P) (w := w) (base := base) T
  have G_discriminant := ok_discriminant (P := P) (w := w) (base := base) T
  have G_Form_init : FnOk P w K mg base CX0 5 T.f_Form_init T.fd_Form_init ["self", "entries"] (spForm T.C_Told T.C_Form) := ok_Form_init T
  refine T.F_law_lines_right.ok sc_law_lines_right (fun vs H Q E h => ?_) (fun cdv A outer s H vs Q E hr h => ?_)
  · obtain ⟨d, rfl, _⟩ := h
    rfl
  · obtain ⟨d, rfl, D0, fin⟩ := h
    refine ⟨_, (PSs.nox (pss_cons (ps_setLc (i := 1) (own := [("_law_turn", 2)]) (g := (gName 2)) (tt := tYes) rfl sc_law_lines_right.nd rfl rfl (sw_true rfl rfl rfl (by decide +kernel)) (pi_range1 (by rfl) T.z_range (pa_cons (pe_op op_add pe_int (pe_call G_law_roll (hr.mono (by decide)) (by rfl) T.g_law_roll T.F_law_roll.kp T.b_law_roll .nil pass0 (pa_cons (pv 0) (pa_cons pe_int pa_nil)))) pa_nil)) (blkOk_by (N := N_law_lines_right) (sc := defScope s_law_lines_right) (by decide +kernel)) (fun _ _ _ _ _ => (pg_name (i := 2) sc_law_lines_right.nd rfl (.inl rfl))) (fun _ _ _ _ _ => pts_nil) (fun _ _ _ _ _ => (pe_tup (pa_cons (pe_call G_law_near (hr.mono (by decide)) (by rfl) T.g_law_near T.F_law_near.kp T.b_law_near .nil pass0 (pa_cons (pv 0) (pa_cons pe_int pa_nil))) (pa_cons (pe_call G_law_near (hr.mono (by decide)) (by rfl) T.g_law_near T.F_law_near.kp T.b_law_near .nil pass0 (pa_cons (pv 0) (pa_cons pe_int pa_nil))) pa_nil)))))
    (pss_cons (ps_set (i := 3) sc_law_lines_right.nd rfl (.inl rfl) pe_int)
    (pss_cons (ps_for PassesOwn.never (by rfl) (pi_enum (by rfl) T.z_enumerate (pa_cons (pv 1) pa_nil)) (pg_tup (by rfl) (pgs_cons (pg_name (i := 4) sc_law_lines_right.nd rfl (.inl rfl)) (pgs_cons (pg_tup (by rfl) (pgs_cons (pg_name (i := 5) sc_law_lines_right.nd rfl (.inl rfl)) (pgs_cons (pg_name (i := 6) sc_law_lines_right.nd rfl (.inl rfl)) pgs_nil))) pgs_nil)))
      (pss_one (ps_for PassesOwn.never (by rfl) (pi_list (pe_slice sl_list (pv 1) po_none (po_some (pv 4)))) (pg_tup (by rfl) (pgs_cons (pg_name (i := 7) sc_law_lines_right.nd rfl (.inl rfl)) (pgs_cons (pg_name (i := 8) sc_law_lines_right.nd rfl (.inl rfl)) pgs_nil)))
        (pss_cons (ps_set (i := 9) sc_law_lines_right.nd rfl (.inl rfl) (pe_op op_sub (pe_op op_mulW (pv 5) (pv 8)) (pe_op op_mulW (pv 7) (pv 6))))
        (pss_one (ps_set (i := 3) sc_law_lines_right.nd rfl (.inl rfl) (pe_op op_mulW (pe_op op_mulW (pv 3) (pv 9)) (pv 9))))))))
    (pss_one (ps_ret (pe_cmpR op_eq (pe_call G_discriminant (hr.mono (by decide)) (by rfl) T.g_discriminant T.F_discriminant.kp T.b_discriminant .nil pass0 (pa_cons (pe_make T.mk_Form G_Form_init (hr.mono (by decide)) (by rfl) T.g_Form T.b_Form_init .nil pass0 (pa_cons (pe_call G_law_all_product (hr.mono (by decide)) (by rfl) T.g_law_all_product T.F_law_all_product.kp T.b_law_all_product .nil pass0 (pa_cons (pv 1) pa_nil)) pa_nil)) pa_nil)) (pv 3) (nomark _)))))))), ?_⟩
    refine ⟨_, rfl, d, 4, rfl, D0.dd, by decide, by decide, fun r1 H1 hr1 s1 d1 => ⟨_, _, rfl, rfl, ?_⟩⟩
    refine ⟨2 + (r1 : Int), rfl, by omega, by omega, fun D hD => ?_⟩
    have D1 := D0.sx s1 d1
    refine lc_range (n := (2 + (r1 : Int)).toNat) (fun j H' => Sx d H1 H' ∧ Dc H' d ∧ ∃ (bs : List Addr) (ps : List (Int × Int)), H' D = some (.lst (bs.map V.ref)) ∧ bs.length = j ∧ ps.length = j ∧ RT H' bs (rws ps) ∧ P5 ps) ⟨Sx.of (same_upd0 hD), d1.same (same_upd0 hD), [], [], upd_same, rfl, rfl, True.intro, fun l h => (nomatch h)⟩ (fun j H' hj hP => ?_) (fun H2 hP => ?_)
    · obtain ⟨sH, dH, bs, ps, hL, hl1, hl2, hr2, hb⟩ := hP
      have nD : D ≠ d := d1.ne hD
      refine ⟨rfl, _, rfl, d, 5, rfl, dH, by decide, by decide, fun u H2 u1 u2 s2 d2 => ⟨_, rfl, d, 5, rfl, d2, by decide, by decide, fun v H3 v1 v2 s3 d3 => ⟨sz2, fun p2 n2 => gen_upd H3 p2 (tp [u, v]) n2 fun H4 s4 f4 => ?_⟩⟩⟩
      have hL4 := s4 _ _ (s3 D _ nD (s2 D _ nD hL))
      have d4 := d3.same s4
      have hr4 : RT H4 bs (rws ps) := RX.imp (fun _ _ e => s4 _ _ (s3 _ _ (dc_ne d2 (s2 _ _ (dc_ne dH e) e)) (s2 _ _ (dc_ne dH e) e))) hr2
      refine ⟨_, hL4, by rw [List.length_map, hl1]; exact small1000 (by omega), fun b o hb2 e => ?_, ?_, bs ++ [p2], ps ++ [(u, v)], by rw [upd_same, List.map_append]; rfl, by rw [List.length_append, hl1]; rfl, by rw [List.length_append, hl2]; rfl, ?_, fun l hl => ?_⟩
      · rw [upd_ne (ne_of_none e hD)]
        exact s4 _ _ (s3 b o hb2 (s2 b o hb2 (sH b o hb2 e)))
      · obtain ⟨x, y, z, e⟩ := d4
        exact ⟨x, y, z, by rw [upd_ne (Ne.symm nD)]; exact e⟩
      · unfold rws
        rw [List.map_append]
        refine RX.snoc (hr4.updL hL4) ?_
        show upd H4 D _ p2 = _
        rw [upd_ne fun z => by rw [z, hL4] at f4; cases f4]
        exact f4
      · rcases List.mem_append.mp hl with e | e
        · exact hb l e
        · rw [List.mem_singleton.mp e]
          show u.natAbs ≤ 5 ∧ v.natAbs ≤ 5
          omega
    · obtain ⟨s2, d2, bs, ps, hL, hl1, hl2, hR, h5⟩ := hP
      have lp : ps.length ≤ 5 ∧ 2 ≤ ps.length := by omega
      have lbp : bs.length = ps.length := by omega
      have D2 := D1.sx s2 d2
      have s02 := s1.trans s2
      clear s1 s2 d1 D1 hD hl1 hl2
      have get : ∀ {i : Nat} (hi : i < ps.length), ∃ ad, bs[i]? = some ad ∧ H2 ad = some (tp [(ps.getD i (0, 0)).1, (ps.getD i (0, 0)).2]) := fun {i} hi => by
        obtain ⟨ad, l, e1, e2, e3⟩ := RX.get hR (i := i) (by rw [rws_len]; exact hi)
        refine ⟨ad, e1, ?_⟩
        rw [List.getElem?_eq_getElem (by rw [rws_len]; exact hi), rws_get hi] at e2
        rw [e3, ← Option.some.inj e2]
      refine ⟨_, rfl, D, _, rfl, SqL.of hL, for_enumL (xs := bs.map V.ref) (fun i σ H' => i ≤ ps.length ∧ ∃ y4 y5 y6 y7 y8 y9, σ = [some (.ref d), some (.ref D), none, some (.int (dues ps i)), y4, y5, y6, y7, y8, y9] ∧ Same H2 H') ⟨Nat.zero_le _, none, none, none, none, none, none, rfl, Same.rf H2⟩ (fun i σ H' hP => ?_) (fun i x T σ H' hx hP hT => ?_) (fun σ H' hP => ?_)⟩
      · obtain ⟨_, y4, y5, y6, y7, y8, y9, _, s3⟩ := hP
        exact SqL.of (s3 _ _ hL)
      · obtain ⟨_, y4, y5, y6, y7, y8, y9, rfl, s3⟩ := hP
        rw [List.getElem?_map] at hx
        obtain ⟨ad, had, rfl⟩ := Option.map_eq_some_iff.mp hx
        have hi : i < ps.length := by
          rw [← lbp]
          exact (List.getElem?_eq_some_iff.mp had).1
        obtain ⟨ad', e1, e2⟩ := get hi
        rw [had] at e1
        cases e1
        refine gen_upd H' T _ hT fun H3 s4 e4 => ?_
        have s34 := s3.trans s4
        refine ⟨T, _, rfl, SqT.of e4, rfl, _, _, rfl, _, _, rfl, ad, _, rfl, SqT.of (s34 _ _ e2), rfl, _, _, rfl, _, _, rfl, rfl, rfl, ?_⟩
        have hL3 := s34 _ _ hL
        have ec : cutV (bs.map V.ref) none (some ((i : Nat) : Int)) = (bs.take i).map V.ref := by
          unfold cutV
          rw [HT.sIx_none, HT.sIx_nat, List.length_map, Nat.min_eq_left (by omega), List.drop_zero, Nat.sub_zero, ← List.map_take]
        refine ⟨_, rfl, _, rfl, _, rfl, D, _, rfl, SqL.of hL3, fun p1 n1 => gen_upd H3 p1 _ n1 fun H4 s5 e5 => ⟨p1, rfl, ⟨_, SqL.of e5⟩, ?_⟩⟩
        rw [ec] at e5
        have s25 := s34.trans s5
        generalize hA : ps.getD i (0, 0) = A at *
        have hA5 := h5.get hi
        rw [hA] at hA5
        refine for_list (xs := (bs.take i).map V.ref) (fun j σ H' => j ≤ i ∧ ∃ y7 y8 y9, σ = [some (.ref d), some (.ref D), none, some (.int ((ps.take j).foldl (sq A) (dues ps i))), some (.int (i : Nat)), some (.int A.1), some (.int A.2), y7, y8, y9] ∧ Same H4 H') ⟨Nat.zero_le _, _, _, _, rfl, Same.rf H4⟩ (fun j σ H' _ hP => ?_) (fun j x σ H' hx hP => ?_) (fun σ H' hP => ?_)
        · obtain ⟨_, z7, z8, z9, _, s6⟩ := hP
          exact SqL.of (s6 _ _ e5)
        · obtain ⟨_, z7, z8, z9, rfl, s6⟩ := hP
          rw [List.getElem?_map] at hx
          obtain ⟨bd, hbd, rfl⟩ := Option.map_eq_some_iff.mp hx
          have hj : j < i := by
            have := (List.getElem?_eq_some_iff.mp hbd).1
            rw [List.length_take] at this
            omega
          rw [List.getElem?_take_of_lt hj] at hbd
          obtain ⟨bd', f1, f2⟩ := get (i := j) (by omega)
          rw [hbd] at f1
          cases f1
          have hB5 := h5.get (i := j) (by omega)
          have pj := part_bd h5 lp.1 hi (show j ≤ i by omega)
          rw [hA] at pj
          have tk : (ps.take (j + 1)).foldl (sq A) (dues ps i) = sq A ((ps.take j).foldl (sq A) (dues ps i)) (ps.getD j (0, 0)) := by
            rw [List.take_add_one, List.getElem?_eq_getElem (by omega), List.foldl_append, List.getD_eq_getElem?_getD, List.getElem?_eq_getElem (by omega)]
            rfl
          generalize ps.getD j (0, 0) = B at *
          have hb := hh_bd hA5 hB5
          have s5x : ∀ {z : Int}, z.natAbs ≤ 50 → sm z := fun h => sm_small (Nat.le_trans h (by decide))
          refine ⟨bd, _, rfl, SqT.of ((s25.trans s6) _ _ f2), rfl, _, _, rfl, _, _, rfl, rfl, ?_⟩
          generalize hD : (ps.take j).foldl (sq A) (dues ps i) = X at *
          have c1 : CMulW X (hh A B) := wide_mul (a := 400) (b := 6) pj (Nat.lt_of_le_of_lt hb (by decide)) (by decide) (by decide) (by decide)
          have c2 : CMulW (X * hh A B) (hh A B) := wide_mul (a := 406) (b := 6) (by
            rw [Int.natAbs_mul, show 406 = 400 + 6 from rfl, Nat.pow_add]
            exact Nat.mul_lt_mul'' pj (Nat.lt_of_le_of_lt hb (by decide))) (Nat.lt_of_le_of_lt hb (by decide)) (by decide) (by decide) (by decide)
          refine ⟨_, rfl, _, rfl, _, _, rfl, rfl, sm_mul (s5x (by omega)) (s5x (by omega)), _, rfl, _, rfl, _, _, rfl, rfl, sm_mul (s5x (by omega)) (s5x (by omega)), _, _, rfl, rfl, ?_⟩
          refine ⟨_, rfl, _, rfl, _, _, rfl, rfl, c1, _, rfl, _, _, rfl, rfl, c2, hj, some (.int B.1), some (.int B.2), some (.int (hh A B)), ?_, s6⟩
          rw [tk]
          rfl
        · obtain ⟨_, z7, z8, z9, rfl, s6⟩ := hP
          rw [List.length_map, List.length_take, Nat.min_eq_left (by omega)]
          refine ⟨hi, some (.int (i : Nat)), some (.int A.1), some (.int A.2), z7, z8, z9, ?_, s25.trans s6⟩
          show _ = [some (V.ref d), some (V.ref D), none, some (V.int ((ps.take i).foldl (sq (ps.getD i (0, 0))) (dues ps i))), _, _, _, _, _, _]
          rw [hA]
      · obtain ⟨_, y4, y5, y6, y7, y8, y9, rfl, s3⟩ := hP
        rw [List.length_map, lbp]
        have hL3 := s3 _ _ hL
        have al : (rws ps).length = ps.length := rws_len ps
        have bA := fun i hi => allP_b h5 i hi
        refine ⟨_, rfl, D, bs, rws ps, rfl, hL3, by omega, fun i h h' => ?_, fun i h => (bA i (by omega)).rw (by omega) (Nat.lt_of_le_of_lt (Nat.pow_le_pow_right (by decide) (show i ≤ 5 by omega)) (by decide +kernel)), fun p1 H4 s4 e4 => ?_⟩
        · obtain ⟨ad, e1, e2⟩ := get (i := i) (by omega)
          obtain ⟨_, e1⟩ := List.getElem?_eq_some_iff.mp e1
          rw [e1, rws_get (by omega)]
          have hp := h5.get (i := i) (by omega)
          exact ⟨s3 _ _ e2, Bd.rw (n := 1) (b := 10) ⟨rfl, by show (ps.getD i (0, 0)).1.natAbs + ((ps.getD i (0, 0)).2.natAbs + 0) ≤ 10; omega⟩ (by decide) (by decide +kernel)⟩
        rw [al] at e4
        have bO := (bA _ (Nat.le_refl _)).mono (show _ ≤ 10 ^ 5 from Nat.pow_le_pow_right (by decide) lp.1)
        have lO := bO.len
        have tO : Tr (allP (rws ps) ps.length) := bO.tr (by omega) (by decide +kernel)
        intro a1 b1 x1 x2 x3
        refine mkF x1 x2 x3 e4 tO.pos (by omega) tO.sho fun H5 s5 f5 => ⟨a1, _, rfl, f5, by omega, by omega, bO.bt (by decide +kernel), fun H6 s6 => ⟨_, rfl, rfl, ?_⟩⟩
        rw [decide_eq_true (show V.int (dsc (allP (rws ps) ps.length)) = V.int (dues ps ps.length) by rw [dues_dsc ps _ (by omega) (Nat.le_refl _)])]
        have s26 := s3.trans (s4.trans (s5.trans s6))
        have sx := s02.trans (Sx.of s26)
        exact fin H6 (Sy.ofD sx) (D0.sx sx (d2.same s26))
end
end K77

set_option Elab.async false
set_option linter.all false
set_option maxRecDepth 100000
set_option maxHeartbeats 4000000
set_option exponentiation.threshold 10000
namespace K77
open PySem PySem.Spec PyProof.Rows L2 StX RZ MyR SlX OwnR OwnF EnumT SeqE GxR GenNx FDivQ LA
theorem dsc_of {F : List Int} {n : Nat} {v : Int} (lF : F.length = n + 1) (n2 : 2 ≤ n) (h : bdet (urows (dX F) (dY F) (n + n - 3)) = sgt n * (n : Int) ^ (n - 2) * v) : dsc F = v := by
  have lX : (dX F).length = n := by rw [dX_len]; omega
  have lY : (dY F).length = n := by rw [dY_len]; omega
  have e := res_bdet (F := dX F) (G := dY F) (by omega) (by omega)
  rw [lX, lY, h, dsc_res lF (by omega)] at e
  refine (Int.eq_of_mul_eq_mul_left (Int.mul_ne_zero (fun z => ?_) (pow_nz (by omega) _)) e).symm
  have := sgt_abs n
  rw [z] at this
  cases this
def fixed : List (List Int) := [[1, 0, -2], [1, 0, -3, 1], [1, 0, 0, 1, 0], [1, 2, 1, 0], [0, 0, 0], [0, 0, 7], [3, 5, 1]]
def fixedD : List Int := [8, 81, -27, 0, 0, 0, 13]
theorem fixed_dsc : fixed.map dsc = fixedD := by
  have h : ∀ (F : List Int) (n : Nat) (v : Int), F.length = n + 1 → 2 ≤ n → bdet (urows (dX F) (dY F) (n + n - 3)) = sgt n * (n : Int) ^ (n - 2) * v → dsc F = v := fun F n v a b c => dsc_of a b c
  show [dsc _, dsc _, dsc _, dsc _, dsc _, dsc _, dsc _] = _
  rw [h [1, 0, -2] 2 8 rfl (by decide) (by decide +kernel), h [1, 0, -3, 1] 3 81 rfl (by decide) (by decide +kernel), h [1, 0, 0, 1, 0] 4 (-27) rfl (by decide) (by decide +kernel), h [1, 2, 1, 0] 3 0 rfl (by decide) (by decide +kernel), h [0, 0, 0] 2 0 rfl (by decide) (by decide +kernel), h [0, 0, 7] 2 0 rfl (by decide) (by decide +kernel), h [3, 5, 1] 2 13 rfl (by decide) (by decide +kernel)]
  rfl
theorem fixed_ok : ∀ F ∈ fixed, 3 ≤ F.length ∧ F.length ≤ 5 ∧ ∀ x ∈ F, x.natAbs ≤ 7 := by decide
section
variable {P : Program} {w : World} {K : PySem.W.Frag} {mg : Str → Option Value} {base : Heap}
theorem ok_law (T : Facts K mg) (TB_first_of : TabB base mg T.c_first_of T.P_first_of) : FnOk P w K mg base CX0 10 T.f_law T.fd_law ["_law_script"] (spLawT K [T.P_first_of]) := by
  obtain ⟨Ps, ePs⟩ : ∃ Ps, [T.P_first_of] = Ps := ⟨_, rfl⟩
  have hP : T.P_first_of ∈ Ps := by rw [← ePs]; simp
  rw [ePs]
  have G_law_dice := ok_law_dice (P := P) (w := w) (base := base) T
  have G_law_form_right := ok_law_form_right (P := P) (w := w) (base := base) T TB_first_of hP
  have G_law_lines_right := ok_law_lines_right (P := P) (w := w) (base := base) (Ps := Ps) T
  have G_discriminant := ok_discriminant (P := P) (w := w) (base := base) T
  have G_Form_init : FnOk P w K mg base CX0 5 T.f_Form_init T.fd_Form_init ["self", "entries"] (spForm T.C_Told T.C_Form) := ok_Form_init T
  refine T.F_law.ok sc_law (fun vs H Q E h => ?_) (fun cdv A outer s H vs Q E hr h => ?_)
  · obtain ⟨a, ns, rfl, _⟩ := h
    rfl
  · obtain ⟨a, ns, rfl, ha, hn, hG, q⟩ := h
    refine ⟨_, (PSs.nox (pss_cons (ps_for PassesOwn.never (by rfl) (pi_range1 (by rfl) T.z_range (pa_cons (pe_callB (call_max2 (by rfl)) (by rfl) T.z_max (by decide +kernel) (pa_cons pe_int (pa_cons (pe_callB (call_min2 (by rfl)) (by rfl) T.z_min (by decide +kernel) (pa_cons pe_int (pa_cons (pe_callB call_len_seq (by rfl) T.z_len (by decide +kernel) (pa_cons (pv 0) pa_nil)) pa_nil))) pa_nil))) pa_nil)) (pg_name (i := 1) sc_law.nd rfl (.inl rfl))
      (pss_cons (ps_set (i := 2) sc_law.nd rfl (.inl rfl) (pe_call G_law_dice (hr.mono (by decide)) (by rfl) T.g_law_dice T.F_law_dice.kp T.b_law_dice .nil pass0 (pa_cons (pv 0) (pa_cons (pv 1) pa_nil))))
      (pss_one (ps_if (pw_or (pt_not (pt_val (pe_call G_law_form_right hr (by rfl) T.g_law_form_right T.F_law_form_right.kp T.b_law_form_right .nil pass0 (pa_cons (pv 2) pa_nil)))) (pw_or (pt_not (pt_val (pe_call G_law_lines_right (hr.mono (by decide)) (by rfl) T.g_law_lines_right T.F_law_lines_right.kp T.b_law_lines_right .nil pass0 (pa_cons (pv 2) pa_nil)))) (pw_or1 (pt_not (pt_val (pe_call G_law_lines_right (hr.mono (by decide)) (by rfl) T.g_law_lines_right T.F_law_lines_right.kp T.b_law_lines_right .nil pass0 (pa_cons (pv 2) pa_nil))))))).pt
        (pss_one (ps_ret pe_bl))
        pss_nil))))
    (pss_cons (ps_set (i := 3) sc_law.nd rfl (.inl rfl) (pe_lst (pa_cons (pe_tup (pa_cons pe_int (pa_cons pe_int (pa_cons (pe_un un_neg pe_int) pa_nil)))) (pa_cons (pe_tup (pa_cons pe_int (pa_cons pe_int (pa_cons (pe_un un_neg pe_int) (pa_cons pe_int pa_nil))))) (pa_cons (pe_tup (pa_cons pe_int (pa_cons pe_int (pa_cons pe_int (pa_cons pe_int (pa_cons pe_int pa_nil)))))) (pa_cons (pe_tup (pa_cons pe_int (pa_cons pe_int (pa_cons pe_int (pa_cons pe_int pa_nil))))) (pa_cons (pe_tup (pa_cons pe_int (pa_cons pe_int (pa_cons pe_int pa_nil)))) (pa_cons (pe_tup (pa_cons pe_int (pa_cons pe_int (pa_cons pe_int pa_nil)))) (pa_cons (pe_tup (pa_cons pe_int (pa_cons pe_int (pa_cons pe_int pa_nil)))) pa_nil)))))))))
    (pss_one (ps_ret (pe_cmpR (op_eqD (hu64 hr)) (pe_lc (own := [("_law_form_here", 4)]) (g := (gName 4)) (tt := tYes) (by rfl) sc_law.nd (pi_list (pv 3)) (blkOk_by (N := N_law) (sc := defScope s_law) (by decide +kernel)) (fun _ _ _ _ _ => (pg_name (i := 4) sc_law.nd rfl (.inl rfl))) (fun _ _ _ _ _ => pts_nil) (fun _ _ _ _ _ => (pe_call G_discriminant (hr.mono (by decide)) (by rfl) T.g_discriminant T.F_discriminant.kp T.b_discriminant .nil pass0 (pa_cons (pe_make T.mk_Form G_Form_init (hr.mono (by decide)) (by rfl) T.g_Form T.b_Form_init .nil pass0 (pa_cons (pv 4) pa_nil)) pa_nil)))) (pe_lst (pa_cons pe_int (pa_cons pe_int (pa_cons (pe_un un_neg pe_int) (pa_cons pe_int (pa_cons pe_int (pa_cons pe_int (pa_cons pe_int pa_nil)))))))) (nomark _))))))), ?_⟩
    refine ⟨_, rfl, a, _, rfl, .inl ha, 4, _, rfl, 1, _, rfl, ?_⟩
    rw [List.length_map]
    obtain ⟨n, hn1, hn0⟩ : ∃ n : Int, (if (if ((ns.length : Nat) : Int) < 4 then ((ns.length : Nat) : Int) else 4) > 1 then (if ((ns.length : Nat) : Int) < 4 then ((ns.length : Nat) : Int) else 4) else 1) = n ∧ 0 ≤ n ∧ n ≤ 4 := ⟨_, rfl, by split <;> split <;> omega, by split <;> split <;> omega⟩
    rw [hn1]
    refine ⟨_, rfl, by omega, by omega, for_range (n := n.toNat) (fun i σ H' => ∃ y1 y2, σ = [some (.ref a), y1, y2, none, none] ∧ SqL K H' a (ns.map V.int) ∧ Tg Ps H') ⟨none, none, rfl, ha, hG⟩ (fun i σ H1 hi hP => ?_) (fun σ H1 hP => ?_)⟩
    · obtain ⟨y1, y2, rfl, h1, p1⟩ := hP
      refine ⟨_, rfl, _, rfl, a, ns, i, ?_, h1, fun d x y z nd => ?_⟩
      · show [V.ref a, V.int (0 + (i : Int))] ++ [] = _
        rw [Int.zero_add]
        rfl
      have D1 : Dp d Ps (upd H1 d (dice x y z)) := ⟨⟨x, y, z, upd_same⟩, p1.same (same_upd0 nd)⟩
      refine ⟨_, rfl, d, rfl, D1, fun H3 s3 D3 => ⟨_, rfl, iteF ⟨_, rfl, d, rfl, D3, fun H4 s4 D4 => ⟨_, rfl, iteF ⟨_, rfl, d, rfl, D4, fun H5 s5 D5 => ⟨_, rfl, iteF ?_⟩⟩⟩⟩⟩⟩
      exact ⟨_, _, rfl, script_Sy (s3.trans (s4.trans s5)) nd p1 h1, D5.tt⟩
    · obtain ⟨y1, y2, rfl, h1, t1⟩ := hP
      refine ⟨_, rfl, sz3, fun u0 m0 => gen_upd H1 u0 (tp [1, 0, -2]) m0 fun H2 s2 e0 => ⟨_, rfl, by decide, fun u1 m1 => gen_upd H2 u1 (tp [1, 0, -3, 1]) m1 fun H3 s3 e1 => ⟨by decide, fun u2 m2 => gen_upd H3 u2 (tp [1, 0, 0, 1, 0]) m2 fun H4 s4 e2 => ⟨by decide, fun u3 m3 => gen_upd H4 u3 (tp [1, 2, 1, 0]) m3 fun H5 s5 e3 => ⟨sz3, fun u4 m4 => gen_upd H5 u4 (tp [0, 0, 0]) m4 fun H6 s6 e4 => ⟨sz3, fun u5 m5 => gen_upd H6 u5 (tp [0, 0, 7]) m5 fun H7 s7 e5 => ⟨sz3, fun u6 m6 => gen_upd H7 u6 (tp [3, 5, 1]) m6 fun H8 s8 e6 => ⟨(show 7 ≤ sizeLine by decide), fun L nL => gen_upd H8 L (.lst ([u0, u1, u2, u3, u4, u5, u6].map V.ref)) nL fun H9 s9 eL => ?_⟩⟩⟩⟩⟩⟩⟩⟩
      have hR : RT H9 [u0, u1, u2, u3, u4, u5, u6] fixed := by
        have a8 := s9
        have a7 := s8.trans a8
        have a6 := s7.trans a7
        have a5 := s6.trans a6
        have a4 := s5.trans a5
        have a3 := s4.trans a4
        have a2 := s3.trans a3
        exact ⟨a2 _ _ e0, a3 _ _ e1, a4 _ _ e2, a5 _ _ e3, a6 _ _ e4, a7 _ _ e5, a8 _ _ e6, True.intro⟩
      clear s2 s3 s4 s5 s6 s7 s8 s9 e0 e1 e2 e3 e4 e5 e6 m0 m1 m2 m3 m4 m5 m6
      generalize hU : [u0, u1, u2, u3, u4, u5, u6] = us at *
      have lu := RX.len hR
      refine ⟨_, rfl, L, rfl, ⟨_, SqL.of eL⟩, fun D hD => ?_⟩
      refine lc_list (xs := us.map V.ref) (fun i H' => Same H9 H' ∧ H' D = some (ls ((fixed.map dsc).take i))) ⟨same_upd0 hD, by rw [upd_same]; rfl⟩ (fun i H' _ hP => SqL.of (hP.1 _ _ eL)) (fun i x H' hx hP => ?_) (fun H10 hP => ?_)
      · obtain ⟨sH, hD'⟩ := hP
        rw [List.getElem?_map] at hx
        obtain ⟨ad, had, rfl⟩ := Option.map_eq_some_iff.mp hx
        have hi : i < fixed.length := by
          rw [← lu]
          exact (List.getElem?_eq_some_iff.mp had).1
        obtain ⟨ad', F, f1, f2, f3⟩ := RX.get hR hi
        rw [had] at f1
        cases f1
        obtain ⟨k3, k5, kb⟩ := fixed_ok F (List.mem_of_getElem? f2)
        have bF : bt 96 F := mem_bt fun x hx => Nat.lt_of_le_of_lt (kb x hx) (by decide)
        refine ⟨rfl, _, rfl, fun a1 b1 x1 x2 x3 => mkF x1 x2 x3 (sH _ _ f3) (by omega) (by omega) (fun z hz => Nat.lt_of_le_of_lt (kb z hz) (by decide)) fun H11 s11 f11 => ⟨a1, F, rfl, f11, k3, by omega, bF, fun H12 s12 => ⟨_, (s11.trans s12) _ _ hD', ?_, fun b o e => ?_, ?_⟩⟩⟩
        · rw [List.length_map, List.length_take]
          have : fixed.length = 7 := rfl
          exact small1000 (by omega)
        · rw [upd_ne (ne_of_none e hD)]
          exact (sH.trans (s11.trans s12)) _ _ e
        · rw [upd_same, List.take_add_one, List.getElem?_map, f2]
          show _ = some (HO.lst (List.map V.int _))
          rw [List.map_append]
          rfl
      · obtain ⟨s10, e10⟩ := hP
        rw [List.length_map, lu, List.take_of_length_le (by rw [List.length_map]; exact Nat.le_refl _), fixed_dsc] at e10
        refine ⟨_, rfl, (show 7 ≤ sizeLine by decide), fun M nM => gen_upd H10 M (ls fixedD) nM fun H11 s11 e11 => eq_lints (SqL.of (s11 _ _ e10)) (SqL.of e11) ?_⟩
        rw [decide_eq_true (rfl : fixedD = fixedD)]
        exact q H11
end
end K77

set_option Elab.async false
set_option linter.all false
set_option maxRecDepth 100000
set_option maxHeartbeats 0
namespace K77
open PySem PySem.Spec PyProof.Rows L2
theorem facts {l : PySem.W.OpenLaw} {w : World} {K : PySem.W.Frag} {h : Heap} {mg : Str → Option Value} {f : Addr} (X : K.In h) (G : h.Ns mainGlobals mg) (hfa : mg ("law" : Str) = some (.ref f)) (c : HookT.SaysGT faL fnL tfL exL h K) :
    LamX.LawAtS l w K CX0 10 63 "_law_script" mg f h := by
  obtain ⟨T⟩ := facts_of X G c.g
  have e := hfa.symm.trans T.g_law
  cases e
  have b := FunD.bindsA (ps := ["_law_script"]) T.F_law fun _ _ _ _ _ _ us hl => match us, hl with | [_], _ => rfl
  have key : ∀ p ∈ ([(T.c_first_of, T.P_first_of)] : List (Addr × Addr)), ∃ q ∈ tfL, p = HookT.cTA K q := fun p hp => by
    simp only [List.mem_cons, List.not_mem_nil, or_false] at hp
    rcases hp with rfl
    · exact ⟨(HookG.At.glo "first_of"), by unfold tfL; simp, T.tab_first_of⟩
  refine ⟨T.fd_law, [(T.c_first_of, T.P_first_of)], spLawT K [T.P_first_of], fun p hp => ?_, fun p hp => ?_, fun p hp => ?_, fun s v => b s [v] rfl, fun H a ns hl _ hH hS => ⟨a, ns, rfl, hS, hl, (fun P hP => (List.mem_singleton.mp hP) ▸ HookT.tabG0 (hH (T.c_first_of, T.P_first_of) (by simp))), fun _ => rfl⟩, fun base _ _ TB => ok_law T (have t := TB (T.c_first_of, T.P_first_of) (by simp); ⟨t.code, t.bm, t.gP⟩)⟩
  · obtain ⟨q, hq, rfl⟩ := key p hp
    exact c.empty q hq
  · obtain ⟨q, hq, rfl⟩ := key p hp
    exact c.out q hq
  · obtain ⟨q, hq, rfl⟩ := key p hp
    exact PySem.W.codeHd_of_K X (c.hd q hq)
end K77
open PySem PySem.W PySem.Calls PyProof.Rows
theorem PySem.Challenge.cw_sourceforms_k77_whole_discriminants_holds : PySem.Challenge.rw_sourceforms_k77_whole_discriminants.Holds := by
  w_on; o_law
  refine HandSHeadRun.head_imp (r := OpenLaw.row PySem.Challenge.rw_sourceforms_k77_whole_discriminants) (q := view (OpenLaw.row PySem.Challenge.rw_sourceforms_k77_whole_discriminants).prog [0, 91]) (H := K77.hk) (ob := K77.ob) (M := 12000) (loose := K77.loose) (d := HandSHeadRun.topDef (OpenLaw.row PySem.Challenge.rw_sourceforms_k77_whole_discriminants).prog 91) (kwd := []) K77.ob_eq K77.run (by kernel_rfl) (by kernel_rfl) (by kernel_rfl) (by rfl) (by first | assumption | decide +kernel) (by decide +kernel) ⟨rfl, rfl, rfl, rfl, rfl, by decide +kernel⟩ ?hw ?hc
  case hw => w_witness2
  case hc =>
    refine LamX.walk_ofTsE (l := PySem.Challenge.rw_sourceforms_k77_whole_discriminants) (n := 63) (k := 10) (x := "_law_script") (CX := fun _ => L2.CX0) rfl (by decide) (by kernel_rfl) ⟨rfl, by decide, by decide⟩ ?F (fun _ _ _ _ _ z => z)
    intro w mg fa h Y G hmg0
    obtain ⟨K, KX, c⟩ := Y
    have hmg : mg ("law" : PySem.Str) = some (.ref fa) := by
      have e : (HandSHeadRun.topDef (OpenLaw.row PySem.Challenge.rw_sourceforms_k77_whole_discriminants).prog 91).name = ("law" : PySem.Str) := by kernel_rfl
      rw [← e]
      exact hmg0
    exact ⟨K, KX, K77.facts KX G hmg c⟩
