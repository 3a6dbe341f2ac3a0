import PyProof.Rows.All
import Wide.All
import OpenK.AllK
import Wide.FinOn
import KE.KTupSum
import HandS.ForMost
import HandS.Wide
import HandS.Style
import HandS.Gcd
import KE.KMathG
import Flt.RightSqrt
import HandS.SlotsOwn
import HandS.IsInst
import KE.KOpsOwn
import KE.KCallOwn
import KE.KOwnIter
import OpenK.KMeth
import OpenK.KOps
import PyProof.InstNe
import HandS.OwnIter
import HandS.IterNext
import HandS.Defaults
import HandS.HeadHook2
import HandS.HeadNt
import HandS.Codes
import HandS.Words
import HandS.Slots
import HandS.ClsMeth
import PyProof.ListIndex
import HandS.Iter
import KE.GoesMore
import HandS.List
import HandS.AnyAll
import HandS.ExcOwn
import KE.KDictIter
import PyProof.GenCompT
import HandS.HeadHook4
import HandS.HeadWalk
import PyProof.TupleOfGen
import HandS.TupMul
import HandS.Zip
import HandS.Comp
import KE.GoesZip
import HandS.Deep
import HandS.TupSets
import HandS.Sort
import KE.DataFind
import PyProof.MinMaxWalk
import PyProof.WalkInts
import PyProof.TupleOps
import PyProof.WalksMore
import HandS.Conv
import HandS.Star
import HandS.TupAny
import HandS.Evl
import HandS.WordsExc
import HandS.Head0
import HandS.Head1
import HandS.Head2
import HandS.Head3
import HandS.HeadEnd
import HandS.HeadHook1
import HandS.HeadHook3
import HandS.FStr
import KE.KEqSeq
import HandS.Flt
import HandS.TupLe
import PySem.Challenge.RW_sourceforms_k59_whole_powers_by_second_l

set_option Elab.async false
set_option linter.all false
set_option maxRecDepth 100000
set_option maxHeartbeats 4000000
/-! rules of mine: a tuple turned round by a slice, the sum of a tuple -/
namespace MyR
open PySem PySem.Spec PyProof.Rows L2 HT
section
variable {prog : Program} {w : World} {A : Around} {E : Value → Shared → Prop} {s : Shared}
end
section
variable {X : Cx}
/-- // by any int other than 0 -/
def CDivZ (_ j : Int) : Prop := j ≠ 0 ∧ j.natAbs.log2 < 9000
theorem op_fdivZ : OpR X (binaryOp .FloorDiv) (rI CDivZ fun i j => .int (i.fdiv j)) := opI fun i j _ _ _ _ _ hc q =>
  floordiv_int hc.1 q (.inl (PyProof.noPylong_of_log2 hc.2))
end
end MyR

set_option Elab.async false
set_option linter.all false
set_option maxRecDepth 100000
set_option maxHeartbeats 2000000
/-! rules for instances with slots: own +, -, *, unary -, ==, !=, len, str -/
namespace OwnR
open PySem PySem.Spec PyProof.Rows L2 SlX
section
variable {X : Cx} {CX : CXT} {C g : Addr} {n : Nat} {sp : Sp} {E : XK}
end
end OwnR

set_option Elab.async false
set_option linter.all false
set_option maxRecDepth 100000
set_option maxHeartbeats 2000000
/-! list(x) of an instance with own __iter__ (an iterator over a tuple) and own __len__; iter of a tuple -/
namespace OwnR
open PySem PySem.Spec PyProof.Rows L2 SlX
/-- at it an iterator over the tuple at t, the next place is i -/
def ItT (t it : Addr) (i : Nat) : HO := .ext fun h => IsTupIter h it t i
section
variable {X : Cx} {CX : CXT} {pins : List (Addr × Obj)} {σ : L2.St} {H : Hp} {s : Shared} {C g gl t it q : Addr} {n i : Nat} {sp spl : Sp} {E : XK}
/-- what stands while the iterator's items are taken -/
structure Tk (K : PySem.W.Frag) (H0 H : Hp) (t it q : Addr) (ys : List V) (i : Nat) : Prop where
  at_ : H it = some (ItT t it i)
  tu : SqT K H t ys
  li : H q = some (.lst (ys.take i))
  st : ∀ b o, b ≠ it → b ≠ q → H0 b = some o → H b = some o
end
end OwnR

set_option Elab.async false
set_option linter.all false
set_option maxRecDepth 100000
set_option maxHeartbeats 2000000
/-! a Hook that tells of defs found anywhere (a global, a class's method, a property's getter), and of classes with slots -/
namespace HookG
open PySem PySem.Spec PyProof.Rows L2 He
/-- the property f of the class at C -/
def prA (K : PySem.W.Frag) (C : Addr) (f : Str) : Addr := match PySem.W.recIn K (ma K C f) "property" with
  | some (.ref g :: _) => g
  | _ => 0
/-- where a def stands: a global; a method; a property's getter; a classmethod -/
inductive At where
  | glo (x : Str)
  | met (C m : Str)
  | prp (C f : Str)
  | cms (C m : Str)
def At.adr (K : PySem.W.Frag) : At → Addr
  | .glo x => ga K x
  | .met C m => ma K (ga K C) m
  | .prp C f => prA K (ga K C) f
  | .cms C m => He5.wf K (ga K C) "classmethod" m
structure GD where
  at_ : At
  name : Str
  qual : Str
  params : Arguments
  body : List Stmt
  scope : Scope
def fnA (K : PySem.W.Frag) (a : Addr) : FnW := match K.lookup a with
  | some ⟨_, _, .func fd, _⟩ => some (fd.name, fd.qualname, fd.params, fd.body, fd.scope, fd.globals, fd.closure, fd.builtins)
  | _ => none
def GD.val (d : GD) : FnW := some (d.name, d.qual, d.params, .stmts d.body, d.scope, mainGlobals, [], builtinsNs)
def GD.ok (K : PySem.W.Frag) (d : GD) : Bool := PySem.W.keepIn K (.ref (d.at_.adr K)) && (match K.lookup (d.at_.adr K) with
  | some ⟨_, _, .func fd, _⟩ => PySem.W.codeIn K fd.code d.qual && (dflB K fd.defaults [] && kwdB K fd.kwdefaults [])
  | _ => false)
theorem GD.funD {K : PySem.W.Frag} {d : GD} (e : fnA K (d.at_.adr K) = d.val) (c : d.ok K = true) : ∃ fd, FunD K d.name d.qual d.params d.body d.scope [] [] (d.at_.adr K) fd := by
  obtain ⟨kp, c2⟩ := ba c
  unfold fnA at e
  cases q : K.lookup (d.at_.adr K) with
  | none => rw [q] at c2; cases c2
  | some o =>
    obtain ⟨oc, od, dt, osl⟩ := o
    rw [q] at c2 e
    cases dt with
    | func fd =>
      obtain ⟨n1, n2, n3, n4, n5, n6, n7, n8, n9, n10, n11, n12, n13, n14, n15⟩ := fd
      have e2 : (some (n1, n2, n3, n4, n5, n6, n7, n15) : FnW) = some (d.name, d.qual, d.params, .stmts d.body, d.scope, mainGlobals, [], builtinsNs) := e
      simp only [Option.some.injEq, Prod.mk.injEq] at e2
      obtain ⟨h1, h2, h3, h4, h5, h6, h7, h8⟩ := e2
      subst h1 h2 h3 h4 h5 h6 h7 h8
      have c3 : (PySem.W.codeIn K n13 d.qual && (dflB K n8 [] && kwdB K n9 [])) = true := c2
      obtain ⟨k1, k2⟩ := ba c3
      obtain ⟨k3, k4⟩ := ba k2
      exact ⟨_, ⟨oc, od, n8, n9, n10, n11, n12, n13, n14, osl, rfl, q, k1, dflB_ok k3, kwdB_ok k4⟩, kp⟩
    | _ => cases c2
/-! ### facts of classes with slots -/
def dO {α : Type} [DecidableEq α] (a b : Option α) : Bool := decide (a = b)
theorem dO_ok {α : Type} [DecidableEq α] {a b : Option α} (h : dO a b = true) : a = b := of_decide_eq_true h
/-- the class at the module's name x: plain, with slots -/
def sclB (K : PySem.W.Frag) (x : Str) : Bool := PySem.W.plainGet K (ga K x) Str.empty && (PySem.W.isClsIn K (ga K x) && (PySem.W.plainOver K (ga K x) && eqO (PySem.W.findIn K (.ref (ga K x)) "__setattr__") (some (some (.builtin "object.__setattr__")))))
theorem sclB_ok {K : PySem.W.Frag} {x : Str} (h : sclB K x = true) : SlX.SCls K (ga K x) := by
  obtain ⟨c1, c⟩ := ba h
  obtain ⟨c2, c⟩ := ba c
  obtain ⟨c3, c4⟩ := ba c
  exact ⟨c1, c2, c3, eqO_ok c4⟩
def slotB (K : PySem.W.Frag) (x f : Str) (i : Nat) : Bool := eqO (PySem.W.findIn K (.ref (ga K x)) f) (some (some (.ref (ma K (ga K x) f)))) && (eqO (PySem.W.specialIn K (.ref (ma K (ga K x) f)) "__get__") (some (some (.builtin "member_descriptor.__get__"))) && (dO (PySem.W.takesIn K (.ref (ma K (ga K x) f))) (some true) && (dO (PySem.W.typeIn K (.ref (ma K (ga K x) f))) (some (.type "member_descriptor")) && dO (PySem.W.slotIn K (ma K (ga K x) f) (ga K x)) (some i))))
theorem slotB_ok {K : PySem.W.Frag} {x f : Str} {i : Nat} (h : slotB K x f i = true) (hi : i < 1000) : SlX.Slot1 K (ga K x) f (ma K (ga K x) f) i := by
  obtain ⟨c1, c⟩ := ba h
  obtain ⟨c2, c⟩ := ba c
  obtain ⟨c3, c⟩ := ba c
  obtain ⟨c4, c5⟩ := ba c
  exact ⟨eqO_ok c1, eqO_ok c2, dO_ok c3, dO_ok c4, dO_ok c5, hi⟩
def sisB (K : PySem.W.Frag) (x : Str) : Bool := eqO (PySem.W.findIn K (.ref (ga K x)) "__class__") (some (some (.builtin "object.__class__"))) && (eqO (PySem.W.specialIn K (.builtin "object.__class__") "__get__") (some (some (.builtin "getset_descriptor.__get__"))) && (dO (PySem.W.takesIn K (.builtin "object.__class__")) (some true) && dO (PySem.W.mroIn K (ga K x) (.type "object")) (some true)))
theorem sisB_ok {K : PySem.W.Frag} {x : Str} (h : sisB K x = true) : SlX.SIsi K (ga K x) := by
  obtain ⟨c1, c⟩ := ba h
  obtain ⟨c2, c⟩ := ba c
  obtain ⟨c3, c4⟩ := ba c
  exact ⟨eqO_ok c1, eqO_ok c2, dO_ok c3, dO_ok c4⟩
/-- a method: found in the class, a function -/
structure Mt (K : PySem.W.Frag) (C : Addr) (m : Str) (g : Addr) : Prop where
  at_ : PySem.W.findIn K (.ref C) m = some (some (.ref g))
  fn : PySem.W.isFn K (.ref g) = true
def mtB (K : PySem.W.Frag) (x m : Str) : Bool := eqO (PySem.W.findIn K (.ref (ga K x)) m) (some (some (.ref (ma K (ga K x) m)))) && PySem.W.isFn K (.ref (ma K (ga K x) m))
theorem mtB_ok {K : PySem.W.Frag} {x m : Str} (h : mtB K x m = true) : Mt K (ga K x) m (ma K (ga K x) m) := by
  obtain ⟨c1, c2⟩ := ba h
  exact ⟨eqO_ok c1, c2⟩
/-- a property, its getter at g -/
structure Pr (K : PySem.W.Frag) (C : Addr) (f : Str) (p g : Addr) : Prop where
  at_ : PySem.W.findIn K (.ref C) f = some (some (.ref p))
  get : PySem.W.specialIn K (.ref p) "__get__" = some (some (.builtin "property.__get__"))
  tk : PySem.W.takesIn K (.ref p) = some true
  rc : ∃ rest, PySem.W.recIn K p "property" = some (.ref g :: rest)
def recB (K : PySem.W.Frag) (p g : Addr) : Bool := match PySem.W.recIn K p "property" with
  | some (.ref a :: _) => decide (a = g)
  | _ => false
def prB (K : PySem.W.Frag) (x f : Str) : Bool := eqO (PySem.W.findIn K (.ref (ga K x)) f) (some (some (.ref (ma K (ga K x) f)))) && (eqO (PySem.W.specialIn K (.ref (ma K (ga K x) f)) "__get__") (some (some (.builtin "property.__get__"))) && (dO (PySem.W.takesIn K (.ref (ma K (ga K x) f))) (some true) && recB K (ma K (ga K x) f) (prA K (ga K x) f)))
theorem prB_ok {K : PySem.W.Frag} {x f : Str} (h : prB K x f = true) : Pr K (ga K x) f (ma K (ga K x) f) (prA K (ga K x) f) := by
  obtain ⟨c1, c⟩ := ba h
  obtain ⟨c2, c⟩ := ba c
  obtain ⟨c3, c4⟩ := ba c
  refine ⟨eqO_ok c1, eqO_ok c2, dO_ok c3, ?_⟩
  unfold recB at c4
  cases q : PySem.W.recIn K (ma K (ga K x) f) "property" with
  | none => rw [q] at c4; cases c4
  | some l =>
    rw [q] at c4
    cases l with
    | nil => cases c4
    | cons a r =>
      cases a with
      | ref b =>
        have e : b = prA K (ga K x) f := of_decide_eq_true c4
        rw [← e]
        exact ⟨r, rfl⟩
      | _ => cases c4
/-! ### the Hook -/
abbrev AlG : Type := Bool × List FnW
def obsG (fa : List Fa) (fn : List GD) (ex : PySem.W.Frag → Bool) (K : PySem.W.Frag) : AlG := ((fa.all fun f => f.ok K) && ((fn.all fun d => d.ok K) && ex K), fn.map fun d => fnA K (d.at_.adr K))
def valG (fn : List GD) : AlG := (true, fn.map GD.val)
def SaysG (fa : List Fa) (fn : List GD) (ex : PySem.W.Frag → Bool) (K : PySem.W.Frag) : Prop := obsG fa fn ex K = valG fn
section
variable {fa : List Fa} {fn : List GD} {ex : PySem.W.Frag → Bool} {K : PySem.W.Frag}
theorem SaysG.all (c : SaysG fa fn ex K) : ((fa.all fun f => f.ok K) && ((fn.all fun d => d.ok K) && ex K)) = true := congrArg (fun z : AlG => z.1) c
theorem SaysG.fact (c : SaysG fa fn ex K) (i : Nat) {f : Fa} (h : fa[i]? = some f := by rfl) : f.ok K = true := List.all_eq_true.mp (ba c.all).1 f (List.mem_of_getElem? h)
theorem SaysG.more (c : SaysG fa fn ex K) : ex K = true := (ba (ba c.all).2).2
theorem SaysG.def_ (c : SaysG fa fn ex K) (i : Nat) {d : GD} (h : fn[i]? = some d := by rfl) : ∃ fd, FunD K d.name d.qual d.params d.body d.scope [] [] (d.at_.adr K) fd := by
  have c2 := (ba (ba c.all).2).1
  have e : fn.map (fun d => fnA K (d.at_.adr K)) = fn.map GD.val := congrArg (fun z : AlG => z.2) c
  have e2 : (fn.map fun d => fnA K (d.at_.adr K))[i]? = (fn.map GD.val)[i]? := by rw [e]
  rw [List.getElem?_map, List.getElem?_map, h] at e2
  exact GD.funD (Option.some.inj e2) (List.all_eq_true.mp c2 d (List.mem_of_getElem? h))
end
end HookG

set_option Elab.async false
set_option linter.all false
set_option maxRecDepth 100000
set_option maxHeartbeats 2000000
/-! the rules of OwnR, OwnL, over the facts of HookG -/
namespace OwnF
open PySem PySem.Spec PyProof.Rows L2 He SlX OwnR HookG
/-- what is asked of a class with slots -/
structure OC (K : PySem.W.Frag) (C : Addr) : Prop where
  scl : SCls K C
  sis : SIsi K C
  first : PySem.W.selfFirst K C = true
  ne : PySem.W.findIn K (.ref C) "__ne__" = some (some (.builtin "object.__ne__"))
  ntup : PySem.W.notFirst K C (.type "tuple") = true
  rmul : PySem.W.findIn K (.ref C) "__rmul__" = some none
  imul : PySem.W.findIn K (.type "int") "__mul__" = some (some (.builtin "int.__mul__"))
  irmul : PySem.W.findIn K (.type "int") "__rmul__" = some (some (.builtin "int.__rmul__"))
  isub : PySem.W.subIn K (.type "int") (.ref C) = some false
  kself : PySem.W.kitOne K (.ref C) (.ref C) = some true
  ktup : PySem.W.kitOne K (.type "tuple") (.ref C) = some false
  kint : PySem.W.kitOne K (.type "int") (.ref C) = some false
def ocB (K : PySem.W.Frag) (x : Str) : Bool := sclB K x && (sisB K x && (PySem.W.selfFirst K (ga K x) && (eqO (PySem.W.findIn K (.ref (ga K x)) "__ne__") (some (some (.builtin "object.__ne__"))) && (PySem.W.notFirst K (ga K x) (.type "tuple") && (eqO (PySem.W.findIn K (.ref (ga K x)) "__rmul__") (some none) && (eqO (PySem.W.findIn K (.type "int") "__mul__") (some (some (.builtin "int.__mul__"))) && (eqO (PySem.W.findIn K (.type "int") "__rmul__") (some (some (.builtin "int.__rmul__"))) && (dO (PySem.W.subIn K (.type "int") (.ref (ga K x))) (some false) && (dO (PySem.W.kitOne K (.ref (ga K x)) (.ref (ga K x))) (some true) && (dO (PySem.W.kitOne K (.type "tuple") (.ref (ga K x))) (some false) && dO (PySem.W.kitOne K (.type "int") (.ref (ga K x))) (some false)))))))))))
theorem ocB_ok {K : PySem.W.Frag} {x : Str} (h : ocB K x = true) : OC K (ga K x) := by
  obtain ⟨c1, c⟩ := ba h
  obtain ⟨c2, c⟩ := ba c
  obtain ⟨c3, c⟩ := ba c
  obtain ⟨c4, c⟩ := ba c
  obtain ⟨c5, c⟩ := ba c
  obtain ⟨c6, c⟩ := ba c
  obtain ⟨c7, c⟩ := ba c
  obtain ⟨c8, c⟩ := ba c
  obtain ⟨c9, c⟩ := ba c
  obtain ⟨c10, c⟩ := ba c
  obtain ⟨c11, c12⟩ := ba c
  exact ⟨sclB_ok c1, sisB_ok c2, c3, eqO_ok c4, c5, eqO_ok c6, eqO_ok c7, eqO_ok c8, dO_ok c9, dO_ok c10, dO_ok c11, dO_ok c12⟩
theorem raw0 {P : Program} {w : World} {K : PySem.W.Frag} {mg : Str → Option Value} {base : Heap} {CX : CXT} {k : Nat} {f : Addr} {sp : Sp} {fd : FuncData} {ps : List Str} (F : FnOk P w K mg base CX k f fd ps sp) (hb : Binds K fd ps []) : FnR P w K mg base CX k f sp :=
  (F.raw hb .nil).imp fun vs H Q E h => by rw [List.append_nil]; exact h
section
variable {X : Cx} {C g gl pp : Addr} {n : Nat} {sp spl : Sp} {fd fdl : FuncData} {ps psl : List Str} {f : Str} {e : Expr} {pos : Pos} {ta : TE}
theorem hx0 : ∀ (H : Hp) (s : Shared) (e : Value) (s' : Shared), CX0 X.stack H s E0 e s' → False := fun _ _ _ _ h => h
theorem pe_prp (he : PE X e ta) (c : OC X.K C) (p : Pr X.K C f pp g) (F : FnOk X.prog X.w X.K X.mg X.base CX0 n g fd ps sp) (hb : Binds X.K fd ps []) (hr : Room (n + 1) X.A) (hb2 : attributeBase e f X.env (eval e X.env) = eval e X.env := by rfl) : PE X (.Attribute e f pos) (tPropSl C sp E0 ta) :=
  pe_propSl he c.scl p.at_ p.get p.tk p.rc (raw0 F hb) hr hx0 hb2
theorem iter_anyT {prog : Program} {w : World} {A : Around} {E : Value → Shared → Prop} {s : Shared} {l : Addr} {items : Array Value} {Q : Value → Shared → Prop} (hl : s.heap.IsTuple l items)
    (h : ∀ s₂ : Shared, s₂ = { s with heap := s.heap.push { cls := .type "tuple_iterator", data := .fields #[.ref l, .int 0 0] } } →
      (s₂.heap.IsTupleIter s.heap.objs.size l 0 ∧ s₂.heap.IsTuple l items) → l ≠ s.heap.objs.size → Q (.ref s.heap.objs.size) s₂) : wpAny (model prog w) A (pyIter (.ref l)) Q E s := by
  have hlt : l < s.heap.objs.size := by obtain ⟨_, e, _⟩ := hl; exact Heap.lt_size e
  exact wpAny_pyIter_tuple hl (h _ rfl ⟨⟨_, Heap.get?_push_size _ rfl, rfl, rfl⟩, hl.push _⟩ (Nat.ne_of_lt hlt))
theorem truth_ints {prog : Program} {w : World} {A : Around} {ns : List Int} {its : List Value} (r : Vals (ns.map V.int) its) :
    TruthOf prog w A (fun i v => its.toArray[i]? = some v) (fun i => ns.getD i 0 != 0) := fun i v s Q E hv hq => by
  have hv' : its[i]? = some v := by simpa using hv
  have hlen := r.length
  rw [List.length_map] at hlen
  have hlt : i < ns.length := by
    have := (List.getElem?_eq_some_iff.mp hv').1
    omega
  obtain ⟨u, hu, t, ru⟩ := r.get (show (ns.map V.int)[i]? = some (.int ns[i]) by rw [List.getElem?_map, List.getElem?_eq_getElem hlt]; rfl)
  rw [hv'] at hu
  cases hu
  subst ru
  have hg : ns.getD i 0 = ns[i] := by rw [List.getD_eq_getElem?_getD, List.getElem?_eq_getElem hlt] <;> rfl
  have hq' : Q (ns.getD i 0 != 0) s := hq
  rw [hg] at hq'
  exact truthy_int hq'
theorem any_rangeI : ∀ ns : List Int, (List.range ns.length).any (fun i => ns.getD i 0 != 0) = ns.any (· != 0)
  | [] => rfl
  | b :: bs => by
    rw [List.length_cons, List.range_succ_eq_map, List.any_cons, List.any_map, List.any_cons, ← any_rangeI bs]
    all_goals rfl
/-- any of a tuple of ints -/
def rAnyTI (K : PySem.W.Frag) : List V → Hp → VK → Prop := fun vs H Q => ∃ (a : Addr) (ns : List Int), vs = [V.ref a] ∧ SqT K H a (ns.map V.int) ∧ Q (.bl (ns.any (· != 0))) H
theorem cr_anyTI (hc : X.calm = true) : CallR X (.builtin "any") (rAnyTI X.K) := by
  intro pins s σ H vs us Q I r h
  obtain ⟨a, ns, rfl, hs, q⟩ := h
  obtain ⟨its, rv, hl, _⟩ := I.tuple hs
  rw [Vals.ref1 r]
  have hlen := rv.length
  rw [List.length_map] at hlen
  refine call_any_walk (iter_anyT (show s.heap.IsTuple a its.toArray from hl) fun s₂ e2 st hne => ?_)
  subst e2
  refine ⟨_, _, _, _, _, _, _, rfl, Walks.tuple (A := X.A.in1) (I.ok.hd hc) _ a hne its.toArray, st, truth_ints rv, fun h' tk hk => ?_⟩
  refine ⟨.bl _, H, I.kept fun b o eo => hk b o (fun hmem => ?_) (Heap.get?_push_of_some _ eo), ?_, q⟩
  · rcases List.mem_cons.mp hmem with e1 | hmem
    · exact absurd (e1 ▸ Heap.lt_size eo) (Nat.lt_irrefl _)
    · cases hmem
  · show Value.bool _ = Value.bool _
    rw [← any_rangeI, List.size_toArray, ← hlen]
/-- repr of a bool -/
theorem call_reprB : CallR X (.builtin "repr") (fun xs H Q => ∃ b : Bool, xs = [.bl b] ∧ Q (.str (if b then "True" else "False")) H) := by
  intro pins s σ H xs us Q I r h
  obtain ⟨b, rfl, q⟩ := h
  obtain ⟨u, rfl, ru⟩ := r.one
  cases (show u = Value.bool b from ru)
  exact PySem.P.repr_of_bool ⟨.str _, H, I.tok _, ⟨_, rfl⟩, q⟩
/-- isinstance(x, C): x of a plain type, or an instance -/
theorem call_isiF (C : Addr) : CallR X (.builtin "isinstance") (fun xs H Q => rIsi X.K xs H Q ∨ rIsiSl X.K (.ref C) xs H Q) := call_isi.or (call_isiSl (.ref C))
end
end OwnF

set_option Elab.async false
set_option linter.all false
set_option maxRecDepth 100000
set_option maxHeartbeats 2000000
/-! a method of an instance with slots -/
namespace OwnF
open PySem PySem.Spec PyProof.Rows L2 He SlX OwnR HookG
section
variable {X : Cx} {C g : Addr} {n : Nat} {sp : Sp} {fd : FuncData} {ps : List Str} {o e : Expr} {es : List Expr} {x : Str} {pos apos : Pos} {ta : TE} {t : TA}
end
end OwnF

set_option Elab.async false
set_option linter.all false
set_option maxRecDepth 100000
set_option maxHeartbeats 2000000
/-! classmethods, classes in local names, xs[i] op= e -/
namespace OwnC
open PySem PySem.Spec PyProof.Rows L2 He SlX OwnR HookG OwnF
/-- C.m is a classmethod: its record at p, its def at g -/
structure Cm (K : PySem.W.Frag) (C : Addr) (m : Str) (p g : Addr) : Prop where
  rd : ClX.CRead K C (.type "type")
  cm : ClX.CMet K C (.type "type") m p g
section
variable {X : Cx} {C p g f : Addr} {n i : Nat} {sp : Sp} {fd : FuncData} {ps : List Str} {o e : Expr} {es : List Expr} {m x : Str} {pos apos pp : Pos} {ta : TE} {t : TA}
/-- xs[i], read for xs[i] op= e -/
def rGetL (K : PySem.W.Frag) : R2 := fun x y H Q => ∃ a xs j v, x = .ref a ∧ y = .int ((j : Nat) : Int) ∧ SqL K H a xs ∧ xs[j]? = some v ∧ Q v H
theorem get_list : PGet X (rGetL X.K) := by
  intro pins s σ H x y v u Q I rx ry h
  obtain ⟨a, xs, j, z, rfl, rfl, hq, he, q⟩ := h
  cases rx
  obtain ⟨t, rfl⟩ := ry
  obtain ⟨its, r, pl, hz⟩ := I.list hq
  obtain ⟨w, ew, rw'⟩ := r.get he
  have hl := r.length
  have hn := line63
  have hj : j < xs.length := (List.getElem?_eq_some_iff.mp he).1
  exact wpAny_getItem_list pl.isList (by omega) (by omega) (x := w) (by rw [Int.toNat_natCast]; simpa using ew) ⟨z, H, I, rw', q⟩
end
end OwnC

set_option Elab.async false
set_option linter.all false
set_option maxRecDepth 100000
set_option maxHeartbeats 2000000
/-! enumerate(t), t a tuple -/
namespace EnumT
open PySem PySem.Spec PyProof.Rows L2
open AutoSeq1 (wpAny_loadPart')
theorem meets_newT (l : Addr) (items : Array Value) (n : Nat) (dct : Option Addr) (sl : Array (Option Value)) :
    Meets (Builtin.«enumerate.__new__» ⟨[.type "enumerate", .ref l], []⟩) (fun _ R s => s.heap.get? l = some { cls := .type "tuple", dict := dct, data := .seq items n, slots := sl } ∧
      R (.ok (.ret (.ref (s.heap.push { cls := .type "tuple_iterator", data := .fields #[.ref l, .int 0 0] }).objs.size)))
        { s with heap := (s.heap.push { cls := .type "tuple_iterator", data := .fields #[.ref l, .int 0 0] }).push { cls := .type "enumerate", data := .fields #[.none, .bool false, .ref s.heap.objs.size, rawInt 0, .none, .none] } }) :=
  .of_wp fun prog w A R s h => by
    obtain ⟨hp, g, d, tk, os⟩ := s; obtain ⟨hl, h⟩ := h
    have hsub := sub_enumerate
    have hL : Heap.IsTuple (Shared.heap ⟨hp, g, d, tk, os⟩) l items := ⟨_, hl, rfl, n, rfl⟩
    wp_walk using wpAny_loadPart' hl
    refine wpAny_stack_any fun st => wpAny_pure ?_
    split
    · rename_i c _ _ _ _ _
      cases (c == Value.type "enumerate")
      · wp_walk using wpAny_loadPart' hl, wpAny_pyIter_tuple hL
        exact ⟨_, rfl, h⟩
      · wp_walk using wpAny_loadPart' hl, wpAny_pyIter_tuple hL
        exact ⟨_, rfl, h⟩
    · wp_walk using wpAny_loadPart' hl, wpAny_pyIter_tuple hL
      exact ⟨_, rfl, h⟩
section
variable {prog : Program} {w : World} {A : Around} {E : Value → Shared → Prop} {s : Shared}
theorem call_enumT {l : Addr} {items : Array Value} {Q : Value → Shared → Prop} (hL : s.heap.IsTuple l items)
    (h : ∀ h', IsEnum h' (s.heap.objs.size + 1) s.heap.objs.size 0 .none → h'.IsTupleIter s.heap.objs.size l 0 → h'.objs.size = s.heap.objs.size + 2 →
      (∀ b o, s.heap.get? b = some o → h'.get? b = some o) → Q (.ref (s.heap.objs.size + 1)) { s with heap := h' }) :
    wpAny (model prog w) A (call (.type "enumerate") [.ref l]) Q E s := by
  obtain ⟨⟨c, dct, dt, sl⟩, hl, hc, n, hd⟩ := hL
  replace hc : c = .type "tuple" := hc
  replace hd : dt = .seq items n := hd
  subst hc hd
  refine callType_new F.called_enumerate (by decide) (F.typeCall_enumerate_1 _) (F.newCall_enumerate_1 _) (fun obj => F.args_object_init_2 obj _) F.entry_enumerate_new
    (meets_newT l items n dct sl) ⟨hl, ?_⟩
  have hz : (s.heap.push { cls := .type "tuple_iterator", data := .fields #[.ref l, .int 0 0] }).objs.size = s.heap.objs.size + 1 := Heap.size_push ..
  show _ ∧ _
  rw [hz]
  have he : IsEnum ((s.heap.push { cls := .type "tuple_iterator", data := .fields #[.ref l, .int 0 0] }).push
      { cls := .type "enumerate", data := .fields #[.none, .bool false, .ref s.heap.objs.size, rawInt 0, .none, .none] }) (s.heap.objs.size + 1) s.heap.objs.size 0 .none := by
    have := Heap.get?_push_size (s.heap.push { cls := .type "tuple_iterator", data := .fields #[.ref l, .int 0 0] })
      (o := { cls := .type "enumerate", data := .fields #[.none, .bool false, .ref s.heap.objs.size, rawInt 0, .none, .none] }) rfl
    rw [hz] at this; exact this
  refine ⟨⟨_, he, rfl⟩, h _ he ⟨_, Heap.get?_push_of_some _ (Heap.get?_push_size _ rfl), rfl, rfl⟩ (by rw [Heap.size_push, hz]) fun b o x => Heap.get?_push_of_some _ (Heap.get?_push_of_some _ x)⟩
end
/-- the tuple at a, each item in a new pair -/
def IteT (K : PySem.W.Frag) (a : Addr) : It :=
  ⟨fun i H => ∃ (xs : List V) (x : V), SqT K H a xs ∧ xs[i]? = some x, fun i H v H' => ∃ T x, v = .ref T ∧ H T = none ∧ H' = upd H T (.tup [.int (i : Nat), x]) ∧ ∀ xs, SqT K H a xs → xs[i]? = some x, fun i H => ∃ xs : List V, SqT K H a xs ∧ xs.length = i⟩
theorem turn_enumT {P : Program} {w : World} {K : PySem.W.Frag} {elts : List Expr} {kk : Nat} {tpos : Pos} (a e it : Addr) (hait : a ≠ it) (hae : a ≠ e) :
    Turn P w K (.Tuple elts kk tpos) (IteT K a) [e, it] e (fun i h => (∃ old, IsEnum h e it ((i : Nat) : Int) old) ∧ h.IsTupleIter it a i ∧ e ≠ it) where
  mem := by simp
  obj := fun i h st b hb => by
    obtain ⟨⟨old, he⟩, ⟨o, ho, hc, hd⟩, _⟩ := st
    have e' : b = e ∨ b = it := by simpa using hb
    rcases e' with z | z
    · rw [z]; exact ⟨_, he, fun v q => nomatch q⟩
    · rw [z]; exact ⟨o, ho, fun v q => by rw [hd] at q; cases q⟩
  keep := fun i h h' st k => let ⟨⟨old, he⟩, hi, hne⟩ := st; ⟨⟨old, k e (by simp) _ he⟩, hi.at fun o q => k it (by simp) o q, hne⟩
  item := by
    intro X hP hw hK hc i pins s σ H E I hf st hg
    subst hP hw hK
    obtain ⟨⟨old, he⟩, hit, hne⟩ := st
    obtain ⟨xs, x, hq, hx⟩ := hg
    obtain ⟨its, rv, p, hz⟩ := I.tuple hq
    obtain ⟨u, hu, ru⟩ := rv.get hx
    have hel : e < s.heap.objs.size := Heap.lt_size he
    have hil : it < s.heap.objs.size := by obtain ⟨_, q, _⟩ := hit; exact Heap.lt_size q
    have pT : s.heap.IsTuple a its.toArray := p
    have hlt : i < its.toArray.size := by
      have := (List.getElem?_eq_some_iff.mp hu).1
      simpa using this
    refine wpAny_pyNext_enum_itemD (Draws.tuple (A := X.A.in1) (I.ok.hd hc) it a hait its.toArray) he ⟨hit, pT⟩ hlt hne (by simp [Ne.symm hae, hne]) fun x' h' tk hx' ho hit' hT hsz hk => ?_
    have hux : x' = u := by
      have h1 : its[i]? = some x' := by simpa using hx'
      rw [hu] at h1
      exact (Option.some.inj h1).symm
    subst hux
    refine ⟨_, rfl, wpAny_letOwnedTupleGo_enum (s := { s with heap := h', toks := tk + 1 }) ho fun h'' he' sb => ?_⟩
    have hT2 : h''.get? s.heap.objs.size = some { cls := .type "tuple", data := .seq #[.int i tk, x'] } := (sb.2 _ (Nat.ne_of_gt hel)).trans hT
    have new : ObjOk X.prog X.w (upd H s.heap.objs.size (.tup [.int (i : Nat), x])) h'' s.heap.objs.size (.tup [.int (i : Nat), x]) :=
      ⟨by show 2 ≤ sizeLine; decide, [.int i tk, x'], .cons ⟨_, rfl⟩ (.cons ru .nil), ⟨_, hT2, rfl, _, rfl⟩⟩
    have I1 : Inv X pins σ (upd H s.heap.objs.size (.tup [.int (i : Nat), x])) { s with heap := h'', toks := tk + 1 } :=
      I.turnedNew (ch := [e, it]) (fun b ob hb q => (sb.2 b (fun z => hb (by simp [z]))).trans (hk b ob (fun z => hb (by simp [z])) (fun z => hb (by simp [z])) q)) hf (Nat.le_refl _) new
    refine ⟨.ref s.heap.objs.size, _, I1, rfl, ⟨_, x, rfl, I.hok.fresh (Nat.le_refl _), rfl, fun ys hy => ?_⟩, ⟨⟨x', ?_⟩, hit'.1.at fun o q => (sb.2 it (Ne.symm hne)).trans q, hne⟩, fun b hb => ?_⟩
    · rw [show ys = xs from I.tuple_inj hy hq]
      exact hx
    · have e1 : ((i + 1 : Nat) : Int) = (i : Int) + 1 := by omega
      rw [e1]; exact he'
    · have hb' : b < s.heap.objs.size := by
        have e' : b = e ∨ b = it := by simpa using hb
        rcases e' with z | z
        · rw [z]; exact hel
        · rw [z]; exact hil
      rw [upd_ne (Nat.ne_of_lt hb')]
      exact (hf b hb).1
  done := by
    intro X hP hw hK hc i pins s σ H E I hf st hg
    subst hP hw hK
    obtain ⟨⟨old, he⟩, hit, hne⟩ := st
    obtain ⟨xs, hq, hx⟩ := hg
    obtain ⟨its, rv, p, hz⟩ := I.tuple hq
    obtain ⟨f0, f1, f2, f3, f4, f5⟩ := hf it (by simp)
    have hl := rv.length
    have hz2 : i = its.toArray.size := by rw [List.size_toArray]; omega
    subst hz2
    exact wpAny_pyNext_enum_endD (Draws.tuple (A := X.A.in1) (I.ok.hd hc) it a hait its.toArray) he ⟨hit, show s.heap.IsTuple a its.toArray from p⟩ fun h' eb => ⟨rfl, I.turned (t' := s.toks) (fun b o hb q => eb b o hb q) f0 f1 f3 f4 f5⟩
  self := fun A i s Q E st h => let ⟨⟨_, he⟩, _⟩ := st; wpAny_pyIter_enum he h
def iEnumT (K : PySem.W.Frag) (ta : TA) : TI := fun σ H R => ta σ H fun vs H1 => ∃ a xs, vs = [.ref a] ∧ SqT K H1 a xs ∧ R (IteT K a) H1
theorem pi_enumT {X : Cx} {e : Expr} {ta : TA} {p pos tpos : Pos} {elts : List Expr} {kk : Nat} (hg : Gl X "enumerate") (hm : X.mg "enumerate" = none) (ha : PA X [e] ta) (hs : starEach [e] X.env = [(false, eval e X.env)] := by rfl) :
    PI X (.Tuple elts kk tpos) (.Call (.Name "enumerate" p) [e] [] pos) (iEnumT X.K ta) := by
  refine ⟨fun pins s σ H R I h => ?_⟩
  refine Call_ (ld_blt I hg hm boot_enumerate (PyProof.Rows.callWith_type1 (thn (ha.run pos pins s σ H _ I h) fun us s1 ⟨vs, H1, I1, r1, q1⟩ => ?_) hs rfl))
  obtain ⟨a, xs, ex, hq, q⟩ := q1
  subst ex
  cases r1 with
  | cons r rr =>
    cases rr
    cases r
    obtain ⟨its, rv, p', hz⟩ := I1.tuple hq
    have hlt : a < s1.heap.objs.size := by obtain ⟨_, ho, _⟩ := p'; exact Heap.lt_size ho
    refine call_enumT (show s1.heap.IsTuple a its.toArray from p') fun h' he hit hsz hk => wpAny_pyIter_enum he ?_
    have I2 : Inv X pins σ H1 { s1 with heap := h' } := I1.kept (t' := s1.toks) hk
    refine ⟨s1.heap.objs.size + 1, [s1.heap.objs.size + 1, s1.heap.objs.size], _, _, H1, rfl, I2, turn_enumT a (s1.heap.objs.size + 1) s1.heap.objs.size (Nat.ne_of_lt hlt) (Nat.ne_of_lt (Nat.lt_succ_of_lt hlt)), ⟨⟨.none, he⟩, hit, Nat.succ_ne_self _⟩, fun b hb => ?_, q⟩
    have e' : b = s1.heap.objs.size + 1 ∨ b = s1.heap.objs.size := by simpa using hb
    have hle : s1.heap.objs.size ≤ b := by
      rcases e' with z | z
      · rw [z]; exact Nat.le_add_right _ _
      · rw [z]; exact Nat.le_refl _
    exact I1.fpOk hle (I1.hok.fresh hle)
/-- a loop over enumerate of a tuple -/
theorem for_enumT {K : PySem.W.Frag} {a : Addr} {xs : List V} {g : TG} {tb : TS} {D : Ends} {σ : L2.St} {H : Hp} (Pv : Nat → L2.St → Hp → Prop) (h0 : Pv 0 σ H) (hq : ∀ i σ H, Pv i σ H → SqT K H a xs)
    (hs : ∀ (i : Nat) (x : V) (T : Addr) (σ : L2.St) (H : Hp), xs[i]? = some x → Pv i σ H → H T = none → g (.ref T) σ (upd H T (.tup [.int (i : Nat), x])) fun σ2 H2 => tb { D with nx := Pv (i + 1), ct := Pv (i + 1), bk := D.nx } σ2 H2) (hd : ∀ σ H, Pv xs.length σ H → D.nx σ H) :
    ∃ W : Nat → Nat → L2.St → Hp → Prop, (∃ m, W 0 m σ H) ∧ ∀ i m σ H, W i m σ H →
      ((IteT K a).stop i H ∧ D.nx σ H) ∨ ((IteT K a).go i H ∧ ∃ N : L2.St → Hp → Prop, (∀ σ' H', N σ' H' → ∃ m', m' < m ∧ W (i + 1) m' σ' H') ∧ ∀ v H', (IteT K a).yld i H v H' → g v σ H' fun σ2 H2 => tb { D with nx := N, ct := N, bk := D.nx } σ2 H2) := by
  refine ⟨fun i m σ H => m = xs.length - i ∧ i ≤ xs.length ∧ Pv i σ H, ⟨xs.length, rfl, Nat.zero_le _, h0⟩, ?_⟩
  rintro i m σ H ⟨rfl, hi, p⟩
  have qx := hq i σ H p
  by_cases hlt : i < xs.length
  · have hx : xs[i]? = some xs[i] := List.getElem?_eq_getElem hlt
    refine .inr ⟨⟨xs, _, qx, hx⟩, Pv (i + 1), fun σ' H' p' => ⟨xs.length - (i + 1), by omega, rfl, hlt, p'⟩, fun v H' y => ?_⟩
    obtain ⟨T, x', rfl, hT, rfl, f1⟩ := y
    exact hs i x' T σ H (f1 xs qx) p hT
  · have e : i = xs.length := by omega
    subst e
    exact .inl ⟨⟨xs, qx, rfl⟩, hd σ H p⟩
end EnumT

set_option Elab.async false
set_option linter.all false
set_option maxRecDepth 100000
set_option maxHeartbeats 2000000
/-! sequences that may be a list or a tuple: len, index, enumerate -/
namespace SeqE
open PySem PySem.Spec PyProof.Rows L2
/-- at a a list or a tuple with these items -/
def Sq (H : Hp) (a : Addr) (xs : List V) : Prop := H a = some (.tup xs) ∨ H a = some (.lst xs)
theorem Sq.same {H H' : Hp} {a : Addr} {xs : List V} (h : Sq H a xs) (s : Same H H') : Sq H' a xs := h.elim (fun e => .inl (s _ _ e)) fun e => .inr (s _ _ e)
theorem Sq.upd {H : Hp} {a p : Addr} {o : HO} {xs : List V} (h : Sq H a xs) (hp : H p = none) : Sq (upd H p o) a xs := by
  refine h.elim (fun e => .inl ?_) fun e => .inr ?_ <;> rw [upd_ne (ne_of_none e hp)] <;> exact e
theorem PI_or {X : Cx} {tg it : Expr} {t1 t2 : TI} (h1 : PI X tg it t1) (h2 : PI X tg it t2) : PI X tg it (fun σ H R => t1 σ H R ∨ t2 σ H R) :=
  ⟨fun pins s σ H R I h => h.elim (h1.run pins s σ H R I) (h2.run pins s σ H R I)⟩
end SeqE

set_option Elab.async false
set_option linter.all false
set_option maxRecDepth 100000
set_option maxHeartbeats 2000000
/-! next(.. for .. in .. if .., default) -/
namespace GenNx
open PySem PySem.Spec PyProof.Rows L2 GxR EnumT
section
variable {prog : Program} {w : World} {A : Around} {E : Value → Shared → Prop} {s : Shared} {I : Addr} {fp wr : List Addr} {G : Array GenState → Array GenState → Prop} {n : Nat} {Pv : Nat → Value → Prop} {St : Nat → Shared → Prop}
/-- next(generator, default): the first item, or the default -/
theorem call_next_walkS {d : Value} {Q : Value → Shared → Prop} (W : WalksS prog w A.in1 I fp wr G n Pv St) (hT : s.TypeIs (.ref I) "generator") (st : St 0 s)
    (h1 : ∀ v s', 0 < n → Pv 0 v → Moved wr G s s' → Q v s') (h2 : ∀ s', n = 0 → Moved wr G s s' → Q d s') : wpAny (model prog w) A (call (.builtin "next") [.ref I, d]) Q E s := by
  refine Calls.call_function_entry (by decide +kernel) (by decide +kernel) PySem.W.kdk_entry_next (PySem.W.kdk_args_next2 _ _) ?_
  unfold Builtin.«next»
  refine wpAny_bind (m := someArgs "next" 1 2 _) (wpAny_of_eq (a := [Value.ref I, d]) (by first | rfl | kernel_rfl!) ?_)
  dsimp only
  refine wpAny_bind (wpAny_specialOf (name := Str.ofString "__next__") hT slot_gen_next.lookup ?_)
  refine wpAny_ite_split (fun hab => absurd hab (by decide)) (fun _ => ?_)
  by_cases hn : 0 < n
  · refine wpAny_bind (W.item 0 _ _ _ hn st fun v s' hv _ hm => ?_)
    exact wpAny_pure ⟨_, rfl, h1 v s' hn hv hm⟩
  · have e : n = 0 := by omega
    refine wpAny_bind (W.done _ _ _ (by rw [e]; exact st) fun s' hm => ?_)
    exact wpAny_pure ⟨_, rfl, h2 s' e hm⟩
end
/-- the generator expression's own scope: its names xa, xb -/
structure GenS2 (env : Env) (scope : Scope) (xa xb : Str) : Prop where
  kind : scope.kind = .function
  co : scope.isCoroutine = false
  cell : ∀ y ∈ scope.names, y.2 ≠ .cell
  dot : scope.names.lookup (".0" : Str) = some NameKind.local
  la : scope.names.lookup xa = some .local
  lb : scope.names.lookup xb = some .local
  ab : xa ≠ xb
  free : ∀ y ∈ scope.names, y.2 = .free → ∃ c, env.cells.lookup y.1 = some c
theorem GenS2.of {env : Env} {scope : Scope} {xa xb : Str} (h1 : scope.kind = .function) (h2 : scope.isCoroutine = false) (h3 : ∀ y ∈ scope.names, y.2 ≠ .cell ∧ y.2 ≠ .free) (h4 : scope.names.lookup (".0" : Str) = some NameKind.local) (h5 : scope.names.lookup xa = some .local) (h6 : scope.names.lookup xb = some .local) (h7 : xa ≠ xb) : GenS2 env scope xa xb :=
  ⟨h1, h2, fun y hy => (h3 y hy).1, h4, h5, h6, h7, fun y hy z => absurd z (h3 y hy).2⟩
theorem genS_of {env : Env} {scope : Scope} {x : Str} (h1 : scope.kind = .function) (h2 : scope.isCoroutine = false) (h3 : ∀ y ∈ scope.names, y.2 ≠ .cell ∧ y.2 ≠ .free) (h4 : scope.names.lookup (".0" : Str) = some NameKind.local) (h5 : scope.names.lookup x = some .local) : GxR.GenS env scope x :=
  ⟨h1, h2, fun y hy => (h3 y hy).1, h4, h5, fun y hy z => absurd z (h3 y hy).2⟩
/-- a test of the int in x -/
def TestI (prog : Program) (w : World) (scope : Scope) (x : Str) (c : Expr) (pb : Int → Bool) : Prop :=
  ∀ (cenv : Env) (A' : Around) (E' : Value → Shared → Prop) (i : Int) (t : Tok) (s₂ : Shared) (m₂ : Str → Option Value), cenv.scope = scope → s₂.heap.Ns cenv.locals m₂ → m₂ x = some (.int i t) →
    wpAny (model prog w) A' (isTrue c cenv (eval c cenv)) (fun ok s₃ => ok = pb i ∧ Keeps s₂ s₃) E' s₂
theorem test_ne0 {prog : Program} {w : World} {scope : Scope} {x : Str} {j : Nat} {p1 p2 p3 : Pos} (hk : scope.kind = .function) (hl : scope.names.lookup x = some .local) (hd : (x == ("__debug__" : Str)) = false := by decide) :
    TestI prog w scope x (.Compare (.Name x p1) [.NotEq] [.Constant (.int 0) j p2] p3) (fun i => i != 0) := by
  intro cenv A' E' i t s₂ m₂ hs hn hm
  refine wpAny_isTrue_Compare1 ?_
  refine wpAny_Name (wpAny_loadName_local (by rw [hs]; exact hk) (show cenv.scope.names.lookup x = some .local by rw [hs]; exact hl) hn hm ?_) hd
  refine wpAny_Constant_int ?_
  exact PySem.P.ne_int (wpAny_truthy_bool ⟨rfl, keeps_tok _ _⟩)
/-- the element is the int in x -/
theorem elt_name {prog : Program} {w : World} {cenv : Env} {A' : Around} {E' : Value → Shared → Prop} {x : Str} {p1 : Pos} {v : Value} {s₂ : Shared} {m₂ : Str → Option Value} {scope : Scope} (hs : cenv.scope = scope) (hk : scope.kind = .function) (hl : scope.names.lookup x = some .local) (hn : s₂.heap.Ns cenv.locals m₂) (hm : m₂ x = some v) (hd : (x == ("__debug__" : Str)) = false := by decide) :
    wpAny (model prog w) A' (eval (.Name x p1) cenv) (fun y s₃ => y = v ∧ Keeps s₂ s₃) E' s₂ :=
  wpAny_Name (wpAny_loadName_local (by rw [hs]; exact hk) (show cenv.scope.names.lookup x = some .local by rw [hs]; exact hl) hn hm ⟨rfl, keeps_refl _⟩) hd
theorem one_if {M : Model} {A : Around} {E : Value → Shared → Prop} {s : Shared} {c : Expr} {cenv : Env} {Q : Bool → Shared → Prop} (h : wpAny M A (isTrue c cenv (eval c cenv)) Q E s) :
    wpAny M A (forIn [c] true fun c r => if r = true then do let ok ← isTrue c cenv (eval c cenv); pure (ForInStep.yield ok) else pure (ForInStep.yield r)) Q E s := by
  simp only [List.forIn_cons, List.forIn_nil, if_true]
  exact wpAny_bind (wpAny_bind (wpAny_mono h (fun ok s' hq => wpAny_pure (wpAny_pure hq)) fun _ _ e => e))
section
variable {X : Cx} {pins : List (Addr × Obj)} {σ : L2.St} {H : Hp} {s : Shared}
/-- the generator g, ready to be asked, its j-th item is tied by F to the j-th place of js -/
def ReadyN (X : Cx) (pins : List (Addr × Obj)) (σ : L2.St) (H1 : Hp) (P : Addr) (js : List Nat) (F : Nat → Value → Prop) (g : Addr) (s5 : Shared) : Prop :=
  ∃ (fp wr : List Addr) (G : Array GenState → Array GenState → Prop) (St : Nat → Shared → Prop),
    WalksS X.prog X.w X.A.in1 g fp wr G js.length (fun j y => ∃ i, js[j]? = some i ∧ F i y) St ∧ St 0 s5 ∧ s5.TypeIs (.ref g) "generator" ∧
    ∀ s', Moved wr G s5 s' → ∃ H2, Tabbed P H1 H2 ∧ Inv X pins σ H2 s'
def pzL (pb : Int → Bool) (l : List Int) (i : Nat) : Bool := match l[i]? with
  | some z => pb z
  | none => false
theorem pzL_some {pb : Int → Bool} {l : List Int} {i : Nat} {z : Int} (h : l[i]? = some z) : pzL pb l i = pb z := by
  unfold pzL
  rw [h]
/-- an item of a row of ints, by values -/
theorem int_item {l : List Int} {its : List Value} (rv : Vals (l.map V.int) its) {i : Nat} {x : Value} (h : its[i]? = some x) : ∃ z t, l[i]? = some z ∧ x = .int z t := by
  have hl := rv.length
  have hi : i < its.length := (List.getElem?_eq_some_iff.mp h).1
  rw [List.length_map] at hl
  have hi2 : i < l.length := by omega
  obtain ⟨u, hu, ru⟩ := rv.get (i := i) (x := .int l[i]) (by rw [List.getElem?_map, List.getElem?_eq_getElem hi2]; rfl)
  obtain ⟨t, rfl⟩ := ru
  rw [h] at hu
  exact ⟨l[i], t, List.getElem?_eq_getElem hi2, Option.some.inj hu⟩
theorem gen_enum {c P : Addr} {e ct : Expr} {xa xb : Str} {pa pb' pt pn cpos gpos : Pos} {kt : Nat} {scope : Scope} {pb : Int → Bool} {ta : TA} {k : Nat} {p1 : Pos} {Q' : Value → Shared → Prop} {R : Addr → List Int → Hp → Prop}
    (hr : Room k X.A) (TB : TabB X.base X.mg c P) (hcode : X.env.code = .ref c) (S : GenS2 X.env scope xa xb) (hg : Gl X "enumerate") (hm : X.mg "enumerate" = none) (ha : PA X [e] ta) (hst : starEach [e] X.env = [(false, eval e X.env)])
    (htest : TestI X.prog X.w scope xb ct pb) (hda : (xa == ("__debug__" : Str)) = false)
    (hs : ∀ v, genFold (.Call (.Name "enumerate" pn) [e] [] cpos) X.env v = pure v) (I : Inv X pins σ H s) (h : ta σ H fun vs H1 => ∃ (t : Addr) (l : List Int), vs = [.ref t] ∧ SqT X.K H1 t (l.map V.int) ∧ TabG H1 P ∧ R t l H1)
    (hQ : ∀ t l H1 g s5, R t l H1 → ReadyN X pins σ H1 P (passing (pzL pb l) l.length 0) (fun i y => ∃ u, y = .int (i : Nat) u) g s5 → Q' (.ref g) s5) :
    wpAny (model X.prog X.w) X.A (eval (.GeneratorExp (.Name xa p1) [⟨.Tuple [.Name xa pa, .Name xb pb'] kt pt, .Call (.Name "enumerate" pn) [e] [] cpos, [ct], 0⟩] scope gpos) X.env) Q' X.xe s := by
  refine wpAny_GeneratorExp_walksQT hr.hd S.co (closure_ok S.free) S.cell S.dot S.la S.lb S.ab S.kind (by have := hr.dp; omega) ?_ hs
  refine Call_ (ld_blt I hg hm boot_enumerate (PyProof.Rows.callWith_type1 (thn (ha.run cpos pins s σ H _ I h) fun us s1 hv => ?_) hst rfl))
  obtain ⟨vs, H1, I1, r1, t, l, rfl, hq, ⟨ps, hP, ht⟩, q1⟩ := hv
  cases r1 with
  | cons r rr =>
    cases rr
    cases r
    obtain ⟨its, rv, p', hz⟩ := I1.tuple hq
    have pT : s1.heap.IsTuple t its.toArray := p'
    have hlt : t < s1.heap.objs.size := by obtain ⟨_, ho, _⟩ := p'; exact Heap.lt_size ho
    refine call_enumT pT fun h2 he hit hsz2 hk2 => wpAny_pyIter_enum he ?_
    have hPs : s1.heap.get? P = some { cls := .none, data := .fields ps } := I1.hok P _ hP
    have hPlt : P < s1.heap.objs.size := Heap.lt_size hPs
    have hP2 : h2.get? P = some { cls := .none, data := .fields ps } := hk2 _ _ hPs
    have cd : PySem.W.CodeHd h2 c P := TB.code.keeps fun b u e => hk2 _ _ (I1.bk b u e)
    have lim2 : h2.NoLimit := I1.nolimit.keeps hk2
    have hll := rv.length
    rw [List.length_map] at hll
    have tP : t ≠ P := fun z => by
      obtain ⟨o, ho, _, n, hd⟩ := pT
      rw [z, hPs] at ho
      cases ho
      cases hd
    have hzn : its.toArray.size = l.length := by rw [List.size_toArray]; omega
    have WT : ∀ A' : Around, A'.handled = none → WalksU X.prog X.w A' (s1.heap.objs.size + 1) _ _ _ _ _ _ := fun A' hA =>
      (WalksT.enumerateD (A := A') (Draws.tuple (prog := X.prog) (w := X.w) (A := A'.in1) hA s1.heap.objs.size t (Nat.ne_of_lt hlt) its.toArray) (s1.heap.objs.size + 1) (Nat.succ_ne_self _) (fun hm => by
        rcases List.mem_cons.mp hm with e | hm
        · exact Nat.succ_ne_self _ e
        · exact Nat.ne_of_gt (Nat.lt_succ_of_lt hlt) (List.mem_singleton.mp hm)) (by simp)).toU
    have cont : ∀ (code : Value) (h3 : Heap) (tk : Nat) (ps' : Array Value), Heap.ExtBut P h2 h3 → h2.objs.size ≤ h3.objs.size → h3.get? P = some { cls := .none, data := .fields ps' } → (∃ more, ps' = ps ++ more) → TriplesOk ps'.toList →
        wpAny (model X.prog X.w) X.A (builtinsFor X.env.globals X.env.builtins) (fun bi s₄ =>
          ∃ Ia fp wr n₀ Pt St₀ Mid pz F, Value.ref (s1.heap.objs.size + 1) = .ref Ia ∧ (∀ A' : Around, A'.handled = none → WalksU X.prog X.w A' Ia fp wr n₀ Pt St₀ Mid) ∧ (∀ i vals, Pt i vals → ∃ va vb, vals = #[va, vb]) ∧ St₀ 0 s₄.heap ∧ (∀ b ∈ fp, b < s₄.heap.objs.size) ∧ s₄.heap.NoLimit ∧ cStatics ∉ wr ∧
            (∀ href : Heap, (∀ b o, s₄.heap.get? b = some o → href.get? b = some o) →
              QuietGenT X.prog X.w (genEnv scope (cloFrom X.env.cells scope.names []) s₄.heap.objs.size code bi X.env) xa xb [ct] (.Name xa p1) (List.range s₄.heap.objs.size) wr Pt pz F href) ∧
            (∀ a h₅ tk gs, gs.bare = true → s₄.heap.objs.size < a → h₅.objs.size = a + 1 → (∀ b o, s₄.heap.get? b = some o → h₅.get? b = some o) →
              WalksS X.prog X.w X.A.in4 a (a :: s₄.heap.objs.size :: List.range s₄.heap.objs.size) (s₄.heap.objs.size :: wr) (GenOnlyQ s₄.gens.size) (passing pz n₀ 0).length
                (fun j y => ∃ i, (passing pz n₀ 0)[j]? = some i ∧ F i y) (GenAt X.prog X.w X.A.in4 a s₄.gens.size s₄.heap.objs.size (List.range s₄.heap.objs.size) wr pz n₀ F) →
              GenAt X.prog X.w X.A.in4 a s₄.gens.size s₄.heap.objs.size (List.range s₄.heap.objs.size) wr pz n₀ F 0 { s₄ with gens := s₄.gens.push gs, toks := tk, heap := h₅ } →
              Q' (.ref a) { s₄ with gens := s₄.gens.push gs, toks := tk, heap := h₅ })) X.xe { s1 with heap := h3, toks := tk } := by
      intro code h3 tk ps' hx hsz hP3 hmore ht3
      obtain ⟨bm, ob, e1, e2, e3, e4, e5, e6, e7, e8⟩ := TB.bm
      have hcP : cStatics ≠ P := fun e => by
        obtain ⟨_, hns, _⟩ := I1.nolimit
        obtain ⟨o', es, ep, ho, hd, _⟩ := hns
        rw [e, hPs] at ho
        cases ho
        cases hd
      have hcl : cStatics < s1.heap.objs.size := let ⟨_, hns, _⟩ := I1.nolimit; hns.lt
      have keep3 : ∀ b u, b ≠ P → s1.heap.get? b = some u → h3.get? b = some u := fun b u hb e => hx b u hb (hk2 _ _ e)
      have eP : s1.heap.objs.size + 1 ≠ P := fun z => Nat.lt_irrefl _ (Nat.lt_of_succ_lt (z ▸ hPlt))
      have iP : s1.heap.objs.size ≠ P := fun z => Nat.lt_irrefl _ (z ▸ hPlt)
      have off : ∀ b, b < s1.heap.objs.size → b ∉ [s1.heap.objs.size + 1, s1.heap.objs.size] := fun b hb hm => by
        have hm' : b = s1.heap.objs.size + 1 ∨ b = s1.heap.objs.size := by simpa using hm
        rcases hm' with z | z <;> omega
      refine wpAny_builtinsFor (m := X.mg) (by rw [I1.ok.glob]; exact (((I1.mod.glob.keeps I1.bk).keeps hk2).extBut hx TB.gP)) e1 e2 (keep3 _ _ e4 (I1.bk _ _ e5)) e6 e7 e8 ?_
      refine ⟨s1.heap.objs.size + 1, _, _, _, _, _, _, pzL pb l, (fun i y => ∃ u, y = .int (i : Nat) u), rfl, WT, ?_, ⟨⟨_, hx _ _ eP he⟩, hit.at fun o q => hx _ o iP q, pT.at fun o q => keep3 _ o tP q⟩, ?_, lim2.extBut hx hcP, off _ hcl, ?_, ?_⟩
      · rintro i vals ⟨u, x, hxi, rfl⟩
        exact ⟨_, _, rfl⟩
      · intro b hb
        have hb' : b = s1.heap.objs.size + 1 ∨ b = s1.heap.objs.size ∨ b = t := by simpa using hb
        show b < h3.objs.size
        rcases hb' with z | z | z
        · rw [z]
          show s1.heap.objs.size + 1 < h3.objs.size
          omega
        · rw [z]
          show s1.heap.objs.size < h3.objs.size
          omega
        · rw [z]
          exact Nat.lt_of_lt_of_le hlt (show s1.heap.objs.size ≤ h3.objs.size by omega)
      · intro href hhref
        refine ⟨fun A' E' i va vb s₂ m₂ hA hPv hn hma hmb hk => ?_, fun A' E' i va vb s₂ m₂ hA hPv hp hn hma hmb hk => ?_⟩
        · obtain ⟨u, x, hxi, ev⟩ := hPv
          cases ev
          have hxi' : its[i]? = some vb := by simpa using hxi
          obtain ⟨z, t2, hz1, rfl⟩ := int_item rv hxi'
          refine one_if (wpAny_mono (htest _ A' E' z t2 s₂ m₂ rfl hn hmb) (fun ok s3 q => ⟨?_, q.2⟩) fun _ _ e => e)
          rw [pzL_some hz1]
          exact q.1
        · obtain ⟨u, x, hxi, ev⟩ := hPv
          cases ev
          exact wpAny_mono (elt_name (scope := scope) rfl S.kind S.la hn hma hda) (fun y s3 q => ⟨⟨u, q.1⟩, q.2⟩) fun _ _ e => e
      · intro g h5 tk5 gs hgb hag hsz5 hk5 W5 hat
        rw [hzn] at W5
        refine hQ t l H1 g _ q1 ⟨_, _, _, _, W5.in4_1, ?_, hat.1.typeIs, fun s' hm => ?_⟩
        · rw [hzn] at hat
          exact hat
        · obtain ⟨more, em⟩ := hmore
          have nwr : ∀ b u, s1.heap.get? b = some u → b ∉ h3.objs.size :: [s1.heap.objs.size + 1, s1.heap.objs.size] := fun b u e hb => by
            have hl := Heap.lt_size e
            rcases List.mem_cons.mp hb with z | z
            · rw [z] at hl
              have h9 : (h3.objs.size : Nat) < s1.heap.objs.size := hl
              omega
            · exact off b hl z
          have J := inv_tab (more := more) (h' := s'.heap) (g' := s'.gens) (d' := s'.drawn) (t' := s'.toks) I1 hP (fun b u hb e => hm.heap b u (nwr b u e) (hk5 b u (keep3 b u hb e)))
            (by rw [← em]; exact hm.heap P _ (nwr P _ hPs) (hk5 P _ hP3)) (AllBare.movedS (I1.bare.push hgb) hm)
          rw [sh_eta s1 s' hm.os] at J
          refine ⟨upd H1 P (.tbl (ps ++ more)), ⟨⟨ps ++ more, upd_same, by rw [← em]; exact ht3⟩, fun b hb => upd_ne hb⟩, J⟩
    refine ⟨lim2, ?_⟩
    cases hf : codeAmong gpos ps.toList with
    | none =>
      refine wpAny_genexprCodeX hcode (cd.code hP2 ht) (cd.tab hP2) hf fun c' h' tk hx hge hlt hco' _ htab' _ => ?_
      obtain ⟨o1, vs, f1, tf, fl, tg, inF, tx, tt, op, _, _, _, _, _, _, _, _, _, htr, _⟩ := hco'
      exact cont _ h' tk _ hx (Nat.le_trans hge (Nat.le_of_lt hlt)) htab'.2 ⟨_, rfl⟩ htr
    | some cv =>
      refine wpAny_genexprCode_hit hcode (cd.code hP2 ht) hf ?_
      exact cont cv h2 s1.toks ps (Heap.ExtBut.refl _ _) (Nat.le_refl _) hP2 ⟨#[], by simp⟩ ht
/-- the first place whose entry the test lets pass, or the default -/
def FirstIx (pb : Int → Bool) (l : List Int) (d r : Int) : Prop :=
  ((∀ (j : Nat) (z : Int), l[j]? = some z → pb z = false) ∧ r = d) ∨ ∃ (i : Nat) (z : Int), l[i]? = some z ∧ pb z = true ∧ (∀ (j : Nat) (y : Int), j < i → l[j]? = some y → pb y = false) ∧ r = (i : Int)
theorem passing_nil {pb : Int → Bool} {l : List Int} (h : (passing (pzL pb l) l.length 0).length = 0) : ∀ (j : Nat) (z : Int), l[j]? = some z → pb z = false := fun j z hj => by
  have e : passing (pzL pb l) l.length 0 = [] := List.eq_nil_of_length_eq_zero h
  have hlt : j < l.length := (List.getElem?_eq_some_iff.mp hj).1
  cases hb : pb z with
  | false => rfl
  | true =>
    have hm : j ∈ passing (pzL pb l) l.length 0 := by
      unfold passing
      rw [List.drop_zero]
      exact List.mem_filter.mpr ⟨List.mem_range.mpr hlt, by rw [pzL_some hj]; exact hb⟩
    rw [e] at hm
    cases hm
theorem passing_first {pb : Int → Bool} {l : List Int} {i : Nat} (h : (passing (pzL pb l) l.length 0)[0]? = some i) : ∃ z, l[i]? = some z ∧ pb z = true ∧ ∀ (j : Nat) (y : Int), j < i → l[j]? = some y → pb y = false := by
  unfold passing at h
  rw [List.drop_zero] at h
  have h2 : ((List.range l.length).filter (pzL pb l)).head? = some i := by rw [List.head?_eq_getElem?]; exact h
  rw [List.head?_filter] at h2
  have h3 := List.find?_eq_some_iff_getElem.mp h2
  obtain ⟨hp, k, hk, ek, hn⟩ := h3
  rw [List.getElem_range] at ek
  subst ek
  rw [List.length_range] at hk
  refine ⟨l[k], List.getElem?_eq_getElem hk, ?_, fun j y hj hy => ?_⟩
  · rw [pzL_some (List.getElem?_eq_getElem hk)] at hp
    exact hp
  · have := hn j hj
    rw [List.getElem_range, pzL_some hy] at this
    simpa using this
/-- next((i for i, x in enumerate(e) if test of x), d) -/
def tNextE (K : PySem.W.Frag) (P : Addr) (pb : Int → Bool) (d : Int) (ta : TA) : TE := fun σ H Q => ta σ H fun vs H1 => ∃ (t : Addr) (l : List Int), vs = [.ref t] ∧ SqT K H1 t (l.map V.int) ∧ TabG H1 P ∧ ∀ r H2, FirstIx pb l d r → Tabbed P H1 H2 → Q (.int r) H2
theorem pe_nextE {c P : Addr} {e ct : Expr} {xa xb : Str} {pa pb' pt pn cpos gpos p pos dp : Pos} {kt jd : Nat} {scope : Scope} {pb : Int → Bool} {d : Int} {ta : TA} {k : Nat} {p1 : Pos}
    (hr : Room k X.A) (hgn : Gl X "next") (hmn : X.mg "next" = none) (TB : TabB X.base X.mg c P) (hcode : X.env.code = .ref c) (S : GenS2 X.env scope xa xb) (hg : Gl X "enumerate") (hm : X.mg "enumerate" = none) (ha : PA X [e] ta)
    (htest : TestI X.prog X.w scope xb ct pb) (hda : (xa == ("__debug__" : Str)) = false := by decide) (hst : starEach [e] X.env = [(false, eval e X.env)] := by rfl)
    (hs : ∀ v, genFold (.Call (.Name "enumerate" pn) [e] [] cpos) X.env v = pure v := by intro _; rfl)
    (he : starEach [.GeneratorExp (.Name xa p1) [⟨.Tuple [.Name xa pa, .Name xb pb'] kt pt, .Call (.Name "enumerate" pn) [e] [] cpos, [ct], 0⟩] scope gpos, .Constant (.int d) jd dp] X.env
      = (false, eval (.GeneratorExp (.Name xa p1) [⟨.Tuple [.Name xa pa, .Name xb pb'] kt pt, .Call (.Name "enumerate" pn) [e] [] cpos, [ct], 0⟩] scope gpos) X.env) :: starEach [.Constant (.int d) jd dp] X.env := by rfl)
    (he2 : starEach [.Constant (.int d) jd dp] X.env = [(false, eval (.Constant (.int d) jd dp) X.env)] := by rfl) :
    PE X (.Call (.Name "next" p) [.GeneratorExp (.Name xa p1) [⟨.Tuple [.Name xa pa, .Name xb pb'] kt pt, .Call (.Name "enumerate" pn) [e] [] cpos, [ct], 0⟩] scope gpos, .Constant (.int d) jd dp] [] pos) (tNextE X.K P pb d ta) := by
  refine ⟨fun pins s σ H Q I h => ?_⟩
  refine wpAny_Call_Name_kw (ld_blt I hgn hmn boot_next ?_)
  refine PyProof.Rows.callWith_builtin1 ?_ he (by rw [he2]; rfl)
  rw [he, he2]
  show wpAny _ _ (spliced ((false, eval (.GeneratorExp (.Name xa p1) [⟨.Tuple [.Name xa pa, .Name xb pb'] kt pt, .Call (.Name "enumerate" pn) [e] [] cpos, [ct], 0⟩] scope gpos) X.env) :: (false, eval (.Constant (.int d) jd dp) X.env) :: [])) _ _ s
  refine Calls.spliced_cons (gen_enum (R := fun t l H1 => ∀ r H2, FirstIx pb l d r → Tabbed P H1 H2 → Q (.int r) H2) hr TB hcode S hg hm ha hst htest hda hs I h fun t l H1 g s5 hR hG => ?_)
  refine Calls.spliced_cons (wpAny_Constant_int (Calls.spliced_nil ?_))
  obtain ⟨fp, wr, G, St, W, hst5, hT, hI⟩ := hG
  have back : ∀ {s'}, Moved wr G { s5 with toks := s5.toks + 1 } s' → Moved wr G s5 s' := fun m => ⟨m.heap, m.gens, m.drawn, m.os, Nat.le_trans (Nat.le_succ _) m.toks⟩
  refine call_next_walkS W hT (W.frame 0 s5 s5.heap (s5.toks + 1) hst5 (Nat.le_succ _) fun _ _ _ z => z) (fun v s' hn hv hmv => ?_) (fun s' hn hmv => ?_)
  · obtain ⟨H2, hTb, J⟩ := hI s' (back hmv)
    obtain ⟨i, hi, u, rfl⟩ := hv
    obtain ⟨z, hz1, hz2, hz3⟩ := passing_first hi
    exact ⟨.int i, H2, J, ⟨u, rfl⟩, hR i H2 (.inr ⟨i, z, hz1, hz2, hz3, rfl⟩) hTb⟩
  · obtain ⟨H2, hTb, J⟩ := hI s' (back hmv)
    exact ⟨.int d, H2, J, ⟨_, rfl⟩, hR d H2 (.inl ⟨passing_nil hn, rfl⟩) hTb⟩
theorem gen_name {c P : Addr} {e ct : Expr} {x : Str} {px gpos : Pos} {scope : Scope} {pb : Int → Bool} {te : TE} {k : Nat} {p1 : Pos} {Q' : Value → Shared → Prop} {R : Addr → List Int → Hp → Prop}
    (hr : Room k X.A) (TB : TabB X.base X.mg c P) (hcode : X.env.code = .ref c) (S : GenS X.env scope x) (he : PE X e te)
    (htest : TestI X.prog X.w scope x ct pb) (hda : (x == ("__debug__" : Str)) = false)
    (hs : ∀ v, genFold e X.env v = pure v) (I : Inv X pins σ H s) (h : te σ H fun v H1 => ∃ (t : Addr) (l : List Int), v = .ref t ∧ SqT X.K H1 t (l.map V.int) ∧ TabG H1 P ∧ R t l H1)
    (hQ : ∀ t l H1 g s5, R t l H1 → ReadyN X pins σ H1 P (passing (pzL pb l) l.length 0) (fun i y => ∃ z u, l[i]? = some z ∧ y = .int z u) g s5 → Q' (.ref g) s5) :
    wpAny (model X.prog X.w) X.A (eval (.GeneratorExp (.Name x p1) [⟨.Name x px, e, [ct], 0⟩] scope gpos) X.env) Q' X.xe s := by
  refine wpAny_GeneratorExp_walksQ hr.hd S.co (closure_ok S.free) S.cell S.dot S.loc S.kind (by have := hr.dp; omega) ?_ hs
  refine thn (he.run pins s σ H _ I h) fun us s1 hv => ?_
  obtain ⟨vs, H1, I1, r1, t, l, rfl, hq, ⟨ps, hP, ht⟩, q1⟩ := hv
  obtain rfl : us = Value.ref t := r1
  · skip
    obtain ⟨its, rv, p', hz⟩ := I1.tuple hq
    have pT : s1.heap.IsTuple t its.toArray := p'
    have hlt : t < s1.heap.objs.size := by obtain ⟨_, ho, _⟩ := p'; exact Heap.lt_size ho
    refine wpAny_pyIter_tuple pT ?_
    have hk2 : ∀ b o, s1.heap.get? b = some o → (s1.heap.push { cls := .type "tuple_iterator", data := .fields #[.ref t, .int 0 0] }).get? b = some o := fun b o z => Heap.get?_push_of_some _ z
    have hit : (s1.heap.push { cls := .type "tuple_iterator", data := .fields #[.ref t, .int 0 0] }).IsTupleIter s1.heap.objs.size t 0 := ⟨_, Heap.get?_push_size _ rfl, rfl, rfl⟩
    have hsz2 : (s1.heap.push { cls := .type "tuple_iterator", data := .fields #[.ref t, .int 0 0] }).objs.size = s1.heap.objs.size + 1 := Heap.size_push ..
    generalize s1.heap.push { cls := .type "tuple_iterator", data := .fields #[.ref t, .int 0 0] } = h2 at hk2 hit hsz2 ⊢
    have hPs : s1.heap.get? P = some { cls := .none, data := .fields ps } := I1.hok P _ hP
    have hPlt : P < s1.heap.objs.size := Heap.lt_size hPs
    have hP2 : h2.get? P = some { cls := .none, data := .fields ps } := hk2 _ _ hPs
    have cd : PySem.W.CodeHd h2 c P := TB.code.keeps fun b u e => hk2 _ _ (I1.bk b u e)
    have lim2 : h2.NoLimit := I1.nolimit.keeps hk2
    have hll := rv.length
    rw [List.length_map] at hll
    have tP : t ≠ P := fun z => by
      obtain ⟨o, ho, _, n, hd⟩ := pT
      rw [z, hPs] at ho
      cases ho
      cases hd
    have hzn : its.toArray.size = l.length := by rw [List.size_toArray]; omega
    have WT : ∀ A' : Around, A'.handled = none → Walks X.prog X.w A' s1.heap.objs.size _ _ _ _ _ := fun A' hA => Walks.tuple (prog := X.prog) (w := X.w) (A := A') hA s1.heap.objs.size t (Nat.ne_of_lt hlt) its.toArray
    have cont : ∀ (code : Value) (h3 : Heap) (tk : Nat) (ps' : Array Value), Heap.ExtBut P h2 h3 → h2.objs.size ≤ h3.objs.size → h3.get? P = some { cls := .none, data := .fields ps' } → (∃ more, ps' = ps ++ more) → TriplesOk ps'.toList →
        wpAny (model X.prog X.w) X.A (builtinsFor X.env.globals X.env.builtins) (fun bi s₄ =>
          ∃ Ia fp wr n₀ Pf St₀ pz F, Value.ref s1.heap.objs.size = .ref Ia ∧ (∀ A' : Around, A'.handled = none → Walks X.prog X.w A' Ia fp wr n₀ Pf St₀) ∧ St₀ 0 s₄.heap ∧ (∀ b ∈ fp, b < s₄.heap.objs.size) ∧ s₄.heap.NoLimit ∧ cStatics ∉ wr ∧
            (∀ href : Heap, (∀ b o, s₄.heap.get? b = some o → href.get? b = some o) →
              QuietGen X.prog X.w (genEnv scope (cloFrom X.env.cells scope.names []) s₄.heap.objs.size code bi X.env) x [ct] (.Name x p1) (List.range s₄.heap.objs.size) wr Pf pz F href) ∧
            (∀ a h₅ tk gs, gs.bare = true → s₄.heap.objs.size < a → h₅.objs.size = a + 1 → (∀ b o, s₄.heap.get? b = some o → h₅.get? b = some o) →
              WalksS X.prog X.w X.A.in4 a (a :: s₄.heap.objs.size :: List.range s₄.heap.objs.size) (s₄.heap.objs.size :: wr) (GenOnlyQ s₄.gens.size) (passing pz n₀ 0).length
                (fun j y => ∃ i, (passing pz n₀ 0)[j]? = some i ∧ F i y) (GenAt X.prog X.w X.A.in4 a s₄.gens.size s₄.heap.objs.size (List.range s₄.heap.objs.size) wr pz n₀ F) →
              GenAt X.prog X.w X.A.in4 a s₄.gens.size s₄.heap.objs.size (List.range s₄.heap.objs.size) wr pz n₀ F 0 { s₄ with gens := s₄.gens.push gs, toks := tk, heap := h₅ } →
              Q' (.ref a) { s₄ with gens := s₄.gens.push gs, toks := tk, heap := h₅ })) X.xe { s1 with heap := h3, toks := tk } := by
      intro code h3 tk ps' hx hsz hP3 hmore ht3
      obtain ⟨bm, ob, e1, e2, e3, e4, e5, e6, e7, e8⟩ := TB.bm
      have hcP : cStatics ≠ P := fun e => by
        obtain ⟨_, hns, _⟩ := I1.nolimit
        obtain ⟨o', es, ep, ho, hd, _⟩ := hns
        rw [e, hPs] at ho
        cases ho
        cases hd
      have hcl : cStatics < s1.heap.objs.size := let ⟨_, hns, _⟩ := I1.nolimit; hns.lt
      have keep3 : ∀ b u, b ≠ P → s1.heap.get? b = some u → h3.get? b = some u := fun b u hb e => hx b u hb (hk2 _ _ e)
      have iP : s1.heap.objs.size ≠ P := fun z => Nat.lt_irrefl _ (z ▸ hPlt)
      have off : ∀ b, b < s1.heap.objs.size → b ∉ [s1.heap.objs.size] := fun b hb hm => by
        have hm' : b = s1.heap.objs.size := by simpa using hm
        exact Nat.ne_of_lt hb hm'
      refine wpAny_builtinsFor (m := X.mg) (by rw [I1.ok.glob]; exact (((I1.mod.glob.keeps I1.bk).keeps hk2).extBut hx TB.gP)) e1 e2 (keep3 _ _ e4 (I1.bk _ _ e5)) e6 e7 e8 ?_
      refine ⟨s1.heap.objs.size, _, _, _, _, _, pzL pb l, (fun i y => ∃ z u, l[i]? = some z ∧ y = .int z u), rfl, WT, ⟨hit.at fun o q => hx _ o iP q, pT.at fun o q => keep3 _ o tP q⟩, ?_, lim2.extBut hx hcP, off _ hcl, ?_, ?_⟩
      · intro b hb
        have hb' : b = s1.heap.objs.size ∨ b = t := by simpa using hb
        show b < h3.objs.size
        rcases hb' with z | z
        · rw [z]
          show s1.heap.objs.size < h3.objs.size
          omega
        · rw [z]
          exact Nat.lt_of_lt_of_le hlt (show s1.heap.objs.size ≤ h3.objs.size by omega)
      · intro href hhref
        refine ⟨fun A' E' i v s₂ m₂ hA hPv hn hm hk => ?_, fun A' E' i v s₂ m₂ hA hPv hp hn hm hk => ?_⟩
        · have hxi' : its[i]? = some v := by simpa using hPv
          obtain ⟨z, t2, hz1, rfl⟩ := int_item rv hxi'
          refine one_if (wpAny_mono (htest _ A' E' z t2 s₂ m₂ rfl hn hm) (fun ok s3 q => ⟨?_, q.2⟩) fun _ _ e => e)
          rw [pzL_some hz1]
          exact q.1
        · have hxi' : its[i]? = some v := by simpa using hPv
          obtain ⟨z, t2, hz1, rfl⟩ := int_item rv hxi'
          exact wpAny_mono (elt_name (scope := scope) rfl S.kind S.loc hn hm hda) (fun y s3 q => ⟨⟨z, t2, hz1, q.1⟩, q.2⟩) fun _ _ e => e
      · intro g h5 tk5 gs hgb hag hsz5 hk5 W5 hat
        rw [hzn] at W5
        refine hQ t l H1 g _ q1 ⟨_, _, _, _, W5.in4_1, ?_, hat.1.typeIs, fun s' hm => ?_⟩
        · rw [hzn] at hat
          exact hat
        · obtain ⟨more, em⟩ := hmore
          have nwr : ∀ b u, s1.heap.get? b = some u → b ∉ h3.objs.size :: [s1.heap.objs.size] := fun b u e hb => by
            have hl := Heap.lt_size e
            rcases List.mem_cons.mp hb with z | z
            · rw [z] at hl
              have h9 : (h3.objs.size : Nat) < s1.heap.objs.size := hl
              omega
            · exact off b hl z
          have J := inv_tab (more := more) (h' := s'.heap) (g' := s'.gens) (d' := s'.drawn) (t' := s'.toks) I1 hP (fun b u hb e => hm.heap b u (nwr b u e) (hk5 b u (keep3 b u hb e)))
            (by rw [← em]; exact hm.heap P _ (nwr P _ hPs) (hk5 P _ hP3)) (AllBare.movedS (I1.bare.push hgb) hm)
          rw [sh_eta s1 s' hm.os] at J
          refine ⟨upd H1 P (.tbl (ps ++ more)), ⟨⟨ps ++ more, upd_same, by rw [← em]; exact ht3⟩, fun b hb => upd_ne hb⟩, J⟩
    refine ⟨lim2, ?_⟩
    cases hf : codeAmong gpos ps.toList with
    | none =>
      refine wpAny_genexprCodeX hcode (cd.code hP2 ht) (cd.tab hP2) hf fun c' h' tk hx hge hlt hco' _ htab' _ => ?_
      obtain ⟨o1, vs, f1, tf, fl, tg, inF, tx, tt, op, _, _, _, _, _, _, _, _, _, htr, _⟩ := hco'
      exact cont _ h' tk _ hx (Nat.le_trans hge (Nat.le_of_lt hlt)) htab'.2 ⟨_, rfl⟩ htr
    | some cv =>
      refine wpAny_genexprCode_hit hcode (cd.code hP2 ht) hf ?_
      exact cont cv h2 s1.toks ps (Heap.ExtBut.refl _ _) (Nat.le_refl _) hP2 ⟨#[], by simp⟩ ht
/-- the first entry that the test lets pass, or the default -/
def FirstOf (pb : Int → Bool) (l : List Int) (d r : Int) : Prop :=
  ((∀ (j : Nat) (z : Int), l[j]? = some z → pb z = false) ∧ r = d) ∨ ∃ i : Nat, l[i]? = some r ∧ pb r = true ∧ ∀ (j : Nat) (y : Int), j < i → l[j]? = some y → pb y = false
/-- next((x for x in e if test of x), d) -/
def tNextN (K : PySem.W.Frag) (P : Addr) (pb : Int → Bool) (d : Int) (te : TE) : TE := fun σ H Q => te σ H fun v H1 => ∃ (t : Addr) (l : List Int), v = .ref t ∧ SqT K H1 t (l.map V.int) ∧ TabG H1 P ∧ ∀ r H2, FirstOf pb l d r → Tabbed P H1 H2 → Q (.int r) H2
theorem pe_nextN {c P : Addr} {e ct : Expr} {x : Str} {px gpos p pos dp : Pos} {jd : Nat} {scope : Scope} {pb : Int → Bool} {d : Int} {te : TE} {k : Nat} {p1 : Pos}
    (hr : Room k X.A) (hgn : Gl X "next") (hmn : X.mg "next" = none) (TB : TabB X.base X.mg c P) (hcode : X.env.code = .ref c) (S : GenS X.env scope x) (he0 : PE X e te)
    (htest : TestI X.prog X.w scope x ct pb) (hda : (x == ("__debug__" : Str)) = false := by decide)
    (hs : ∀ v, genFold e X.env v = pure v := by intro _; rfl)
    (he : starEach [.GeneratorExp (.Name x p1) [⟨.Name x px, e, [ct], 0⟩] scope gpos, .Constant (.int d) jd dp] X.env
      = (false, eval (.GeneratorExp (.Name x p1) [⟨.Name x px, e, [ct], 0⟩] scope gpos) X.env) :: starEach [.Constant (.int d) jd dp] X.env := by rfl)
    (he2 : starEach [.Constant (.int d) jd dp] X.env = [(false, eval (.Constant (.int d) jd dp) X.env)] := by rfl) :
    PE X (.Call (.Name "next" p) [.GeneratorExp (.Name x p1) [⟨.Name x px, e, [ct], 0⟩] scope gpos, .Constant (.int d) jd dp] [] pos) (tNextN X.K P pb d te) := by
  refine ⟨fun pins s σ H Q I h => ?_⟩
  refine wpAny_Call_Name_kw (ld_blt I hgn hmn boot_next ?_)
  refine PyProof.Rows.callWith_builtin1 ?_ he (by rw [he2]; rfl)
  rw [he, he2]
  show wpAny _ _ (spliced ((false, eval (.GeneratorExp (.Name x p1) [⟨.Name x px, e, [ct], 0⟩] scope gpos) X.env) :: (false, eval (.Constant (.int d) jd dp) X.env) :: [])) _ _ s
  refine Calls.spliced_cons (gen_name (R := fun t l H1 => ∀ r H2, FirstOf pb l d r → Tabbed P H1 H2 → Q (.int r) H2) hr TB hcode S he0 htest hda hs I h fun t l H1 g s5 hR hG => ?_)
  refine Calls.spliced_cons (wpAny_Constant_int (Calls.spliced_nil ?_))
  obtain ⟨fp, wr, G, St, W, hst5, hT, hI⟩ := hG
  have back : ∀ {s'}, Moved wr G { s5 with toks := s5.toks + 1 } s' → Moved wr G s5 s' := fun m => ⟨m.heap, m.gens, m.drawn, m.os, Nat.le_trans (Nat.le_succ _) m.toks⟩
  refine call_next_walkS W hT (W.frame 0 s5 s5.heap (s5.toks + 1) hst5 (Nat.le_succ _) fun _ _ _ z => z) (fun v s' hn hv hmv => ?_) (fun s' hn hmv => ?_)
  · obtain ⟨H2, hTb, J⟩ := hI s' (back hmv)
    obtain ⟨i, hi, y, u, hy, rfl⟩ := hv
    obtain ⟨z, hz1, hz2, hz3⟩ := passing_first hi
    rw [hy] at hz1
    cases hz1
    exact ⟨.int y, H2, J, ⟨u, rfl⟩, hR y H2 (.inr ⟨i, hy, hz2, hz3⟩) hTb⟩
  · obtain ⟨H2, hTb, J⟩ := hI s' (back hmv)
    exact ⟨.int d, H2, J, ⟨_, rfl⟩, hR d H2 (.inl ⟨passing_nil hn, rfl⟩) hTb⟩
end
end GenNx

set_option Elab.async false
set_option linter.all false
set_option maxRecDepth 100000
set_option maxHeartbeats 2000000
/-! next(x for x in xs if .., default), xs a list of ints -/
namespace GenNl
open PySem PySem.Spec PyProof.Rows L2 GxR EnumT GenNx
section
variable {X : Cx} {pins : List (Addr × Obj)} {σ : L2.St} {H : Hp} {s : Shared}
theorem gen_name {c P : Addr} {e ct : Expr} {x : Str} {px gpos : Pos} {scope : Scope} {pb : Int → Bool} {te : TE} {k : Nat} {p1 : Pos} {Q' : Value → Shared → Prop} {R : Addr → List Int → Hp → Prop}
    (hr : Room k X.A) (TB : TabB X.base X.mg c P) (hcode : X.env.code = .ref c) (S : GenS X.env scope x) (he : PE X e te)
    (htest : TestI X.prog X.w scope x ct pb) (hda : (x == ("__debug__" : Str)) = false)
    (hs : ∀ v, genFold e X.env v = pure v) (I : Inv X pins σ H s) (h : te σ H fun v H1 => ∃ (t : Addr) (l : List Int), v = .ref t ∧ SqL X.K H1 t (l.map V.int) ∧ TabG H1 P ∧ R t l H1)
    (hQ : ∀ t l H1 g s5, R t l H1 → ReadyN X pins σ H1 P (passing (pzL pb l) l.length 0) (fun i y => ∃ z u, l[i]? = some z ∧ y = .int z u) g s5 → Q' (.ref g) s5) :
    wpAny (model X.prog X.w) X.A (eval (.GeneratorExp (.Name x p1) [⟨.Name x px, e, [ct], 0⟩] scope gpos) X.env) Q' X.xe s := by
  refine wpAny_GeneratorExp_walksQ hr.hd S.co (closure_ok S.free) S.cell S.dot S.loc S.kind (by have := hr.dp; omega) ?_ hs
  refine thn (he.run pins s σ H _ I h) fun us s1 hv => ?_
  obtain ⟨vs, H1, I1, r1, t, l, rfl, hq, ⟨ps, hP, ht⟩, q1⟩ := hv
  obtain rfl : us = Value.ref t := r1
  · skip
    obtain ⟨its, rv, p0, hz⟩ := I1.list hq
    have p' := p0.isList
    have pT : s1.heap.IsList t its.toArray := p'
    have hlt : t < s1.heap.objs.size := by obtain ⟨_, ho, _⟩ := p'; exact Heap.lt_size ho
    refine wpAny_pyIter_list pT ?_
    have hk2 : ∀ b o, s1.heap.get? b = some o → (s1.heap.push { cls := .type "list_iterator", data := .fields #[.ref t, .int 0 0] }).get? b = some o := fun b o z => Heap.get?_push_of_some _ z
    have hit : (s1.heap.push { cls := .type "list_iterator", data := .fields #[.ref t, .int 0 0] }).IsListIter s1.heap.objs.size t 0 := ⟨_, Heap.get?_push_size _ rfl, rfl, rfl⟩
    have hsz2 : (s1.heap.push { cls := .type "list_iterator", data := .fields #[.ref t, .int 0 0] }).objs.size = s1.heap.objs.size + 1 := Heap.size_push ..
    generalize s1.heap.push { cls := .type "list_iterator", data := .fields #[.ref t, .int 0 0] } = h2 at hk2 hit hsz2 ⊢
    have hPs : s1.heap.get? P = some { cls := .none, data := .fields ps } := I1.hok P _ hP
    have hPlt : P < s1.heap.objs.size := Heap.lt_size hPs
    have hP2 : h2.get? P = some { cls := .none, data := .fields ps } := hk2 _ _ hPs
    have cd : PySem.W.CodeHd h2 c P := TB.code.keeps fun b u e => hk2 _ _ (I1.bk b u e)
    have lim2 : h2.NoLimit := I1.nolimit.keeps hk2
    have hll := rv.length
    rw [List.length_map] at hll
    have tP : t ≠ P := fun z => by
      obtain ⟨o, ho, _, n, hd⟩ := pT
      rw [z, hPs] at ho
      cases ho
      cases hd
    have hzn : its.toArray.size = l.length := by rw [List.size_toArray]; omega
    have WT : ∀ A' : Around, A'.handled = none → Walks X.prog X.w A' s1.heap.objs.size _ _ _ _ _ := fun A' hA => Walks.list (prog := X.prog) (w := X.w) (A := A') hA s1.heap.objs.size t (Nat.ne_of_lt hlt) its.toArray
    have cont : ∀ (code : Value) (h3 : Heap) (tk : Nat) (ps' : Array Value), Heap.ExtBut P h2 h3 → h2.objs.size ≤ h3.objs.size → h3.get? P = some { cls := .none, data := .fields ps' } → (∃ more, ps' = ps ++ more) → TriplesOk ps'.toList →
        wpAny (model X.prog X.w) X.A (builtinsFor X.env.globals X.env.builtins) (fun bi s₄ =>
          ∃ Ia fp wr n₀ Pf St₀ pz F, Value.ref s1.heap.objs.size = .ref Ia ∧ (∀ A' : Around, A'.handled = none → Walks X.prog X.w A' Ia fp wr n₀ Pf St₀) ∧ St₀ 0 s₄.heap ∧ (∀ b ∈ fp, b < s₄.heap.objs.size) ∧ s₄.heap.NoLimit ∧ cStatics ∉ wr ∧
            (∀ href : Heap, (∀ b o, s₄.heap.get? b = some o → href.get? b = some o) →
              QuietGen X.prog X.w (genEnv scope (cloFrom X.env.cells scope.names []) s₄.heap.objs.size code bi X.env) x [ct] (.Name x p1) (List.range s₄.heap.objs.size) wr Pf pz F href) ∧
            (∀ a h₅ tk gs, gs.bare = true → s₄.heap.objs.size < a → h₅.objs.size = a + 1 → (∀ b o, s₄.heap.get? b = some o → h₅.get? b = some o) →
              WalksS X.prog X.w X.A.in4 a (a :: s₄.heap.objs.size :: List.range s₄.heap.objs.size) (s₄.heap.objs.size :: wr) (GenOnlyQ s₄.gens.size) (passing pz n₀ 0).length
                (fun j y => ∃ i, (passing pz n₀ 0)[j]? = some i ∧ F i y) (GenAt X.prog X.w X.A.in4 a s₄.gens.size s₄.heap.objs.size (List.range s₄.heap.objs.size) wr pz n₀ F) →
              GenAt X.prog X.w X.A.in4 a s₄.gens.size s₄.heap.objs.size (List.range s₄.heap.objs.size) wr pz n₀ F 0 { s₄ with gens := s₄.gens.push gs, toks := tk, heap := h₅ } →
              Q' (.ref a) { s₄ with gens := s₄.gens.push gs, toks := tk, heap := h₅ })) X.xe { s1 with heap := h3, toks := tk } := by
      intro code h3 tk ps' hx hsz hP3 hmore ht3
      obtain ⟨bm, ob, e1, e2, e3, e4, e5, e6, e7, e8⟩ := TB.bm
      have hcP : cStatics ≠ P := fun e => by
        obtain ⟨_, hns, _⟩ := I1.nolimit
        obtain ⟨o', es, ep, ho, hd, _⟩ := hns
        rw [e, hPs] at ho
        cases ho
        cases hd
      have hcl : cStatics < s1.heap.objs.size := let ⟨_, hns, _⟩ := I1.nolimit; hns.lt
      have keep3 : ∀ b u, b ≠ P → s1.heap.get? b = some u → h3.get? b = some u := fun b u hb e => hx b u hb (hk2 _ _ e)
      have iP : s1.heap.objs.size ≠ P := fun z => Nat.lt_irrefl _ (z ▸ hPlt)
      have off : ∀ b, b < s1.heap.objs.size → b ∉ [s1.heap.objs.size] := fun b hb hm => by
        have hm' : b = s1.heap.objs.size := by simpa using hm
        exact Nat.ne_of_lt hb hm'
      refine wpAny_builtinsFor (m := X.mg) (by rw [I1.ok.glob]; exact (((I1.mod.glob.keeps I1.bk).keeps hk2).extBut hx TB.gP)) e1 e2 (keep3 _ _ e4 (I1.bk _ _ e5)) e6 e7 e8 ?_
      refine ⟨s1.heap.objs.size, _, _, _, _, _, pzL pb l, (fun i y => ∃ z u, l[i]? = some z ∧ y = .int z u), rfl, WT, ⟨hit.at fun o q => hx _ o iP q, pT.at fun o q => keep3 _ o tP q⟩, ?_, lim2.extBut hx hcP, off _ hcl, ?_, ?_⟩
      · intro b hb
        have hb' : b = s1.heap.objs.size ∨ b = t := by simpa using hb
        show b < h3.objs.size
        rcases hb' with z | z
        · rw [z]
          show s1.heap.objs.size < h3.objs.size
          omega
        · rw [z]
          exact Nat.lt_of_lt_of_le hlt (show s1.heap.objs.size ≤ h3.objs.size by omega)
      · intro href hhref
        refine ⟨fun A' E' i v s₂ m₂ hA hPv hn hm hk => ?_, fun A' E' i v s₂ m₂ hA hPv hp hn hm hk => ?_⟩
        · have hxi' : its[i]? = some v := by simpa using hPv
          obtain ⟨z, t2, hz1, rfl⟩ := int_item rv hxi'
          refine one_if (wpAny_mono (htest _ A' E' z t2 s₂ m₂ rfl hn hm) (fun ok s3 q => ⟨?_, q.2⟩) fun _ _ e => e)
          rw [pzL_some hz1]
          exact q.1
        · have hxi' : its[i]? = some v := by simpa using hPv
          obtain ⟨z, t2, hz1, rfl⟩ := int_item rv hxi'
          exact wpAny_mono (elt_name (scope := scope) rfl S.kind S.loc hn hm hda) (fun y s3 q => ⟨⟨z, t2, hz1, q.1⟩, q.2⟩) fun _ _ e => e
      · intro g h5 tk5 gs hgb hag hsz5 hk5 W5 hat
        rw [hzn] at W5
        refine hQ t l H1 g _ q1 ⟨_, _, _, _, W5.in4_1, ?_, hat.1.typeIs, fun s' hm => ?_⟩
        · rw [hzn] at hat
          exact hat
        · obtain ⟨more, em⟩ := hmore
          have nwr : ∀ b u, s1.heap.get? b = some u → b ∉ h3.objs.size :: [s1.heap.objs.size] := fun b u e hb => by
            have hl := Heap.lt_size e
            rcases List.mem_cons.mp hb with z | z
            · rw [z] at hl
              have h9 : (h3.objs.size : Nat) < s1.heap.objs.size := hl
              omega
            · exact off b hl z
          have J := inv_tab (more := more) (h' := s'.heap) (g' := s'.gens) (d' := s'.drawn) (t' := s'.toks) I1 hP (fun b u hb e => hm.heap b u (nwr b u e) (hk5 b u (keep3 b u hb e)))
            (by rw [← em]; exact hm.heap P _ (nwr P _ hPs) (hk5 P _ hP3)) (AllBare.movedS (I1.bare.push hgb) hm)
          rw [sh_eta s1 s' hm.os] at J
          refine ⟨upd H1 P (.tbl (ps ++ more)), ⟨⟨ps ++ more, upd_same, by rw [← em]; exact ht3⟩, fun b hb => upd_ne hb⟩, J⟩
    refine ⟨lim2, ?_⟩
    cases hf : codeAmong gpos ps.toList with
    | none =>
      refine wpAny_genexprCodeX hcode (cd.code hP2 ht) (cd.tab hP2) hf fun c' h' tk hx hge hlt hco' _ htab' _ => ?_
      obtain ⟨o1, vs, f1, tf, fl, tg, inF, tx, tt, op, _, _, _, _, _, _, _, _, _, htr, _⟩ := hco'
      exact cont _ h' tk _ hx (Nat.le_trans hge (Nat.le_of_lt hlt)) htab'.2 ⟨_, rfl⟩ htr
    | some cv =>
      refine wpAny_genexprCode_hit hcode (cd.code hP2 ht) hf ?_
      exact cont cv h2 s1.toks ps (Heap.ExtBut.refl _ _) (Nat.le_refl _) hP2 ⟨#[], by simp⟩ ht
end
end GenNl

set_option Elab.async false
set_option linter.all false
set_option maxRecDepth 100000
set_option maxHeartbeats 2000000
/-! HookG's Hook over a lesser fragment: what the globals name, what is named by that, and so on; a function names its code and its defaults only -/
namespace HookG
open PySem PySem.Spec PyProof.Rows L2 He
def refsW (o : Obj) : List Addr := match o.data with
  | .func fd => refV fd.code ++ refV fd.defaults ++ refV fd.kwdefaults
  | _ => refsD o
def nxtW (g : Addr → Option Obj) (as : List Addr) : List Addr := as.flatMap fun a => match g a with
  | some o => refsW o
  | none => []
def levW (g : Addr → Option Obj) : Nat → List Addr → List Addr
  | 0, as => as
  | n + 1, as => as ++ levW g n (nxtW g as)
def asW (g : Addr → Option Obj) (n : Nat) : List Addr := levW g n [mainGlobals] ++ [cStatics]
end HookG

set_option Elab.async false
set_option linter.all false
set_option maxRecDepth 100000
set_option maxHeartbeats 2000000
/-! HookW's Hook with defs that hold generator expressions: their code objects, the tables of these, empty at the start and left out of the fragment -/
namespace HookT
open PySem PySem.Spec PyProof.Rows L2 He HookG
/-- the code object of the function at a -/
def codA (K : PySem.W.Frag) (a : Addr) : Addr := match K.lookup a with
  | some ⟨_, _, .func fd, _⟩ => (match fd.code with
    | .ref c => c
    | _ => 0)
  | _ => 0
theorem code_of {K : PySem.W.Frag} {x qual : Str} {params : Arguments} {body : List Stmt} {scope : Scope} {dvs : List V} {kws : List (Str × V)} {f : Addr} {fd : FuncData} (F : FunD K x qual params body scope dvs kws f fd) : fd.code = .ref (codA K f) := by
  obtain ⟨oc, od, dV, kV, doc, pm, an, cdv, ct, osl, rfl, lk, hcd, _, _⟩ := F.ex
  obtain ⟨c, rfl⟩ := codeIn_ref hcd
  unfold codA
  rw [lk] <;> rfl
/-- FunD.ok with the code object known -/
theorem okC {P : Program} {w : World} {K : PySem.W.Frag} {mg : Str → Option Value} {base : Heap} {x qual : Str} {params : Arguments} {body : List Stmt} {scope : Scope} {dvs : List V} {kws : List (Str × V)} {f : Addr} {fd : FuncData} {CX : CXT} {N ps : List Str} {k : Nat} {sp : Sp}
    (F : FunD K x qual params body scope dvs kws f fd) (S : FnScope N ps scope) (len : ∀ vs H Q E, sp vs H Q E → vs.length = ps.length)
    (hbody : ∀ (A : Around) (outer : List Env) (s : Shared) (H : Hp) (vs : List V) (Q : VK) (E : XK), Room k (A.deeper (envOfC qual scope s.heap.objs.size f fd.code)) → sp vs H Q E →
      ∃ t, PSs (cxOf CX P w K mg base N qual scope f fd.code A outer s H E) body t ∧ t { nx := fun _ H' => Q .non H', rt := Q } (start N vs) H) : FnOk P w K mg base CX (k + 1) f fd ps sp := by
  obtain ⟨oc, od, dV, kV, doc, pm, an, cdv, ct, osl, rfl, lk, hcd, _, _⟩ := F.ex
  exact fn_of lk hcd S len fun A outer s H vs Q E hr hsp => hbody A outer s H vs Q E hr hsp
def cTA (K : PySem.W.Frag) (p : At) : Addr × Addr := (codA K (p.adr K), tabOf K (codA K (p.adr K)))
structure SaysGT (fa : List Fa) (fn : List GD) (tf : List At) (ex : PySem.W.Frag → Bool) (h : Heap) (K : PySem.W.Frag) : Prop where
  g : SaysG fa fn ex K
  hd : ∀ p ∈ tf, PySem.W.codeHdIn K (cTA K p).1 (cTA K p).2 = true
  out : ∀ p ∈ tf, K.lookup (cTA K p).2 = none
  empty : ∀ p ∈ tf, h.get? (cTA K p).2 = some { cls := .none, data := .fields #[] }
def tabsB (g : Addr → Option Obj) (tf : List At) (K : PySem.W.Frag) : Bool := tf.all fun p => PySem.W.codeHdIn K (cTA K p).1 (cTA K p).2 && (match g (cTA K p).2 with
  | some o => emptyTab o
  | none => false)
abbrev AlGT : Type := AlG × Bool
def obsGT (n : Nat) (fa : List Fa) (fn : List GD) (tf : List At) (ex : PySem.W.Frag → Bool) (g : Addr → Option Obj) : AlGT := (obsG fa fn ex (frT g (asW g n)), tabsB g tf (frT g (asW g n)))
theorem saysGT_of {n : Nat} {fa : List Fa} {fn : List GD} {tf : List At} {ex : PySem.W.Frag → Bool} {h : Heap} (e : obsGT n fa fn tf ex h.get? = (valG fn, true)) : SaysGT fa fn tf ex h (frT h.get? (asW h.get? n)) := by
  have e1 : obsG fa fn ex (frT h.get? (asW h.get? n)) = valG fn := congrArg (fun z : AlGT => z.1) e
  have e2 : tabsB h.get? tf (frT h.get? (asW h.get? n)) = true := congrArg (fun z : AlGT => z.2) e
  have key : ∀ p ∈ tf, PySem.W.codeHdIn (frT h.get? (asW h.get? n)) (cTA (frT h.get? (asW h.get? n)) p).1 (cTA (frT h.get? (asW h.get? n)) p).2 = true ∧ ∃ o, h.get? (cTA (frT h.get? (asW h.get? n)) p).2 = some o ∧ emptyTab o = true := fun p hp => by
    obtain ⟨h3, h4⟩ := ba (List.all_eq_true.mp e2 p hp)
    refine ⟨h3, ?_⟩
    cases q : h.get? (cTA (frT h.get? (asW h.get? n)) p).2 with
    | none =>
      rw [q] at h4
      cases h4
    | some o =>
      rw [q] at h4
      exact ⟨o, rfl, h4⟩
  exact ⟨e1, fun p hp => (key p hp).1, fun p hp => by
    obtain ⟨_, o, q, z⟩ := key p hp
    exact frT_none q z, fun p hp => by
    obtain ⟨_, o, q, z⟩ := key p hp
    rw [q, emptyTab_eq z]⟩
def hookT (n : Nat) (fa : List Fa) (fn : List GD) (tf : List At) (ex : PySem.W.Frag → Bool) : PySem.W.Hook where
  α := AlGT
  obs := fun s => obsGT n fa fn tf ex s.heap.get?
  val := fun _ => (valG fn, true)
  says := fun _ h => ∃ K : PySem.W.Frag, K.In h ∧ SaysGT fa fn tf ex h K
  of := fun _ _ e => ⟨_, frT_in, saysGT_of e⟩
  keeps := fun _ _ _ ⟨K, hK, c⟩ k => ⟨K, PySem.W.Frag.In.keeps hK k, ⟨c.g, c.hd, c.out, fun p hp => k _ _ (c.empty p hp)⟩⟩
theorem obsGT_eq {n : Nat} {fa : List Fa} {fn : List GD} {tf : List At} {ex : PySem.W.Frag → Bool} {g : Addr → Option Obj} {s : Shared} (h : ∀ a, g a = s.heap.get? a) : obsGT n fa fn tf ex g = (hookT n fa fn tf ex).obs s := by
  have e : g = s.heap.get? := funext h
  rw [e] <;> rfl
/-- a table at the start -/
theorem tabG0 {H : Hp} {P : Addr} (h : H P = some (.tbl #[])) : GxR.TabG H P := ⟨#[], h, True.intro⟩
end HookT

set_option Elab.async false
set_option linter.all false
set_option maxRecDepth 100000
set_option maxHeartbeats 2000000
/-! any of a list of ints -/
namespace OwnF
open PySem PySem.Spec PyProof.Rows L2 SlX OwnR
section
variable {X : Cx}
end
end OwnF

set_option Elab.async false
set_option linter.all false
set_option maxRecDepth 100000
set_option maxHeartbeats 2000000
/-! a comprehension over enumerate(t), t a tuple -/
namespace EnumT
open PySem PySem.Spec PyProof.Rows L2
theorem lc_enumT {K : PySem.W.Frag} {a : Addr} {xs : List V} {g : TG} {tt : TT} {te : TE} {vs : List Nat} {σ : L2.St} {H1 : Hp} {D : Addr} {Qd : Hp → Prop} (Pv : Nat → Hp → Prop) (h0 : Pv 0 (upd H1 D (.lst []))) (hq : ∀ i H, i ≤ xs.length → Pv i H → SqT K H a xs)
    (hs : ∀ (i : Nat) (x : V) (T : Addr) (H : Hp), xs[i]? = some x → Pv i H → H T = none → g (.ref T) (wipe σ vs) (upd H T (.tup [.int (i : Nat), x])) fun σ2 H2 => wipe σ2 vs = wipe σ vs ∧ tt σ2 H2 fun b H3 =>
      if b = true then te σ2 H3 fun y H4 => ∃ acc, H4 D = some (.lst acc) ∧ acc.length < sizeLine ∧ Pv (i + 1) (upd H4 D (.lst (acc ++ [y]))) else Pv (i + 1) H3) (hd : ∀ H, Pv xs.length H → Qd H) :
    ∃ W : Nat → Nat → Hp → Prop, (∃ m, W 0 m (upd H1 D (.lst []))) ∧ ∀ i m H, W i m H →
      ((IteT K a).stop i H ∧ Qd H) ∨ ((IteT K a).go i H ∧ ∃ Nx : Hp → Prop, (∀ H', Nx H' → ∃ m', m' < m ∧ W (i + 1) m' H') ∧ ∀ x H', (IteT K a).yld i H x H' → g x (wipe σ vs) H' fun σ2 H2 => wipe σ2 vs = wipe σ vs ∧ tt σ2 H2 fun b H3 =>
        if b = true then te σ2 H3 fun y H4 => ∃ acc, H4 D = some (.lst acc) ∧ acc.length < sizeLine ∧ Nx (upd H4 D (.lst (acc ++ [y]))) else Nx H3) := by
  refine ⟨fun i m H => m = xs.length - i ∧ i ≤ xs.length ∧ Pv i H, ⟨xs.length, by simp, Nat.zero_le _, h0⟩, ?_⟩
  rintro i m H ⟨rfl, hi, p⟩
  have qx := hq i H hi p
  by_cases hlt : i < xs.length
  · have hx : xs[i]? = some xs[i] := List.getElem?_eq_getElem hlt
    refine .inr ⟨⟨xs, _, qx, hx⟩, Pv (i + 1), fun H' p' => ⟨xs.length - (i + 1), by omega, rfl, hlt, p'⟩, fun v H' y => ?_⟩
    obtain ⟨T, x', rfl, hT, rfl, f1⟩ := y
    exact hs i x' T H (f1 xs qx) p hT
  · have e : i = xs.length := by omega
    subst e
    exact .inl ⟨⟨xs, qx, rfl⟩, hd H p⟩
end EnumT

set_option Elab.async false
set_option linter.all false
set_option maxRecDepth 100000
set_option maxHeartbeats 2000000
/-! tuple(x) of an instance with own __iter__ (an iterator over a tuple) and own __len__ -/
namespace OwnR
open PySem PySem.Spec PyProof.Rows L2 SlX
section
variable {X : Cx} {CX : CXT} {pins : List (Addr × Obj)} {σ : L2.St} {H : Hp} {s : Shared} {C g gl t it q : Addr} {n i : Nat} {sp spl : Sp} {E : XK}
end
section
variable {X : Cx} {C g gl : Addr} {n : Nat} {sp spl : Sp} {fd fdl : FuncData} {ps psl : List Str}
end
end OwnR

set_option Elab.async false
set_option linter.all false
set_option maxRecDepth 100000
set_option maxHeartbeats 4000000
/-! tuple * int, the int 1, too: the same tuple -/
namespace RepT
open PySem PySem.Spec PyProof.Rows L2
end RepT

set_option Elab.async false
set_option linter.all false
set_option maxRecDepth 100000
set_option maxHeartbeats 4000000
/-! tuple * int, the int 0, too: an empty tuple -/
namespace RepZ
open PySem PySem.Spec PyProof.Rows L2 RepT
end RepZ

set_option Elab.async false
set_option linter.all false
set_option maxRecDepth 100000
set_option maxHeartbeats 2000000
/-! zip of a list and a tuple -/
namespace ZipX
open PySem PySem.Spec PyProof.Rows L2 RZ
def StX (a b z TI TO i1 i2 : Addr) (i : Nat) (h : Heap) : Prop := IsZip h z TI TO .none ∧ IsPair h TI (.ref i1) (.ref i2) ∧ (∃ x y, IsPair h TO x y) ∧ h.IsListIter i1 a i ∧ h.IsTupleIter i2 b i
section
variable {prog : Program} {w : World} {A : Around} {E : Value → Shared → Prop} {s : Shared}
end
end ZipX

set_option Elab.async false
set_option linter.all false
set_option maxRecDepth 100000
/-! x *= n for ints -/
namespace AugM
open PySem PySem.Spec PyProof.Rows L2 MyR
variable {X : Cx}
end AugM

set_option Elab.async false
set_option linter.all false
set_option maxRecDepth 100000
set_option maxHeartbeats 2000000
/-! l.count(x) of data, sorted(set) of pairs of ints -/
namespace TupC
open PySem PySem.Spec PyProof.Rows L2
section
variable {X : Cx}
end
section
variable {P : Program} {w : World} {A : Around} {E : Value → Shared → Prop} {s : Shared}
end
section
variable {X : Cx}
end
end TupC

set_option Elab.async false
set_option linter.all false
set_option maxRecDepth 100000
/-! max(t) of a tuple of ints -/
namespace MaxT
open PySem PySem.Spec PyProof.Rows L2
section
variable {prog : Program} {w : World} {A : Around} {E : Value → Shared → Prop} {s : Shared}
end
section
variable {X : Cx}
end
end MaxT

set_option Elab.async false
set_option linter.all false
set_option maxRecDepth 100000
set_option maxHeartbeats 4000000
namespace K59
open PySem PySem.Spec PyProof.Rows L2 SlX OwnR OwnF
theorem hu64 {k : Nat} {A : Around} (hr : Room k A) : A.units + 64 < cLine := hr.units
theorem same_upd0 {H : Hp} {p : Addr} {o : HO} (h : H p = none) : Same H (upd H p o) := fun b x e => by
  rw [upd_ne (ne_of_none e h)]
  exact e
def topS (i : Nat) : Stmt := PySem.Challenge.pw_sourceforms_k59_whole_powers_by_second_l.main.body.getD i (.Pass ⟨0, 0, 0, 0⟩)
abbrev FnM (K : PySem.W.Frag) (x q : Str) (st : Stmt) (f : Addr) (fd : FuncData) : Prop := FunD K x q (defArgs st) (defBody st) (defScope st) [] [] f fd
abbrev FnP (K : PySem.W.Frag) (x : Str) (st : Stmt) (f : Addr) (fd : FuncData) : Prop := FunD K x x (defArgs st) (defBody st) (defScope st) [] [] f fd
abbrev s_is_whole : Stmt := topS 12
abbrev N_is_whole : List Str := ["value"]
theorem sc_is_whole : FnScope N_is_whole ["value"] (defScope s_is_whole) := ⟨rfl, rfl, rfl, by decide +kernel, rfl, by decide +kernel, by decide +kernel⟩
abbrev s_is_short : Stmt := topS 13
abbrev N_is_short : List Str := ["value"]
theorem sc_is_short : FnScope N_is_short ["value"] (defScope s_is_short) := ⟨rfl, rfl, rfl, by decide +kernel, rfl, by decide +kernel, by decide +kernel⟩
abbrev s_is_from : Stmt := topS 14
abbrev N_is_from : List Str := ["value", "least", "most"]
theorem sc_is_from : FnScope N_is_from ["value", "least", "most"] (defScope s_is_from) := ⟨rfl, rfl, rfl, by decide +kernel, rfl, by decide +kernel, by decide +kernel⟩
abbrev s_are_wholes : Stmt := topS 15
abbrev N_are_wholes : List Str := ["value", "entry"]
theorem sc_are_wholes : FnScope N_are_wholes ["value"] (defScope s_are_wholes) := ⟨rfl, rfl, rfl, by decide +kernel, rfl, by decide +kernel, by decide +kernel⟩
abbrev s_are_short : Stmt := topS 16
abbrev N_are_short : List Str := ["value", "entry"]
theorem sc_are_short : FnScope N_are_short ["value"] (defScope s_are_short) := ⟨rfl, rfl, rfl, by decide +kernel, rfl, by decide +kernel, by decide +kernel⟩
abbrev s_shared_of : Stmt := topS 19
abbrev N_shared_of : List Str := ["numbers", "found", "number"]
theorem sc_shared_of : FnScope N_shared_of ["numbers"] (defScope s_shared_of) := ⟨rfl, rfl, rfl, by decide +kernel, rfl, by decide +kernel, by decide +kernel⟩
abbrev s_first_of : Stmt := topS 20
abbrev N_first_of : List Str := ["numbers"]
theorem sc_first_of : FnScope N_first_of ["numbers"] (defScope s_first_of) := ⟨rfl, rfl, rfl, by decide +kernel, rfl, by decide +kernel, by decide +kernel⟩
abbrev s_lots_of : Stmt := topS 21
abbrev N_lots_of : List Str := ["many", "few", "found", "at"]
theorem sc_lots_of : FnScope N_lots_of ["many", "few"] (defScope s_lots_of) := ⟨rfl, rfl, rfl, by decide +kernel, rfl, by decide +kernel, by decide +kernel⟩
abbrev s_is_point_any : Stmt := topS 22
abbrev N_is_point_any : List Str := ["value"]
theorem sc_is_point_any : FnScope N_is_point_any ["value"] (defScope s_is_point_any) := ⟨rfl, rfl, rfl, by decide +kernel, rfl, by decide +kernel, by decide +kernel⟩
abbrev s_product_in : Stmt := topS 27
abbrev N_product_in : List Str := ["one", "other"]
theorem sc_product_in : FnScope N_product_in ["one", "other"] (defScope s_product_in) := ⟨rfl, rfl, rfl, by decide +kernel, rfl, by decide +kernel, by decide +kernel⟩
abbrev s_joined_entries : Stmt := topS 28
abbrev N_joined_entries : List Str := ["one", "other", "found", "place", "at"]
theorem sc_joined_entries : FnScope N_joined_entries ["one", "other"] (defScope s_joined_entries) := ⟨rfl, rfl, rfl, by decide +kernel, rfl, by decide +kernel, by decide +kernel⟩
abbrev s_power_in : Stmt := topS 29
abbrev N_power_in : List Str := ["pair", "degree", "found", "turn"]
theorem sc_power_in : FnScope N_power_in ["pair", "degree"] (defScope s_power_in) := ⟨rfl, rfl, rfl, by decide +kernel, rfl, by decide +kernel, by decide +kernel⟩
abbrev s_line_in : Stmt := topS 30
abbrev N_line_in : List Str := ["point"]
theorem sc_line_in : FnScope N_line_in ["point"] (defScope s_line_in) := ⟨rfl, rfl, rfl, by decide +kernel, rfl, by decide +kernel, by decide +kernel⟩
abbrev s_derived_in : Stmt := topS 33
abbrev s_is_zero_in : Stmt := topS 34
abbrev N_is_zero_in : List Str := ["entries"]
theorem sc_is_zero_in : FnScope N_is_zero_in ["entries"] (defScope s_is_zero_in) := ⟨rfl, rfl, rfl, by decide +kernel, rfl, by decide +kernel, by decide +kernel⟩
abbrev s_first_index : Stmt := topS 35
abbrev N_first_index : List Str := ["entries"]
theorem sc_first_index : FnScope N_first_index ["entries"] (defScope s_first_index) := ⟨rfl, rfl, rfl, by decide +kernel, rfl, by decide +kernel, by decide +kernel⟩
abbrev s_are_entries : Stmt := topS 37
abbrev N_are_entries : List Str := ["value"]
theorem sc_are_entries : FnScope N_are_entries ["value"] (defScope s_are_entries) := ⟨rfl, rfl, rfl, by decide +kernel, rfl, by decide +kernel, by decide +kernel⟩
abbrev s_form_of : Stmt := topS 39
abbrev s_require_form : Stmt := topS 40
abbrev N_require_form : List Str := ["value"]
theorem sc_require_form : FnScope N_require_form ["value"] (defScope s_require_form) := ⟨rfl, rfl, rfl, by decide +kernel, rfl, by decide +kernel, by decide +kernel⟩
abbrev s_laying_slope : Stmt := topS 43
abbrev N_laying_slope : List Str := ["entries", "by_y", "at", "entry"]
theorem sc_laying_slope : FnScope N_laying_slope ["entries", "by_y"] (defScope s_laying_slope) := ⟨rfl, rfl, rfl, by decide +kernel, rfl, by decide +kernel, by decide +kernel⟩
abbrev s_laying_slopes : Stmt := topS 44
abbrev N_laying_slopes : List Str := ["entries", "times", "found", "turn", "one"]
theorem sc_laying_slopes : FnScope N_laying_slopes ["entries", "times"] (defScope s_laying_slopes) := ⟨rfl, rfl, rfl, by decide +kernel, rfl, by decide +kernel, by decide +kernel⟩
abbrev s_add_product : Stmt := topS 45
abbrev N_add_product : List Str := ["found", "one", "other", "factor", "at", "first", "place", "second"]
theorem sc_add_product : FnScope N_add_product ["found", "one", "other", "factor"] (defScope s_add_product) := ⟨rfl, rfl, rfl, by decide +kernel, rfl, by decide +kernel, by decide +kernel⟩
abbrev s_laid_in : Stmt := topS 46
abbrev N_laid_in : List Str := ["one", "other", "times", "found", "first", "second", "at"]
theorem sc_laid_in : FnScope N_laid_in ["one", "other", "times"] (defScope s_laid_in) := ⟨rfl, rfl, rfl, by decide +kernel, rfl, by decide +kernel, by decide +kernel⟩
abbrev s_point_of_line : Stmt := topS 51
abbrev N_point_of_line : List Str := ["one", "other", "part", "a", "b"]
theorem sc_point_of_line : FnScope N_point_of_line ["one", "other"] (defScope s_point_of_line) := ⟨rfl, rfl, rfl, by decide +kernel, rfl, by decide +kernel, by decide +kernel⟩
abbrev s_power_told : Stmt := topS 52
abbrev N_power_told : List Str := ["entries", "degree", "first", "point", "line", "at"]
theorem sc_power_told : FnScope N_power_told ["entries"] (defScope s_power_told) := ⟨rfl, rfl, rfl, by decide +kernel, rfl, by decide +kernel, by decide +kernel⟩
abbrev s_is_power_in : Stmt := topS 53
abbrev N_is_power_in : List Str := ["entries"]
theorem sc_is_power_in : FnScope N_is_power_in ["entries"] (defScope s_is_power_in) := ⟨rfl, rfl, rfl, by decide +kernel, rfl, by decide +kernel, by decide +kernel⟩
abbrev s_entry_paper : Stmt := topS 54
abbrev N_entry_paper : List Str := ["entries", "times", "told", "at"]
theorem sc_entry_paper : FnScope N_entry_paper ["entries", "times"] (defScope s_entry_paper) := ⟨rfl, rfl, rfl, by decide +kernel, rfl, by decide +kernel, by decide +kernel⟩
abbrev s_times_power : Stmt := topS 55
abbrev N_times_power : List Str := ["number", "point", "degree", "entry"]
theorem sc_times_power : FnScope N_times_power ["number", "point", "degree"] (defScope s_times_power) := ⟨rfl, rfl, rfl, by decide +kernel, rfl, by decide +kernel, by decide +kernel⟩
abbrev s_is_entry_of : Stmt := topS 56
abbrev N_is_entry_of : List Str := ["entries", "times", "value", "index", "entry", "told"]
theorem sc_is_entry_of : FnScope N_is_entry_of ["entries", "times", "value"] (defScope s_is_entry_of) := ⟨rfl, rfl, rfl, by decide +kernel, rfl, by decide +kernel, by decide +kernel⟩
abbrev s_paper_word : Stmt := topS 57
abbrev N_paper_word : List Str := ["value"]
theorem sc_paper_word : FnScope N_paper_word ["value"] (defScope s_paper_word) := ⟨rfl, rfl, rfl, by decide +kernel, rfl, by decide +kernel, by decide +kernel⟩
abbrev s_power_paper : Stmt := topS 58
abbrev N_power_paper : List Str := ["form", "entries"]
theorem sc_power_paper : FnScope N_power_paper ["form"] (defScope s_power_paper) := ⟨rfl, rfl, rfl, by decide +kernel, rfl, by decide +kernel, by decide +kernel⟩
abbrev s_is_told_power : Stmt := topS 59
abbrev N_is_told_power : List Str := ["entries", "value"]
theorem sc_is_told_power : FnScope N_is_told_power ["entries", "value"] (defScope s_is_told_power) := ⟨rfl, rfl, rfl, by decide +kernel, rfl, by decide +kernel, by decide +kernel⟩
abbrev s_is_power_paper : Stmt := topS 60
abbrev N_is_power_paper : List Str := ["form", "value", "word"]
theorem sc_is_power_paper : FnScope N_is_power_paper ["form", "value"] (defScope s_is_power_paper) := ⟨rfl, rfl, rfl, by decide +kernel, rfl, by decide +kernel, by decide +kernel⟩
abbrev s_law_dice : Stmt := topS 62
abbrev N_law_dice : List Str := ["_law_script", "_law_spot", "_law_cell", "_law_left"]
theorem sc_law_dice : FnScope N_law_dice ["_law_script", "_law_spot"] (defScope s_law_dice) := ⟨rfl, rfl, rfl, by decide +kernel, rfl, by decide +kernel, by decide +kernel⟩
abbrev s_law_roll : Stmt := topS 63
abbrev N_law_roll : List Str := ["_law_dice_here", "_law_total", "_law_found", "_law_one", "_law_two"]
theorem sc_law_roll : FnScope N_law_roll ["_law_dice_here", "_law_total"] (defScope s_law_roll) := ⟨rfl, rfl, rfl, by decide +kernel, rfl, by decide +kernel, by decide +kernel⟩
abbrev s_law_pick : Stmt := topS 64
abbrev N_law_pick : List Str := ["_law_dice_here", "_law_items"]
theorem sc_law_pick : FnScope N_law_pick ["_law_dice_here", "_law_items"] (defScope s_law_pick) := ⟨rfl, rfl, rfl, by decide +kernel, rfl, by decide +kernel, by decide +kernel⟩
abbrev s_law_near : Stmt := topS 65
abbrev N_law_near : List Str := ["_law_dice_here", "_law_most"]
theorem sc_law_near : FnScope N_law_near ["_law_dice_here", "_law_most"] (defScope s_law_near) := ⟨rfl, rfl, rfl, by decide +kernel, rfl, by decide +kernel, by decide +kernel⟩
abbrev s_law_gcd : Stmt := topS 66
abbrev N_law_gcd : List Str := ["_law_one", "_law_other"]
theorem sc_law_gcd : FnScope N_law_gcd ["_law_one", "_law_other"] (defScope s_law_gcd) := ⟨rfl, rfl, rfl, by decide +kernel, rfl, by decide +kernel, by decide +kernel⟩
abbrev s_law_shared : Stmt := topS 67
abbrev N_law_shared : List Str := ["_law_numbers", "_law_found", "_law_number"]
theorem sc_law_shared : FnScope N_law_shared ["_law_numbers"] (defScope s_law_shared) := ⟨rfl, rfl, rfl, by decide +kernel, rfl, by decide +kernel, by decide +kernel⟩
abbrev s_law_choose : Stmt := topS 68
abbrev N_law_choose : List Str := ["_law_many", "_law_few", "_law_found", "_law_at"]
theorem sc_law_choose : FnScope N_law_choose ["_law_many", "_law_few"] (defScope s_law_choose) := ⟨rfl, rfl, rfl, by decide +kernel, rfl, by decide +kernel, by decide +kernel⟩
abbrev s_law_plus : Stmt := topS 69
abbrev N_law_plus : List Str := ["_law_one", "_law_other", "_law_first", "_law_second"]
theorem sc_law_plus : FnScope N_law_plus ["_law_one", "_law_other"] (defScope s_law_plus) := ⟨rfl, rfl, rfl, by decide +kernel, rfl, by decide +kernel, by decide +kernel⟩
abbrev s_law_scaled : Stmt := topS 70
abbrev N_law_scaled : List Str := ["_law_form_here", "_law_factor", "_law_entry"]
theorem sc_law_scaled : FnScope N_law_scaled ["_law_form_here", "_law_factor"] (defScope s_law_scaled) := ⟨rfl, rfl, rfl, by decide +kernel, rfl, by decide +kernel, by decide +kernel⟩
abbrev s_law_product : Stmt := topS 71
abbrev N_law_product : List Str := ["_law_one", "_law_other", "_law_found", "_law_place", "_law_at", "_law_first", "_law_second"]
theorem sc_law_product : FnScope N_law_product ["_law_one", "_law_other"] (defScope s_law_product) := ⟨rfl, rfl, rfl, by decide +kernel, rfl, by decide +kernel, by decide +kernel⟩
abbrev s_law_all_product : Stmt := topS 72
abbrev N_law_all_product : List Str := ["_law_forms", "_law_found", "_law_form_here"]
theorem sc_law_all_product : FnScope N_law_all_product ["_law_forms"] (defScope s_law_all_product) := ⟨rfl, rfl, rfl, by decide +kernel, rfl, by decide +kernel, by decide +kernel⟩
abbrev s_law_power : Stmt := topS 73
abbrev N_law_power : List Str := ["_law_pair", "_law_times", "_law_found", "_law_turn"]
theorem sc_law_power : FnScope N_law_power ["_law_pair", "_law_times"] (defScope s_law_power) := ⟨rfl, rfl, rfl, by decide +kernel, rfl, by decide +kernel, by decide +kernel⟩
abbrev s_law_by_x : Stmt := topS 74
abbrev N_law_by_x : List Str := ["_law_form_here", "_law_at", "_law_entry"]
theorem sc_law_by_x : FnScope N_law_by_x ["_law_form_here"] (defScope s_law_by_x) := ⟨rfl, rfl, rfl, by decide +kernel, rfl, by decide +kernel, by decide +kernel⟩
abbrev s_law_by_y : Stmt := topS 75
abbrev N_law_by_y : List Str := ["_law_form_here", "_law_at", "_law_entry"]
theorem sc_law_by_y : FnScope N_law_by_y ["_law_form_here"] (defScope s_law_by_y) := ⟨rfl, rfl, rfl, by decide +kernel, rfl, by decide +kernel, by decide +kernel⟩
abbrev s_law_derived : Stmt := topS 76
abbrev N_law_derived : List Str := ["_law_form_here", "_law_one", "_law_other", "_law_turn"]
theorem sc_law_derived : FnScope N_law_derived ["_law_form_here", "_law_one", "_law_other"] (defScope s_law_derived) := ⟨rfl, rfl, rfl, by decide +kernel, rfl, by decide +kernel, by decide +kernel⟩
abbrev s_law_laid : Stmt := topS 77
abbrev N_law_laid : List Str := ["_law_one", "_law_other", "_law_times", "_law_found", "_law_place", "_law_at", "_law_piece", "_law_number"]
theorem sc_law_laid : FnScope N_law_laid ["_law_one", "_law_other", "_law_times"] (defScope s_law_laid) := ⟨rfl, rfl, rfl, by decide +kernel, rfl, by decide +kernel, by decide +kernel⟩
abbrev s_law_plain : Stmt := topS 78
abbrev N_law_plain : List Str := ["_law_form_here", "_law_part", "_law_first", "_law_entry"]
theorem sc_law_plain : FnScope N_law_plain ["_law_form_here"] (defScope s_law_plain) := ⟨rfl, rfl, rfl, by decide +kernel, rfl, by decide +kernel, by decide +kernel⟩
abbrev s_law_line : Stmt := topS 79
abbrev N_law_line : List Str := ["_law_point_here"]
theorem sc_law_line : FnScope N_law_line ["_law_point_here"] (defScope s_law_line) := ⟨rfl, rfl, rfl, by decide +kernel, rfl, by decide +kernel, by decide +kernel⟩
abbrev s_law_point : Stmt := topS 80
abbrev N_law_point : List Str := ["_law_dice_here", "_law_most", "_law_one", "_law_other"]
theorem sc_law_point : FnScope N_law_point ["_law_dice_here", "_law_most"] (defScope s_law_point) := ⟨rfl, rfl, rfl, by decide +kernel, rfl, by decide +kernel, by decide +kernel⟩
abbrev s_law_small_form : Stmt := topS 81
abbrev N_law_small_form : List Str := ["_law_dice_here", "_law_degree", "_law_most", "_law_place"]
theorem sc_law_small_form : FnScope N_law_small_form ["_law_dice_here", "_law_degree", "_law_most"] (defScope s_law_small_form) := ⟨rfl, rfl, rfl, by decide +kernel, rfl, by decide +kernel, by decide +kernel⟩
abbrev s_law_form : Stmt := topS 82
abbrev N_law_form : List Str := ["_law_dice_here", "_law_degree", "_law_way", "_law_turn", "_law_line_here", "_law_often", "_law_found", "_law_place"]
theorem sc_law_form : FnScope N_law_form ["_law_dice_here", "_law_degree"] (defScope s_law_form) := ⟨rfl, rfl, rfl, by decide +kernel, rfl, by decide +kernel, by decide +kernel⟩
abbrev s_law_is_whole : Stmt := topS 83
abbrev N_law_is_whole : List Str := ["_law_value"]
theorem sc_law_is_whole : FnScope N_law_is_whole ["_law_value"] (defScope s_law_is_whole) := ⟨rfl, rfl, rfl, by decide +kernel, rfl, by decide +kernel, by decide +kernel⟩
abbrev s_law_is_point : Stmt := topS 84
abbrev N_law_is_point : List Str := ["_law_value"]
theorem sc_law_is_point : FnScope N_law_is_point ["_law_value"] (defScope s_law_is_point) := ⟨rfl, rfl, rfl, by decide +kernel, rfl, by decide +kernel, by decide +kernel⟩
abbrev s_law_is_right : Stmt := topS 85
abbrev N_law_is_right : List Str := ["_law_entries", "_law_value", "_law_degree", "_law_hesse"]
theorem sc_law_is_right : FnScope N_law_is_right ["_law_entries", "_law_value"] (defScope s_law_is_right) := ⟨rfl, rfl, rfl, by decide +kernel, rfl, by decide +kernel, by decide +kernel⟩
abbrev s_law_near_values : Stmt := topS 86
abbrev N_law_near_values : List Str := ["_law_dice_here", "_law_paper", "_law_point_here", "_law_found", "_law_one", "_law_other"]
theorem sc_law_near_values : FnScope N_law_near_values ["_law_dice_here", "_law_paper"] (defScope s_law_near_values) := ⟨rfl, rfl, rfl, by decide +kernel, rfl, by decide +kernel, by decide +kernel⟩
abbrev s_law_right : Stmt := topS 87
abbrev N_law_right : List Str := ["_law_dice_here", "_law_entries", "_law_form_here", "_law_degree", "_law_paper", "_law_is_power", "_law_some", "_law_value"]
theorem sc_law_right : FnScope N_law_right ["_law_dice_here", "_law_entries"] (defScope s_law_right) := ⟨rfl, rfl, rfl, by decide +kernel, rfl, by decide +kernel, by decide +kernel⟩
abbrev s_law_power_form : Stmt := topS 88
abbrev N_law_power_form : List Str := ["_law_dice_here", "_law_line_here", "_law_number"]
theorem sc_law_power_form : FnScope N_law_power_form ["_law_dice_here"] (defScope s_law_power_form) := ⟨rfl, rfl, rfl, by decide +kernel, rfl, by decide +kernel, by decide +kernel⟩
abbrev s_law : Stmt := topS 89
abbrev N_law : List Str := ["_law_script", "_law_spot", "_law_dice_here", "_law_line_here", "_law_often", "_law_told"]
theorem sc_law : FnScope N_law ["_law_script"] (defScope s_law) := ⟨rfl, rfl, rfl, by decide +kernel, rfl, by decide +kernel, by decide +kernel⟩
abbrev s_Told_init : Stmt := inClass (topS 36) 1
abbrev s_Form_init : Stmt := inClass (topS 38) 1
abbrev N_Form_init : List Str := ["self", "entries"]
theorem sc_Form_init : FnScope N_Form_init ["self", "entries"] (defScope s_Form_init) := ⟨rfl, rfl, rfl, by decide +kernel, rfl, by decide +kernel, by decide +kernel⟩
abbrev s_Form_entries : Stmt := inClass (topS 38) 4
abbrev N_Form_entries : List Str := ["self"]
theorem sc_Form_entries : FnScope N_Form_entries ["self"] (defScope s_Form_entries) := ⟨rfl, rfl, rfl, by decide +kernel, rfl, by decide +kernel, by decide +kernel⟩
abbrev s_Form_degree : Stmt := inClass (topS 38) 5
abbrev N_Form_degree : List Str := ["self"]
theorem sc_Form_degree : FnScope N_Form_degree ["self"] (defScope s_Form_degree) := ⟨rfl, rfl, rfl, by decide +kernel, rfl, by decide +kernel, by decide +kernel⟩
abbrev s_Form_is_zero : Stmt := inClass (topS 38) 6
abbrev N_Form_is_zero : List Str := ["self"]
theorem sc_Form_is_zero : FnScope N_Form_is_zero ["self"] (defScope s_Form_is_zero) := ⟨rfl, rfl, rfl, by decide +kernel, rfl, by decide +kernel, by decide +kernel⟩
abbrev s_Form_eq : Stmt := inClass (topS 38) 18
abbrev s_Form_len : Stmt := inClass (topS 38) 19
abbrev s_Form_iter : Stmt := inClass (topS 38) 20
/-- where the defs stand, what the names of the module are -/
structure Facts (K : PySem.W.Frag) (mg : Str → Option Value) where
  f_is_whole : Addr
  fd_is_whole : FuncData
  F_is_whole : FnP K "is_whole" s_is_whole f_is_whole fd_is_whole
  g_is_whole : mg "is_whole" = some (.ref f_is_whole)
  b_is_whole : Binds K fd_is_whole ["value"] []
  f_is_short : Addr
  fd_is_short : FuncData
  F_is_short : FnP K "is_short" s_is_short f_is_short fd_is_short
  g_is_short : mg "is_short" = some (.ref f_is_short)
  b_is_short : Binds K fd_is_short ["value"] []
  f_is_from : Addr
  fd_is_from : FuncData
  F_is_from : FnP K "is_from" s_is_from f_is_from fd_is_from
  g_is_from : mg "is_from" = some (.ref f_is_from)
  b_is_from : Binds K fd_is_from ["value", "least", "most"] []
  f_are_wholes : Addr
  fd_are_wholes : FuncData
  F_are_wholes : FnP K "are_wholes" s_are_wholes f_are_wholes fd_are_wholes
  g_are_wholes : mg "are_wholes" = some (.ref f_are_wholes)
  b_are_wholes : Binds K fd_are_wholes ["value"] []
  f_are_short : Addr
  fd_are_short : FuncData
  F_are_short : FnP K "are_short" s_are_short f_are_short fd_are_short
  g_are_short : mg "are_short" = some (.ref f_are_short)
  b_are_short : Binds K fd_are_short ["value"] []
  f_shared_of : Addr
  fd_shared_of : FuncData
  F_shared_of : FnP K "shared_of" s_shared_of f_shared_of fd_shared_of
  g_shared_of : mg "shared_of" = some (.ref f_shared_of)
  b_shared_of : Binds K fd_shared_of ["numbers"] []
  f_first_of : Addr
  fd_first_of : FuncData
  F_first_of : FnP K "first_of" s_first_of f_first_of fd_first_of
  g_first_of : mg "first_of" = some (.ref f_first_of)
  b_first_of : Binds K fd_first_of ["numbers"] []
  f_lots_of : Addr
  fd_lots_of : FuncData
  F_lots_of : FnP K "lots_of" s_lots_of f_lots_of fd_lots_of
  g_lots_of : mg "lots_of" = some (.ref f_lots_of)
  b_lots_of : Binds K fd_lots_of ["many", "few"] []
  f_is_point_any : Addr
  fd_is_point_any : FuncData
  F_is_point_any : FnP K "is_point_any" s_is_point_any f_is_point_any fd_is_point_any
  g_is_point_any : mg "is_point_any" = some (.ref f_is_point_any)
  b_is_point_any : Binds K fd_is_point_any ["value"] []
  f_product_in : Addr
  fd_product_in : FuncData
  F_product_in : FnP K "product_in" s_product_in f_product_in fd_product_in
  g_product_in : mg "product_in" = some (.ref f_product_in)
  b_product_in : Binds K fd_product_in ["one", "other"] []
  f_joined_entries : Addr
  fd_joined_entries : FuncData
  F_joined_entries : FnP K "joined_entries" s_joined_entries f_joined_entries fd_joined_entries
  g_joined_entries : mg "joined_entries" = some (.ref f_joined_entries)
  b_joined_entries : Binds K fd_joined_entries ["one", "other"] []
  f_power_in : Addr
  fd_power_in : FuncData
  F_power_in : FnP K "power_in" s_power_in f_power_in fd_power_in
  g_power_in : mg "power_in" = some (.ref f_power_in)
  b_power_in : Binds K fd_power_in ["pair", "degree"] []
  f_line_in : Addr
  fd_line_in : FuncData
  F_line_in : FnP K "line_in" s_line_in f_line_in fd_line_in
  g_line_in : mg "line_in" = some (.ref f_line_in)
  b_line_in : Binds K fd_line_in ["point"] []
  f_derived_in : Addr
  fd_derived_in : FuncData
  F_derived_in : FnP K "derived_in" s_derived_in f_derived_in fd_derived_in
  g_derived_in : mg "derived_in" = some (.ref f_derived_in)
  b_derived_in : Binds K fd_derived_in ["entries", "one", "other"] []
  f_is_zero_in : Addr
  fd_is_zero_in : FuncData
  F_is_zero_in : FnP K "is_zero_in" s_is_zero_in f_is_zero_in fd_is_zero_in
  g_is_zero_in : mg "is_zero_in" = some (.ref f_is_zero_in)
  b_is_zero_in : Binds K fd_is_zero_in ["entries"] []
  f_first_index : Addr
  fd_first_index : FuncData
  F_first_index : FnP K "first_index" s_first_index f_first_index fd_first_index
  g_first_index : mg "first_index" = some (.ref f_first_index)
  b_first_index : Binds K fd_first_index ["entries"] []
  f_are_entries : Addr
  fd_are_entries : FuncData
  F_are_entries : FnP K "are_entries" s_are_entries f_are_entries fd_are_entries
  g_are_entries : mg "are_entries" = some (.ref f_are_entries)
  b_are_entries : Binds K fd_are_entries ["value"] []
  f_form_of : Addr
  fd_form_of : FuncData
  F_form_of : FnP K "form_of" s_form_of f_form_of fd_form_of
  g_form_of : mg "form_of" = some (.ref f_form_of)
  b_form_of : Binds K fd_form_of ["entries"] []
  f_require_form : Addr
  fd_require_form : FuncData
  F_require_form : FnP K "require_form" s_require_form f_require_form fd_require_form
  g_require_form : mg "require_form" = some (.ref f_require_form)
  b_require_form : Binds K fd_require_form ["value"] []
  f_laying_slope : Addr
  fd_laying_slope : FuncData
  F_laying_slope : FnP K "laying_slope" s_laying_slope f_laying_slope fd_laying_slope
  g_laying_slope : mg "laying_slope" = some (.ref f_laying_slope)
  b_laying_slope : Binds K fd_laying_slope ["entries", "by_y"] []
  f_laying_slopes : Addr
  fd_laying_slopes : FuncData
  F_laying_slopes : FnP K "laying_slopes" s_laying_slopes f_laying_slopes fd_laying_slopes
  g_laying_slopes : mg "laying_slopes" = some (.ref f_laying_slopes)
  b_laying_slopes : Binds K fd_laying_slopes ["entries", "times"] []
  f_add_product : Addr
  fd_add_product : FuncData
  F_add_product : FnP K "add_product" s_add_product f_add_product fd_add_product
  g_add_product : mg "add_product" = some (.ref f_add_product)
  b_add_product : Binds K fd_add_product ["found", "one", "other", "factor"] []
  f_laid_in : Addr
  fd_laid_in : FuncData
  F_laid_in : FnP K "laid_in" s_laid_in f_laid_in fd_laid_in
  g_laid_in : mg "laid_in" = some (.ref f_laid_in)
  b_laid_in : Binds K fd_laid_in ["one", "other", "times"] []
  f_point_of_line : Addr
  fd_point_of_line : FuncData
  F_point_of_line : FnP K "point_of_line" s_point_of_line f_point_of_line fd_point_of_line
  g_point_of_line : mg "point_of_line" = some (.ref f_point_of_line)
  b_point_of_line : Binds K fd_point_of_line ["one", "other"] []
  f_power_told : Addr
  fd_power_told : FuncData
  F_power_told : FnP K "power_told" s_power_told f_power_told fd_power_told
  g_power_told : mg "power_told" = some (.ref f_power_told)
  b_power_told : Binds K fd_power_told ["entries"] []
  f_is_power_in : Addr
  fd_is_power_in : FuncData
  F_is_power_in : FnP K "is_power_in" s_is_power_in f_is_power_in fd_is_power_in
  g_is_power_in : mg "is_power_in" = some (.ref f_is_power_in)
  b_is_power_in : Binds K fd_is_power_in ["entries"] []
  f_entry_paper : Addr
  fd_entry_paper : FuncData
  F_entry_paper : FnP K "entry_paper" s_entry_paper f_entry_paper fd_entry_paper
  g_entry_paper : mg "entry_paper" = some (.ref f_entry_paper)
  b_entry_paper : Binds K fd_entry_paper ["entries", "times"] []
  f_times_power : Addr
  fd_times_power : FuncData
  F_times_power : FnP K "times_power" s_times_power f_times_power fd_times_power
  g_times_power : mg "times_power" = some (.ref f_times_power)
  b_times_power : Binds K fd_times_power ["number", "point", "degree"] []
  f_is_entry_of : Addr
  fd_is_entry_of : FuncData
  F_is_entry_of : FnP K "is_entry_of" s_is_entry_of f_is_entry_of fd_is_entry_of
  g_is_entry_of : mg "is_entry_of" = some (.ref f_is_entry_of)
  b_is_entry_of : Binds K fd_is_entry_of ["entries", "times", "value"] []
  f_paper_word : Addr
  fd_paper_word : FuncData
  F_paper_word : FnP K "paper_word" s_paper_word f_paper_word fd_paper_word
  g_paper_word : mg "paper_word" = some (.ref f_paper_word)
  b_paper_word : Binds K fd_paper_word ["value"] []
  f_power_paper : Addr
  fd_power_paper : FuncData
  F_power_paper : FnP K "power_paper" s_power_paper f_power_paper fd_power_paper
  g_power_paper : mg "power_paper" = some (.ref f_power_paper)
  b_power_paper : Binds K fd_power_paper ["form"] []
  f_is_told_power : Addr
  fd_is_told_power : FuncData
  F_is_told_power : FnP K "is_told_power" s_is_told_power f_is_told_power fd_is_told_power
  g_is_told_power : mg "is_told_power" = some (.ref f_is_told_power)
  b_is_told_power : Binds K fd_is_told_power ["entries", "value"] []
  f_is_power_paper : Addr
  fd_is_power_paper : FuncData
  F_is_power_paper : FnP K "is_power_paper" s_is_power_paper f_is_power_paper fd_is_power_paper
  g_is_power_paper : mg "is_power_paper" = some (.ref f_is_power_paper)
  b_is_power_paper : Binds K fd_is_power_paper ["form", "value"] []
  f_law_dice : Addr
  fd_law_dice : FuncData
  F_law_dice : FnP K "_law_dice" s_law_dice f_law_dice fd_law_dice
  g_law_dice : mg "_law_dice" = some (.ref f_law_dice)
  b_law_dice : Binds K fd_law_dice ["_law_script", "_law_spot"] []
  f_law_roll : Addr
  fd_law_roll : FuncData
  F_law_roll : FnP K "_law_roll" s_law_roll f_law_roll fd_law_roll
  g_law_roll : mg "_law_roll" = some (.ref f_law_roll)
  b_law_roll : Binds K fd_law_roll ["_law_dice_here", "_law_total"] []
  f_law_pick : Addr
  fd_law_pick : FuncData
  F_law_pick : FnP K "_law_pick" s_law_pick f_law_pick fd_law_pick
  g_law_pick : mg "_law_pick" = some (.ref f_law_pick)
  b_law_pick : Binds K fd_law_pick ["_law_dice_here", "_law_items"] []
  f_law_near : Addr
  fd_law_near : FuncData
  F_law_near : FnP K "_law_near" s_law_near f_law_near fd_law_near
  g_law_near : mg "_law_near" = some (.ref f_law_near)
  b_law_near : Binds K fd_law_near ["_law_dice_here", "_law_most"] []
  f_law_gcd : Addr
  fd_law_gcd : FuncData
  F_law_gcd : FnP K "_law_gcd" s_law_gcd f_law_gcd fd_law_gcd
  g_law_gcd : mg "_law_gcd" = some (.ref f_law_gcd)
  b_law_gcd : Binds K fd_law_gcd ["_law_one", "_law_other"] []
  f_law_shared : Addr
  fd_law_shared : FuncData
  F_law_shared : FnP K "_law_shared" s_law_shared f_law_shared fd_law_shared
  g_law_shared : mg "_law_shared" = some (.ref f_law_shared)
  b_law_shared : Binds K fd_law_shared ["_law_numbers"] []
  f_law_choose : Addr
  fd_law_choose : FuncData
  F_law_choose : FnP K "_law_choose" s_law_choose f_law_choose fd_law_choose
  g_law_choose : mg "_law_choose" = some (.ref f_law_choose)
  b_law_choose : Binds K fd_law_choose ["_law_many", "_law_few"] []
  f_law_plus : Addr
  fd_law_plus : FuncData
  F_law_plus : FnP K "_law_plus" s_law_plus f_law_plus fd_law_plus
  g_law_plus : mg "_law_plus" = some (.ref f_law_plus)
  b_law_plus : Binds K fd_law_plus ["_law_one", "_law_other"] []
  f_law_scaled : Addr
  fd_law_scaled : FuncData
  F_law_scaled : FnP K "_law_scaled" s_law_scaled f_law_scaled fd_law_scaled
  g_law_scaled : mg "_law_scaled" = some (.ref f_law_scaled)
  b_law_scaled : Binds K fd_law_scaled ["_law_form_here", "_law_factor"] []
  f_law_product : Addr
  fd_law_product : FuncData
  F_law_product : FnP K "_law_product" s_law_product f_law_product fd_law_product
  g_law_product : mg "_law_product" = some (.ref f_law_product)
  b_law_product : Binds K fd_law_product ["_law_one", "_law_other"] []
  f_law_all_product : Addr
  fd_law_all_product : FuncData
  F_law_all_product : FnP K "_law_all_product" s_law_all_product f_law_all_product fd_law_all_product
  g_law_all_product : mg "_law_all_product" = some (.ref f_law_all_product)
  b_law_all_product : Binds K fd_law_all_product ["_law_forms"] []
  f_law_power : Addr
  fd_law_power : FuncData
  F_law_power : FnP K "_law_power" s_law_power f_law_power fd_law_power
  g_law_power : mg "_law_power" = some (.ref f_law_power)
  b_law_power : Binds K fd_law_power ["_law_pair", "_law_times"] []
  f_law_by_x : Addr
  fd_law_by_x : FuncData
  F_law_by_x : FnP K "_law_by_x" s_law_by_x f_law_by_x fd_law_by_x
  g_law_by_x : mg "_law_by_x" = some (.ref f_law_by_x)
  b_law_by_x : Binds K fd_law_by_x ["_law_form_here"] []
  f_law_by_y : Addr
  fd_law_by_y : FuncData
  F_law_by_y : FnP K "_law_by_y" s_law_by_y f_law_by_y fd_law_by_y
  g_law_by_y : mg "_law_by_y" = some (.ref f_law_by_y)
  b_law_by_y : Binds K fd_law_by_y ["_law_form_here"] []
  f_law_derived : Addr
  fd_law_derived : FuncData
  F_law_derived : FnP K "_law_derived" s_law_derived f_law_derived fd_law_derived
  g_law_derived : mg "_law_derived" = some (.ref f_law_derived)
  b_law_derived : Binds K fd_law_derived ["_law_form_here", "_law_one", "_law_other"] []
  f_law_laid : Addr
  fd_law_laid : FuncData
  F_law_laid : FnP K "_law_laid" s_law_laid f_law_laid fd_law_laid
  g_law_laid : mg "_law_laid" = some (.ref f_law_laid)
  b_law_laid : Binds K fd_law_laid ["_law_one", "_law_other", "_law_times"] []
  f_law_plain : Addr
  fd_law_plain : FuncData
  F_law_plain : FnP K "_law_plain" s_law_plain f_law_plain fd_law_plain
  g_law_plain : mg "_law_plain" = some (.ref f_law_plain)
  b_law_plain : Binds K fd_law_plain ["_law_form_here"] []
  f_law_line : Addr
  fd_law_line : FuncData
  F_law_line : FnP K "_law_line" s_law_line f_law_line fd_law_line
  g_law_line : mg "_law_line" = some (.ref f_law_line)
  b_law_line : Binds K fd_law_line ["_law_point_here"] []
  f_law_point : Addr
  fd_law_point : FuncData
  F_law_point : FnP K "_law_point" s_law_point f_law_point fd_law_point
  g_law_point : mg "_law_point" = some (.ref f_law_point)
  b_law_point : Binds K fd_law_point ["_law_dice_here", "_law_most"] []
  f_law_small_form : Addr
  fd_law_small_form : FuncData
  F_law_small_form : FnP K "_law_small_form" s_law_small_form f_law_small_form fd_law_small_form
  g_law_small_form : mg "_law_small_form" = some (.ref f_law_small_form)
  b_law_small_form : Binds K fd_law_small_form ["_law_dice_here", "_law_degree", "_law_most"] []
  f_law_form : Addr
  fd_law_form : FuncData
  F_law_form : FnP K "_law_form" s_law_form f_law_form fd_law_form
  g_law_form : mg "_law_form" = some (.ref f_law_form)
  b_law_form : Binds K fd_law_form ["_law_dice_here", "_law_degree"] []
  f_law_is_whole : Addr
  fd_law_is_whole : FuncData
  F_law_is_whole : FnP K "_law_is_whole" s_law_is_whole f_law_is_whole fd_law_is_whole
  g_law_is_whole : mg "_law_is_whole" = some (.ref f_law_is_whole)
  b_law_is_whole : Binds K fd_law_is_whole ["_law_value"] []
  f_law_is_point : Addr
  fd_law_is_point : FuncData
  F_law_is_point : FnP K "_law_is_point" s_law_is_point f_law_is_point fd_law_is_point
  g_law_is_point : mg "_law_is_point" = some (.ref f_law_is_point)
  b_law_is_point : Binds K fd_law_is_point ["_law_value"] []
  f_law_is_right : Addr
  fd_law_is_right : FuncData
  F_law_is_right : FnP K "_law_is_right" s_law_is_right f_law_is_right fd_law_is_right
  g_law_is_right : mg "_law_is_right" = some (.ref f_law_is_right)
  b_law_is_right : Binds K fd_law_is_right ["_law_entries", "_law_value"] []
  f_law_near_values : Addr
  fd_law_near_values : FuncData
  F_law_near_values : FnP K "_law_near_values" s_law_near_values f_law_near_values fd_law_near_values
  g_law_near_values : mg "_law_near_values" = some (.ref f_law_near_values)
  b_law_near_values : Binds K fd_law_near_values ["_law_dice_here", "_law_paper"] []
  f_law_right : Addr
  fd_law_right : FuncData
  F_law_right : FnP K "_law_right" s_law_right f_law_right fd_law_right
  g_law_right : mg "_law_right" = some (.ref f_law_right)
  b_law_right : Binds K fd_law_right ["_law_dice_here", "_law_entries"] []
  f_law_power_form : Addr
  fd_law_power_form : FuncData
  F_law_power_form : FnP K "_law_power_form" s_law_power_form f_law_power_form fd_law_power_form
  g_law_power_form : mg "_law_power_form" = some (.ref f_law_power_form)
  b_law_power_form : Binds K fd_law_power_form ["_law_dice_here"] []
  f_law : Addr
  fd_law : FuncData
  F_law : FnP K "law" s_law f_law fd_law
  g_law : mg "law" = some (.ref f_law)
  b_law : Binds K fd_law ["_law_script"] []
  f_Told_init : Addr
  fd_Told_init : FuncData
  F_Told_init : FnM K "__init__" "Told.__init__" s_Told_init f_Told_init fd_Told_init
  b_Told_init : Binds K fd_Told_init ["self", "row"] []
  f_Form_init : Addr
  fd_Form_init : FuncData
  F_Form_init : FnM K "__init__" "Form.__init__" s_Form_init f_Form_init fd_Form_init
  b_Form_init : Binds K fd_Form_init ["self", "entries"] []
  f_Form_entries : Addr
  fd_Form_entries : FuncData
  F_Form_entries : FnM K "entries" "Form.entries" s_Form_entries f_Form_entries fd_Form_entries
  b_Form_entries : Binds K fd_Form_entries ["self"] []
  f_Form_degree : Addr
  fd_Form_degree : FuncData
  F_Form_degree : FnM K "degree" "Form.degree" s_Form_degree f_Form_degree fd_Form_degree
  b_Form_degree : Binds K fd_Form_degree ["self"] []
  f_Form_is_zero : Addr
  fd_Form_is_zero : FuncData
  F_Form_is_zero : FnM K "is_zero" "Form.is_zero" s_Form_is_zero f_Form_is_zero fd_Form_is_zero
  b_Form_is_zero : Binds K fd_Form_is_zero ["self"] []
  f_Form_eq : Addr
  fd_Form_eq : FuncData
  F_Form_eq : FnM K "__eq__" "Form.__eq__" s_Form_eq f_Form_eq fd_Form_eq
  b_Form_eq : Binds K fd_Form_eq ["self", "other"] []
  f_Form_len : Addr
  fd_Form_len : FuncData
  F_Form_len : FnM K "__len__" "Form.__len__" s_Form_len f_Form_len fd_Form_len
  b_Form_len : Binds K fd_Form_len ["self"] []
  f_Form_iter : Addr
  fd_Form_iter : FuncData
  F_Form_iter : FnM K "__iter__" "Form.__iter__" s_Form_iter f_Form_iter fd_Form_iter
  b_Form_iter : Binds K fd_Form_iter ["self"] []
  C_Told : Addr
  g_Told : mg "Told" = some (.ref C_Told)
  oc_Told : OwnF.OC K C_Told
  mk_Told : Mk K C_Told f_Told_init
  a_own_row : Addr
  sl_own_row : SlX.Slot1 K C_Told "own_row" a_own_row 0
  C_Form : Addr
  g_Form : mg "Form" = some (.ref C_Form)
  oc_Form : OwnF.OC K C_Form
  mk_Form : Mk K C_Form f_Form_init
  a_own_entries : Addr
  sl_own_entries : SlX.Slot1 K C_Form "own_entries" a_own_entries 0
  mt_Told_init : HookG.Mt K C_Told "__init__" f_Told_init
  mt_Form_init : HookG.Mt K C_Form "__init__" f_Form_init
  p_Form_entries : Addr
  pr_Form_entries : HookG.Pr K C_Form "entries" p_Form_entries f_Form_entries
  p_Form_degree : Addr
  pr_Form_degree : HookG.Pr K C_Form "degree" p_Form_degree f_Form_degree
  p_Form_is_zero : Addr
  pr_Form_is_zero : HookG.Pr K C_Form "is_zero" p_Form_is_zero f_Form_is_zero
  mt_Form_eq : HookG.Mt K C_Form "__eq__" f_Form_eq
  mt_Form_len : HookG.Mt K C_Form "__len__" f_Form_len
  mt_Form_iter : HookG.Mt K C_Form "__iter__" f_Form_iter
  kit_Told_Form : PySem.W.kitOne K (.ref C_Told) (.ref C_Form) = some false
  kit_Form_Told : PySem.W.kitOne K (.ref C_Form) (.ref C_Told) = some false
  z_abs : mg "abs" = none
  z_all : mg "all" = none
  z_any : mg "any" = none
  z_bool : mg "bool" = none
  z_enumerate : mg "enumerate" = none
  z_int : mg "int" = none
  z_isinstance : mg "isinstance" = none
  z_iter : mg "iter" = none
  z_len : mg "len" = none
  z_list : mg "list" = none
  z_max : mg "max" = none
  z_min : mg "min" = none
  z_next : mg "next" = none
  z_range : mg "range" = none
  z_repr : mg "repr" = none
  z_str : mg "str" = none
  z_tuple : mg "tuple" = none
  z_zip : mg "zip" = none
  m_gcd : mg "gcd" = some (.builtin "math.gcd")
  c_GREATEST : ∃ t, mg "GREATEST" = some (.int 1000000000000000000000000000000000000000000000000000000000000 t)
  c_MAX_DEGREE : ∃ t, mg "MAX_DEGREE" = some (.int 40 t)
  c_POWER : ∃ t, mg "POWER" = some (.str "power" t)
  c_ENTRY : ∃ t, mg "ENTRY" = some (.str "entry" t)
  c_SHORT_PAPER : ∃ t, mg "SHORT_PAPER" = some (.int 3 t)
  c_first_index : Addr
  P_first_index : Addr
  code_first_index : fd_first_index.code = .ref c_first_index
  tab_first_index : (c_first_index, P_first_index) = HookT.cTA K (HookG.At.glo "first_index")
  c_first_of : Addr
  P_first_of : Addr
  code_first_of : fd_first_of.code = .ref c_first_of
  tab_first_of : (c_first_of, P_first_of) = HookT.cTA K (HookG.At.glo "first_of")
/-! ### for the head -/
def d_is_whole : HookG.GD := ⟨.glo "is_whole", "is_whole", "is_whole", defArgs s_is_whole, defBody s_is_whole, defScope s_is_whole⟩
def d_is_short : HookG.GD := ⟨.glo "is_short", "is_short", "is_short", defArgs s_is_short, defBody s_is_short, defScope s_is_short⟩
def d_is_from : HookG.GD := ⟨.glo "is_from", "is_from", "is_from", defArgs s_is_from, defBody s_is_from, defScope s_is_from⟩
def d_are_wholes : HookG.GD := ⟨.glo "are_wholes", "are_wholes", "are_wholes", defArgs s_are_wholes, defBody s_are_wholes, defScope s_are_wholes⟩
def d_are_short : HookG.GD := ⟨.glo "are_short", "are_short", "are_short", defArgs s_are_short, defBody s_are_short, defScope s_are_short⟩
def d_shared_of : HookG.GD := ⟨.glo "shared_of", "shared_of", "shared_of", defArgs s_shared_of, defBody s_shared_of, defScope s_shared_of⟩
def d_first_of : HookG.GD := ⟨.glo "first_of", "first_of", "first_of", defArgs s_first_of, defBody s_first_of, defScope s_first_of⟩
def d_lots_of : HookG.GD := ⟨.glo "lots_of", "lots_of", "lots_of", defArgs s_lots_of, defBody s_lots_of, defScope s_lots_of⟩
def d_is_point_any : HookG.GD := ⟨.glo "is_point_any", "is_point_any", "is_point_any", defArgs s_is_point_any, defBody s_is_point_any, defScope s_is_point_any⟩
def d_product_in : HookG.GD := ⟨.glo "product_in", "product_in", "product_in", defArgs s_product_in, defBody s_product_in, defScope s_product_in⟩
def d_joined_entries : HookG.GD := ⟨.glo "joined_entries", "joined_entries", "joined_entries", defArgs s_joined_entries, defBody s_joined_entries, defScope s_joined_entries⟩
def d_power_in : HookG.GD := ⟨.glo "power_in", "power_in", "power_in", defArgs s_power_in, defBody s_power_in, defScope s_power_in⟩
def d_line_in : HookG.GD := ⟨.glo "line_in", "line_in", "line_in", defArgs s_line_in, defBody s_line_in, defScope s_line_in⟩
def d_derived_in : HookG.GD := ⟨.glo "derived_in", "derived_in", "derived_in", defArgs s_derived_in, defBody s_derived_in, defScope s_derived_in⟩
def d_is_zero_in : HookG.GD := ⟨.glo "is_zero_in", "is_zero_in", "is_zero_in", defArgs s_is_zero_in, defBody s_is_zero_in, defScope s_is_zero_in⟩
def d_first_index : HookG.GD := ⟨.glo "first_index", "first_index", "first_index", defArgs s_first_index, defBody s_first_index, defScope s_first_index⟩
def d_are_entries : HookG.GD := ⟨.glo "are_entries", "are_entries", "are_entries", defArgs s_are_entries, defBody s_are_entries, defScope s_are_entries⟩
def d_form_of : HookG.GD := ⟨.glo "form_of", "form_of", "form_of", defArgs s_form_of, defBody s_form_of, defScope s_form_of⟩
def d_require_form : HookG.GD := ⟨.glo "require_form", "require_form", "require_form", defArgs s_require_form, defBody s_require_form, defScope s_require_form⟩
def d_laying_slope : HookG.GD := ⟨.glo "laying_slope", "laying_slope", "laying_slope", defArgs s_laying_slope, defBody s_laying_slope, defScope s_laying_slope⟩
def d_laying_slopes : HookG.GD := ⟨.glo "laying_slopes", "laying_slopes", "laying_slopes", defArgs s_laying_slopes, defBody s_laying_slopes, defScope s_laying_slopes⟩
def d_add_product : HookG.GD := ⟨.glo "add_product", "add_product", "add_product", defArgs s_add_product, defBody s_add_product, defScope s_add_product⟩
def d_laid_in : HookG.GD := ⟨.glo "laid_in", "laid_in", "laid_in", defArgs s_laid_in, defBody s_laid_in, defScope s_laid_in⟩
def d_point_of_line : HookG.GD := ⟨.glo "point_of_line", "point_of_line", "point_of_line", defArgs s_point_of_line, defBody s_point_of_line, defScope s_point_of_line⟩
def d_power_told : HookG.GD := ⟨.glo "power_told", "power_told", "power_told", defArgs s_power_told, defBody s_power_told, defScope s_power_told⟩
def d_is_power_in : HookG.GD := ⟨.glo "is_power_in", "is_power_in", "is_power_in", defArgs s_is_power_in, defBody s_is_power_in, defScope s_is_power_in⟩
def d_entry_paper : HookG.GD := ⟨.glo "entry_paper", "entry_paper", "entry_paper", defArgs s_entry_paper, defBody s_entry_paper, defScope s_entry_paper⟩
def d_times_power : HookG.GD := ⟨.glo "times_power", "times_power", "times_power", defArgs s_times_power, defBody s_times_power, defScope s_times_power⟩
def d_is_entry_of : HookG.GD := ⟨.glo "is_entry_of", "is_entry_of", "is_entry_of", defArgs s_is_entry_of, defBody s_is_entry_of, defScope s_is_entry_of⟩
def d_paper_word : HookG.GD := ⟨.glo "paper_word", "paper_word", "paper_word", defArgs s_paper_word, defBody s_paper_word, defScope s_paper_word⟩
def d_power_paper : HookG.GD := ⟨.glo "power_paper", "power_paper", "power_paper", defArgs s_power_paper, defBody s_power_paper, defScope s_power_paper⟩
def d_is_told_power : HookG.GD := ⟨.glo "is_told_power", "is_told_power", "is_told_power", defArgs s_is_told_power, defBody s_is_told_power, defScope s_is_told_power⟩
def d_is_power_paper : HookG.GD := ⟨.glo "is_power_paper", "is_power_paper", "is_power_paper", defArgs s_is_power_paper, defBody s_is_power_paper, defScope s_is_power_paper⟩
def d_law_dice : HookG.GD := ⟨.glo "_law_dice", "_law_dice", "_law_dice", defArgs s_law_dice, defBody s_law_dice, defScope s_law_dice⟩
def d_law_roll : HookG.GD := ⟨.glo "_law_roll", "_law_roll", "_law_roll", defArgs s_law_roll, defBody s_law_roll, defScope s_law_roll⟩
def d_law_pick : HookG.GD := ⟨.glo "_law_pick", "_law_pick", "_law_pick", defArgs s_law_pick, defBody s_law_pick, defScope s_law_pick⟩
def d_law_near : HookG.GD := ⟨.glo "_law_near", "_law_near", "_law_near", defArgs s_law_near, defBody s_law_near, defScope s_law_near⟩
def d_law_gcd : HookG.GD := ⟨.glo "_law_gcd", "_law_gcd", "_law_gcd", defArgs s_law_gcd, defBody s_law_gcd, defScope s_law_gcd⟩
def d_law_shared : HookG.GD := ⟨.glo "_law_shared", "_law_shared", "_law_shared", defArgs s_law_shared, defBody s_law_shared, defScope s_law_shared⟩
def d_law_choose : HookG.GD := ⟨.glo "_law_choose", "_law_choose", "_law_choose", defArgs s_law_choose, defBody s_law_choose, defScope s_law_choose⟩
def d_law_plus : HookG.GD := ⟨.glo "_law_plus", "_law_plus", "_law_plus", defArgs s_law_plus, defBody s_law_plus, defScope s_law_plus⟩
def d_law_scaled : HookG.GD := ⟨.glo "_law_scaled", "_law_scaled", "_law_scaled", defArgs s_law_scaled, defBody s_law_scaled, defScope s_law_scaled⟩
def d_law_product : HookG.GD := ⟨.glo "_law_product", "_law_product", "_law_product", defArgs s_law_product, defBody s_law_product, defScope s_law_product⟩
def d_law_all_product : HookG.GD := ⟨.glo "_law_all_product", "_law_all_product", "_law_all_product", defArgs s_law_all_product, defBody s_law_all_product, defScope s_law_all_product⟩
def d_law_power : HookG.GD := ⟨.glo "_law_power", "_law_power", "_law_power", defArgs s_law_power, defBody s_law_power, defScope s_law_power⟩
def d_law_by_x : HookG.GD := ⟨.glo "_law_by_x", "_law_by_x", "_law_by_x", defArgs s_law_by_x, defBody s_law_by_x, defScope s_law_by_x⟩
def d_law_by_y : HookG.GD := ⟨.glo "_law_by_y", "_law_by_y", "_law_by_y", defArgs s_law_by_y, defBody s_law_by_y, defScope s_law_by_y⟩
def d_law_derived : HookG.GD := ⟨.glo "_law_derived", "_law_derived", "_law_derived", defArgs s_law_derived, defBody s_law_derived, defScope s_law_derived⟩
def d_law_laid : HookG.GD := ⟨.glo "_law_laid", "_law_laid", "_law_laid", defArgs s_law_laid, defBody s_law_laid, defScope s_law_laid⟩
def d_law_plain : HookG.GD := ⟨.glo "_law_plain", "_law_plain", "_law_plain", defArgs s_law_plain, defBody s_law_plain, defScope s_law_plain⟩
def d_law_line : HookG.GD := ⟨.glo "_law_line", "_law_line", "_law_line", defArgs s_law_line, defBody s_law_line, defScope s_law_line⟩
def d_law_point : HookG.GD := ⟨.glo "_law_point", "_law_point", "_law_point", defArgs s_law_point, defBody s_law_point, defScope s_law_point⟩
def d_law_small_form : HookG.GD := ⟨.glo "_law_small_form", "_law_small_form", "_law_small_form", defArgs s_law_small_form, defBody s_law_small_form, defScope s_law_small_form⟩
def d_law_form : HookG.GD := ⟨.glo "_law_form", "_law_form", "_law_form", defArgs s_law_form, defBody s_law_form, defScope s_law_form⟩
def d_law_is_whole : HookG.GD := ⟨.glo "_law_is_whole", "_law_is_whole", "_law_is_whole", defArgs s_law_is_whole, defBody s_law_is_whole, defScope s_law_is_whole⟩
def d_law_is_point : HookG.GD := ⟨.glo "_law_is_point", "_law_is_point", "_law_is_point", defArgs s_law_is_point, defBody s_law_is_point, defScope s_law_is_point⟩
def d_law_is_right : HookG.GD := ⟨.glo "_law_is_right", "_law_is_right", "_law_is_right", defArgs s_law_is_right, defBody s_law_is_right, defScope s_law_is_right⟩
def d_law_near_values : HookG.GD := ⟨.glo "_law_near_values", "_law_near_values", "_law_near_values", defArgs s_law_near_values, defBody s_law_near_values, defScope s_law_near_values⟩
def d_law_right : HookG.GD := ⟨.glo "_law_right", "_law_right", "_law_right", defArgs s_law_right, defBody s_law_right, defScope s_law_right⟩
def d_law_power_form : HookG.GD := ⟨.glo "_law_power_form", "_law_power_form", "_law_power_form", defArgs s_law_power_form, defBody s_law_power_form, defScope s_law_power_form⟩
def d_law : HookG.GD := ⟨.glo "law", "law", "law", defArgs s_law, defBody s_law, defScope s_law⟩
def d_Told_init : HookG.GD := ⟨.met "Told" "__init__", "__init__", "Told.__init__", defArgs s_Told_init, defBody s_Told_init, defScope s_Told_init⟩
def d_Form_init : HookG.GD := ⟨.met "Form" "__init__", "__init__", "Form.__init__", defArgs s_Form_init, defBody s_Form_init, defScope s_Form_init⟩
def d_Form_entries : HookG.GD := ⟨.prp "Form" "entries", "entries", "Form.entries", defArgs s_Form_entries, defBody s_Form_entries, defScope s_Form_entries⟩
def d_Form_degree : HookG.GD := ⟨.prp "Form" "degree", "degree", "Form.degree", defArgs s_Form_degree, defBody s_Form_degree, defScope s_Form_degree⟩
def d_Form_is_zero : HookG.GD := ⟨.prp "Form" "is_zero", "is_zero", "Form.is_zero", defArgs s_Form_is_zero, defBody s_Form_is_zero, defScope s_Form_is_zero⟩
def d_Form_eq : HookG.GD := ⟨.met "Form" "__eq__", "__eq__", "Form.__eq__", defArgs s_Form_eq, defBody s_Form_eq, defScope s_Form_eq⟩
def d_Form_len : HookG.GD := ⟨.met "Form" "__len__", "__len__", "Form.__len__", defArgs s_Form_len, defBody s_Form_len, defScope s_Form_len⟩
def d_Form_iter : HookG.GD := ⟨.met "Form" "__iter__", "__iter__", "Form.__iter__", defArgs s_Form_iter, defBody s_Form_iter, defScope s_Form_iter⟩
def fnL : List HookG.GD := [d_is_whole, d_is_short, d_is_from, d_are_wholes, d_are_short, d_shared_of, d_first_of, d_lots_of, d_is_point_any, d_product_in, d_joined_entries, d_power_in, d_line_in, d_derived_in, d_is_zero_in, d_first_index, d_are_entries, d_form_of, d_require_form, d_laying_slope, d_laying_slopes, d_add_product, d_laid_in, d_point_of_line, d_power_told, d_is_power_in, d_entry_paper, d_times_power, d_is_entry_of, d_paper_word, d_power_paper, d_is_told_power, d_is_power_paper, d_law_dice, d_law_roll, d_law_pick, d_law_near, d_law_gcd, d_law_shared, d_law_choose, d_law_plus, d_law_scaled, d_law_product, d_law_all_product, d_law_power, d_law_by_x, d_law_by_y, d_law_derived, d_law_laid, d_law_plain, d_law_line, d_law_point, d_law_small_form, d_law_form, d_law_is_whole, d_law_is_point, d_law_is_right, d_law_near_values, d_law_right, d_law_power_form, d_law, d_Told_init, d_Form_init, d_Form_entries, d_Form_degree, d_Form_is_zero, d_Form_eq, d_Form_len, d_Form_iter]
def faL : List He.Fa := [.glo "is_whole", .glo "is_short", .glo "is_from", .glo "are_wholes", .glo "are_short", .glo "shared_of", .glo "first_of", .glo "lots_of", .glo "is_point_any", .glo "product_in", .glo "joined_entries", .glo "power_in", .glo "line_in", .glo "derived_in", .glo "is_zero_in", .glo "first_index", .glo "are_entries", .glo "form_of", .glo "require_form", .glo "laying_slope", .glo "laying_slopes", .glo "add_product", .glo "laid_in", .glo "point_of_line", .glo "power_told", .glo "is_power_in", .glo "entry_paper", .glo "times_power", .glo "is_entry_of", .glo "paper_word", .glo "power_paper", .glo "is_told_power", .glo "is_power_paper", .glo "_law_dice", .glo "_law_roll", .glo "_law_pick", .glo "_law_near", .glo "_law_gcd", .glo "_law_shared", .glo "_law_choose", .glo "_law_plus", .glo "_law_scaled", .glo "_law_product", .glo "_law_all_product", .glo "_law_power", .glo "_law_by_x", .glo "_law_by_y", .glo "_law_derived", .glo "_law_laid", .glo "_law_plain", .glo "_law_line", .glo "_law_point", .glo "_law_small_form", .glo "_law_form", .glo "_law_is_whole", .glo "_law_is_point", .glo "_law_is_right", .glo "_law_near_values", .glo "_law_right", .glo "_law_power_form", .glo "law", .glo "Told", .glo "Form", .free "abs", .free "all", .free "any", .free "bool", .free "enumerate", .free "int", .free "isinstance", .free "iter", .free "len", .free "list", .free "max", .free "min", .free "next", .free "range", .free "repr", .free "str", .free "tuple", .free "zip", .int "GREATEST" 1000000000000000000000000000000000000000000000000000000000000, .int "MAX_DEGREE" 40, .int "SHORT_PAPER" 3, .mkr "Told", .mkr "Form", .str "POWER" "power", .str "ENTRY" "entry"]
def tfL : List HookG.At := [(HookG.At.glo "first_index"), (HookG.At.glo "first_of")]
def exL (K : PySem.W.Frag) : Bool := He.eqO (PySem.W.nsIn K mainGlobals "gcd") (some (some (.builtin "math.gcd"))) && (OwnF.ocB K "Told" && (HookG.slotB K "Told" "own_row" 0 && (OwnF.ocB K "Form" && (HookG.slotB K "Form" "own_entries" 0 && (HookG.mtB K "Told" "__init__" && (HookG.mtB K "Form" "__init__" && (HookG.prB K "Form" "entries" && (HookG.prB K "Form" "degree" && (HookG.prB K "Form" "is_zero" && (HookG.mtB K "Form" "__eq__" && (HookG.mtB K "Form" "__len__" && (HookG.mtB K "Form" "__iter__" && (HookG.dO (PySem.W.kitOne K (.ref (He.ga K "Told")) (.ref (He.ga K "Form"))) (some false) && (HookG.dO (PySem.W.kitOne K (.ref (He.ga K "Form")) (.ref (He.ga K "Told"))) (some false)))))))))))))))
theorem facts_of {K : PySem.W.Frag} {h : Heap} {mg : Str → Option Value} (X : K.In h) (G : h.Ns mainGlobals mg) (c : HookG.SaysG faL fnL exL K) : Nonempty (Facts K mg) := by
  have ex := c.more
  unfold exL at ex
  obtain ⟨ex_0, ex⟩ := He.ba ex
  obtain ⟨ex_1, ex⟩ := He.ba ex
  obtain ⟨ex_2, ex⟩ := He.ba ex
  obtain ⟨ex_3, ex⟩ := He.ba ex
  obtain ⟨ex_4, ex⟩ := He.ba ex
  obtain ⟨ex_5, ex⟩ := He.ba ex
  obtain ⟨ex_6, ex⟩ := He.ba ex
  obtain ⟨ex_7, ex⟩ := He.ba ex
  obtain ⟨ex_8, ex⟩ := He.ba ex
  obtain ⟨ex_9, ex⟩ := He.ba ex
  obtain ⟨ex_10, ex⟩ := He.ba ex
  obtain ⟨ex_11, ex⟩ := He.ba ex
  obtain ⟨ex_12, ex⟩ := He.ba ex
  obtain ⟨ex_13, ex⟩ := He.ba ex
  obtain ⟨fd_is_whole, F_is_whole⟩ := c.def_ 0 (d := d_is_whole) rfl
  obtain ⟨fd_is_short, F_is_short⟩ := c.def_ 1 (d := d_is_short) rfl
  obtain ⟨fd_is_from, F_is_from⟩ := c.def_ 2 (d := d_is_from) rfl
  obtain ⟨fd_are_wholes, F_are_wholes⟩ := c.def_ 3 (d := d_are_wholes) rfl
  obtain ⟨fd_are_short, F_are_short⟩ := c.def_ 4 (d := d_are_short) rfl
  obtain ⟨fd_shared_of, F_shared_of⟩ := c.def_ 5 (d := d_shared_of) rfl
  obtain ⟨fd_first_of, F_first_of⟩ := c.def_ 6 (d := d_first_of) rfl
  obtain ⟨fd_lots_of, F_lots_of⟩ := c.def_ 7 (d := d_lots_of) rfl
  obtain ⟨fd_is_point_any, F_is_point_any⟩ := c.def_ 8 (d := d_is_point_any) rfl
  obtain ⟨fd_product_in, F_product_in⟩ := c.def_ 9 (d := d_product_in) rfl
  obtain ⟨fd_joined_entries, F_joined_entries⟩ := c.def_ 10 (d := d_joined_entries) rfl
  obtain ⟨fd_power_in, F_power_in⟩ := c.def_ 11 (d := d_power_in) rfl
  obtain ⟨fd_line_in, F_line_in⟩ := c.def_ 12 (d := d_line_in) rfl
  obtain ⟨fd_derived_in, F_derived_in⟩ := c.def_ 13 (d := d_derived_in) rfl
  obtain ⟨fd_is_zero_in, F_is_zero_in⟩ := c.def_ 14 (d := d_is_zero_in) rfl
  obtain ⟨fd_first_index, F_first_index⟩ := c.def_ 15 (d := d_first_index) rfl
  obtain ⟨fd_are_entries, F_are_entries⟩ := c.def_ 16 (d := d_are_entries) rfl
  obtain ⟨fd_form_of, F_form_of⟩ := c.def_ 17 (d := d_form_of) rfl
  obtain ⟨fd_require_form, F_require_form⟩ := c.def_ 18 (d := d_require_form) rfl
  obtain ⟨fd_laying_slope, F_laying_slope⟩ := c.def_ 19 (d := d_laying_slope) rfl
  obtain ⟨fd_laying_slopes, F_laying_slopes⟩ := c.def_ 20 (d := d_laying_slopes) rfl
  obtain ⟨fd_add_product, F_add_product⟩ := c.def_ 21 (d := d_add_product) rfl
  obtain ⟨fd_laid_in, F_laid_in⟩ := c.def_ 22 (d := d_laid_in) rfl
  obtain ⟨fd_point_of_line, F_point_of_line⟩ := c.def_ 23 (d := d_point_of_line) rfl
  obtain ⟨fd_power_told, F_power_told⟩ := c.def_ 24 (d := d_power_told) rfl
  obtain ⟨fd_is_power_in, F_is_power_in⟩ := c.def_ 25 (d := d_is_power_in) rfl
  obtain ⟨fd_entry_paper, F_entry_paper⟩ := c.def_ 26 (d := d_entry_paper) rfl
  obtain ⟨fd_times_power, F_times_power⟩ := c.def_ 27 (d := d_times_power) rfl
  obtain ⟨fd_is_entry_of, F_is_entry_of⟩ := c.def_ 28 (d := d_is_entry_of) rfl
  obtain ⟨fd_paper_word, F_paper_word⟩ := c.def_ 29 (d := d_paper_word) rfl
  obtain ⟨fd_power_paper, F_power_paper⟩ := c.def_ 30 (d := d_power_paper) rfl
  obtain ⟨fd_is_told_power, F_is_told_power⟩ := c.def_ 31 (d := d_is_told_power) rfl
  obtain ⟨fd_is_power_paper, F_is_power_paper⟩ := c.def_ 32 (d := d_is_power_paper) rfl
  obtain ⟨fd_law_dice, F_law_dice⟩ := c.def_ 33 (d := d_law_dice) rfl
  obtain ⟨fd_law_roll, F_law_roll⟩ := c.def_ 34 (d := d_law_roll) rfl
  obtain ⟨fd_law_pick, F_law_pick⟩ := c.def_ 35 (d := d_law_pick) rfl
  obtain ⟨fd_law_near, F_law_near⟩ := c.def_ 36 (d := d_law_near) rfl
  obtain ⟨fd_law_gcd, F_law_gcd⟩ := c.def_ 37 (d := d_law_gcd) rfl
  obtain ⟨fd_law_shared, F_law_shared⟩ := c.def_ 38 (d := d_law_shared) rfl
  obtain ⟨fd_law_choose, F_law_choose⟩ := c.def_ 39 (d := d_law_choose) rfl
  obtain ⟨fd_law_plus, F_law_plus⟩ := c.def_ 40 (d := d_law_plus) rfl
  obtain ⟨fd_law_scaled, F_law_scaled⟩ := c.def_ 41 (d := d_law_scaled) rfl
  obtain ⟨fd_law_product, F_law_product⟩ := c.def_ 42 (d := d_law_product) rfl
  obtain ⟨fd_law_all_product, F_law_all_product⟩ := c.def_ 43 (d := d_law_all_product) rfl
  obtain ⟨fd_law_power, F_law_power⟩ := c.def_ 44 (d := d_law_power) rfl
  obtain ⟨fd_law_by_x, F_law_by_x⟩ := c.def_ 45 (d := d_law_by_x) rfl
  obtain ⟨fd_law_by_y, F_law_by_y⟩ := c.def_ 46 (d := d_law_by_y) rfl
  obtain ⟨fd_law_derived, F_law_derived⟩ := c.def_ 47 (d := d_law_derived) rfl
  obtain ⟨fd_law_laid, F_law_laid⟩ := c.def_ 48 (d := d_law_laid) rfl
  obtain ⟨fd_law_plain, F_law_plain⟩ := c.def_ 49 (d := d_law_plain) rfl
  obtain ⟨fd_law_line, F_law_line⟩ := c.def_ 50 (d := d_law_line) rfl
  obtain ⟨fd_law_point, F_law_point⟩ := c.def_ 51 (d := d_law_point) rfl
  obtain ⟨fd_law_small_form, F_law_small_form⟩ := c.def_ 52 (d := d_law_small_form) rfl
  obtain ⟨fd_law_form, F_law_form⟩ := c.def_ 53 (d := d_law_form) rfl
  obtain ⟨fd_law_is_whole, F_law_is_whole⟩ := c.def_ 54 (d := d_law_is_whole) rfl
  obtain ⟨fd_law_is_point, F_law_is_point⟩ := c.def_ 55 (d := d_law_is_point) rfl
  obtain ⟨fd_law_is_right, F_law_is_right⟩ := c.def_ 56 (d := d_law_is_right) rfl
  obtain ⟨fd_law_near_values, F_law_near_values⟩ := c.def_ 57 (d := d_law_near_values) rfl
  obtain ⟨fd_law_right, F_law_right⟩ := c.def_ 58 (d := d_law_right) rfl
  obtain ⟨fd_law_power_form, F_law_power_form⟩ := c.def_ 59 (d := d_law_power_form) rfl
  obtain ⟨fd_law, F_law⟩ := c.def_ 60 (d := d_law) rfl
  obtain ⟨fd_Told_init, F_Told_init⟩ := c.def_ 61 (d := d_Told_init) rfl
  obtain ⟨fd_Form_init, F_Form_init⟩ := c.def_ 62 (d := d_Form_init) rfl
  obtain ⟨fd_Form_entries, F_Form_entries⟩ := c.def_ 63 (d := d_Form_entries) rfl
  obtain ⟨fd_Form_degree, F_Form_degree⟩ := c.def_ 64 (d := d_Form_degree) rfl
  obtain ⟨fd_Form_is_zero, F_Form_is_zero⟩ := c.def_ 65 (d := d_Form_is_zero) rfl
  obtain ⟨fd_Form_eq, F_Form_eq⟩ := c.def_ 66 (d := d_Form_eq) rfl
  obtain ⟨fd_Form_len, F_Form_len⟩ := c.def_ 67 (d := d_Form_len) rfl
  obtain ⟨fd_Form_iter, F_Form_iter⟩ := c.def_ 68 (d := d_Form_iter) rfl
  exact ⟨{ f_is_whole := _, fd_is_whole := _, F_is_whole := F_is_whole, b_is_whole := (F_is_whole.bindsN fun _ _ _ _ _ _ us hl => match us, hl with | [_], _ => rfl), g_is_whole := He.glo_ok X G (c.fact 0 (f := .glo "is_whole") rfl), f_is_short := _, fd_is_short := _, F_is_short := F_is_short, b_is_short := (F_is_short.bindsN fun _ _ _ _ _ _ us hl => match us, hl with | [_], _ => rfl), g_is_short := He.glo_ok X G (c.fact 1 (f := .glo "is_short") rfl), f_is_from := _, fd_is_from := _, F_is_from := F_is_from, b_is_from := (F_is_from.bindsN fun _ _ _ _ _ _ us hl => match us, hl with | [_, _, _], _ => rfl), g_is_from := He.glo_ok X G (c.fact 2 (f := .glo "is_from") rfl), f_are_wholes := _, fd_are_wholes := _, F_are_wholes := F_are_wholes, b_are_wholes := (F_are_wholes.bindsN fun _ _ _ _ _ _ us hl => match us, hl with | [_], _ => rfl), g_are_wholes := He.glo_ok X G (c.fact 3 (f := .glo "are_wholes") rfl), f_are_short := _, fd_are_short := _, F_are_short := F_are_short, b_are_short := (F_are_short.bindsN fun _ _ _ _ _ _ us hl => match us, hl with | [_], _ => rfl), g_are_short := He.glo_ok X G (c.fact 4 (f := .glo "are_short") rfl), f_shared_of := _, fd_shared_of := _, F_shared_of := F_shared_of, b_shared_of := (F_shared_of.bindsN fun _ _ _ _ _ _ us hl => match us, hl with | [_], _ => rfl), g_shared_of := He.glo_ok X G (c.fact 5 (f := .glo "shared_of") rfl), f_first_of := _, fd_first_of := _, F_first_of := F_first_of, b_first_of := (F_first_of.bindsN fun _ _ _ _ _ _ us hl => match us, hl with | [_], _ => rfl), g_first_of := He.glo_ok X G (c.fact 6 (f := .glo "first_of") rfl), f_lots_of := _, fd_lots_of := _, F_lots_of := F_lots_of, b_lots_of := (F_lots_of.bindsN fun _ _ _ _ _ _ us hl => match us, hl with | [_, _], _ => rfl), g_lots_of := He.glo_ok X G (c.fact 7 (f := .glo "lots_of") rfl), f_is_point_any := _, fd_is_point_any := _, F_is_point_any := F_is_point_any, b_is_point_any := (F_is_point_any.bindsN fun _ _ _ _ _ _ us hl => match us, hl with | [_], _ => rfl), g_is_point_any := He.glo_ok X G (c.fact 8 (f := .glo "is_point_any") rfl), f_product_in := _, fd_product_in := _, F_product_in := F_product_in, b_product_in := (F_product_in.bindsN fun _ _ _ _ _ _ us hl => match us, hl with | [_, _], _ => rfl), g_product_in := He.glo_ok X G (c.fact 9 (f := .glo "product_in") rfl), f_joined_entries := _, fd_joined_entries := _, F_joined_entries := F_joined_entries, b_joined_entries := (F_joined_entries.bindsN fun _ _ _ _ _ _ us hl => match us, hl with | [_, _], _ => rfl), g_joined_entries := He.glo_ok X G (c.fact 10 (f := .glo "joined_entries") rfl), f_power_in := _, fd_power_in := _, F_power_in := F_power_in, b_power_in := (F_power_in.bindsN fun _ _ _ _ _ _ us hl => match us, hl with | [_, _], _ => rfl), g_power_in := He.glo_ok X G (c.fact 11 (f := .glo "power_in") rfl), f_line_in := _, fd_line_in := _, F_line_in := F_line_in, b_line_in := (F_line_in.bindsN fun _ _ _ _ _ _ us hl => match us, hl with | [_], _ => rfl), g_line_in := He.glo_ok X G (c.fact 12 (f := .glo "line_in") rfl), f_derived_in := _, fd_derived_in := _, F_derived_in := F_derived_in, b_derived_in := (F_derived_in.bindsN fun _ _ _ _ _ _ us hl => match us, hl with | [_, _, _], _ => rfl), g_derived_in := He.glo_ok X G (c.fact 13 (f := .glo "derived_in") rfl), f_is_zero_in := _, fd_is_zero_in := _, F_is_zero_in := F_is_zero_in, b_is_zero_in := (F_is_zero_in.bindsN fun _ _ _ _ _ _ us hl => match us, hl with | [_], _ => rfl), g_is_zero_in := He.glo_ok X G (c.fact 14 (f := .glo "is_zero_in") rfl), f_first_index := _, fd_first_index := _, F_first_index := F_first_index, b_first_index := (F_first_index.bindsN fun _ _ _ _ _ _ us hl => match us, hl with | [_], _ => rfl), g_first_index := He.glo_ok X G (c.fact 15 (f := .glo "first_index") rfl), f_are_entries := _, fd_are_entries := _, F_are_entries := F_are_entries, b_are_entries := (F_are_entries.bindsN fun _ _ _ _ _ _ us hl => match us, hl with | [_], _ => rfl), g_are_entries := He.glo_ok X G (c.fact 16 (f := .glo "are_entries") rfl), f_form_of := _, fd_form_of := _, F_form_of := F_form_of, b_form_of := (F_form_of.bindsN fun _ _ _ _ _ _ us hl => match us, hl with | [_], _ => rfl), g_form_of := He.glo_ok X G (c.fact 17 (f := .glo "form_of") rfl), f_require_form := _, fd_require_form := _, F_require_form := F_require_form, b_require_form := (F_require_form.bindsN fun _ _ _ _ _ _ us hl => match us, hl with | [_], _ => rfl), g_require_form := He.glo_ok X G (c.fact 18 (f := .glo "require_form") rfl), f_laying_slope := _, fd_laying_slope := _, F_laying_slope := F_laying_slope, b_laying_slope := (F_laying_slope.bindsN fun _ _ _ _ _ _ us hl => match us, hl with | [_, _], _ => rfl), g_laying_slope := He.glo_ok X G (c.fact 19 (f := .glo "laying_slope") rfl), f_laying_slopes := _, fd_laying_slopes := _, F_laying_slopes := F_laying_slopes, b_laying_slopes := (F_laying_slopes.bindsN fun _ _ _ _ _ _ us hl => match us, hl with | [_, _], _ => rfl), g_laying_slopes := He.glo_ok X G (c.fact 20 (f := .glo "laying_slopes") rfl), f_add_product := _, fd_add_product := _, F_add_product := F_add_product, b_add_product := (F_add_product.bindsN fun _ _ _ _ _ _ us hl => match us, hl with | [_, _, _, _], _ => rfl), g_add_product := He.glo_ok X G (c.fact 21 (f := .glo "add_product") rfl), f_laid_in := _, fd_laid_in := _, F_laid_in := F_laid_in, b_laid_in := (F_laid_in.bindsN fun _ _ _ _ _ _ us hl => match us, hl with | [_, _, _], _ => rfl), g_laid_in := He.glo_ok X G (c.fact 22 (f := .glo "laid_in") rfl), f_point_of_line := _, fd_point_of_line := _, F_point_of_line := F_point_of_line, b_point_of_line := (F_point_of_line.bindsN fun _ _ _ _ _ _ us hl => match us, hl with | [_, _], _ => rfl), g_point_of_line := He.glo_ok X G (c.fact 23 (f := .glo "point_of_line") rfl), f_power_told := _, fd_power_told := _, F_power_told := F_power_told, b_power_told := (F_power_told.bindsN fun _ _ _ _ _ _ us hl => match us, hl with | [_], _ => rfl), g_power_told := He.glo_ok X G (c.fact 24 (f := .glo "power_told") rfl), f_is_power_in := _, fd_is_power_in := _, F_is_power_in := F_is_power_in, b_is_power_in := (F_is_power_in.bindsN fun _ _ _ _ _ _ us hl => match us, hl with | [_], _ => rfl), g_is_power_in := He.glo_ok X G (c.fact 25 (f := .glo "is_power_in") rfl), f_entry_paper := _, fd_entry_paper := _, F_entry_paper := F_entry_paper, b_entry_paper := (F_entry_paper.bindsN fun _ _ _ _ _ _ us hl => match us, hl with | [_, _], _ => rfl), g_entry_paper := He.glo_ok X G (c.fact 26 (f := .glo "entry_paper") rfl), f_times_power := _, fd_times_power := _, F_times_power := F_times_power, b_times_power := (F_times_power.bindsN fun _ _ _ _ _ _ us hl => match us, hl with | [_, _, _], _ => rfl), g_times_power := He.glo_ok X G (c.fact 27 (f := .glo "times_power") rfl), f_is_entry_of := _, fd_is_entry_of := _, F_is_entry_of := F_is_entry_of, b_is_entry_of := (F_is_entry_of.bindsN fun _ _ _ _ _ _ us hl => match us, hl with | [_, _, _], _ => rfl), g_is_entry_of := He.glo_ok X G (c.fact 28 (f := .glo "is_entry_of") rfl), f_paper_word := _, fd_paper_word := _, F_paper_word := F_paper_word, b_paper_word := (F_paper_word.bindsN fun _ _ _ _ _ _ us hl => match us, hl with | [_], _ => rfl), g_paper_word := He.glo_ok X G (c.fact 29 (f := .glo "paper_word") rfl), f_power_paper := _, fd_power_paper := _, F_power_paper := F_power_paper, b_power_paper := (F_power_paper.bindsN fun _ _ _ _ _ _ us hl => match us, hl with | [_], _ => rfl), g_power_paper := He.glo_ok X G (c.fact 30 (f := .glo "power_paper") rfl), f_is_told_power := _, fd_is_told_power := _, F_is_told_power := F_is_told_power, b_is_told_power := (F_is_told_power.bindsN fun _ _ _ _ _ _ us hl => match us, hl with | [_, _], _ => rfl), g_is_told_power := He.glo_ok X G (c.fact 31 (f := .glo "is_told_power") rfl), f_is_power_paper := _, fd_is_power_paper := _, F_is_power_paper := F_is_power_paper, b_is_power_paper := (F_is_power_paper.bindsN fun _ _ _ _ _ _ us hl => match us, hl with | [_, _], _ => rfl), g_is_power_paper := He.glo_ok X G (c.fact 32 (f := .glo "is_power_paper") rfl), f_law_dice := _, fd_law_dice := _, F_law_dice := F_law_dice, b_law_dice := (F_law_dice.bindsN fun _ _ _ _ _ _ us hl => match us, hl with | [_, _], _ => rfl), g_law_dice := He.glo_ok X G (c.fact 33 (f := .glo "_law_dice") rfl), f_law_roll := _, fd_law_roll := _, F_law_roll := F_law_roll, b_law_roll := (F_law_roll.bindsN fun _ _ _ _ _ _ us hl => match us, hl with | [_, _], _ => rfl), g_law_roll := He.glo_ok X G (c.fact 34 (f := .glo "_law_roll") rfl), f_law_pick := _, fd_law_pick := _, F_law_pick := F_law_pick, b_law_pick := (F_law_pick.bindsN fun _ _ _ _ _ _ us hl => match us, hl with | [_, _], _ => rfl), g_law_pick := He.glo_ok X G (c.fact 35 (f := .glo "_law_pick") rfl), f_law_near := _, fd_law_near := _, F_law_near := F_law_near, b_law_near := (F_law_near.bindsN fun _ _ _ _ _ _ us hl => match us, hl with | [_, _], _ => rfl), g_law_near := He.glo_ok X G (c.fact 36 (f := .glo "_law_near") rfl), f_law_gcd := _, fd_law_gcd := _, F_law_gcd := F_law_gcd, b_law_gcd := (F_law_gcd.bindsN fun _ _ _ _ _ _ us hl => match us, hl with | [_, _], _ => rfl), g_law_gcd := He.glo_ok X G (c.fact 37 (f := .glo "_law_gcd") rfl), f_law_shared := _, fd_law_shared := _, F_law_shared := F_law_shared, b_law_shared := (F_law_shared.bindsN fun _ _ _ _ _ _ us hl => match us, hl with | [_], _ => rfl), g_law_shared := He.glo_ok X G (c.fact 38 (f := .glo "_law_shared") rfl), f_law_choose := _, fd_law_choose := _, F_law_choose := F_law_choose, b_law_choose := (F_law_choose.bindsN fun _ _ _ _ _ _ us hl => match us, hl with | [_, _], _ => rfl), g_law_choose := He.glo_ok X G (c.fact 39 (f := .glo "_law_choose") rfl), f_law_plus := _, fd_law_plus := _, F_law_plus := F_law_plus, b_law_plus := (F_law_plus.bindsN fun _ _ _ _ _ _ us hl => match us, hl with | [_, _], _ => rfl), g_law_plus := He.glo_ok X G (c.fact 40 (f := .glo "_law_plus") rfl), f_law_scaled := _, fd_law_scaled := _, F_law_scaled := F_law_scaled, b_law_scaled := (F_law_scaled.bindsN fun _ _ _ _ _ _ us hl => match us, hl with | [_, _], _ => rfl), g_law_scaled := He.glo_ok X G (c.fact 41 (f := .glo "_law_scaled") rfl), f_law_product := _, fd_law_product := _, F_law_product := F_law_product, b_law_product := (F_law_product.bindsN fun _ _ _ _ _ _ us hl => match us, hl with | [_, _], _ => rfl), g_law_product := He.glo_ok X G (c.fact 42 (f := .glo "_law_product") rfl), f_law_all_product := _, fd_law_all_product := _, F_law_all_product := F_law_all_product, b_law_all_product := (F_law_all_product.bindsN fun _ _ _ _ _ _ us hl => match us, hl with | [_], _ => rfl), g_law_all_product := He.glo_ok X G (c.fact 43 (f := .glo "_law_all_product") rfl), f_law_power := _, fd_law_power := _, F_law_power := F_law_power, b_law_power := (F_law_power.bindsN fun _ _ _ _ _ _ us hl => match us, hl with | [_, _], _ => rfl), g_law_power := He.glo_ok X G (c.fact 44 (f := .glo "_law_power") rfl), f_law_by_x := _, fd_law_by_x := _, F_law_by_x := F_law_by_x, b_law_by_x := (F_law_by_x.bindsN fun _ _ _ _ _ _ us hl => match us, hl with | [_], _ => rfl), g_law_by_x := He.glo_ok X G (c.fact 45 (f := .glo "_law_by_x") rfl), f_law_by_y := _, fd_law_by_y := _, F_law_by_y := F_law_by_y, b_law_by_y := (F_law_by_y.bindsN fun _ _ _ _ _ _ us hl => match us, hl with | [_], _ => rfl), g_law_by_y := He.glo_ok X G (c.fact 46 (f := .glo "_law_by_y") rfl), f_law_derived := _, fd_law_derived := _, F_law_derived := F_law_derived, b_law_derived := (F_law_derived.bindsN fun _ _ _ _ _ _ us hl => match us, hl with | [_, _, _], _ => rfl), g_law_derived := He.glo_ok X G (c.fact 47 (f := .glo "_law_derived") rfl), f_law_laid := _, fd_law_laid := _, F_law_laid := F_law_laid, b_law_laid := (F_law_laid.bindsN fun _ _ _ _ _ _ us hl => match us, hl with | [_, _, _], _ => rfl), g_law_laid := He.glo_ok X G (c.fact 48 (f := .glo "_law_laid") rfl), f_law_plain := _, fd_law_plain := _, F_law_plain := F_law_plain, b_law_plain := (F_law_plain.bindsN fun _ _ _ _ _ _ us hl => match us, hl with | [_], _ => rfl), g_law_plain := He.glo_ok X G (c.fact 49 (f := .glo "_law_plain") rfl), f_law_line := _, fd_law_line := _, F_law_line := F_law_line, b_law_line := (F_law_line.bindsN fun _ _ _ _ _ _ us hl => match us, hl with | [_], _ => rfl), g_law_line := He.glo_ok X G (c.fact 50 (f := .glo "_law_line") rfl), f_law_point := _, fd_law_point := _, F_law_point := F_law_point, b_law_point := (F_law_point.bindsN fun _ _ _ _ _ _ us hl => match us, hl with | [_, _], _ => rfl), g_law_point := He.glo_ok X G (c.fact 51 (f := .glo "_law_point") rfl), f_law_small_form := _, fd_law_small_form := _, F_law_small_form := F_law_small_form, b_law_small_form := (F_law_small_form.bindsN fun _ _ _ _ _ _ us hl => match us, hl with | [_, _, _], _ => rfl), g_law_small_form := He.glo_ok X G (c.fact 52 (f := .glo "_law_small_form") rfl), f_law_form := _, fd_law_form := _, F_law_form := F_law_form, b_law_form := (F_law_form.bindsN fun _ _ _ _ _ _ us hl => match us, hl with | [_, _], _ => rfl), g_law_form := He.glo_ok X G (c.fact 53 (f := .glo "_law_form") rfl), f_law_is_whole := _, fd_law_is_whole := _, F_law_is_whole := F_law_is_whole, b_law_is_whole := (F_law_is_whole.bindsN fun _ _ _ _ _ _ us hl => match us, hl with | [_], _ => rfl), g_law_is_whole := He.glo_ok X G (c.fact 54 (f := .glo "_law_is_whole") rfl), f_law_is_point := _, fd_law_is_point := _, F_law_is_point := F_law_is_point, b_law_is_point := (F_law_is_point.bindsN fun _ _ _ _ _ _ us hl => match us, hl with | [_], _ => rfl), g_law_is_point := He.glo_ok X G (c.fact 55 (f := .glo "_law_is_point") rfl), f_law_is_right := _, fd_law_is_right := _, F_law_is_right := F_law_is_right, b_law_is_right := (F_law_is_right.bindsN fun _ _ _ _ _ _ us hl => match us, hl with | [_, _], _ => rfl), g_law_is_right := He.glo_ok X G (c.fact 56 (f := .glo "_law_is_right") rfl), f_law_near_values := _, fd_law_near_values := _, F_law_near_values := F_law_near_values, b_law_near_values := (F_law_near_values.bindsN fun _ _ _ _ _ _ us hl => match us, hl with | [_, _], _ => rfl), g_law_near_values := He.glo_ok X G (c.fact 57 (f := .glo "_law_near_values") rfl), f_law_right := _, fd_law_right := _, F_law_right := F_law_right, b_law_right := (F_law_right.bindsN fun _ _ _ _ _ _ us hl => match us, hl with | [_, _], _ => rfl), g_law_right := He.glo_ok X G (c.fact 58 (f := .glo "_law_right") rfl), f_law_power_form := _, fd_law_power_form := _, F_law_power_form := F_law_power_form, b_law_power_form := (F_law_power_form.bindsN fun _ _ _ _ _ _ us hl => match us, hl with | [_], _ => rfl), g_law_power_form := He.glo_ok X G (c.fact 59 (f := .glo "_law_power_form") rfl), f_law := _, fd_law := _, F_law := F_law, b_law := (F_law.bindsN fun _ _ _ _ _ _ us hl => match us, hl with | [_], _ => rfl), g_law := He.glo_ok X G (c.fact 60 (f := .glo "law") rfl), f_Told_init := _, fd_Told_init := _, F_Told_init := F_Told_init, b_Told_init := (F_Told_init.bindsN fun _ _ _ _ _ _ us hl => match us, hl with | [_, _], _ => rfl), f_Form_init := _, fd_Form_init := _, F_Form_init := F_Form_init, b_Form_init := (F_Form_init.bindsN fun _ _ _ _ _ _ us hl => match us, hl with | [_, _], _ => rfl), f_Form_entries := _, fd_Form_entries := _, F_Form_entries := F_Form_entries, b_Form_entries := (F_Form_entries.bindsN fun _ _ _ _ _ _ us hl => match us, hl with | [_], _ => rfl), f_Form_degree := _, fd_Form_degree := _, F_Form_degree := F_Form_degree, b_Form_degree := (F_Form_degree.bindsN fun _ _ _ _ _ _ us hl => match us, hl with | [_], _ => rfl), f_Form_is_zero := _, fd_Form_is_zero := _, F_Form_is_zero := F_Form_is_zero, b_Form_is_zero := (F_Form_is_zero.bindsN fun _ _ _ _ _ _ us hl => match us, hl with | [_], _ => rfl), f_Form_eq := _, fd_Form_eq := _, F_Form_eq := F_Form_eq, b_Form_eq := (F_Form_eq.bindsN fun _ _ _ _ _ _ us hl => match us, hl with | [_, _], _ => rfl), f_Form_len := _, fd_Form_len := _, F_Form_len := F_Form_len, b_Form_len := (F_Form_len.bindsN fun _ _ _ _ _ _ us hl => match us, hl with | [_], _ => rfl), f_Form_iter := _, fd_Form_iter := _, F_Form_iter := F_Form_iter, b_Form_iter := (F_Form_iter.bindsN fun _ _ _ _ _ _ us hl => match us, hl with | [_], _ => rfl), C_Told := He.ga K "Told", g_Told := He.glo_ok X G (c.fact 61 (f := .glo "Told") rfl), mk_Told := He.mkr_ok (c.fact 84 (f := .mkr "Told") rfl), C_Form := He.ga K "Form", g_Form := He.glo_ok X G (c.fact 62 (f := .glo "Form") rfl), mk_Form := He.mkr_ok (c.fact 85 (f := .mkr "Form") rfl), z_abs := He.free_ok X G (c.fact 63 (f := .free "abs") rfl), z_all := He.free_ok X G (c.fact 64 (f := .free "all") rfl), z_any := He.free_ok X G (c.fact 65 (f := .free "any") rfl), z_bool := He.free_ok X G (c.fact 66 (f := .free "bool") rfl), z_enumerate := He.free_ok X G (c.fact 67 (f := .free "enumerate") rfl), z_int := He.free_ok X G (c.fact 68 (f := .free "int") rfl), z_isinstance := He.free_ok X G (c.fact 69 (f := .free "isinstance") rfl), z_iter := He.free_ok X G (c.fact 70 (f := .free "iter") rfl), z_len := He.free_ok X G (c.fact 71 (f := .free "len") rfl), z_list := He.free_ok X G (c.fact 72 (f := .free "list") rfl), z_max := He.free_ok X G (c.fact 73 (f := .free "max") rfl), z_min := He.free_ok X G (c.fact 74 (f := .free "min") rfl), z_next := He.free_ok X G (c.fact 75 (f := .free "next") rfl), z_range := He.free_ok X G (c.fact 76 (f := .free "range") rfl), z_repr := He.free_ok X G (c.fact 77 (f := .free "repr") rfl), z_str := He.free_ok X G (c.fact 78 (f := .free "str") rfl), z_tuple := He.free_ok X G (c.fact 79 (f := .free "tuple") rfl), z_zip := He.free_ok X G (c.fact 80 (f := .free "zip") rfl), c_GREATEST := He.int_ok X G (c.fact 81 (f := .int "GREATEST" 1000000000000000000000000000000000000000000000000000000000000) rfl), c_MAX_DEGREE := He.int_ok X G (c.fact 82 (f := .int "MAX_DEGREE" 40) rfl), c_SHORT_PAPER := He.int_ok X G (c.fact 83 (f := .int "SHORT_PAPER" 3) rfl), c_POWER := He.str_ok X G (c.fact 86 (f := .str "POWER" "power") rfl), c_ENTRY := He.str_ok X G (c.fact 87 (f := .str "ENTRY" "entry") rfl), c_first_index := HookT.codA K ((HookG.At.glo "first_index").adr K), P_first_index := He.tabOf K (HookT.codA K ((HookG.At.glo "first_index").adr K)), code_first_index := HookT.code_of F_first_index, tab_first_index := rfl, c_first_of := HookT.codA K ((HookG.At.glo "first_of").adr K), P_first_of := He.tabOf K (HookT.codA K ((HookG.At.glo "first_of").adr K)), code_first_of := HookT.code_of F_first_of, tab_first_of := rfl, m_gcd := PySem.W.mg_of X G (He.eqO_ok ex_0), oc_Told := OwnF.ocB_ok ex_1, a_own_row := _, sl_own_row := HookG.slotB_ok ex_2 (by decide), oc_Form := OwnF.ocB_ok ex_3, a_own_entries := _, sl_own_entries := HookG.slotB_ok ex_4 (by decide), mt_Told_init := HookG.mtB_ok ex_5, mt_Form_init := HookG.mtB_ok ex_6, p_Form_entries := _, pr_Form_entries := HookG.prB_ok ex_7, p_Form_degree := _, pr_Form_degree := HookG.prB_ok ex_8, p_Form_is_zero := _, pr_Form_is_zero := HookG.prB_ok ex_9, mt_Form_eq := HookG.mtB_ok ex_10, mt_Form_len := HookG.mtB_ok ex_11, mt_Form_iter := HookG.mtB_ok ex_12, kit_Told_Form := HookG.dO_ok ex_13, kit_Form_Told := HookG.dO_ok ex }⟩

end K59

set_option Elab.async false
set_option linter.all false
set_option maxRecDepth 100000
set_option maxHeartbeats 0
namespace K59
open PySem PySem.Spec PyProof.Rows L2
abbrev R : PySem.W.OpenRow := PySem.W.OpenLaw.row PySem.Challenge.rw_sourceforms_k59_whole_powers_by_second_l
abbrev hk : PySem.W.Hook := HookT.hookT 5 faL fnL tfL exL
def ob (s : PySem.W.SharedT) : HookT.AlGT := HookT.obsGT 5 faL fnL tfL exL (HandSHeadRun.getT s)
theorem ob_eq (s : PySem.W.SharedT) : ob s = hk.obs s.abs := HookT.obsGT_eq (HandSHeadRun.getT_eq s)
def loose0 : List Str := ["_wall", "LetterError", "InvalidForm", "InvalidTable", "InvalidPoint", "InvalidOperation", "InvalidNumber", "TooMany", "GREATEST", "is_whole", "is_short", "is_from", "are_wholes", "are_short", "require_short", "require_from", "shared_of", "first_of", "lots_of", "is_point_any", "is_change", "require_change", "MAX_DEGREE", "product_in", "joined_entries", "power_in", "line_in", "value_in", "changed_in", "derived_in"]
def loose1 : List Str := ["is_zero_in", "first_index", "Told", "are_entries", "Form", "form_of", "require_form", "sum_in", "laying_slope", "laying_slopes", "add_product", "laid_in", "POWER", "ENTRY", "SHORT_PAPER", "point_of_line", "power_told", "is_power_in", "entry_paper", "times_power", "is_entry_of", "paper_word", "power_paper", "is_told_power", "is_power_paper", "_law_dice", "_law_roll", "_law_pick", "_law_near", "_law_gcd"]
def loose2 : List Str := ["_law_shared", "_law_choose", "_law_plus", "_law_scaled", "_law_product", "_law_all_product", "_law_power", "_law_by_x", "_law_by_y", "_law_derived", "_law_laid", "_law_plain", "_law_line", "_law_point", "_law_small_form", "_law_form", "_law_is_whole", "_law_is_point", "_law_is_right", "_law_near_values", "_law_right", "_law_power_form"]
def loose : List Str := loose0 ++ loose1 ++ loose2
theorem run (w : World) : HandSHeadRun.RunEqI R (PySem.W.view R.prog [0, 89]) hk ob 12000 loose w := by
  show (_ : Option _) = _
  kernel_rfl
end K59

set_option Elab.async false
set_option linter.all false
set_option maxRecDepth 100000
/-! products of forms: the plain law -/
namespace K59
/-- the entry at a place, 0 behind the end -/
def co (l : List Int) (k : Nat) : Int := l.getD k 0
/-- the entries of a product -/
def cv : List Int → (Nat → Int) → Nat → Int
  | [], _, _ => 0
  | x :: xs, g, k => x * g k + (match k with
    | 0 => 0
    | k + 1 => cv xs g k)
theorem cv_nil (g : Nat → Int) (k : Nat) : cv [] g k = 0 := rfl
theorem cv_zero (x : Int) (xs : List Int) (g : Nat → Int) : cv (x :: xs) g 0 = x * g 0 := by show x * g 0 + 0 = _; omega
theorem cv_succ (x : Int) (xs : List Int) (g : Nat → Int) (k : Nat) : cv (x :: xs) g (k + 1) = x * g (k + 1) + cv xs g k := rfl
theorem cv_congr {g h : Nat → Int} : ∀ (l : List Int) (k : Nat), (∀ i, i ≤ k → g i = h i) → cv l g k = cv l h k
  | [], _, _ => rfl
  | x :: xs, 0, e => by rw [cv_zero, cv_zero, e 0 (Nat.le_refl _)]
  | x :: xs, k + 1, e => by rw [cv_succ, cv_succ, e (k + 1) (Nat.le_refl _), cv_congr xs k fun i hi => e i (by omega)]
theorem cv_ext {g h : Nat → Int} (l : List Int) (e : ∀ i, g i = h i) (k : Nat) : cv l g k = cv l h k := cv_congr l k fun i _ => e i
theorem cv_add (l : List Int) (g h : Nat → Int) : ∀ k, cv l (fun i => g i + h i) k = cv l g k + cv l h k := by
  induction l with
  | nil => intro k; rfl
  | cons x xs ih =>
    intro k
    cases k with
    | zero => rw [cv_zero, cv_zero, cv_zero, Int.mul_add]
    | succ k => rw [cv_succ, cv_succ, cv_succ, ih, Int.mul_add]; omega
theorem cv_mul (l : List Int) (c : Int) (g : Nat → Int) : ∀ k, cv l (fun i => c * g i) k = c * cv l g k := by
  induction l with
  | nil => intro k; show (0 : Int) = c * 0; rw [Int.mul_zero]
  | cons x xs ih =>
    intro k
    cases k with
    | zero => rw [cv_zero, cv_zero]; rw [← Int.mul_assoc, Int.mul_comm x c, Int.mul_assoc]
    | succ k => rw [cv_succ, cv_succ, ih, Int.mul_add, ← Int.mul_assoc, Int.mul_comm x c, Int.mul_assoc]
theorem cv_zeroF (l : List Int) : ∀ k, cv l (fun _ => 0) k = 0 := by
  induction l with
  | nil => intro k; rfl
  | cons x xs ih =>
    intro k
    cases k with
    | zero => rw [cv_zero, Int.mul_zero]
    | succ k => rw [cv_succ, ih, Int.mul_zero]; rfl
/-- what is moved by one place -/
def sh (g : Nat → Int) : Nat → Int
  | 0 => 0
  | k + 1 => g k
theorem cv_sh (l : List Int) (g : Nat → Int) : ∀ k, cv l (sh g) k = sh (cv l g) k := by
  induction l with
  | nil => intro k; cases k <;> rfl
  | cons x xs ih =>
    intro k
    cases k with
    | zero => rw [cv_zero]; show x * 0 = 0; rw [Int.mul_zero]
    | succ k =>
      rw [cv_succ, ih]
      show x * g k + sh (cv xs g) k = cv (x :: xs) g k
      cases k with
      | zero => rw [cv_zero]; show x * g 0 + 0 = x * g 0; omega
      | succ k => rw [cv_succ] <;> rfl
theorem cv_cons (x : Int) (xs : List Int) (g : Nat → Int) (k : Nat) : cv (x :: xs) g k = x * g k + sh (cv xs g) k := by
  cases k with
  | zero => rw [cv_zero]; show x * g 0 = x * g 0 + 0; omega
  | succ k => rw [cv_succ] <;> rfl
theorem co_cons (x : Int) (xs : List Int) (k : Nat) : co (x :: xs) k = (if k = 0 then x else 0) + sh (co xs) k := by
  cases k with
  | zero => show x = x + 0; omega
  | succ k =>
    show co xs k = (if k + 1 = 0 then x else 0) + co xs k
    rw [if_neg (by omega)]
    omega
/-- a constant times -/
theorem cv_one (l : List Int) : ∀ k, cv l (fun i => if i = 0 then 1 else 0) k = co l k := by
  induction l with
  | nil => intro k; rfl
  | cons x xs ih =>
    intro k
    cases k with
    | zero => rw [cv_zero, if_pos rfl, Int.mul_one]; rfl
    | succ k => rw [cv_succ, if_neg (by omega), Int.mul_zero, ih]; show 0 + co xs k = co xs k; omega
theorem cv_delta (l : List Int) (x : Int) (k : Nat) : cv l (fun i => if i = 0 then x else 0) k = x * co l k := by
  rw [← cv_one l k, ← cv_mul]
  refine cv_ext l (fun i => ?_) k
  by_cases h : i = 0
  · rw [if_pos h, if_pos h, Int.mul_one]
  · rw [if_neg h, if_neg h, Int.mul_zero]
theorem cv_comm (l m : List Int) : ∀ k, cv l (co m) k = cv m (co l) k := by
  induction l with
  | nil =>
    intro k
    rw [show cv m (co []) k = cv m (fun _ => 0) k from cv_ext m (fun i => rfl) k, cv_zeroF]
    rfl
  | cons x xs ih =>
    intro k
    rw [cv_cons, cv_ext m (h := fun i => (if i = 0 then x else 0) + sh (co xs) i) (fun i => co_cons x xs i), cv_add, cv_delta, cv_sh]
    congr 1
    cases k with
    | zero => rfl
    | succ k => exact ih k
theorem cv_far {g : Nat → Int} {b : Nat} (hb : 1 ≤ b) (hg : ∀ i, b ≤ i → g i = 0) : ∀ (l : List Int) (k : Nat), l.length + b ≤ k + 1 → cv l g k = 0
  | [], _, _ => rfl
  | x :: xs, 0, h => by rw [List.length_cons] at h; omega
  | x :: xs, k + 1, h => by
    rw [List.length_cons] at h
    rw [cv_succ, hg _ (by omega), Int.mul_zero, cv_far hb hg xs k (by omega)]
    rfl
/-- the first n values -/
def tb (n : Nat) (f : Nat → Int) : List Int := (List.range n).map f
theorem tb_len (n : Nat) (f : Nat → Int) : (tb n f).length = n := by
  unfold tb
  rw [List.length_map, List.length_range]
theorem co_tb {n : Nat} {f : Nat → Int} (k : Nat) : co (tb n f) k = if k < n then f k else 0 := by
  unfold co tb
  rw [List.getD_eq_getElem?_getD, List.getElem?_map]
  by_cases h : k < n
  · rw [List.getElem?_range h, if_pos h]
    rfl
  · rw [List.getElem?_eq_none (by rw [List.length_range]; omega), if_neg h]
    rfl
theorem co_far {l : List Int} {i : Nat} (h : l.length ≤ i) : co l i = 0 := by
  unfold co
  rw [List.getD_eq_getElem?_getD, List.getElem?_eq_none h]
  rfl
theorem co_get {l : List Int} {i : Nat} (h : i < l.length) : co l i = l[i] := by
  unfold co
  rw [List.getD_eq_getElem?_getD, List.getElem?_eq_getElem h]
  rfl
theorem co_inj {l m : List Int} (hl : l.length = m.length) (h : ∀ i, co l i = co m i) : l = m := by
  refine List.ext_getElem hl fun i h1 h2 => ?_
  rw [← co_get h1, ← co_get h2, h]
theorem tb_co (l : List Int) : tb l.length (co l) = l := co_inj (tb_len _ _) fun i => by
  rw [co_tb]
  split
  · rfl
  · exact (co_far (by omega)).symm
/-- the product of two forms -/
def ml (l m : List Int) : List Int := tb (l.length + m.length - 1) (cv l (co m))
theorem ml_len (l m : List Int) : (ml l m).length = l.length + m.length - 1 := tb_len _ _
theorem co_ml {l m : List Int} (hm : m ≠ []) (k : Nat) : co (ml l m) k = cv l (co m) k := by
  unfold ml
  rw [co_tb]
  by_cases h : k < l.length + m.length - 1
  · rw [if_pos h]
  · rw [if_neg h]
    have h1 : 0 < m.length := List.length_pos_iff.mpr hm
    exact (cv_far (b := m.length) (by omega) (fun i hi => co_far hi) l k (by omega)).symm
theorem ml_comm (l m : List Int) : ml l m = ml m l := by
  unfold ml
  rw [Nat.add_comm]
  unfold tb
  exact List.map_congr_left fun k _ => cv_comm l m k
theorem ml_ne {l m : List Int} (hl : l ≠ []) (hm : m ≠ []) : ml l m ≠ [] := by
  intro e
  have h := ml_len l m
  rw [e] at h
  have h1 : 0 < m.length := List.length_pos_iff.mpr hm
  have h2 : 0 < l.length := List.length_pos_iff.mpr hl
  have : 0 = l.length + m.length - 1 := h
  omega
/-- entry by entry -/
def pl (l m : List Int) : List Int := List.zipWith (· + ·) l m
theorem pl_len {l m : List Int} (h : l.length = m.length) : (pl l m).length = l.length := by
  unfold pl
  rw [List.length_zipWith, h, Nat.min_self]
end K59

set_option Elab.async false
set_option linter.all false
set_option maxRecDepth 100000
/-! the contents of forms -/
namespace K59
theorem least (P : Nat → Prop) (n : Nat) (h : P n) : ∃ m, P m ∧ ∀ k, P k → m ≤ k := by
  induction n using Nat.strongRecOn with
  | _ n ih =>
    by_cases c : ∃ k, k < n ∧ P k
    · obtain ⟨k, hk, pk⟩ := c
      exact ih k hk pk
    · exact ⟨n, h, fun k pk => Nat.le_of_not_lt fun z => c ⟨k, z, pk⟩⟩
structure Prm (p : Nat) : Prop where
  gt : 1 < p
  pr : ∀ a b : Nat, p ∣ a * b → p ∣ a ∨ p ∣ b
theorem prm_of {n : Nat} (h : n ≠ 1) : ∃ p, Prm p ∧ p ∣ n := by
  obtain ⟨d, ⟨d1, dn⟩, hmin⟩ := least (fun d => 1 < d ∧ d ∣ n) (if n = 0 then 2 else n) (by
    by_cases c : n = 0
    · rw [if_pos c, c]
      exact ⟨by omega, Nat.dvd_zero _⟩
    · rw [if_neg c]
      exact ⟨by omega, Nat.dvd_refl _⟩)
  refine ⟨d, ⟨d1, fun a b hab => ?_⟩, dn⟩
  by_cases c : d ∣ a
  · exact .inl c
  · refine .inr ?_
    have g0 : 0 < Nat.gcd d a := Nat.gcd_pos_of_pos_left a (by omega)
    have g1 : Nat.gcd d a ∣ n := Nat.dvd_trans (Nat.gcd_dvd_left d a) dn
    have g2 : Nat.gcd d a = 1 := by
      by_cases z : Nat.gcd d a = 1
      · exact z
      · have h1 := hmin _ ⟨show 1 < Nat.gcd d a by omega, g1⟩
        have h2 : Nat.gcd d a ≤ d := Nat.le_of_dvd (by omega) (Nat.gcd_dvd_left d a)
        have h3 : Nat.gcd d a = d := by omega
        exact absurd (h3 ▸ Nat.gcd_dvd_right d a) c
    have g3 : Nat.Coprime d a := g2
    exact g3.dvd_of_dvd_mul_left hab
theorem Prm.int {p : Nat} (h : Prm p) {x y : Int} (d : (p : Int) ∣ x * y) : (p : Int) ∣ x ∨ (p : Int) ∣ y := by
  have e := Int.natAbs_dvd_natAbs.mpr d
  rw [Int.natAbs_mul] at e
  rcases h.pr _ _ e with e | e
  · exact .inl (Int.natAbs_dvd_natAbs.mp e)
  · exact .inr (Int.natAbs_dvd_natAbs.mp e)
theorem cv_dvd {p : Int} {g : Nat → Int} : ∀ (l : List Int) (k : Nat), (∀ t, t ≤ k → p ∣ g t) → p ∣ cv l g k
  | [], _, _ => Int.dvd_zero p
  | x :: xs, 0, h => by
    rw [cv_zero]
    exact Int.dvd_mul_of_dvd_right (h 0 (Nat.le_refl _))
  | x :: xs, k + 1, h => by
    rw [cv_succ]
    exact Int.dvd_add (Int.dvd_mul_of_dvd_right (h _ (Nat.le_refl _))) (cv_dvd xs k fun t ht => h t (by omega))
theorem gauss {p : Nat} (hp : Prm p) {g : Nat → Int} {j : Nat} (h1 : ∀ t, t < j → (p : Int) ∣ g t) (h2 : ¬ (p : Int) ∣ g j) : ∀ l : List Int, (∃ x ∈ l, ¬ (p : Int) ∣ x) → ∃ k, ¬ (p : Int) ∣ cv l g k
  | [], h => by
    obtain ⟨x, hx, _⟩ := h
    cases hx
  | x :: xs, h => by
    by_cases c : (p : Int) ∣ x
    · obtain ⟨y, hy, hd⟩ := h
      have hy2 : y ∈ xs := by
        rcases List.mem_cons.mp hy with e | e
        · rw [e] at hd
          exact absurd c hd
        · exact e
      obtain ⟨k, hk⟩ := gauss hp h1 h2 xs ⟨y, hy2, hd⟩
      refine ⟨k + 1, fun z => hk ?_⟩
      rw [cv_succ] at z
      exact (Int.dvd_add_right (Int.dvd_mul_of_dvd_left c)).mp z
    · refine ⟨j, fun z => ?_⟩
      cases j with
      | zero =>
        rw [cv_zero] at z
        rcases hp.int z with e | e
        · exact c e
        · exact h2 e
      | succ j =>
        rw [cv_succ] at z
        have := (Int.dvd_add_left (cv_dvd xs j fun t ht => h1 t (by omega))).mp z
        rcases hp.int this with e | e
        · exact c e
        · exact h2 e
/-- the greatest common divisor of all -/
def cont : List Int → Nat
  | [] => 0
  | x :: xs => Nat.gcd x.natAbs (cont xs)
theorem cont_dvd : ∀ (l : List Int) (x : Int), x ∈ l → (cont l : Int) ∣ x
  | y :: ys, x, h => by
    rcases List.mem_cons.mp h with e | e
    · rw [e]
      exact Int.natAbs_dvd_natAbs.mp (by show Nat.gcd _ _ ∣ _; exact Nat.gcd_dvd_left _ _)
    · have := cont_dvd ys x e
      exact Int.dvd_trans (Int.natAbs_dvd_natAbs.mp (by show Nat.gcd _ _ ∣ cont ys; exact Nat.gcd_dvd_right _ _)) this
theorem dvd_cont {d : Nat} : ∀ l : List Int, (∀ x ∈ l, (d : Int) ∣ x) → d ∣ cont l
  | [], _ => Nat.dvd_zero d
  | y :: ys, h => Nat.dvd_gcd (Int.natAbs_dvd_natAbs.mpr (h y List.mem_cons_self)) (dvd_cont ys fun x hx => h x (List.mem_cons_of_mem _ hx))
theorem cont_scale (c : Int) : ∀ l : List Int, cont (l.map (c * ·)) = c.natAbs * cont l
  | [] => rfl
  | x :: xs => by
    show Nat.gcd (c * x).natAbs (cont (xs.map (c * ·))) = c.natAbs * Nat.gcd x.natAbs (cont xs)
    rw [cont_scale c xs, Int.natAbs_mul, Nat.gcd_mul_left]
theorem cont_zero {l : List Int} (h : cont l = 0) : ∀ x ∈ l, x = 0 := fun x hx => by
  have := cont_dvd l x hx
  rw [h] at this
  exact Int.zero_dvd.mp this
theorem co_mem {l : List Int} {k : Nat} : co l k = 0 ∨ co l k ∈ l := by
  by_cases h : k < l.length
  · rw [co_get h]
    exact .inr (List.getElem_mem h)
  · exact .inl (co_far (by omega))
theorem cont_one {l m : List Int} (hm : m ≠ []) (h1 : cont l = 1) (h2 : cont m = 1) : cont (ml l m) = 1 := by
  by_cases c : cont (ml l m) = 1
  · exact c
  · obtain ⟨p, hp, hd⟩ := prm_of c
    have key : ∀ n : List Int, cont n = 1 → ∃ x ∈ n, ¬ (p : Int) ∣ x := fun n hn => by
      by_cases z : ∃ x ∈ n, ¬ (p : Int) ∣ x
      · exact z
      · have h3 : p ∣ cont n := dvd_cont n fun x hx => Classical.byContradiction fun q => z ⟨x, hx, q⟩
        rw [hn] at h3
        have := Nat.le_of_dvd (by omega) h3
        have := hp.gt
        omega
    obtain ⟨y, hy, hyd⟩ := key m h2
    obtain ⟨j0, hj0, ej⟩ := List.mem_iff_getElem.mp hy
    obtain ⟨j, hj, hmin⟩ := least (fun j => ¬ (p : Int) ∣ co m j) j0 (by
      show ¬ (p : Int) ∣ co m j0
      rw [co_get hj0, ej]
      exact hyd)
    obtain ⟨k, hk⟩ := gauss hp (g := co m) (j := j) (fun t ht => Classical.byContradiction fun z => by
      have := hmin t z
      omega) hj l (key l h1)
    refine absurd ?_ hk
    rw [← co_ml hm]
    rcases co_mem (l := ml l m) (k := k) with e | e
    · rw [e]
      exact Int.dvd_zero _
    · exact Int.dvd_trans (Int.natCast_dvd_natCast.mpr hd) (cont_dvd _ _ e)
/-- each form is its content times a form of the content 1, or all 0 -/
theorem cont_split {l : List Int} {d : Int} (h : d.natAbs = cont l) (h0 : cont l ≠ 0) : ∃ m, l = m.map (d * ·) ∧ cont m = 1 := by
  have hd : ∀ x ∈ l, d ∣ x := fun x hx => Int.natAbs_dvd_natAbs.mp (by rw [h]; exact Int.natAbs_dvd_natAbs.mpr (cont_dvd l x hx))
  have d0 : d ≠ 0 := fun e => by rw [e] at h; exact h0 h.symm
  refine ⟨l.map (· / d), ?_, ?_⟩
  · rw [List.map_map]
    conv => lhs; rw [← List.map_id l]
    exact List.map_congr_left fun x hx => (Int.mul_ediv_cancel' (hd x hx)).symm
  · have e : l = (l.map (· / d)).map (d * ·) := by
      rw [List.map_map]
      conv => lhs; rw [← List.map_id l]
      exact List.map_congr_left fun x hx => (Int.mul_ediv_cancel' (hd x hx)).symm
    have e2 := cont_scale d (l.map (· / d))
    rw [← e, h] at e2
    have hp : 0 < cont l := by omega
    exact Nat.eq_of_mul_eq_mul_left hp (by rw [← e2, Nat.mul_one])
theorem co_map (c : Int) (l : List Int) (k : Nat) : co (l.map (c * ·)) k = c * co l k := by
  by_cases h : k < l.length
  · rw [co_get (by rw [List.length_map]; exact h), co_get h, List.getElem_map]
  · rw [co_far (by rw [List.length_map]; omega), co_far (by omega), Int.mul_zero]
theorem ml_scale (c : Int) {l m : List Int} (hm : m ≠ []) : ml (l.map (c * ·)) m = (ml l m).map (c * ·) :=
  co_inj (by rw [List.length_map, ml_len, ml_len, List.length_map]) fun k => by
    rw [co_map, co_ml hm, co_ml hm, cv_comm, cv_comm l, ← cv_mul]
    exact cv_ext m (fun i => co_map c l i) k
theorem cont_ml {l m : List Int} (hl : l ≠ []) (hm : m ≠ []) : cont (ml l m) = cont l * cont m := by
  have zer : ∀ a b : List Int, b ≠ [] → cont a = 0 → cont (ml a b) = 0 := fun a b hb ha => by
    have hz : a = a.map ((0 : Int) * ·) := by
      conv => lhs; rw [← List.map_id a]
      exact List.map_congr_left fun x hx => by rw [cont_zero ha x hx]; rfl
    rw [hz, ml_scale 0 hb, cont_scale]
    exact Nat.zero_mul _
  by_cases c1 : cont l = 0
  · rw [zer l m hm c1, c1, Nat.zero_mul]
  · by_cases c2 : cont m = 0
    · rw [ml_comm, zer m l hl c2, c2, Nat.mul_zero]
    · obtain ⟨a, ea, ca⟩ := cont_split (d := (cont l : Int)) rfl c1
      obtain ⟨b, eb, cb⟩ := cont_split (d := (cont m : Int)) rfl c2
      have hb : b ≠ [] := fun e => by rw [e] at eb; exact hm eb
      have ha : a ≠ [] := fun e => by rw [e] at ea; exact hl ea
      have e : ml l m = ((ml a b).map ((cont l : Int) * ·)).map ((cont m : Int) * ·) := by
        rw [← ml_scale _ hb, ← ea, ml_comm l b, ← ml_scale _ hl, ← eb, ml_comm]
      rw [e, cont_scale, cont_scale, cont_one hb ca cb, Nat.mul_one, Nat.mul_comm]
      rfl
end K59

set_option Elab.async false
set_option linter.all false
set_option maxRecDepth 100000
set_option maxHeartbeats 4000000
namespace K59
open PySem PySem.Spec PyProof.Rows L2 MyR SlX OwnR OwnF
/-- an int of at most sixty digits -/
def Sho (i : Int) : Prop := i.natAbs < 10 ^ 60
theorem Same.rf (H : Hp) : Same H H := fun _ _ h => h
@[elab_as_elim] theorem gen_upd {G : Hp → Prop} (H : Hp) (p : Addr) (o : HO) (n : H p = none) (h : ∀ H', Same H H' → H' p = some o → G H') : G (upd H p o) := h _ (same_upd0 n) upd_same
section
variable {P : Program} {w : World} {K : PySem.W.Frag} {mg : Str → Option Value} {base : Heap}
def spWhole : Sp := fun vs H Q _ => ∃ i : Int, vs = [.int i] ∧ Q (.bl true) H
theorem ok_is_whole (T : Facts K mg) : FnOk P w K mg base CX0 1 T.f_is_whole T.fd_is_whole ["value"] spWhole := by
  refine T.F_is_whole.ok sc_is_whole (fun vs H Q E h => ?_) (fun cdv A outer s H vs Q E hr h => ?_)
  · obtain ⟨i, rfl, _⟩ := h
    rfl
  · obtain ⟨i, rfl, q⟩ := h
    refine ⟨_, (PSs.nox (pss_one (ps_ret (pe_and (pe_callB call_isi (by rfl) T.z_isinstance (by decide +kernel) (pa_cons (pv 0) (pa_cons (pe_bltn (v := .ty "int") (by rfl) T.z_int (by decide +kernel) rfl) pa_nil))) (pe_one (pe_not (pe_callB call_isi (by rfl) T.z_isinstance (by decide +kernel) (pa_cons (pv 0) (pa_cons (pe_bltn (v := .ty "bool") (by rfl) T.z_bool (by decide +kernel) rfl) pa_nil))))))))), ?_⟩
    refine ⟨_, rfl, .int i, .ty "int", .type "int", .type "int", true, rfl, .ty "int", .base (.int i), kit_ty (show kitB "int" "int" = some true by decide +kernel), true, rfl, iteT ?_⟩
    exact ⟨_, rfl, .int i, .ty "bool", .type "int", .type "bool", false, rfl, .ty "bool", .base (.int i), kit_ty (show kitB "int" "bool" = some false by decide +kernel), false, rfl, q⟩
def spShort : Sp := fun vs H Q _ => ∃ i : Int, vs = [.int i] ∧ Sho i ∧ Q (.bl true) H
theorem ok_is_short (T : Facts K mg) : FnOk P w K mg base CX0 2 T.f_is_short T.fd_is_short ["value"] spShort := by
  have G_is_whole : FnOk P w K mg base CX0 1 T.f_is_whole T.fd_is_whole ["value"] spWhole := ok_is_whole T
  refine T.F_is_short.ok sc_is_short (fun vs H Q E h => ?_) (fun cdv A outer s H vs Q E hr h => ?_)
  · obtain ⟨i, rfl, _⟩ := h
    rfl
  · obtain ⟨i, rfl, hi, q⟩ := h
    have e60 : (10 : Nat) ^ 60 = 1000000000000000000000000000000000000000000000000000000000000 := by decide
    unfold Sho at hi
    rw [e60] at hi
    refine ⟨_, (PSs.nox (pss_one (ps_ret (pe_and (pe_call G_is_whole hr (by rfl) T.g_is_whole T.F_is_whole.kp T.b_is_whole .nil pass0 (pa_cons (pv 0) pa_nil)) (pe_one (pe_chain op_lt op_lt (pe_un un_neg (pe_glob (v := .int 1000000000000000000000000000000000000000000000000000000000000) (by rfl) T.c_GREATEST.choose_spec ⟨_, rfl⟩)) (pv 0) (pe_glob (v := .int 1000000000000000000000000000000000000000000000000000000000000) (by rfl) T.c_GREATEST.choose_spec ⟨_, rfl⟩))))))), ?_⟩
    refine ⟨_, rfl, i, rfl, true, rfl, iteT ⟨_, rfl, _, rfl, _, i, rfl, rfl, true, ?_, iteT ⟨i, _, rfl, rfl, ?_⟩⟩⟩
    · show V.bl (decide (-1000000000000000000000000000000000000000000000000000000000000 < i)) = V.bl true
      rw [decide_eq_true (by omega)]
    · show Q (V.bl (decide (i < 1000000000000000000000000000000000000000000000000000000000000))) H
      rw [decide_eq_true (by omega)]
      exact q
/-- a tuple of ints -/
abbrev tp (ns : List Int) : HO := .tup (ns.map V.int)
def spAreShort : Sp := fun vs H Q _ => ∃ (t : Addr) (ns : List Int), vs = [.ref t] ∧ H t = some (tp ns) ∧ ns.length ≤ 1000 ∧ (∀ x ∈ ns, Sho x) ∧ ∀ H', Same H H' → Q (.bl true) H'
theorem ok_are_short (T : Facts K mg) : FnOk P w K mg base CX0 3 T.f_are_short T.fd_are_short ["value"] spAreShort := by
  have G_is_short : FnOk P w K mg base CX0 2 T.f_is_short T.fd_is_short ["value"] spShort := ok_is_short T
  refine T.F_are_short.ok sc_are_short (fun vs H Q E h => ?_) (fun cdv A outer s H vs Q E hr h => ?_)
  · obtain ⟨t, ns, rfl, _⟩ := h
    rfl
  · obtain ⟨t, ns, rfl, ht, hl, hs, q⟩ := h
    refine ⟨_, (PSs.nox (pss_one (ps_ret (pe_and (pe_callB call_isi (by rfl) T.z_isinstance (by decide +kernel) (pa_cons (pv 0) (pa_cons (pe_bltn (v := .ty "tuple") (by rfl) T.z_tuple (by decide +kernel) rfl) pa_nil))) (pe_one (pe_callB (cr_all (by rfl)) (by rfl) T.z_all (by decide +kernel) (pa_cons (pe_lc (own := [("entry", 1)]) (g := (gName 1)) (tt := tYes) (by rfl) sc_are_short.nd (pi_tup (pv 0)) (blkOk_by (N := N_are_short) (sc := defScope s_are_short) (by decide +kernel)) (fun _ _ _ _ _ => (pg_name (i := 1) sc_are_short.nd rfl (.inl rfl))) (fun _ _ _ _ _ => pts_nil) (fun _ _ _ _ _ => (pe_call G_is_short hr (by rfl) T.g_is_short T.F_is_short.kp T.b_is_short .nil pass0 (pa_cons (pv 1) pa_nil)))) pa_nil))))))), ?_⟩
    refine ⟨_, rfl, .ref t, .ty "tuple", .type "tuple", .type "tuple", true, rfl, .ty "tuple", .base (.tup ht), kit_ty (show kitB "tuple" "tuple" = some true by decide +kernel), true, rfl, iteT ?_⟩
    refine ⟨_, rfl, t, rfl, ⟨_, SqT.of ht⟩, fun D hD => lc_tup (xs := ns.map V.int) (fun i H' => H' = upd H D (.lst (List.replicate i (V.bl true)))) rfl (fun i H' hi hP => ?_) (fun i x H' hi hP => ?_) (fun H' hP => ?_)⟩
    · rw [hP]
      exact SqT.of (same_upd0 hD _ _ ht)
    · subst hP
      rw [List.getElem?_map] at hi
      obtain ⟨y, hy, rfl⟩ := Option.map_eq_some_iff.mp hi
      have hlt : i < ns.length := (List.getElem?_eq_some_iff.mp hy).1
      refine ⟨rfl, ⟨_, rfl, y, rfl, hs y (List.mem_of_getElem? hy), _, upd_same, ?_, ?_⟩⟩
      · rw [List.length_replicate]
        exact small1000 (by omega)
      · rw [upd_upd, List.replicate_succ']
    · subst hP
      rw [List.length_map]
      refine ⟨D, List.replicate ns.length true, rfl, SqL.of (by rw [upd_same, List.map_replicate]), ?_⟩
      have e : (List.replicate ns.length true).all id = true := by
        rw [List.all_eq_true]
        intro x hx
        rw [(List.mem_replicate.mp hx).2]
        rfl
      rw [e]
      exact q _ (same_upd0 hD)
def spAreEntries : Sp := fun vs H Q _ => ∃ (t : Addr) (ns : List Int), vs = [.ref t] ∧ H t = some (tp ns) ∧ 1 ≤ ns.length ∧ ns.length ≤ 41 ∧ (∀ x ∈ ns, Sho x) ∧ ∀ H', Same H H' → Q (.bl true) H'
theorem ok_are_entries (T : Facts K mg) : FnOk P w K mg base CX0 4 T.f_are_entries T.fd_are_entries ["value"] spAreEntries := by
  have G_are_short : FnOk P w K mg base CX0 3 T.f_are_short T.fd_are_short ["value"] spAreShort := ok_are_short T
  refine T.F_are_entries.ok sc_are_entries (fun vs H Q E h => ?_) (fun cdv A outer s H vs Q E hr h => ?_)
  · obtain ⟨t, ns, rfl, _⟩ := h
    rfl
  · obtain ⟨t, ns, rfl, ht, h1, h41, hs, q⟩ := h
    refine ⟨_, (PSs.nox (pss_one (ps_ret (pe_and (pe_call G_are_short hr (by rfl) T.g_are_short T.F_are_short.kp T.b_are_short .nil pass0 (pa_cons (pv 0) pa_nil)) (pe_one (pe_chain op_le op_le pe_int (pe_callB call_len_seq (by rfl) T.z_len (by decide +kernel) (pa_cons (pv 0) pa_nil)) (pe_op op_add (pe_glob (v := .int 40) (by rfl) T.c_MAX_DEGREE.choose_spec ⟨_, rfl⟩) pe_int))))))), ?_⟩
    refine ⟨_, rfl, t, ns, rfl, ht, by omega, hs, fun H1 s1 => ⟨true, rfl, iteT ?_⟩⟩
    have ht1 := s1 _ _ ht
    refine ⟨_, rfl, t, _, rfl, .inr (SqT.of ht1), 1, _, rfl, rfl, true, ?_, iteT ⟨_, _, rfl, rfl, _, _, rfl, rfl, ?_⟩⟩
    · rw [List.length_map]
      show V.bl (decide ((1 : Int) ≤ (ns.length : Int))) = V.bl true
      rw [decide_eq_true (by omega)]
    · rw [List.length_map]
      show Q (V.bl (decide ((ns.length : Int) ≤ 40 + 1))) H1
      rw [decide_eq_true (by omega)]
      exact q H1 s1
/-! ### making a form -/
/-- a form with these entries -/
def Fo (C : Addr) (H : Hp) (a : Addr) (ns : List Int) : Prop := ∃ dx t, H a = some (SlO a C dx [some (.ref t)]) ∧ H dx = some (.xd []) ∧ H t = some (tp ns)
theorem Fo.same {C a : Addr} {H H' : Hp} {ns : List Int} (h : Fo C H a ns) (s : Same H H') : Fo C H' a ns := by
  obtain ⟨dx, t, h1, h2, h3⟩ := h
  exact ⟨dx, t, s _ _ h1, s _ _ h2, s _ _ h3⟩
theorem Fo.slt {C a : Addr} {H : Hp} {ns : List Int} (h : Fo C H a ns) : ∃ dx t, Slt H a C dx [some (.ref t)] ∧ H t = some (tp ns) := by
  obtain ⟨dx, t, h1, h2, h3⟩ := h
  exact ⟨dx, t, .inr ⟨h1, h2⟩, h3⟩
/-- Form(entries) -/
def spForm (CT CF : Addr) : Sp := fun vs H Q _ => ∃ (x dx y t : Addr), vs = [.ref x, .ref y] ∧ Slt H x CF dx [] ∧ ((∃ dy, Slt H y CT dy [some (.ref t)]) ∨ ∃ ns, y = t ∧ H t = some (tp ns) ∧ 1 ≤ ns.length ∧ ns.length ≤ 41 ∧ ∀ z ∈ ns, Sho z) ∧ ∀ H', Same H H' → Q .non (slH H' x CF dx [some (.ref t)])
theorem Slt.same {C a dx : Addr} {vs : List (Option V)} {H H' : Hp} (h : Slt H a C dx vs) (s : Same H H') : Slt H' a C dx vs := by
  rcases h with ⟨h1, h2⟩ | ⟨h1, h2⟩
  · exact .inl ⟨s _ _ h1, h2⟩
  · exact .inr ⟨s _ _ h1, s _ _ h2⟩
theorem ok_Form_init (T : Facts K mg) : FnOk P w K mg base CX0 5 T.f_Form_init T.fd_Form_init ["self", "entries"] (spForm T.C_Told T.C_Form) := by
  have G_are_entries : FnOk P w K mg base CX0 4 T.f_are_entries T.fd_are_entries ["value"] spAreEntries := ok_are_entries T
  refine T.F_Form_init.ok sc_Form_init (fun vs H Q E h => ?_) (fun cdv A outer s H vs Q E hr h => ?_)
  · obtain ⟨x, dx, y, t, rfl, _⟩ := h
    rfl
  · obtain ⟨x, dx, y, t, rfl, hx, hy, q⟩ := h
    refine ⟨_, (PSs.nox (pss_cons (ps_if (pw_and (pt_not (pt_val (pe_callB (call_isiF T.C_Told) (by rfl) T.z_isinstance (by decide +kernel) (pa_cons (pv 1) (pa_cons (pe_glob (v := .ref T.C_Told) (by rfl) T.g_Told rfl) pa_nil))))) (pw_and1 (pt_not (pt_val (pe_call G_are_entries hr (by rfl) T.g_are_entries T.F_are_entries.kp T.b_are_entries .nil pass0 (pa_cons (pv 1) pa_nil)))))).pt
      (pss_one ps_never)
      pss_nil)
    (pss_one (ps_sl (pv 0) (pe_ifExp (pt_val (pe_callB (call_isiF T.C_Told) (by rfl) T.z_isinstance (by decide +kernel) (pa_cons (pv 1) (pa_cons (pe_glob (v := .ref T.C_Told) (by rfl) T.g_Told rfl) pa_nil)))) (pe_sl (pv 1)) (pv 1)))))), ?_⟩
    rcases hy with ⟨dy, hy⟩ | ⟨ns, rfl, ht, h1, h41, hs⟩
    · refine ⟨_, rfl, .inr ⟨y, T.C_Told, dy, _, .ref T.C_Told, true, rfl, rfl, fun w r => r, hy, T.oc_Told.scl, T.oc_Told.sis, T.oc_Told.kself, true, rfl, iteF ?_⟩⟩
      refine ⟨_, rfl, .inr ⟨y, T.C_Told, dy, _, .ref T.C_Told, true, rfl, rfl, fun w r => r, hy, T.oc_Told.scl, T.oc_Told.sis, T.oc_Told.kself, true, rfl, iteT ?_⟩⟩
      refine ⟨_, rfl, y, T.C_Told, dy, T.a_own_row, _, 0, .ref t, rfl, hy, T.oc_Told.scl, T.sl_own_row, rfl, ?_⟩
      exact ⟨_, rfl, x, T.C_Form, dx, T.a_own_entries, [], 0, rfl, hx, T.oc_Form.scl, T.sl_own_entries, q H (Same.rf H)⟩
    · refine ⟨_, rfl, .inl ⟨.ref y, .ref T.C_Told, .type "tuple", .ref T.C_Told, false, rfl, .own _, .base (.tup ht), T.oc_Told.ktup, false, rfl, iteT ?_⟩⟩
      refine ⟨_, rfl, y, ns, rfl, ht, h1, h41, hs, fun H1 s1 => ⟨true, rfl, iteF ?_⟩⟩
      refine ⟨_, rfl, .inl ⟨.ref y, .ref T.C_Told, .type "tuple", .ref T.C_Told, false, rfl, .own _, .base (.tup (s1 _ _ ht)), T.oc_Told.ktup, false, rfl, iteF ?_⟩⟩
      exact ⟨_, rfl, _, rfl, x, T.C_Form, dx, T.a_own_entries, [], 0, rfl, Slt.same hx s1, T.oc_Form.scl, T.sl_own_entries, q H1 s1⟩
/-- what making leaves -/
theorem made {C x dx : Addr} {v : V} {H' H0 : Hp} (hx : H0 x = none) (hdx : H0 dx = none) (hne : dx ≠ x) (s : Same (upd (upd H0 dx (.own x)) x (.ins C dx [])) H') : Same H0 (slH H' x C dx [some v]) := fun b o e => by
  have h1 : b ≠ x := ne_of_none e hx
  have h2 : b ≠ dx := ne_of_none e hdx
  rw [slH_ne h1 h2]
  exact s _ _ (by rw [upd_ne h1, upd_ne h2]; exact e)
end
end K59

set_option Elab.async false
set_option linter.all false
set_option maxRecDepth 100000
set_option maxHeartbeats 4000000
namespace K59
open PySem PySem.Spec PyProof.Rows L2 MyR SlX OwnR OwnF
theorem cv_snoc (x : Int) (g : Nat → Int) : ∀ (l : List Int) (k : Nat), cv (l ++ [x]) g k = cv l g k + (if l.length ≤ k then x * g (k - l.length) else 0)
  | [], k => by
    show cv (x :: []) g k = 0 + (if 0 ≤ k then x * g (k - 0) else 0)
    rw [if_pos (Nat.zero_le k), Nat.sub_zero]
    cases k with
    | zero => rw [cv_zero]; omega
    | succ k => rw [cv_succ]; show x * g (k + 1) + 0 = 0 + x * g (k + 1); omega
  | y :: ys, 0 => by
    show cv (y :: (ys ++ [x])) g 0 = cv (y :: ys) g 0 + (if ys.length + 1 ≤ 0 then _ else 0)
    rw [cv_zero, cv_zero, if_neg (by omega)]
    omega
  | y :: ys, k + 1 => by
    show cv (y :: (ys ++ [x])) g (k + 1) = cv (y :: ys) g (k + 1) + (if ys.length + 1 ≤ k + 1 then x * g (k + 1 - (ys.length + 1)) else 0)
    rw [cv_succ, cv_succ, cv_snoc x g ys k, Nat.add_sub_add_right]
    by_cases h : ys.length ≤ k
    · rw [if_pos h, if_pos (by omega)]; omega
    · rw [if_neg h, if_neg (by omega)]; omega
/-- the entries so far: i rows, and j places of the next one -/
def J (xs : List Int) (g : Nat → Int) (i j k : Nat) : Int := cv (xs.take i) g k + (if i ≤ k ∧ k < i + j then co xs i * g (k - i) else 0)
theorem J_0 {xs : List Int} {g : Nat → Int} {i k : Nat} : J xs g i 0 k = cv (xs.take i) g k := by
  unfold J
  rw [if_neg (by omega)]
  omega
theorem J_step {xs : List Int} {g : Nat → Int} {i j k : Nat} : (if k = i + j then J xs g i j (i + j) + co xs i * g j else J xs g i j k) = J xs g i (j + 1) k := by
  unfold J
  by_cases h : k = i + j
  · subst h
    rw [if_pos rfl, if_neg (by omega), if_pos (by omega), Nat.add_sub_cancel_left]
    omega
  · rw [if_neg h]
    by_cases c : i ≤ k ∧ k < i + j
    · rw [if_pos c, if_pos (by omega)]
    · rw [if_neg c, if_neg (by omega)]
theorem J_end {xs ys : List Int} {i k : Nat} (hi : i < xs.length) : J xs (co ys) i ys.length k = cv (xs.take (i + 1)) (co ys) k := by
  unfold J
  have e : xs.take (i + 1) = xs.take i ++ [xs[i]] := by rw [List.take_add_one, List.getElem?_eq_getElem hi]; rfl
  have hl : (xs.take i).length = i := by rw [List.length_take]; omega
  rw [e, cv_snoc, hl, co_get hi]
  congr 1
  by_cases c : i ≤ k
  · by_cases d : k < i + ys.length
    · rw [if_pos ⟨c, d⟩, if_pos c]
    · rw [if_neg (by omega), if_pos c, co_far (by omega), Int.mul_zero]
  · rw [if_neg (by omega), if_neg c]
def tab (L : Nat) (f : Nat → Int) : List V := (List.range L).map fun k => V.int (f k)
theorem tab_tb (L : Nat) (f : Nat → Int) : tab L f = (tb L f).map V.int := by
  unfold tab tb
  rw [List.map_map]
  rfl
theorem tab_len (L : Nat) (f : Nat → Int) : (tab L f).length = L := by
  unfold tab
  rw [List.length_map, List.length_range]
theorem tab_get {L : Nat} {f : Nat → Int} {k : Nat} (h : k < L) : (tab L f)[k]? = some (.int (f k)) := by
  unfold tab
  rw [List.getElem?_map, List.getElem?_range h]
  rfl
theorem tab_ext {L : Nat} {f g : Nat → Int} (h : ∀ k, k < L → f k = g k) : tab L f = tab L g := by
  unfold tab
  exact List.map_congr_left fun k hk => by rw [h k (List.mem_range.mp hk)]
theorem tab_none {L : Nat} {f : Nat → Int} {k : Nat} (h : L ≤ k) : (tab L f)[k]? = none := List.getElem?_eq_none (by rw [tab_len]; exact h)
theorem tab_set {L : Nat} {f : Nat → Int} {j : Nat} {v : Int} : (tab L f).set j (.int v) = tab L (fun k => if k = j then v else f k) := by
  apply List.ext_getElem?
  intro k
  by_cases hk : k < L
  · rw [tab_get hk]
    by_cases e : k = j
    · subst e
      rw [List.getElem?_set_self (by rw [tab_len]; exact hk), if_pos rfl]
    · rw [List.getElem?_set_ne (Ne.symm e), tab_get hk, if_neg e]
  · rw [tab_none (Nat.le_of_not_lt hk), List.getElem?_eq_none (by rw [List.length_set, tab_len]; exact Nat.le_of_not_lt hk)]
theorem tab_rep (n : Nat) : List.replicate n (V.int 0) = tab n fun _ => 0 := by
  unfold tab
  rw [List.map_const', List.length_range]
theorem ix_at {n : Nat} {z : Int} {j : Nat} (e : z = (j : Int)) (h : j < n) : ixN n z = some j := by
  rw [e]
  exact Evl.ixN_nat h
theorem at_of {xs : List V} {z : Int} {j : Nat} {v : V} (e : z = (j : Int)) (h : xs[j]? = some v) : atI xs z = some v := by
  rw [e]
  exact atI_nat h
/-- ints of less than 400 bits -/
def sm (x : Int) : Prop := x.natAbs < 2 ^ 4000
theorem sm_mul {x y : Int} (hx : sm x) (hy : sm y) : CMulW x y := wide_mul hx hy (by decide) (by decide) (by decide)
theorem get_int {xs : List Int} {i : Nat} (h : i < xs.length) : (xs.map V.int)[i]? = some (.int (co xs i)) := by
  rw [List.getElem?_map, List.getElem?_eq_getElem h, co_get h]
  rfl
theorem sm_co {xs : List Int} {i : Nat} (h : ∀ x ∈ xs, sm x) (hi : i < xs.length) : sm (co xs i) := by
  rw [co_get hi]
  exact h _ (List.getElem_mem hi)
section
variable {P : Program} {w : World} {K : PySem.W.Frag} {mg : Str → Option Value} {base : Heap}
def spJoin (K : PySem.W.Frag) : Sp := fun vs H Q _ => ∃ (a b : Addr) (xs ys : List Int), vs = [.ref a, .ref b] ∧ H a = some (tp xs) ∧ H b = some (tp ys) ∧ xs ≠ [] ∧ ys ≠ [] ∧ xs.length ≤ 100 ∧ ys.length ≤ 100 ∧ (∀ x ∈ xs, sm x) ∧ (∀ x ∈ ys, sm x) ∧ ∀ p H', Same H H' → H p = none → H' p = some (tp (ml xs ys)) → Q (.ref p) H'
theorem ok_joined_entries (T : Facts K mg) : FnOk P w K mg base CX0 1 T.f_joined_entries T.fd_joined_entries ["one", "other"] (spJoin K) := by
  refine T.F_joined_entries.ok sc_joined_entries (fun vs H Q E h => ?_) (fun cdv A outer s H vs Q E hr h => ?_)
  · obtain ⟨a, b, xs, ys, rfl, _⟩ := h
    rfl
  · obtain ⟨a, b, xs, ys, rfl, ha, hb, nx, ny, lx, ly, hx, hy, q⟩ := h
    have px : 0 < xs.length := List.length_pos_iff.mpr nx
    have py : 0 < ys.length := List.length_pos_iff.mpr ny
    refine ⟨_, (PSs.nox (pss_cons (ps_setLc (i := 2) (own := [("place", 3)]) (g := (gName 3)) (tt := tYes) rfl sc_joined_entries.nd rfl rfl (sw_true rfl rfl rfl (by decide +kernel)) (pi_range1 (by rfl) T.z_range (pa_cons (pe_op op_sub (pe_op op_add (pe_callB call_len_seq (by rfl) T.z_len (by decide +kernel) (pa_cons (pv 0) pa_nil)) (pe_callB call_len_seq (by rfl) T.z_len (by decide +kernel) (pa_cons (pv 1) pa_nil))) pe_int) pa_nil)) (blkOk_by (N := N_joined_entries) (sc := defScope s_joined_entries) (by decide +kernel)) (fun _ _ _ _ _ => (pg_name (i := 3) sc_joined_entries.nd rfl (.inl rfl))) (fun _ _ _ _ _ => pts_nil) (fun _ _ _ _ _ => pe_int))
    (pss_cons (ps_for PassesOwn.never (by rfl) (pi_range1 (by rfl) T.z_range (pa_cons (pe_callB call_len_seq (by rfl) T.z_len (by decide +kernel) (pa_cons (pv 0) pa_nil)) pa_nil)) (pg_name (i := 4) sc_joined_entries.nd rfl (.inl rfl))
      (pss_one (ps_for PassesOwn.never (by rfl) (pi_range1 (by rfl) T.z_range (pa_cons (pe_callB call_len_seq (by rfl) T.z_len (by decide +kernel) (pa_cons (pv 1) pa_nil)) pa_nil)) (pg_name (i := 3) sc_joined_entries.nd rfl (.inl rfl))
        (pss_one (ps_asg (pe_op op_add (pe_ix ix_list (pv 2) (pe_op op_add (pv 4) (pv 3)) (fun _ _ => rfl)) (pe_op op_mulW (pe_ix ix_tup (pv 0) (pv 4) (fun _ _ => rfl)) (pe_ix ix_tup (pv 1) (pv 3) (fun _ _ => rfl)))) (pg_sub (pv 2) (pe_op op_add (pv 4) (pv 3)) set_list))))))
    (pss_one (ps_ret (pe_tupleOf (by rfl) T.z_tuple (pv 2))))))), ?_⟩
    refine ⟨_, rfl, a, _, rfl, .inr (SqT.of ha), _, rfl, b, _, rfl, .inr (SqT.of hb), ?_⟩
    rw [List.length_map, List.length_map]
    obtain ⟨N, hN⟩ : ∃ N, N = xs.length + ys.length - 1 := ⟨_, rfl⟩
    have eN : (((xs.length : Int) + (ys.length : Int) - 1)).toNat = N := by omega
    refine ⟨_, _, rfl, rfl, _, _, rfl, rfl, _, rfl, (by show -(2 ^ 62) ≤ (xs.length : Int) + (ys.length : Int) - 1; omega), (by show (xs.length : Int) + (ys.length : Int) - 1 < 2 ^ 62; omega), fun D hD => lc_range (n := _) (fun j H' => H' = upd H D (.lst (List.replicate j (V.int 0)))) rfl (fun j H' hj hP => ?_) (fun H' hP => ?_)⟩
    · subst hP
      have hj2 : j < N := by rw [← eN]; exact hj
      refine ⟨rfl, ⟨_, upd_same, ?_, ?_⟩⟩
      · rw [List.length_replicate]
        exact small1000 (by omega)
      · rw [upd_upd, List.replicate_succ']
    · subst hP
      show _
      rw [show List.replicate (((xs.length : Int) + (ys.length : Int) - 1)).toNat (V.int 0) = tab N (fun k => cv (xs.take 0) (co ys) k) by rw [eN, tab_rep]; rfl]
      have sD : ∀ o, Same H (upd H D o) := fun o => same_upd0 hD
      refine ⟨_, rfl, a, _, rfl, .inr (SqT.of (sD _ _ _ ha)), ?_⟩
      rw [List.length_map]
      refine ⟨xs.length, rfl, by omega, by omega, for_range (n := (xs.length : Int).toNat) (fun i σ H' => ∃ y3 y4, σ = [some (.ref a), some (.ref b), some (.ref D), y3, y4] ∧ H' = upd H D (.lst (tab N fun k => cv (xs.take i) (co ys) k))) ⟨none, none, rfl, rfl⟩ (fun i σ H' hi hP => ?_) (fun σ H' hP => ?_)⟩
      · obtain ⟨y3, y4, rfl, rfl⟩ := hP
        have hi2 : i < xs.length := by omega
        refine ⟨_, rfl, b, _, rfl, .inr (SqT.of (sD _ _ _ hb)), ?_⟩
        rw [List.length_map, tab_ext (g := J xs (co ys) i 0) fun k hk => J_0.symm]
        refine ⟨ys.length, rfl, by omega, by omega, for_range (n := (ys.length : Int).toNat) (fun j σ H' => ∃ y3, σ = [some (.ref a), some (.ref b), some (.ref D), y3, some (.int (0 + (i : Int)))] ∧ H' = upd H D (.lst (tab N (J xs (co ys) i j)))) ⟨y3, rfl, rfl⟩ (fun j σ H' hj hP => ?_) (fun σ H' hP => ?_)⟩
        · obtain ⟨y3, rfl, rfl⟩ := hP
          have hj2 : j < ys.length := by omega
          have e1 : (0 : Int) + (i : Int) + (0 + (j : Int)) = ((i + j : Nat) : Int) := by omega
          have e2 : (0 : Int) + (i : Int) = ((i : Nat) : Int) := by omega
          have e3 : (0 : Int) + (j : Int) = ((j : Nat) : Int) := by omega
          refine ⟨_, rfl, _, rfl, _, rfl, _, _, rfl, rfl, D, _, _, _, rfl, rfl, SqL.of upd_same, at_of e1 (tab_get (by omega)), _, rfl, _, rfl, a, _, _, _, rfl, rfl, SqT.of (sD _ _ _ ha), at_of e2 (get_int hi2), _, rfl, _, rfl, b, _, _, _, rfl, rfl, SqT.of (sD _ _ _ hb), at_of e3 (get_int hj2), _, _, rfl, rfl, sm_mul (sm_co hx hi2) (sm_co hy hj2), _, _, rfl, rfl, ?_⟩
          refine ⟨_, rfl, _, rfl, _, rfl, _, _, rfl, rfl, D, _, _, (i + j), rfl, rfl, upd_same, ?_, ?_⟩
          · rw [tab_len]
            exact ix_at e1 (by omega)
          · refine ⟨_, rfl, ?_⟩
            rw [upd_upd]
            show upd H D (.lst ((tab N (J xs (co ys) i j)).set (i + j) (.int (J xs (co ys) i j (i + j) + co xs i * co ys j)))) = _
            rw [tab_set, tab_ext fun k hk => J_step]
        · obtain ⟨y3, rfl, rfl⟩ := hP
          refine ⟨_, _, rfl, ?_⟩
          rw [Int.toNat_natCast, tab_ext fun k hk => J_end hi2]
      · obtain ⟨y3, y4, rfl, rfl⟩ := hP
        rw [Int.toNat_natCast, List.take_length, tab_tb]
        refine ⟨_, rfl, ?_⟩
        refine .inl ⟨D, _, rfl, SqL.of upd_same, fun p hp => ?_⟩
        refine q p _ ((sD _).trans (same_upd0 hp)) (Same.free (sD _) hp) ?_
        rw [upd_same, hN]
        rfl
end
end K59

set_option Elab.async false
set_option linter.all false
set_option maxRecDepth 100000
set_option maxHeartbeats 4000000
namespace K59
open PySem PySem.Spec PyProof.Rows L2 StX RZ MyR SlX OwnR OwnF
/-- a comprehension over zip of two tuples of one length -/
theorem lc_zipT {K : PySem.W.Frag} {a b : Addr} {xs ys : List V} {g : TG} {tt : TT} {te : TE} {vs : List Nat} {σ : L2.St} {H1 : Hp} {D : Addr} {Qd : Hp → Prop} (hl : xs.length = ys.length) (Pv : Nat → Hp → Prop) (h0 : Pv 0 (upd H1 D (.lst []))) (hq : ∀ i H, i ≤ xs.length → Pv i H → SqT K H a xs ∧ SqT K H b ys)
    (hs : ∀ (i : Nat) (x y : V) (T : Addr) (H : Hp), xs[i]? = some x → ys[i]? = some y → Pv i H → H T = none → g (.ref T) (wipe σ vs) (upd H T (.tup [x, y])) fun σ2 H2 => wipe σ2 vs = wipe σ vs ∧ tt σ2 H2 fun b H3 =>
      if b = true then te σ2 H3 fun y H4 => ∃ acc, H4 D = some (.lst acc) ∧ acc.length < sizeLine ∧ Pv (i + 1) (upd H4 D (.lst (acc ++ [y]))) else Pv (i + 1) H3) (hd : ∀ H, Pv xs.length H → Qd H) :
    ∃ W : Nat → Nat → Hp → Prop, (∃ m, W 0 m (upd H1 D (.lst []))) ∧ ∀ i m H, W i m H →
      ((ItzT K a b).stop i H ∧ Qd H) ∨ ((ItzT K a b).go i H ∧ ∃ Nx : Hp → Prop, (∀ H', Nx H' → ∃ m', m' < m ∧ W (i + 1) m' H') ∧ ∀ x H', (ItzT K a b).yld i H x H' → g x (wipe σ vs) H' fun σ2 H2 => wipe σ2 vs = wipe σ vs ∧ tt σ2 H2 fun b H3 =>
        if b = true then te σ2 H3 fun y H4 => ∃ acc, H4 D = some (.lst acc) ∧ acc.length < sizeLine ∧ Nx (upd H4 D (.lst (acc ++ [y]))) else Nx H3) := by
  refine ⟨fun i m H => m = xs.length - i ∧ i ≤ xs.length ∧ Pv i H, ⟨xs.length, by simp, Nat.zero_le _, h0⟩, ?_⟩
  rintro i m H ⟨rfl, hi, p⟩
  obtain ⟨qx, qy⟩ := hq i H hi p
  by_cases hlt : i < xs.length
  · have hlt2 : i < ys.length := by omega
    have hx : xs[i]? = some xs[i] := List.getElem?_eq_getElem hlt
    have hy : ys[i]? = some ys[i] := List.getElem?_eq_getElem hlt2
    refine .inr ⟨⟨xs, ys, _, _, qx, qy, hx, hy⟩, Pv (i + 1), fun H' p' => ⟨xs.length - (i + 1), by omega, rfl, hlt, p'⟩, fun v H' y => ?_⟩
    obtain ⟨T, x', y', rfl, hT, rfl, f1, f2⟩ := y
    exact hs i x' y' T H (f1 xs qx) (f2 ys qy) p hT
  · have e : i = xs.length := by omega
    subst e
    exact .inl ⟨⟨xs, ys, qx, qy, Or.inl (Nat.le_refl _)⟩, hd H p⟩
/-- the sign of the first entry that is not 0 -/
def sg : List Int → Int
  | [] => 1
  | x :: xs => if x = 0 then sg xs else if 0 < x then 1 else -1
theorem sg_cases : ∀ l : List Int, sg l = 1 ∨ sg l = -1
  | [] => .inl rfl
  | x :: xs => by
    unfold sg
    split
    · exact sg_cases xs
    · split
      · exact .inl rfl
      · exact .inr rfl
def part (l : List Int) : Int := (cont l : Int) * sg l
theorem part_abs (l : List Int) : (part l).natAbs = cont l := by
  unfold part
  rw [Int.natAbs_mul]
  rcases sg_cases l with e | e <;> rw [e] <;> simp
theorem sm_cont {l : List Int} (h : ∀ x ∈ l, sm x) : cont l < 2 ^ 4000 := by
  by_cases c : ∃ x ∈ l, x ≠ 0
  · obtain ⟨x, hx, h0⟩ := c
    have h1 := Int.natAbs_dvd_natAbs.mpr (cont_dvd l x hx)
    have h2 := Nat.le_of_dvd (Int.natAbs_pos.mpr h0) h1
    exact Nat.lt_of_le_of_lt h2 (h x hx)
  · have hz : ∀ l : List Int, (∀ x ∈ l, x = 0) → cont l = 0 := by
      intro l
      induction l with
      | nil => intro _; rfl
      | cons y ys ih =>
        intro hl
        show Nat.gcd y.natAbs (cont ys) = 0
        rw [ih fun x hx => hl x (List.mem_cons_of_mem _ hx), hl y List.mem_cons_self]
        rfl
    rw [hz l fun x hx => Classical.byContradiction fun q => c ⟨x, hx, q⟩]
    decide
theorem sm_part {l : List Int} (h : ∀ x ∈ l, sm x) : sm (part l) := by
  show (part l).natAbs < _
  rw [part_abs]
  exact sm_cont h
/-- divided by its content, the first entry that is not 0 above 0 -/
def prim (l : List Int) : List Int := if part l = 0 then l else l.map fun x => x.fdiv (part l)
theorem tb_map (f : Int → Int) (l : List Int) : (tb l.length fun k => f (co l k)) = l.map f := by
  conv => rhs; rw [← tb_co l]
  unfold tb
  rw [List.map_map]
  rfl
section
variable {P : Program} {w : World} {K : PySem.W.Frag} {mg : Str → Option Value} {base : Heap}
def spZero : Sp := fun vs H Q _ => ∃ (t : Addr) (ns : List Int), vs = [.ref t] ∧ H t = some (tp ns) ∧ Q (.bl (!ns.any (· != 0))) H
theorem ok_is_zero_in (T : Facts K mg) : FnOk P w K mg base CX0 1 T.f_is_zero_in T.fd_is_zero_in ["entries"] spZero := by
  refine T.F_is_zero_in.ok sc_is_zero_in (fun vs H Q E h => ?_) (fun cdv A outer s H vs Q E hr h => ?_)
  · obtain ⟨t, ns, rfl, _⟩ := h
    rfl
  · obtain ⟨t, ns, rfl, ht, q⟩ := h
    refine ⟨_, (PSs.nox (pss_one (ps_ret (pe_not (pe_callB (cr_anyTI (by rfl)) (by rfl) T.z_any (by decide +kernel) (pa_cons (pv 0) pa_nil)))))), ?_⟩
    exact ⟨_, rfl, t, ns, rfl, SqT.of ht, _, rfl, q⟩
def spPrim : Sp := fun vs H Q _ => ∃ (t : Addr) (ns : List Int), vs = [.ref t] ∧ H t = some (tp ns) ∧ ns.length ≤ 1000 ∧ (∀ x ∈ ns, sm x) ∧ ∀ p H', Same H H' → H' p = some (tp (prim ns)) → Q (.ref p) H'
/-- the sum of one row and a multiple of the other -/
def zs (c : Int) (xs ys : List Int) : List Int := List.zipWith (fun x y => x + c * y) xs ys
end
end K59

set_option Elab.async false
set_option linter.all false
set_option maxRecDepth 100000
set_option maxHeartbeats 4000000
namespace K59
open PySem PySem.Spec PyProof.Rows L2 StX RZ MyR SlX OwnR OwnF
/-! ### == of tuples of ints -/
theorem dpAll_ints {K : PySem.W.Frag} {H : Hp} : ∀ ns : List Int, DpAll K H (ns.map V.int) (ns.map PyData.int)
  | [] => .nil
  | n :: r => .cons (.int n) (dpAll_ints r)
theorem lay_ints : ∀ ns : List Int, PyData.canLayAll0 (ns.map PyData.int) = true
  | [] => rfl
  | n :: r => by
    show (PyData.canLay0 (.int n) && PyData.canLayAll0 (r.map PyData.int)) = true
    rw [lay_ints r]
    rfl
theorem depth_ints : ∀ ns : List Int, PyData.depthAll (ns.map PyData.int) = 0
  | [] => rfl
  | n :: r => by
    show max (PyData.depth (.int n)) (PyData.depthAll (r.map PyData.int)) = 0
    rw [depth_ints r]
    rfl
theorem shaped_tints (ns : List Int) : SeqAt.shaped (.tuple (ns.map PyData.int)) = true := by
  unfold SeqAt.shaped
  rw [show PyData.canLay0 (.tuple (ns.map PyData.int)) = PyData.canLayAll0 (ns.map PyData.int) from rfl, lay_ints]
  rw [show PyData.depth (.tuple (ns.map PyData.int)) = PyData.depthAll (ns.map PyData.int) + 1 from rfl, depth_ints]
  rfl
/-! ### the properties, the operators -/
section
variable {P : Program} {w : World} {K : PySem.W.Frag} {mg : Str → Option Value} {base : Heap}
def spEnt (C : Addr) : Sp := fun vs H Q _ => ∃ (a : Addr) (ns : List Int), vs = [.ref a] ∧ Fo C H a ns ∧ ∀ t, H t = some (tp ns) → Q (.ref t) H
theorem ok_Form_entries (T : Facts K mg) : FnOk P w K mg base CX0 1 T.f_Form_entries T.fd_Form_entries ["self"] (spEnt T.C_Form) := by
  refine T.F_Form_entries.ok sc_Form_entries (fun vs H Q E h => ?_) (fun cdv A outer s H vs Q E hr h => ?_)
  · obtain ⟨a, ns, rfl, _⟩ := h
    rfl
  · obtain ⟨a, ns, rfl, fa, q⟩ := h
    obtain ⟨dx, t, ha, ht⟩ := fa.slt
    refine ⟨_, (PSs.nox (pss_one (ps_ret (pe_sl (pv 0))))), ?_⟩
    exact ⟨_, rfl, a, T.C_Form, dx, T.a_own_entries, _, 0, .ref t, rfl, ha, T.oc_Form.scl, T.sl_own_entries, rfl, q t ht⟩
def spDeg (C : Addr) : Sp := fun vs H Q _ => ∃ (a : Addr) (ns : List Int), vs = [.ref a] ∧ Fo C H a ns ∧ Q (.int ((ns.length : Int) - 1)) H
theorem ok_Form_degree (T : Facts K mg) : FnOk P w K mg base CX0 1 T.f_Form_degree T.fd_Form_degree ["self"] (spDeg T.C_Form) := by
  refine T.F_Form_degree.ok sc_Form_degree (fun vs H Q E h => ?_) (fun cdv A outer s H vs Q E hr h => ?_)
  · obtain ⟨a, ns, rfl, _⟩ := h
    rfl
  · obtain ⟨a, ns, rfl, fa, q⟩ := h
    obtain ⟨dx, t, ha, ht⟩ := fa.slt
    refine ⟨_, (PSs.nox (pss_one (ps_ret (pe_op op_sub (pe_callB call_len_seq (by rfl) T.z_len (by decide +kernel) (pa_cons (pe_sl (pv 0)) pa_nil)) pe_int)))), ?_⟩
    refine ⟨_, rfl, a, T.C_Form, dx, T.a_own_entries, _, 0, .ref t, rfl, ha, T.oc_Form.scl, T.sl_own_entries, rfl, t, _, rfl, .inr (SqT.of ht), _, _, rfl, rfl, ?_⟩
    rw [List.length_map]
    exact q
def spIsZ (C : Addr) : Sp := fun vs H Q _ => ∃ (a : Addr) (ns : List Int), vs = [.ref a] ∧ Fo C H a ns ∧ Q (.bl (!ns.any (· != 0))) H
theorem ok_Form_is_zero (T : Facts K mg) : FnOk P w K mg base CX0 2 T.f_Form_is_zero T.fd_Form_is_zero ["self"] (spIsZ T.C_Form) := by
  have G_is_zero_in : FnOk P w K mg base CX0 1 T.f_is_zero_in T.fd_is_zero_in ["entries"] spZero := ok_is_zero_in T
  refine T.F_Form_is_zero.ok sc_Form_is_zero (fun vs H Q E h => ?_) (fun cdv A outer s H vs Q E hr h => ?_)
  · obtain ⟨a, ns, rfl, _⟩ := h
    rfl
  · obtain ⟨a, ns, rfl, fa, q⟩ := h
    obtain ⟨dx, t, ha, ht⟩ := fa.slt
    refine ⟨_, (PSs.nox (pss_one (ps_ret (pe_call G_is_zero_in hr (by rfl) T.g_is_zero_in T.F_is_zero_in.kp T.b_is_zero_in .nil pass0 (pa_cons (pe_sl (pv 0)) pa_nil))))), ?_⟩
    exact ⟨_, rfl, a, T.C_Form, dx, T.a_own_entries, _, 0, .ref t, rfl, ha, T.oc_Form.scl, T.sl_own_entries, rfl, t, ns, rfl, ht, q⟩
/-- what is asked of a form's row -/
structure Rw (ns : List Int) : Prop where
  ne : ns ≠ []
  len : ns.length ≤ 100
  sm : ∀ x ∈ ns, sm x
/-- isinstance(x, Form), x a form -/
theorem isi_form {X : Cx} {C b dy : Addr} {vs : List (Option V)} {H : Hp} {Q : VK} (c : OC X.K C) (hb : Slt H b C dy vs) (q : Q (.bl true) H) : rIsi X.K [.ref b, .ref C] H Q ∨ rIsiSl X.K (.ref C) [.ref b, .ref C] H Q :=
  .inr ⟨b, C, dy, vs, .ref C, true, rfl, rfl, fun w r => r, hb, c.scl, c.sis, c.kself, q⟩
end
end K59

set_option Elab.async false
set_option linter.all false
set_option maxRecDepth 100000
set_option maxHeartbeats 4000000
namespace K59
open PySem PySem.Spec PyProof.Rows L2 StX RZ MyR SlX OwnR OwnF
theorem eqvAll_ints : ∀ xs ys : List Int, PyData.eqvAll (xs.map PyData.int) (ys.map PyData.int) = decide (xs = ys)
  | [], [] => rfl
  | [], _ :: _ => rfl
  | _ :: _, [] => rfl
  | x :: xs, y :: ys => by
    show (PyData.eqv (.int x) (.int y) && PyData.eqvAll (xs.map PyData.int) (ys.map PyData.int)) = _
    rw [eqvAll_ints xs ys]
    show ((x == y) && decide (xs = ys)) = decide (x :: xs = y :: ys)
    by_cases h : x = y
    · by_cases k : xs = ys
      · subst h k
        simp
      · rw [decide_eq_false k, decide_eq_false fun z => k (List.cons.inj z).2, Bool.and_false]
    · rw [decide_eq_false fun z => h (List.cons.inj z).1, beq_eq_false_iff_ne.mpr h, Bool.false_and]
theorem eqv_ints (xs ys : List Int) : PyData.eqv (.tuple (xs.map PyData.int)) (.tuple (ys.map PyData.int)) = decide (xs = ys) := eqvAll_ints xs ys
theorem eq_ints {K : PySem.W.Frag} {H : Hp} {a b : Addr} {xs ys : List Int} {Q : VK} (ha : SqT K H a (xs.map V.int)) (hb : SqT K H b (ys.map V.int)) (q : Q (.bl (decide (xs = ys))) H) : rEqD K (.ref a) (.ref b) H Q := by
  refine ⟨_, _, .tup ha (dpAll_ints xs), .tup hb (dpAll_ints ys), shaped_tints xs, shaped_tints ys, ?_⟩
  rw [eqv_ints]
  exact q
theorem ne_ints {K : PySem.W.Frag} {H : Hp} {a b : Addr} {xs ys : List Int} {Q : VK} (ha : SqT K H a (xs.map V.int)) (hb : SqT K H b (ys.map V.int)) (q : Q (.bl (!decide (xs = ys))) H) : rNeD K (.ref a) (.ref b) H Q := by
  refine ⟨_, _, .tup ha (dpAll_ints xs), .tup hb (dpAll_ints ys), shaped_tints xs, shaped_tints ys, ?_⟩
  rw [eqv_ints]
  exact q
section
variable {P : Program} {w : World} {K : PySem.W.Frag} {mg : Str → Option Value} {base : Heap}
end
end K59

set_option Elab.async false
set_option linter.all false
set_option maxRecDepth 100000
set_option maxHeartbeats 4000000
namespace K59
open PySem PySem.Spec PyProof.Rows L2 StX RZ MyR SlX OwnR OwnF
abbrev dice (x y z : Int) : HO := .lst [.int x, .int y, .int z]
/-- all but the dice is as it was -/
def Sx (a : Addr) (H H' : Hp) : Prop := ∀ b o, b ≠ a → H b = some o → H' b = some o
def Dc (H : Hp) (a : Addr) : Prop := ∃ x y z, H a = some (dice x y z)
theorem Sx.refl (a : Addr) (H : Hp) : Sx a H H := fun _ _ _ h => h
theorem Sx.trans {a : Addr} {H H1 H2 : Hp} (s : Sx a H H1) (t : Sx a H1 H2) : Sx a H H2 := fun b o n h => t b o n (s b o n h)
theorem Sx.of {a : Addr} {H H' : Hp} (s : Same H H') : Sx a H H' := fun b o _ h => s b o h
theorem Sx.upd {a : Addr} {H : Hp} {o : HO} : Sx a H (upd H a o) := fun b u n h => by
  rw [upd_ne n]
  exact h
theorem Dc.same {a : Addr} {H H' : Hp} (d : Dc H a) (s : Same H H') : Dc H' a := by
  obtain ⟨x, y, z, e⟩ := d
  exact ⟨x, y, z, s _ _ e⟩
theorem Dc.ne {a p : Addr} {H : Hp} (d : Dc H a) (n : H p = none) : p ≠ a := fun e => by
  obtain ⟨x, y, z, h⟩ := d
  rw [e, h] at n
  cases n
theorem Sx.free {a p : Addr} {H H' : Hp} (s : Sx a H H') (n : H' p = none) (ne : p ≠ a) : H p = none := by
  cases q : H p with
  | none => rfl
  | some o =>
    rw [s p o ne q] at n
    cases n
section
variable {P : Program} {w : World} {K : PySem.W.Frag} {mg : Str → Option Value} {base : Heap}
theorem cp16 : CPow 10 16 := ⟨by decide, by decide, by decide⟩
theorem cp60 : CPow 10 60 := ⟨by decide, by decide, by decide⟩
theorem cw60 : CMulW (10 ^ Int.toNat 60) (10 ^ Int.toNat 60) := by
  unfold CMulW
  decide +kernel
theorem pos60 : (0 : Int) < 10 ^ Int.toNat 60 * 10 ^ Int.toNat 60 := by decide +kernel
theorem pos_m : (0 : Int) < 1152921504606846697 := by decide
theorem sz3 : 3 ≤ sizeLine := by decide
def spDice (K : PySem.W.Frag) : Sp := fun vs H Q _ => ∃ (a : Addr) (ns : List Int) (k : Nat), vs = [.ref a, .int k] ∧ SqL K H a (ns.map V.int) ∧ ∀ p x y z, H p = none → Q (.ref p) (upd H p (dice x y z))
theorem ok_law_dice (T : Facts K mg) : FnOk P w K mg base CX0 1 T.f_law_dice T.fd_law_dice ["_law_script", "_law_spot"] (spDice K) := by
  refine T.F_law_dice.ok sc_law_dice (fun vs H Q E h => ?_) (fun cdv A outer s H vs Q E hr h => ?_)
  · obtain ⟨a, ns, k, rfl, _⟩ := h
    rfl
  · obtain ⟨a, ns, k, rfl, hS, q⟩ := h
    refine ⟨_, (PSs.nox (pss_cons (ps_set (i := 2) sc_law_dice.nd rfl (.inl rfl) (pe_ifExp (pt_cmpR op_lt (pv 1) (pe_callB call_len_seq (by rfl) T.z_len (by decide +kernel) (pa_cons (pv 0) pa_nil)) (nomark _)) (pe_callTy call_int1 (by rfl) T.z_int (by decide +kernel) (pa_cons (pe_ix ix_list (pv 0) (pv 1) (fun _ _ => rfl)) pa_nil)) (pe_op op_add (pe_op op_mul pe_int (pv 1)) pe_int)))
    (pss_cons (ps_set (i := 3) sc_law_dice.nd rfl (.inl rfl) (pe_op op_mod (pe_callB (call_max2 (by rfl)) (by rfl) T.z_max (by decide +kernel) (pa_cons pe_int (pa_cons (pe_op op_sub (pe_callB call_abs (by rfl) T.z_abs (by decide +kernel) (pa_cons (pv 2) pa_nil)) (pe_op op_pow pe_int pe_int)) pa_nil))) (pe_op op_mulW (pe_op op_pow pe_int pe_int) (pe_op op_pow pe_int pe_int))))
    (pss_one (ps_ret (pe_lst (pa_cons (pv 3) (pa_cons (pe_op op_add (pe_op op_add (pe_op op_add (pe_op op_mul (pe_op op_mod (pe_callB call_abs (by rfl) T.z_abs (by decide +kernel) (pa_cons (pv 2) pa_nil)) pe_int) pe_int) (pe_op op_mul pe_int (pv 1))) (pe_op op_mul pe_int (pe_callTy call_int1 (by rfl) T.z_int (by decide +kernel) (pa_cons (pe_cmpR op_lt (pv 2) pe_int (nomark _)) pa_nil)))) pe_int) (pa_cons pe_int pa_nil))))))))), ?_⟩
    refine ⟨.int k, rfl, .ref a, rfl, a, ns.map V.int, rfl, .inl hS, k, _, rfl, rfl, _, rfl, ?_⟩
    rw [List.length_map]
    by_cases h1 : (k : Int) < (ns.length : Int)
    · rw [decide_eq_true h1]
      have hj : k < ns.length := by omega
      refine iteT ⟨.ref a, rfl, .int k, rfl, a, ns.map V.int, k, .int ns[k], rfl, rfl, hS, atI_nat (by rw [List.getElem?_map, List.getElem?_eq_getElem hj]; rfl), .inl ⟨_, rfl, ?_⟩⟩
      refine ⟨.int ns[k], rfl, _, rfl, 10, 16, rfl, rfl, cp16, _, _, rfl, rfl, 0, _, rfl, 10, 60, rfl, rfl, cp60, 10, 60, rfl, rfl, cp60, _, _, rfl, rfl, cw60, _, _, rfl, rfl, pos60, ?_⟩
      refine ⟨_, rfl, .int ns[k], rfl, _, rfl, _, _, rfl, rfl, pos_m, _, _, rfl, rfl, .inr ⟨by decide, by decide⟩, .int k, rfl, _, _, rfl, rfl, .inl ⟨by decide, by decide⟩, _, _, rfl, rfl, .int ns[k], rfl, _, _, rfl, rfl, .inr ⟨_, rfl, _, _, rfl, rfl, .inl ⟨by decide, by decide⟩, _, _, rfl, rfl, _, _, rfl, rfl, ?_⟩⟩
      exact ⟨sz3, fun p hp => q p _ _ _ hp⟩
    · rw [decide_eq_false h1]
      refine iteF ⟨.int k, rfl, _, _, rfl, rfl, .inl ⟨by decide, by decide⟩, _, _, rfl, rfl, ?_⟩
      refine ⟨_, rfl, _, rfl, 10, 16, rfl, rfl, cp16, _, _, rfl, rfl, 0, _, rfl, 10, 60, rfl, rfl, cp60, 10, 60, rfl, rfl, cp60, _, _, rfl, rfl, cw60, _, _, rfl, rfl, pos60, ?_⟩
      refine ⟨_, rfl, _, rfl, _, rfl, _, _, rfl, rfl, pos_m, _, _, rfl, rfl, .inr ⟨by decide, by decide⟩, .int k, rfl, _, _, rfl, rfl, .inl ⟨by decide, by decide⟩, _, _, rfl, rfl, _, rfl, _, _, rfl, rfl, .inr ⟨_, rfl, _, _, rfl, rfl, .inl ⟨by decide, by decide⟩, _, _, rfl, rfl, _, _, rfl, rfl, ?_⟩⟩
      exact ⟨sz3, fun p hp => q p _ _ _ hp⟩
def spRoll : Sp := fun vs H Q _ => ∃ (a : Addr) (x y z n : Int), vs = [.ref a, .int n] ∧ H a = some (dice x y z) ∧ 0 < n ∧ n.natAbs.log2 < 9000 ∧ ∀ r x' z', 0 ≤ r → r < n → Q (.int r) (upd H a (dice x' y z'))
theorem ok_law_roll (T : Facts K mg) : FnOk P w K mg base CX0 1 T.f_law_roll T.fd_law_roll ["_law_dice_here", "_law_total"] spRoll := by
  refine T.F_law_roll.ok sc_law_roll (fun vs H Q E h => ?_) (fun cdv A outer s H vs Q E hr h => ?_)
  · obtain ⟨a, x, y, z, n, rfl, _⟩ := h
    rfl
  · obtain ⟨a, x, y, z, n, rfl, hd, h0, h1, q⟩ := h
    have hS : SqL K H a [.int x, .int y, .int z] := SqL.of hd
    refine ⟨_, (PSs.nox (pss_cons (ps_if (pt_cmpR op_gt (pe_ix ix_list (pv 0) pe_int (fun _ _ => rfl)) pe_int (nomark _))
      (pss_cons (ps_set (i := 2) sc_law_roll.nd rfl (.inl rfl) (pe_op op_mod (pe_callTy call_int1 (by rfl) T.z_int (by decide +kernel) (pa_cons (pe_ix ix_list (pv 0) pe_int (fun _ _ => rfl)) pa_nil)) (pv 1)))
      (pss_cons (ps_asg (pe_op op_fdivW (pe_ix ix_list (pv 0) pe_int (fun _ _ => rfl)) (pv 1)) (pg_sub (pv 0) pe_int set_list))
      (pss_one (ps_ret (pv 2)))))
      pss_nil)
    (pss_cons (ps_asg (pe_op op_add (pe_ix ix_list (pv 0) pe_int (fun _ _ => rfl)) pe_int) (pg_sub (pv 0) pe_int set_list))
    (pss_cons (ps_set (i := 3) sc_law_roll.nd rfl (.inl rfl) (pe_op op_mod (pe_callTy call_int1 (by rfl) T.z_int (by decide +kernel) (pa_cons (pe_op op_add (pe_ix ix_list (pv 0) pe_int (fun _ _ => rfl)) (pe_op op_mul pe_int (pe_ix ix_list (pv 0) pe_int (fun _ _ => rfl)))) pa_nil)) pe_int))
    (pss_cons (ps_set (i := 4) sc_law_roll.nd rfl (.inl rfl) (pe_op op_add (pe_op op_mul (pe_op op_mod (pe_callTy call_int1 (by rfl) T.z_int (by decide +kernel) (pa_cons (pe_op op_add (pe_op op_mul (pv 3) (pv 3)) (pe_op op_mul pe_int (pe_ix ix_list (pv 0) pe_int (fun _ _ => rfl)))) pa_nil)) pe_int) pe_int) (pv 3)))
    (pss_one (ps_ret (pe_op op_mod (pe_callTy call_int1 (by rfl) T.z_int (by decide +kernel) (pa_cons (pe_op op_fdivW (pv 4) pe_int) pa_nil)) (pv 1))))))))), ?_⟩
    refine ⟨.ref a, rfl, a, _, 0, .int x, rfl, rfl, hS, atI_nat (j := 0) rfl, x, 0, rfl, rfl, decide (0 < x), rfl, ite2 (fun _ => ?_) (fun _ => ?_)⟩
    · refine ⟨.ref a, rfl, a, _, 0, .int x, rfl, rfl, hS, atI_nat (j := 0) rfl, .inl ⟨x, rfl, .int n, rfl, x, n, rfl, rfl, h0, ?_⟩⟩
      refine ⟨.ref a, rfl, a, _, 0, .int x, rfl, rfl, hS, atI_nat (j := 0) rfl, .int n, rfl, x, n, rfl, rfl, ⟨h0, h1⟩, ?_⟩
      refine ⟨.ref a, rfl, a, _, 0, 0, rfl, rfl, hd, rfl, ?_⟩
      exact ⟨_, rfl, q (x % n) (x / n) z (Int.emod_nonneg _ (by omega)) (Int.emod_lt_of_pos _ h0)⟩
    · refine ⟨.ref a, rfl, a, _, 2, .int z, rfl, rfl, hS, atI_nat (j := 2) rfl, z, 1, rfl, rfl, ?_⟩
      refine ⟨.ref a, rfl, a, _, 2, 2, rfl, rfl, hd, rfl, ?_⟩
      have hd' : (upd H a (dice x y (z + 1))) a = some (dice x y (z + 1)) := upd_same
      have hS' : SqL K (upd H a (dice x y (z + 1))) a [.int x, .int y, .int (z + 1)] := SqL.of hd'
      refine ⟨.ref a, rfl, a, _, 1, .int y, rfl, rfl, hS', atI_nat (j := 1) rfl, .ref a, rfl, a, _, 2, .int (z + 1), rfl, rfl, hS', atI_nat (j := 2) rfl, _, _, rfl, rfl, .inl ⟨by decide, by decide⟩, _, _, rfl, rfl, .inl ⟨_, rfl, _, _, rfl, rfl, (by decide : (0 : Int) < 2305843009213691579), ?_⟩⟩
      have b0 := Int.emod_nonneg (y + 92821991 * (z + 1)) (show (2305843009213691579 : Int) ≠ 0 by decide)
      have b1 := Int.emod_lt_of_pos (y + 92821991 * (z + 1)) (show (0 : Int) < 2305843009213691579 by decide)
      refine ⟨_, rfl, _, rfl, _, _, rfl, rfl, .inl ⟨Int.lt_of_lt_of_le (by decide) b0, Int.lt_trans b1 (by decide)⟩, .ref a, rfl, a, _, 2, .int (z + 1), rfl, rfl, hS', atI_nat (j := 2) rfl, _, _, rfl, rfl, .inl ⟨by decide, by decide⟩, _, _, rfl, rfl, .inl ⟨_, rfl, _, _, rfl, rfl, (by decide : (0 : Int) < 2305843009213692227), _, _, rfl, rfl, .inr ⟨by decide, by decide⟩, _, rfl, _, _, rfl, rfl, ?_⟩⟩
      refine ⟨_, rfl, _, _, rfl, rfl, ⟨by decide, by decide +kernel⟩, .inl ⟨_, rfl, .int n, rfl, _, _, rfl, rfl, h0, ?_⟩⟩
      exact q _ x (z + 1) (Int.emod_nonneg _ (by omega)) (Int.emod_lt_of_pos _ h0)
def spPick (K : PySem.W.Frag) : Sp := fun vs H Q _ => ∃ (a b : Addr) (x y z : Int) (xs : List V), vs = [.ref a, .ref b] ∧ H a = some (dice x y z) ∧ H b = some (.lst xs) ∧ a ≠ b ∧ 0 < xs.length ∧ xs.length < 1000 ∧
  ∀ (i : Nat) v x' z', xs[i]? = some v → Q v (upd H a (dice x' y z'))
theorem ok_law_pick (T : Facts K mg) : FnOk P w K mg base CX0 2 T.f_law_pick T.fd_law_pick ["_law_dice_here", "_law_items"] (spPick K) := by
  have G_law_roll : FnOk P w K mg base CX0 1 T.f_law_roll T.fd_law_roll ["_law_dice_here", "_law_total"] spRoll := ok_law_roll T
  refine T.F_law_pick.ok sc_law_pick (fun vs H Q E h => ?_) (fun cdv A outer s H vs Q E hr h => ?_)
  · obtain ⟨a, b, x, y, z, xs, rfl, _⟩ := h
    rfl
  · obtain ⟨a, b, x, y, z, xs, rfl, hd, hb, hab, l0, l1, q⟩ := h
    refine ⟨_, (PSs.nox (pss_one (ps_ret (pe_ix ix_list (pv 1) (pe_call G_law_roll hr (by rfl) T.g_law_roll T.F_law_roll.kp T.b_law_roll .nil pass0 (pa_cons (pv 0) (pa_cons (pe_callB call_len_seq (by rfl) T.z_len (by decide +kernel) (pa_cons (pv 1) pa_nil)) pa_nil))) (fun _ _ => rfl))))), ?_⟩
    refine ⟨.ref b, rfl, .ref a, rfl, .ref b, rfl, b, xs, rfl, .inl (SqL.of hb), ?_⟩
    refine ⟨a, x, y, z, _, rfl, hd, (by omega : (0 : Int) < (xs.length : Int)), Nat.lt_trans (PySem.Flt.log2_lt_of (k := 10) (by decide) (by show xs.length < 2 ^ 10; omega)) (by decide), fun r x' z' h1 h2 => ?_⟩
    obtain ⟨j, rfl⟩ := Int.eq_ofNat_of_zero_le h1
    have hj : j < xs.length := by omega
    exact ⟨b, xs, j, xs[j], rfl, rfl, SqL.of (by rw [upd_ne (Ne.symm hab)]; exact hb), atI_nat (List.getElem?_eq_getElem hj), q j _ x' z' (List.getElem?_eq_getElem hj)⟩
def spRoll2 : Sp := fun vs H Q _ => ∃ (a : Addr) (n : Int), vs = [.ref a, .int n] ∧ Dc H a ∧ 0 < n ∧ n.natAbs.log2 < 9000 ∧ ∀ (r : Nat) H', (r : Int) < n → Sx a H H' → Dc H' a → Q (.int r) H'
theorem roll2 : ∀ vs H Q E, spRoll2 vs H Q E → spRoll vs H Q E := fun vs H Q E h => by
  obtain ⟨a, n, rfl, ⟨x, y, z, e⟩, h0, h1, q⟩ := h
  refine ⟨a, x, y, z, n, rfl, e, h0, h1, fun r x' z' r0 r1 => ?_⟩
  obtain ⟨j, rfl⟩ := Int.eq_ofNat_of_zero_le r0
  exact q j _ r1 Sx.upd ⟨x', y, z', upd_same⟩
def spPick2 : Sp := fun vs H Q _ => ∃ (a b : Addr) (xs : List V), vs = [.ref a, .ref b] ∧ Dc H a ∧ H b = some (.lst xs) ∧ b ≠ a ∧ 0 < xs.length ∧ xs.length < 1000 ∧ ∀ v H', v ∈ xs → Sx a H H' → Dc H' a → Q v H'
theorem pick2 {K : PySem.W.Frag} : ∀ vs H Q E, spPick2 vs H Q E → spPick K vs H Q E := fun vs H Q E h => by
  obtain ⟨a, b, xs, rfl, ⟨x, y, z, e⟩, hb, ne, l0, l1, q⟩ := h
  exact ⟨a, b, x, y, z, xs, rfl, e, hb, Ne.symm ne, l0, l1, fun i v x' z' hv => q v _ (List.mem_of_getElem? hv) Sx.upd ⟨x', y, z', upd_same⟩⟩
def spNear : Sp := fun vs H Q _ => ∃ (a : Addr) (m : Int), vs = [.ref a, .int m] ∧ Dc H a ∧ 0 ≤ m ∧ m ≤ 10 ^ 15 ∧ ∀ r H', -m ≤ r → r ≤ m → Sx a H H' → Dc H' a → Q (.int r) H'
theorem ok_law_near (T : Facts K mg) : FnOk P w K mg base CX0 2 T.f_law_near T.fd_law_near ["_law_dice_here", "_law_most"] spNear := by
  have G_law_roll : FnOk P w K mg base CX0 1 T.f_law_roll T.fd_law_roll ["_law_dice_here", "_law_total"] spRoll2 := (ok_law_roll T).imp roll2
  refine T.F_law_near.ok sc_law_near (fun vs H Q E h => ?_) (fun cdv A outer s H vs Q E hr h => ?_)
  · obtain ⟨a, m, rfl, _⟩ := h
    rfl
  · obtain ⟨a, m, rfl, hd, h0, h1, q⟩ := h
    refine ⟨_, (PSs.nox (pss_one (ps_ret (pe_op op_sub (pe_call G_law_roll hr (by rfl) T.g_law_roll T.F_law_roll.kp T.b_law_roll .nil pass0 (pa_cons (pv 0) (pa_cons (pe_op op_add (pe_op op_mul pe_int (pv 1)) pe_int) pa_nil))) (pv 1))))), ?_⟩
    have e15 : (10 : Int) ^ 15 = 1000000000000000 := by decide
    rw [e15] at h1
    refine ⟨_, rfl, _, rfl, _, _, rfl, rfl, .inl ⟨by decide, by decide⟩, _, _, rfl, rfl, a, _, rfl, hd, (by show 0 < 2 * m + 1; omega), ?_, fun r H' hr s d => ⟨_, rfl, _, _, rfl, rfl, ?_⟩⟩
    · refine Nat.lt_trans (PySem.Flt.log2_lt_of (k := 60) (by decide) ?_) (by decide)
      show (2 * m + 1).natAbs < 2 ^ 60
      omega
    · have hr' : (r : Int) < 2 * m + 1 := hr
      exact q _ H' (by omega) (by omega) s d
/-! ### the law's own gcd -/
def spLGcd : Sp := fun vs H Q _ => ∃ t b : Int, vs = [.int t, .int b] ∧ Q (.int ((Nat.gcd t.natAbs b.natAbs : Nat) : Int)) H
def yOf : L2.St → Nat
  | [_, some (.int y)] => y.toNat
  | _ => 0
theorem abs_nat (i : Int) : (if i < 0 then -i else i) = (i.natAbs : Int) := by split <;> omega
theorem ok_law_gcd (T : Facts K mg) : FnOk P w K mg base CX0 1 T.f_law_gcd T.fd_law_gcd ["_law_one", "_law_other"] spLGcd := by
  refine T.F_law_gcd.ok sc_law_gcd (fun vs H Q E h => ?_) (fun cdv A outer s H vs Q E hr h => ?_)
  · obtain ⟨t, b, rfl, _⟩ := h
    rfl
  · obtain ⟨t, b, rfl, q⟩ := h
    refine ⟨_, (PSs.nox (pss_cons (ps_par (i := 0) (j := 1) (by rfl) sc_law_gcd.nd rfl rfl (by decide) rfl rfl (pa_cons (pe_callB call_abs (by rfl) T.z_abs (by decide +kernel) (pa_cons (pv 0) pa_nil)) (pa_cons (pe_callB call_abs (by rfl) T.z_abs (by decide +kernel) (pa_cons (pv 1) pa_nil)) pa_nil)) (by rfl))
    (pss_cons (ps_while PassesOwn.never (pt_cmpR op_gt (pv 1) pe_int (nomark _))
      (pss_one (ps_par (i := 0) (j := 1) (by rfl) sc_law_gcd.nd rfl rfl (by decide) rfl rfl (pa_cons (pv 1) (pa_cons (pe_op op_mod (pe_callTy call_int1 (by rfl) T.z_int (by decide +kernel) (pa_cons (pv 0) pa_nil)) (pv 1)) pa_nil)) (by rfl))))
    (pss_one (ps_ret (pv 0)))))), ?_⟩
    refine ⟨_, rfl, t, rfl, _, rfl, b, rfl, _, _, rfl, ?_⟩
    rw [abs_nat, abs_nat]
    refine while_by (fun σ H' => ∃ x y : Nat, σ = [some (.int x), some (.int y)] ∧ Nat.gcd x y = Nat.gcd t.natAbs b.natAbs ∧ H' = H) (fun σ _ => yOf σ) ⟨_, _, rfl, rfl, rfl⟩ (fun σ H' hP => ?_) (fun σ H' Q1 Q2 hQ h => ?_)
    · obtain ⟨x, y, rfl, hg, rfl⟩ := hP
      refine ⟨_, rfl, _, _, rfl, rfl, _, rfl, ?_⟩
      by_cases c : 0 < (y : Int)
      · rw [decide_eq_true c]
        refine iteT ⟨_, rfl, _, rfl, .inl ⟨_, rfl, _, rfl, _, _, rfl, rfl, c, _, _, rfl, ?_⟩⟩
        have e : (x : Int) % (y : Int) = ((x % y : Nat) : Int) := (Int.natCast_emod x y).symm
        refine ⟨⟨y, x % y, ?_, ?_, rfl⟩, ?_⟩
        · show [some (V.int y), some (V.int ((x : Int) % (y : Int)))] = _
          rw [e]
        · rw [← hg, Nat.gcd_comm x y, Nat.gcd_rec y x, Nat.gcd_comm]
        · show ((x : Int) % (y : Int)).toNat < (y : Int).toNat
          rw [e]
          have := Nat.mod_lt x (show y > 0 by omega)
          omega
      · rw [decide_eq_false c]
        have ey : y = 0 := by omega
        subst ey
        refine iteF ⟨_, rfl, ?_⟩
        rw [← hg, Nat.gcd_zero_right] at q
        exact q
    · obtain ⟨v, e, x1, x2, e1, e2, k, e3, h⟩ := h
      exact ⟨v, e, x1, x2, e1, e2, k, e3, hQ _ _ h⟩
end
end K59

set_option Elab.async false
set_option linter.all false
set_option maxRecDepth 100000
set_option maxHeartbeats 4000000
namespace K59
open PySem PySem.Spec PyProof.Rows L2 StX RZ MyR SlX OwnR OwnF
theorem cont_snoc (x : Int) : ∀ l : List Int, cont (l ++ [x]) = Nat.gcd (cont l) x.natAbs
  | [] => by
    show Nat.gcd x.natAbs 0 = Nat.gcd 0 x.natAbs
    rw [Nat.gcd_zero_right, Nat.gcd_zero_left]
  | y :: ys => by
    show Nat.gcd y.natAbs (cont (ys ++ [x])) = Nat.gcd (Nat.gcd y.natAbs (cont ys)) x.natAbs
    rw [cont_snoc x ys, Nat.gcd_assoc]
theorem take_snoc {xs : List Int} {i : Nat} (h : i < xs.length) : xs.take (i + 1) = xs.take i ++ [co xs i] := by
  rw [List.take_add_one, List.getElem?_eq_getElem h, co_get h]
  rfl
theorem int_get {xs : List Int} {i : Nat} {x : V} (h : (xs.map V.int)[i]? = some x) : i < xs.length ∧ x = .int (co xs i) := by
  have hi : i < xs.length := by
    have := (List.getElem?_eq_some_iff.mp h).1
    rw [List.length_map] at this
    exact this
  rw [get_int hi] at h
  cases h
  exact ⟨hi, rfl⟩
theorem tab_snoc (n : Nat) (f : Nat → Int) : tab n f ++ [V.int (f n)] = tab (n + 1) f := by
  unfold tab
  rw [List.range_succ, List.map_append]
  rfl
theorem zs_tb {c : Int} {xs ys : List Int} (hl : xs.length = ys.length) : (tb xs.length fun k => co xs k + c * co ys k) = zs c xs ys := by
  refine co_inj (by rw [tb_len]; unfold zs; rw [List.length_zipWith, hl, Nat.min_self]) fun k => ?_
  rw [co_tb]
  unfold zs
  by_cases hk : k < xs.length
  · rw [if_pos hk, co_get (l := List.zipWith _ _ _) (by rw [List.length_zipWith]; omega), List.getElem_zipWith, co_get hk, co_get (by omega)]
  · rw [if_neg hk, co_far (by rw [List.length_zipWith]; omega)]
section
variable {P : Program} {w : World} {K : PySem.W.Frag} {mg : Str → Option Value} {base : Heap}
def spShared : Sp := fun vs H Q _ => ∃ (t : Addr) (ns : List Int), vs = [.ref t] ∧ H t = some (tp ns) ∧ Q (.int (cont ns : Nat)) H
def spSharedC (K : PySem.W.Frag) : Sp := fun vs H Q _ => ∃ (t : Addr) (ns : List Int), vs = [.ref t] ∧ (SqT K H t (ns.map V.int) ∨ SqL K H t (ns.map V.int)) ∧ Q (.int (cont ns : Nat)) H
theorem ok_law_sharedC (T : Facts K mg) : FnOk P w K mg base CX0 2 T.f_law_shared T.fd_law_shared ["_law_numbers"] (spSharedC K) := by
  have G_law_gcd : FnOk P w K mg base CX0 1 T.f_law_gcd T.fd_law_gcd ["_law_one", "_law_other"] spLGcd := ok_law_gcd T
  refine T.F_law_shared.ok sc_law_shared (fun vs H Q E h => ?_) (fun cdv A outer s H vs Q E hr h => ?_)
  · obtain ⟨t, ns, rfl, _⟩ := h
    rfl
  · obtain ⟨t, ns, rfl, ht, q⟩ := h
    refine ⟨_, (PSs.nox (pss_cons (ps_set (i := 1) sc_law_shared.nd rfl (.inl rfl) pe_int)
    (pss_cons (ps_for PassesOwn.never (by rfl) (SeqE.PI_or (pi_tup (pv 0)) (pi_list (pv 0))) (pg_name (i := 2) sc_law_shared.nd rfl (.inl rfl))
      (pss_one (ps_set (i := 1) sc_law_shared.nd rfl (.inl rfl) (pe_call G_law_gcd hr (by rfl) T.g_law_gcd T.F_law_gcd.kp T.b_law_gcd .nil pass0 (pa_cons (pv 1) (pa_cons (pv 2) pa_nil))))))
    (pss_one (ps_ret (pv 1)))))), ?_⟩
    rcases ht with ht | ht
    · refine .inl ⟨_, rfl, t, rfl, ⟨_, ht⟩, for_tup (xs := ns.map V.int) (fun i σ H' => ∃ y, σ = [some (.ref t), some (.int ((cont (ns.take i) : Nat) : Int)), y] ∧ H' = H) ⟨none, rfl, rfl⟩ (fun i σ H' _ hP => by rw [hP.choose_spec.2]; exact ht) (fun i x σ H' hx hP => ?_) (fun σ H' hP => ?_)⟩
      · obtain ⟨y, rfl, rfl⟩ := hP
        obtain ⟨hi, rfl⟩ := int_get hx
        refine ⟨_, rfl, _, rfl, _, _, rfl, some (.int (co ns i)), ?_, rfl⟩
        rw [take_snoc hi, cont_snoc]
        rfl
      · obtain ⟨y, rfl, rfl⟩ := hP
        rw [List.length_map, List.take_length]
        exact ⟨_, rfl, q⟩
    · refine .inr ⟨_, rfl, t, rfl, ⟨_, ht⟩, for_list (xs := ns.map V.int) (fun i σ H' => ∃ y, σ = [some (.ref t), some (.int ((cont (ns.take i) : Nat) : Int)), y] ∧ H' = H) ⟨none, rfl, rfl⟩ (fun i σ H' _ hP => by rw [hP.choose_spec.2]; exact ht) (fun i x σ H' hx hP => ?_) (fun σ H' hP => ?_)⟩
      · obtain ⟨y, rfl, rfl⟩ := hP
        obtain ⟨hi, rfl⟩ := int_get hx
        refine ⟨_, rfl, _, rfl, _, _, rfl, some (.int (co ns i)), ?_, rfl⟩
        rw [take_snoc hi, cont_snoc]
        rfl
      · obtain ⟨y, rfl, rfl⟩ := hP
        rw [List.length_map, List.take_length]
        exact ⟨_, rfl, q⟩
theorem ok_law_shared (T : Facts K mg) : FnOk P w K mg base CX0 2 T.f_law_shared T.fd_law_shared ["_law_numbers"] spShared := (ok_law_sharedC T).imp fun vs H Q E h => by
  obtain ⟨t, ns, rfl, ht, q⟩ := h
  exact ⟨t, ns, rfl, .inl (SqT.of ht), q⟩
def spPlus : Sp := fun vs H Q _ => ∃ (t u : Addr) (xs ys : List Int), vs = [.ref t, .ref u] ∧ H t = some (tp xs) ∧ H u = some (tp ys) ∧ xs.length = ys.length ∧ xs.length ≤ 100 ∧ ∀ p H', Same H H' → H p = none → H' p = some (tp (zs 1 xs ys)) → Q (.ref p) H'
theorem ok_law_plus (T : Facts K mg) : FnOk P w K mg base CX0 1 T.f_law_plus T.fd_law_plus ["_law_one", "_law_other"] spPlus := by
  refine T.F_law_plus.ok sc_law_plus (fun vs H Q E h => ?_) (fun cdv A outer s H vs Q E hr h => ?_)
  · obtain ⟨t, u, xs, ys, rfl, _⟩ := h
    rfl
  · obtain ⟨t, u, xs, ys, rfl, ht, hu, hl, hlt, q⟩ := h
    refine ⟨_, (PSs.nox (pss_one (ps_ret (pe_tupleOf (by rfl) T.z_tuple (pe_lc (own := [("_law_first", 2), ("_law_second", 3)]) (g := (gTup K 2 (gCons (gName 2) (gCons (gName 3) gNil)))) (tt := tYes) (by rfl) sc_law_plus.nd (pi_zipA (by rfl) T.z_zip (pa_cons (pv 0) (pa_cons (pv 1) pa_nil))) (blkOk_by (N := N_law_plus) (sc := defScope s_law_plus) (by decide +kernel)) (fun _ _ _ _ _ => (pg_tup (by rfl) (pgs_cons (pg_name (i := 2) sc_law_plus.nd rfl (.inl rfl)) (pgs_cons (pg_name (i := 3) sc_law_plus.nd rfl (.inl rfl)) pgs_nil)))) (fun _ _ _ _ _ => pts_nil) (fun _ _ _ _ _ => (pe_op op_add (pv 2) (pv 3)))))))), ?_⟩
    refine ⟨_, rfl, _, rfl, t, u, _, _, rfl, .inr ⟨SqT.of ht, SqT.of hu, fun D hD => ?_⟩⟩
    refine lc_zipT (xs := xs.map V.int) (ys := ys.map V.int) (by rw [List.length_map, List.length_map, hl]) (fun j H' => Same H H' ∧ H' D = some (.lst (tab j fun k => co xs k + 1 * co ys k))) ⟨same_upd0 hD, upd_same⟩ (fun j H' _ hP => ⟨SqT.of (hP.1 _ _ ht), SqT.of (hP.1 _ _ hu)⟩) (fun j x y A H' hx hy hP hA => ?_) (fun H' hP => ?_)
    · obtain ⟨sH, hD'⟩ := hP
      obtain ⟨hj, rfl⟩ := int_get hx
      obtain ⟨_, rfl⟩ := int_get hy
      have sA := same_upd0 (o := .tup [.int (co xs j), .int (co ys j)]) hA
      refine ⟨A, _, rfl, SqT.of upd_same, rfl, _, _, rfl, _, _, rfl, rfl, rfl, _, rfl, _, rfl, _, _, rfl, rfl, _, sA _ _ hD', ?_, fun b o e => ?_, ?_⟩
      · rw [tab_len]
        exact small1000 (by omega)
      · rw [upd_ne (ne_of_none e hD)]
        exact sA _ _ (sH _ _ e)
      · rw [upd_same, ← tab_snoc]
        show some (HO.lst (tab j _ ++ [V.int (co xs j + co ys j)])) = some (HO.lst (tab j _ ++ [V.int (co xs j + 1 * co ys j)]))
        rw [Int.one_mul]
    · obtain ⟨sH, hD'⟩ := hP
      rw [List.length_map] at hD'
      refine .inl ⟨D, _, rfl, SqL.of hD', fun p hp2 => ?_⟩
      refine q p _ (sH.trans (same_upd0 hp2)) (Same.free sH hp2) ?_
      rw [upd_same, tab_tb, zs_tb hl]
def spScaled : Sp := fun vs H Q _ => ∃ (t : Addr) (xs : List Int) (c : Int), vs = [.ref t, .int c] ∧ H t = some (tp xs) ∧ xs.length ≤ 100 ∧ (∀ x ∈ xs, sm x) ∧ sm c ∧ ∀ p H', Same H H' → H p = none → H' p = some (tp (xs.map fun x => c * x)) → Q (.ref p) H'
theorem ok_law_scaled (T : Facts K mg) : FnOk P w K mg base CX0 1 T.f_law_scaled T.fd_law_scaled ["_law_form_here", "_law_factor"] spScaled := by
  refine T.F_law_scaled.ok sc_law_scaled (fun vs H Q E h => ?_) (fun cdv A outer s H vs Q E hr h => ?_)
  · obtain ⟨t, xs, c, rfl, _⟩ := h
    rfl
  · obtain ⟨t, xs, c, rfl, ht, hl, hs, hc, q⟩ := h
    refine ⟨_, (PSs.nox (pss_one (ps_ret (pe_tupleOf (by rfl) T.z_tuple (pe_lc (own := [("_law_entry", 2)]) (g := (gName 2)) (tt := tYes) (by rfl) sc_law_scaled.nd (pi_tup (pv 0)) (blkOk_by (N := N_law_scaled) (sc := defScope s_law_scaled) (by decide +kernel)) (fun _ _ _ _ _ => (pg_name (i := 2) sc_law_scaled.nd rfl (.inl rfl))) (fun _ _ _ _ _ => pts_nil) (fun _ _ _ _ _ => (pe_op op_mulW (pv 1) (pv 2)))))))), ?_⟩
    refine ⟨_, rfl, t, rfl, ⟨_, SqT.of ht⟩, fun D hD => lc_tup (xs := xs.map V.int) (fun j H' => H' = upd H D (.lst (tab j fun k => c * co xs k))) rfl (fun j H' _ hP => ?_) (fun j x H' hx hP => ?_) (fun H' hP => ?_)⟩
    · rw [hP]
      exact SqT.of (same_upd0 hD _ _ ht)
    · subst hP
      obtain ⟨hj, rfl⟩ := int_get hx
      refine ⟨rfl, ⟨_, rfl, _, rfl, _, _, rfl, rfl, sm_mul hc (sm_co hs hj), _, upd_same, ?_, ?_⟩⟩
      · rw [tab_len]
        exact small1000 (by omega)
      · rw [upd_upd, ← tab_snoc]
    · subst hP
      rw [List.length_map, tab_tb, tb_map (fun x => c * x) xs]
      refine .inl ⟨D, _, rfl, SqL.of upd_same, fun p hp2 => ?_⟩
      exact q p _ ((same_upd0 hD).trans (same_upd0 hp2)) (Same.free (same_upd0 hD) hp2) upd_same
end
end K59

set_option Elab.async false
set_option linter.all false
set_option maxRecDepth 100000
set_option maxHeartbeats 4000000
namespace K59
open PySem PySem.Spec PyProof.Rows L2 StX RZ MyR SlX OwnR OwnF EnumT
section
variable {P : Program} {w : World} {K : PySem.W.Frag} {mg : Str → Option Value} {base : Heap}
def spProd : Sp := fun vs H Q _ => ∃ (a b : Addr) (xs ys : List Int), vs = [.ref a, .ref b] ∧ H a = some (tp xs) ∧ H b = some (tp ys) ∧ xs ≠ [] ∧ ys ≠ [] ∧ xs.length ≤ 100 ∧ ys.length ≤ 100 ∧ (∀ x ∈ xs, sm x) ∧ (∀ x ∈ ys, sm x) ∧ ∀ p H', Same H H' → H p = none → H' p = some (tp (ml xs ys)) → Q (.ref p) H'
theorem ok_law_product (T : Facts K mg) : FnOk P w K mg base CX0 1 T.f_law_product T.fd_law_product ["_law_one", "_law_other"] spProd := by
  refine T.F_law_product.ok sc_law_product (fun vs H Q E h => ?_) (fun cdv A outer s H vs Q E hr h => ?_)
  · obtain ⟨a, b, xs, ys, rfl, _⟩ := h
    rfl
  · obtain ⟨a, b, xs, ys, rfl, ha, hb, nx, ny, lx, ly, hx, hy, q⟩ := h
    have px : 0 < xs.length := List.length_pos_iff.mpr nx
    have py : 0 < ys.length := List.length_pos_iff.mpr ny
    refine ⟨_, (PSs.nox (pss_cons (ps_setLc (i := 2) (own := [("_law_place", 3)]) (g := (gName 3)) (tt := tYes) rfl sc_law_product.nd rfl rfl (sw_true rfl rfl rfl (by decide +kernel)) (pi_range1 (by rfl) T.z_range (pa_cons (pe_op op_sub (pe_op op_add (pe_callB call_len_seq (by rfl) T.z_len (by decide +kernel) (pa_cons (pv 0) pa_nil)) (pe_callB call_len_seq (by rfl) T.z_len (by decide +kernel) (pa_cons (pv 1) pa_nil))) pe_int) pa_nil)) (blkOk_by (N := N_law_product) (sc := defScope s_law_product) (by decide +kernel)) (fun _ _ _ _ _ => (pg_name (i := 3) sc_law_product.nd rfl (.inl rfl))) (fun _ _ _ _ _ => pts_nil) (fun _ _ _ _ _ => pe_int))
    (pss_cons (ps_for PassesOwn.never (by rfl) (pi_enumT (by rfl) T.z_enumerate (pa_cons (pv 0) pa_nil)) (pg_tup (by rfl) (pgs_cons (pg_name (i := 4) sc_law_product.nd rfl (.inl rfl)) (pgs_cons (pg_name (i := 5) sc_law_product.nd rfl (.inl rfl)) pgs_nil)))
      (pss_one (ps_for PassesOwn.never (by rfl) (pi_enumT (by rfl) T.z_enumerate (pa_cons (pv 1) pa_nil)) (pg_tup (by rfl) (pgs_cons (pg_name (i := 3) sc_law_product.nd rfl (.inl rfl)) (pgs_cons (pg_name (i := 6) sc_law_product.nd rfl (.inl rfl)) pgs_nil)))
        (pss_one (ps_asg (pe_op op_add (pe_ix ix_list (pv 2) (pe_op op_add (pv 4) (pv 3)) (fun _ _ => rfl)) (pe_op op_mulW (pv 5) (pv 6))) (pg_sub (pv 2) (pe_op op_add (pv 4) (pv 3)) set_list))))))
    (pss_one (ps_ret (pe_tupleOf (by rfl) T.z_tuple (pv 2))))))), ?_⟩
    refine ⟨_, rfl, a, _, rfl, .inr (SqT.of ha), _, rfl, b, _, rfl, .inr (SqT.of hb), ?_⟩
    rw [List.length_map, List.length_map]
    obtain ⟨N, hN⟩ : ∃ N, N = xs.length + ys.length - 1 := ⟨_, rfl⟩
    have eN : (((xs.length : Int) + (ys.length : Int) - 1)).toNat = N := by omega
    refine ⟨_, _, rfl, rfl, _, _, rfl, rfl, _, rfl, (by show -(2 ^ 62) ≤ (xs.length : Int) + (ys.length : Int) - 1; omega), (by show (xs.length : Int) + (ys.length : Int) - 1 < 2 ^ 62; omega), fun D hD => lc_range (n := _) (fun j H' => H' = upd H D (.lst (List.replicate j (V.int 0)))) rfl (fun j H' hj hP => ?_) (fun H' hP => ?_)⟩
    · subst hP
      have hj2 : j < N := by rw [← eN]; exact hj
      refine ⟨rfl, ⟨_, upd_same, ?_, ?_⟩⟩
      · rw [List.length_replicate]
        exact small1000 (by omega)
      · rw [upd_upd, List.replicate_succ']
    · subst hP
      show _
      rw [show List.replicate (((xs.length : Int) + (ys.length : Int) - 1)).toNat (V.int 0) = tab N (fun k => cv (xs.take 0) (co ys) k) by rw [eN, tab_rep]; rfl]
      have sD : ∀ o, Same H (upd H D o) := fun o => same_upd0 hD
      -- what stands in each turn: the list at D, and what stood before
      refine ⟨_, rfl, a, _, rfl, SqT.of (sD _ _ _ ha), for_enumT (xs := xs.map V.int) (fun i σ H' => ∃ y3 y4 y5 y6, σ = [some (.ref a), some (.ref b), some (.ref D), y3, y4, y5, y6] ∧ Same H H' ∧ H' D = some (.lst (tab N fun k => cv (xs.take i) (co ys) k))) ⟨none, none, none, none, rfl, sD _, upd_same⟩ (fun i σ H' hP => ?_) (fun i x B σ H' hxi hP hB => ?_) (fun σ H' hP => ?_)⟩
      · obtain ⟨y3, y4, y5, y6, _, sH, _⟩ := hP
        exact SqT.of (sH _ _ ha)
      · obtain ⟨y3, y4, y5, y6, rfl, sH, hL⟩ := hP
        obtain ⟨hi2, rfl⟩ := int_get hxi
        refine ⟨B, _, rfl, SqT.of upd_same, rfl, _, _, rfl, _, _, rfl, rfl, ?_⟩
        refine gen_upd H' B _ hB (fun H2 s2 _ => ?_)
        have sH2 := sH.trans s2
        have hL2 := s2 _ _ hL
        rw [tab_ext (g := J xs (co ys) i 0) fun k hk => J_0.symm] at hL2
        refine ⟨_, rfl, b, _, rfl, SqT.of (sH2 _ _ hb), for_enumT (xs := ys.map V.int) (fun j σ H3 => ∃ y3 y6, σ = [some (.ref a), some (.ref b), some (.ref D), y3, some (.int ((i : Nat) : Int)), some (.int (co xs i)), y6] ∧ Same H H3 ∧ H3 D = some (.lst (tab N (J xs (co ys) i j)))) ⟨y3, y6, rfl, sH2, hL2⟩ (fun j σ H3 hP => ?_) (fun j y B2 σ H3 hyj hP hB2 => ?_) (fun σ H3 hP => ?_)⟩
        · obtain ⟨y3, y6, _, sH3, _⟩ := hP
          exact SqT.of (sH3 _ _ hb)
        · obtain ⟨y3, y6, rfl, sH3, hL3⟩ := hP
          obtain ⟨hj2, rfl⟩ := int_get hyj
          refine ⟨B2, _, rfl, SqT.of upd_same, rfl, _, _, rfl, _, _, rfl, rfl, ?_⟩
          refine gen_upd H3 B2 _ hB2 (fun H4 s4 _ => ?_)
          have sH4 := sH3.trans s4
          have hL4 := s4 _ _ hL3
          have e1 : ((i : Nat) : Int) + ((j : Nat) : Int) = ((i + j : Nat) : Int) := by omega
          refine ⟨_, rfl, _, rfl, _, rfl, _, _, rfl, rfl, D, _, _, _, rfl, rfl, SqL.of hL4, at_of e1 (tab_get (by omega)), _, rfl, _, rfl, _, _, rfl, rfl, sm_mul (sm_co hx hi2) (sm_co hy hj2), _, _, rfl, rfl, ?_⟩
          refine ⟨_, rfl, _, rfl, _, rfl, _, _, rfl, rfl, D, _, _, (i + j), rfl, rfl, hL4, ?_, ?_⟩
          · rw [tab_len]
            exact ix_at e1 (by omega)
          · refine ⟨_, _, rfl, fun c o e => ?_, ?_⟩
            · rw [upd_ne (ne_of_none e hD)]
              exact sH4 _ _ e
            · rw [upd_same]
              show some (HO.lst ((tab N (J xs (co ys) i j)).set (i + j) (.int (J xs (co ys) i j (i + j) + co xs i * co ys j)))) = _
              rw [tab_set, tab_ext fun k hk => J_step]
        · obtain ⟨y3, y6, rfl, sH3, hL3⟩ := hP
          rw [List.length_map, tab_ext fun k hk => J_end hi2] at hL3
          exact ⟨_, _, _, _, rfl, sH3, hL3⟩
      · obtain ⟨y3, y4, y5, y6, rfl, sH, hL⟩ := hP
        rw [List.length_map, List.take_length, tab_tb] at hL
        refine ⟨_, rfl, .inl ⟨D, _, rfl, SqL.of hL, fun p hp => ?_⟩⟩
        refine q p _ (sH.trans (same_upd0 hp)) (Same.free sH hp) ?_
        rw [upd_same, hN]
        rfl
/-- the product of the first n -/
def pow (l : List Int) : Nat → List Int
  | 0 => [1]
  | n + 1 => ml (pow l n) l
def spPow : Sp := fun vs H Q _ => ∃ (a : Addr) (xs : List Int) (n : Nat), vs = [.ref a, .int n] ∧ H a = some (tp xs) ∧ xs ≠ [] ∧ xs.length ≤ 100 ∧ (∀ x ∈ xs, sm x) ∧ (∀ i, i < n → pow xs i ≠ [] ∧ (pow xs i).length ≤ 100 ∧ ∀ x ∈ pow xs i, sm x) ∧ n ≤ 100 ∧ ∀ p H', Same H H' → H' p = some (tp (pow xs n)) → Q (.ref p) H'
theorem ok_law_power (T : Facts K mg) : FnOk P w K mg base CX0 2 T.f_law_power T.fd_law_power ["_law_pair", "_law_times"] spPow := by
  have G_law_product : FnOk P w K mg base CX0 1 T.f_law_product T.fd_law_product ["_law_one", "_law_other"] spProd := ok_law_product T
  refine T.F_law_power.ok sc_law_power (fun vs H Q E h => ?_) (fun cdv A outer s H vs Q E hr h => ?_)
  · obtain ⟨a, xs, n, rfl, _⟩ := h
    rfl
  · obtain ⟨a, xs, n, rfl, ha, nx, lx, hx, hp, hn, q⟩ := h
    refine ⟨_, (PSs.nox (pss_cons (ps_set (i := 2) sc_law_power.nd rfl (.inl rfl) (pe_tup (pa_cons pe_int pa_nil)))
    (pss_cons (ps_for PassesOwn.never (by rfl) (pi_range1 (by rfl) T.z_range (pa_cons (pv 1) pa_nil)) (pg_name (i := 3) sc_law_power.nd rfl (.inl rfl))
      (pss_one (ps_set (i := 2) sc_law_power.nd rfl (.inl rfl) (pe_call G_law_product hr (by rfl) T.g_law_product T.F_law_product.kp T.b_law_product .nil pass0 (pa_cons (pv 2) (pa_cons (pv 0) pa_nil))))))
    (pss_one (ps_ret (pv 2)))))), ?_⟩
    refine ⟨(by show 1 ≤ sizeLine; decide), fun p0 n0 => ⟨_, rfl, n, rfl, by omega, by omega, for_range (n := (n : Int).toNat) (fun i σ H' => ∃ r y3, σ = [some (.ref a), some (.int n), some (.ref r), y3] ∧ Same H H' ∧ H' r = some (tp (pow xs i))) ⟨p0, none, rfl, same_upd0 n0, upd_same⟩ (fun i σ H' hi hP => ?_) (fun σ H' hP => ?_)⟩⟩
    · obtain ⟨r, y3, rfl, sH, hr2⟩ := hP
      obtain ⟨h1, h2, h3⟩ := hp i (by omega)
      exact ⟨_, rfl, _, rfl, r, a, _, xs, rfl, hr2, sH _ _ ha, h1, nx, h2, lx, h3, hx, fun p H2 s2 _ hp2 => ⟨p, _, rfl, sH.trans s2, hp2⟩⟩
    · obtain ⟨r, y3, rfl, sH, hr2⟩ := hP
      rw [Int.toNat_natCast] at hr2
      exact ⟨_, rfl, q r H' sH hr2⟩
end
end K59

set_option Elab.async false
set_option linter.all false
set_option maxRecDepth 100000
set_option maxHeartbeats 4000000
namespace K59
open PySem PySem.Spec PyProof.Rows L2 StX RZ MyR SlX OwnR OwnF EnumT
theorem first_of : ∀ ns : List Int, cont ns ≠ 0 → ∃ x r, ns.filter (fun x => x != 0) = x :: r ∧ sg ns = (if 0 < x then 1 else -1)
  | [], h => absurd rfl h
  | y :: ys, h => by
    by_cases c : y = 0
    · have hc : cont ys ≠ 0 := fun e => h (by
        show Nat.gcd y.natAbs (cont ys) = 0
        rw [c, e]
        rfl)
      obtain ⟨x, r, e1, e2⟩ := first_of ys hc
      refine ⟨x, r, ?_, ?_⟩
      · rw [List.filter_cons_of_neg (by rw [c]; decide)]
        exact e1
      · show (if y = 0 then sg ys else _) = _
        rw [if_pos c]
        exact e2
    · refine ⟨y, ys.filter (fun x => x != 0), ?_, ?_⟩
      · rw [List.filter_cons_of_pos (by simpa using c)]
      · show (if y = 0 then sg ys else if 0 < y then 1 else -1) = _
        rw [if_neg c]
section
variable {P : Program} {w : World} {K : PySem.W.Frag} {mg : Str → Option Value} {base : Heap}
theorem ok_law_plain (T : Facts K mg) : FnOk P w K mg base CX0 3 T.f_law_plain T.fd_law_plain ["_law_form_here"] spPrim := by
  have G_law_shared : FnOk P w K mg base CX0 2 T.f_law_shared T.fd_law_shared ["_law_numbers"] spShared := ok_law_shared T
  refine T.F_law_plain.ok sc_law_plain (fun vs H Q E h => ?_) (fun cdv A outer s H vs Q E hr h => ?_)
  · obtain ⟨t, ns, rfl, _⟩ := h
    rfl
  · obtain ⟨t, ns, rfl, ht, hl, hs, q⟩ := h
    refine ⟨_, (PSs.nox (pss_cons (ps_set (i := 1) sc_law_plain.nd rfl (.inr rfl) (pe_call G_law_shared hr (by rfl) T.g_law_shared T.F_law_shared.kp T.b_law_shared .nil pass0 (pa_cons (pv 0) pa_nil)))
    (pss_cons (ps_if (pt_cmpR op_eq (pv 1) pe_int (nomark _))
      (pss_one (ps_ret (pv 0)))
      pss_nil)
    (pss_cons (ps_set (i := 2) sc_law_plain.nd rfl (.inr rfl) (pe_ix ix_list (pe_lc (own := [("_law_entry", 3)]) (g := (gName 3)) (by rfl) sc_law_plain.nd (pi_tup (pv 0)) (blkOk_by (N := N_law_plain) (sc := defScope s_law_plain) (by decide +kernel)) (fun _ _ _ _ _ => (pg_name (i := 3) sc_law_plain.nd rfl (.inl rfl))) (fun _ _ _ _ _ => (pts_one (pt_cmpR op_ne (pv 3) pe_int (nomark _)))) (fun _ _ _ _ _ => (pv 3))) pe_int (fun _ _ => rfl)))
    (pss_one (ps_ret (pe_tupleOf (by rfl) T.z_tuple (pe_lc (own := [("_law_entry", 3)]) (g := (gName 3)) (tt := tYes) (by rfl) sc_law_plain.nd (pi_tup (pv 0)) (blkOk_by (N := N_law_plain) (sc := defScope s_law_plain) (by decide +kernel)) (fun _ _ _ _ _ => (pg_name (i := 3) sc_law_plain.nd rfl (.inl rfl))) (fun _ _ _ _ _ => pts_nil) (fun _ _ _ _ _ => (pe_op op_fdivZ (pv 3) (pe_ifExp (pt_cmpR op_gt (pv 2) pe_int (nomark _)) (pv 1) (pe_op op_sub pe_int (pv 1))))))))))))), ?_⟩
    refine ⟨_, rfl, t, ns, rfl, ht, _, rfl, rfl, _, rfl, ?_⟩
    by_cases c : cont ns = 0
    · rw [decide_eq_true (show V.int ((cont ns : Nat) : Int) = V.int 0 by rw [c]; rfl)]
      refine iteT ⟨_, rfl, q t H (Same.rf H) ?_⟩
      unfold prim
      rw [if_pos (by unfold part; rw [c]; exact Int.zero_mul _)]
      exact ht
    · rw [decide_eq_false fun z => c (Int.natCast_eq_zero.mp (V.int.inj z))]
      obtain ⟨x0, r0, e1, e2⟩ := first_of ns c
      have hpart : part ns = if 0 < x0 then ((cont ns : Nat) : Int) else 0 - ((cont ns : Nat) : Int) := by
        unfold part
        rw [e2]
        split
        · exact Int.mul_one _
        · rw [Int.mul_neg, Int.mul_one, Int.zero_sub]
      have hp0 : part ns ≠ 0 := fun e => c (by rw [← part_abs, e]; rfl)
      have hcd : CDivZ 0 (part ns) := ⟨hp0, Nat.lt_trans (PySem.Flt.log2_lt_of (k := 4000) (by decide) (sm_part hs)) (by decide)⟩
      refine iteF ⟨_, rfl, t, rfl, ⟨_, SqT.of ht⟩, fun D hD => lc_tup (xs := ns.map V.int) (fun j H' => Same H H' ∧ H' D = some (.lst (((ns.take j).filter (fun x => x != 0)).map V.int))) ⟨same_upd0 hD, upd_same⟩ (fun j H' _ hP => SqT.of (hP.1 _ _ ht)) (fun j x H' hx hP => ?_) (fun H1 hP => ?_)⟩
      · obtain ⟨sH, hL⟩ := hP
        obtain ⟨hj, rfl⟩ := int_get hx
        refine ⟨rfl, _, rfl, rfl, _, rfl, ?_⟩
        rw [take_snoc hj, List.filter_append]
        by_cases d : co ns j = 0
        · rw [decide_eq_true (show V.int (co ns j) = V.int 0 by rw [d])]
          refine iteF ⟨sH, ?_⟩
          rw [hL, List.filter_cons_of_neg (by rw [d]; decide), List.filter_nil, List.append_nil]
        · rw [decide_eq_false fun z => d (V.int.inj z)]
          refine iteT ⟨_, rfl, _, hL, ?_, fun b o e => ?_, ?_⟩
          · have h1 := List.length_filter_le (fun x => x != 0) (ns.take j)
            rw [List.length_take] at h1
            rw [List.length_map]
            exact small1000 (by omega)
          · rw [upd_ne (ne_of_none e hD)]
            exact sH _ _ e
          · rw [upd_same, List.filter_cons_of_pos (by simpa using d), List.filter_nil, List.map_append]
            rfl
      · obtain ⟨s1, hL⟩ := hP
        rw [List.length_map, List.take_length, e1] at hL
        refine ⟨D, _, _, .int x0, rfl, rfl, SqL.of hL, atI_nat (j := 0) rfl, ?_⟩
        have ht1 := s1 _ _ ht
        refine ⟨_, rfl, t, rfl, ⟨_, SqT.of ht1⟩, fun D2 hD2 => lc_tup (xs := ns.map V.int) (fun j H' => H' = upd H1 D2 (.lst (tab j fun k => (co ns k).fdiv (part ns)))) rfl (fun j H' _ hP => ?_) (fun j x H' hx hP => ?_) (fun H' hP => ?_)⟩
        · rw [hP]
          exact SqT.of (same_upd0 hD2 _ _ ht1)
        · subst hP
          obtain ⟨hj, rfl⟩ := int_get hx
          refine ⟨rfl, _, rfl, _, rfl, x0, 0, rfl, rfl, _, rfl, ?_⟩
          have fin : ∀ v : Int, v = part ns → True := fun _ _ => True.intro
          by_cases d : 0 < x0
          · rw [decide_eq_true d]
            rw [if_pos d] at hpart
            rw [hpart] at hcd
            refine iteT ⟨_, rfl, _, _, rfl, rfl, hcd, _, upd_same, ?_, ?_⟩
            · rw [tab_len]
              exact small1000 (by omega)
            · rw [upd_upd, ← tab_snoc, hpart]
          · rw [decide_eq_false d]
            rw [if_neg d] at hpart
            rw [hpart] at hcd
            refine iteF ⟨_, rfl, _, _, rfl, rfl, _, _, rfl, rfl, hcd, _, upd_same, ?_, ?_⟩
            · rw [tab_len]
              exact small1000 (by omega)
            · rw [upd_upd, ← tab_snoc, hpart]
        · subst hP
          rw [List.length_map, tab_tb, tb_map (fun x => x.fdiv (part ns)) ns]
          refine .inl ⟨D2, _, rfl, SqL.of upd_same, fun p hp2 => ?_⟩
          refine q p _ (s1.trans ((same_upd0 hD2).trans (same_upd0 hp2))) ?_
          rw [upd_same]
          unfold prim
          rw [if_neg hp0]
end
end K59

set_option Elab.async false
set_option linter.all false
set_option maxRecDepth 100000
set_option maxHeartbeats 4000000
namespace K59
open PySem PySem.Spec PyProof.Rows L2 StX RZ MyR SlX OwnR OwnF EnumT
theorem prim_len (l : List Int) : (prim l).length = l.length := by
  unfold prim
  split
  · rfl
  · rw [List.length_map]
theorem prim_mem {l : List Int} {b : Nat} (h : ∀ x ∈ l, x.natAbs ≤ b) : ∀ x ∈ prim l, x.natAbs ≤ b := by
  intro x hx
  unfold prim at hx
  by_cases c : part l = 0
  · rw [if_pos c] at hx
    exact h x hx
  · rw [if_neg c] at hx
    obtain ⟨y, hy, rfl⟩ := List.mem_map.mp hx
    have hd : part l ∣ y := Int.natAbs_dvd_natAbs.mp (by rw [part_abs]; exact Int.natAbs_dvd_natAbs.mpr (cont_dvd l y hy))
    obtain ⟨k, rfl⟩ := hd
    show ((part l * k).fdiv (part l)).natAbs ≤ b
    rw [Int.mul_fdiv_cancel_left _ c]
    refine Nat.le_trans ?_ (h _ hy)
    rw [Int.natAbs_mul]
    exact Nat.le_mul_of_pos_left _ (Int.natAbs_pos.mpr c)
section
variable {P : Program} {w : World} {K : PySem.W.Frag} {mg : Str → Option Value} {base : Heap}
theorem dc_ne {H : Hp} {d p : Addr} {xs : List V} (hd : Dc H d) (hp : H p = some (.tup xs)) : p ≠ d := fun e => by
  obtain ⟨x, y, z, h⟩ := hd
  rw [e, h] at hp
  cases hp
def spLine : Sp := fun vs H Q _ => ∃ (t : Addr) (u v : Int), vs = [.ref t] ∧ H t = some (tp [u, v]) ∧ ∀ p, H p = none → Q (.ref p) (upd H p (tp [v, 0 - u]))
theorem ok_law_line (T : Facts K mg) : FnOk P w K mg base CX0 1 T.f_law_line T.fd_law_line ["_law_point_here"] spLine := by
  refine T.F_law_line.ok sc_law_line (fun vs H Q E h => ?_) (fun cdv A outer s H vs Q E hr h => ?_)
  · obtain ⟨t, u, v, rfl, _⟩ := h
    rfl
  · obtain ⟨t, u, v, rfl, ht, q⟩ := h
    refine ⟨_, (PSs.nox (pss_one (ps_ret (pe_tup (pa_cons (pe_ix ix_tup (pv 0) pe_int (fun _ _ => rfl)) (pa_cons (pe_op op_sub pe_int (pe_ix ix_tup (pv 0) pe_int (fun _ _ => rfl))) pa_nil)))))), ?_⟩
    exact ⟨_, rfl, t, _, 1, _, rfl, rfl, SqT.of ht, atI_nat (j := 1) rfl, _, rfl, t, _, 0, _, rfl, rfl, SqT.of ht, atI_nat (j := 0) rfl, _, _, rfl, rfl, (by show 2 ≤ sizeLine; decide), fun p hp => q p hp⟩
/-- a drawn point -/
def spPoint : Sp := fun vs H Q _ => ∃ (d : Addr) (m : Nat), vs = [.ref d, .int m] ∧ Dc H d ∧ 1 ≤ m ∧ m ≤ 1000 ∧ ∀ p H' u v, Sx d H H' → Dc H' d → H' p = some (tp [u, v]) → u.natAbs ≤ m → v.natAbs ≤ m → Q (.ref p) H'
theorem ok_law_point (T : Facts K mg) : FnOk P w K mg base CX0 4 T.f_law_point T.fd_law_point ["_law_dice_here", "_law_most"] spPoint := by
  have G_law_near : FnOk P w K mg base CX0 2 T.f_law_near T.fd_law_near ["_law_dice_here", "_law_most"] spNear := ok_law_near T
  have G_law_plain : FnOk P w K mg base CX0 3 T.f_law_plain T.fd_law_plain ["_law_form_here"] spPrim := ok_law_plain T
  refine T.F_law_point.ok sc_law_point (fun vs H Q E h => ?_) (fun cdv A outer s H vs Q E hr h => ?_)
  · obtain ⟨d, m, rfl, _⟩ := h
    rfl
  · obtain ⟨d, m, rfl, hd, h1, h2, q⟩ := h
    refine ⟨_, (PSs.nox (pss_cons (ps_par (i := 2) (j := 3) (by rfl) sc_law_point.nd rfl rfl (by decide) rfl rfl (pa_cons (pe_call G_law_near (hr.mono (by decide)) (by rfl) T.g_law_near T.F_law_near.kp T.b_law_near .nil pass0 (pa_cons (pv 0) (pa_cons (pv 1) pa_nil))) (pa_cons (pe_call G_law_near (hr.mono (by decide)) (by rfl) T.g_law_near T.F_law_near.kp T.b_law_near .nil pass0 (pa_cons (pv 0) (pa_cons (pv 1) pa_nil))) pa_nil)) (by rfl))
    (pss_one (ps_ret (pe_ifExp (pt_cmpR (op_neD (hu64 hr)) (pe_tup (pa_cons (pv 2) (pa_cons (pv 3) pa_nil))) (pe_tup (pa_cons pe_int (pa_cons pe_int pa_nil))) (nomark _)) (pe_call G_law_plain hr (by rfl) T.g_law_plain T.F_law_plain.kp T.b_law_plain .nil pass0 (pa_cons (pe_tup (pa_cons (pv 2) (pa_cons (pv 3) pa_nil))) pa_nil)) (pe_tup (pa_cons pe_int (pa_cons pe_int pa_nil)))))))), ?_⟩
    have e15 : (10 : Int) ^ 15 = 1000000000000000 := by decide
    have z2 : 2 ≤ sizeLine := by decide
    refine ⟨_, rfl, _, rfl, d, m, rfl, hd, by omega, by rw [e15]; omega, fun u H1 u1 u2 s1 d1 => ⟨_, rfl, _, rfl, d, m, rfl, d1, by omega, by rw [e15]; omega, fun v H2 v1 v2 s2 d2 => ⟨_, _, rfl, ?_⟩⟩⟩
    have s12 := s1.trans s2
    refine ⟨_, rfl, _, rfl, z2, fun p1 n1 => gen_upd H2 p1 (tp [u, v]) n1 fun H3 s3 f3 => ⟨z2, fun p2 n2 => gen_upd H3 p2 (tp [0, 0]) n2 fun H4 s4 f4 => ?_⟩⟩
    refine ne_ints (xs := [u, v]) (ys := [0, 0]) (SqT.of (s4 _ _ f3)) (SqT.of f4) ?_
    have d4 := d2.same (s3.trans s4)
    have s14 : Sx d H H4 := s12.trans (Sx.of (s3.trans s4))
    by_cases c : [u, v] = [0, 0]
    · rw [decide_eq_true c]
      refine ⟨_, rfl, iteF ⟨z2, fun p3 n3 => gen_upd H4 p3 (tp [1, 0]) n3 fun H5 s5 f5 => ?_⟩⟩
      exact q p3 H5 1 0 (s14.trans (Sx.of s5)) (d4.same s5) f5 (by show 1 ≤ m; omega) (by show 0 ≤ m; omega)
    · rw [decide_eq_false c]
      refine ⟨_, rfl, iteT ⟨_, rfl, _, rfl, z2, fun p3 n3 => gen_upd H4 p3 (tp [u, v]) n3 fun H5 s5 f5 => ?_⟩⟩
      have hb : ∀ x ∈ [u, v], x.natAbs ≤ m := fun x hx => by
        simp only [List.mem_cons, List.not_mem_nil, or_false] at hx
        rcases hx with e | e <;> rw [e] <;> omega
      refine ⟨p3, [u, v], rfl, f5, by show 2 ≤ 1000; omega, fun x hx => Nat.lt_of_le_of_lt (hb x hx) (Nat.lt_of_le_of_lt h2 (by decide)), fun p H6 s6 hp => ?_⟩
      have hl := prim_len [u, v]
      have hm := prim_mem hb
      generalize prim [u, v] = r at hp hl hm
      match r, hl with
      | [x, y], _ => exact q p H6 x y (s14.trans (Sx.of (s5.trans s6))) (d4.same (s5.trans s6)) hp (hm x (by simp)) (hm y (by simp))
/-- a drawn form -/
def spSmall : Sp := fun vs H Q _ => ∃ (d : Addr) (n m : Nat), vs = [.ref d, .int n, .int m] ∧ Dc H d ∧ n ≤ 40 ∧ m ≤ 1000000000000 ∧ ∀ p H' l, Sx d H H' → Dc H' d → H' p = some (tp l) → l.length = n + 1 → (∀ x ∈ l, x.natAbs ≤ m) → Q (.ref p) H'
theorem ok_law_small_form (T : Facts K mg) : FnOk P w K mg base CX0 3 T.f_law_small_form T.fd_law_small_form ["_law_dice_here", "_law_degree", "_law_most"] spSmall := by
  have G_law_near : FnOk P w K mg base CX0 2 T.f_law_near T.fd_law_near ["_law_dice_here", "_law_most"] spNear := ok_law_near T
  refine T.F_law_small_form.ok sc_law_small_form (fun vs H Q E h => ?_) (fun cdv A outer s H vs Q E hr h => ?_)
  · obtain ⟨d, n, m, rfl, _⟩ := h
    rfl
  · obtain ⟨d, n, m, rfl, hd, hn, hm, q⟩ := h
    refine ⟨_, (PSs.nox (pss_one (ps_ret (pe_tupleOf (by rfl) T.z_tuple (pe_lc (own := [("_law_place", 3)]) (g := (gName 3)) (tt := tYes) (by rfl) sc_law_small_form.nd (pi_range1 (by rfl) T.z_range (pa_cons (pe_op op_add (pv 1) pe_int) pa_nil)) (blkOk_by (N := N_law_small_form) (sc := defScope s_law_small_form) (by decide +kernel)) (fun _ _ _ _ _ => (pg_name (i := 3) sc_law_small_form.nd rfl (.inl rfl))) (fun _ _ _ _ _ => pts_nil) (fun _ _ _ _ _ => (pe_call G_law_near hr (by rfl) T.g_law_near T.F_law_near.kp T.b_law_near .nil pass0 (pa_cons (pv 0) (pa_cons (pv 2) pa_nil))))))))), ?_⟩
    have e15 : (10 : Int) ^ 15 = 1000000000000000 := by decide
    refine ⟨_, rfl, _, _, rfl, rfl, _, rfl, (by show -(2 ^ 62) ≤ (n : Int) + 1; omega), (by show (n : Int) + 1 < 2 ^ 62; omega), fun D hD => lc_range (n := ((n : Int) + 1).toNat) (fun j H' => Sx d H H' ∧ Dc H' d ∧ ∃ l : List Int, H' D = some (.lst (l.map V.int)) ∧ l.length = j ∧ ∀ x ∈ l, x.natAbs ≤ m) ⟨Sx.of (same_upd0 hD), hd.same (same_upd0 hD), [], upd_same, rfl, fun x hx => by cases hx⟩ (fun j H' hj hP => ?_) (fun H' hP => ?_)⟩
    · obtain ⟨sH, dH, l, hL, hl, hb⟩ := hP
      have nD : D ≠ d := hd.ne hD
      refine ⟨rfl, _, rfl, _, rfl, d, m, rfl, dH, by omega, by rw [e15]; omega, fun r H2 r1 r2 s2 d2 => ⟨_, s2 D _ nD hL, ?_, fun b o hb2 e => ?_, ?_, l ++ [r], ?_, ?_, fun x hx => ?_⟩⟩
      · rw [List.length_map]
        exact small1000 (by omega)
      · rw [upd_ne (ne_of_none e hD)]
        exact (sH.trans s2) b o hb2 e
      · obtain ⟨x, y, z, e⟩ := d2
        exact ⟨x, y, z, by rw [upd_ne (Ne.symm nD)]; exact e⟩
      · rw [upd_same, List.map_append]
        rfl
      · rw [List.length_append, hl]
        rfl
      · rcases List.mem_append.mp hx with e | e
        · exact hb x e
        · rw [List.mem_singleton.mp e]
          omega
    · obtain ⟨sH, dH, l, hL, hl, hb⟩ := hP
      refine .inl ⟨D, _, rfl, SqL.of hL, fun p hp2 => ?_⟩
      exact q p _ l (sH.trans (Sx.of (same_upd0 hp2))) (dH.same (same_upd0 hp2)) upd_same (by omega) hb
end
end K59

set_option Elab.async false
set_option linter.all false
set_option maxRecDepth 100000
/-! how large the entries of products are -/
namespace K59
/-- the sum of the first n absolute values -/
def sN : Nat → (Nat → Int) → Nat
  | 0, _ => 0
  | n + 1, f => sN n f + (f n).natAbs
/-- the sum of the absolute values of the entries -/
def nm (l : List Int) : Nat := (l.map Int.natAbs).sum
theorem sN_add (f g : Nat → Int) : ∀ n, sN n (fun k => f k + g k) ≤ sN n f + sN n g
  | 0 => Nat.le_refl _
  | n + 1 => by
    have h1 := sN_add f g n
    have h2 := Int.natAbs_add_le (f n) (g n)
    show sN n (fun k => f k + g k) + (f n + g n).natAbs ≤ sN n f + (f n).natAbs + (sN n g + (g n).natAbs)
    omega
theorem sN_mul (c : Int) (f : Nat → Int) : ∀ n, sN n (fun k => c * f k) = c.natAbs * sN n f
  | 0 => rfl
  | n + 1 => by
    show sN n (fun k => c * f k) + (c * f n).natAbs = c.natAbs * (sN n f + (f n).natAbs)
    rw [sN_mul c f n, Int.natAbs_mul, Nat.mul_add]
theorem sN_sh (f : Nat → Int) : ∀ n, sN n (sh f) ≤ sN n f
  | 0 => Nat.le_refl _
  | 1 => Nat.zero_le _
  | n + 2 => by
    have key : ∀ n, sN (n + 1) (sh f) = sN n f := by
      intro n
      induction n with
      | zero => rfl
      | succ n ih =>
        show sN (n + 1) (sh f) + (f n).natAbs = sN n f + (f n).natAbs
        rw [ih]
    rw [key]
    exact Nat.le_add_right _ _
theorem sN_cv (g : Nat → Int) (n : Nat) : ∀ l : List Int, sN n (cv l g) ≤ nm l * sN n g
  | [] => by
    have : sN n (cv [] g) = 0 := by
      induction n with
      | zero => rfl
      | succ n ih => show sN n (cv [] g) + (0 : Int).natAbs = 0; rw [ih]; rfl
    omega
  | x :: xs => by
    have h1 := sN_cv g n xs
    have e : sN n (cv (x :: xs) g) = sN n (fun k => x * g k + sh (cv xs g) k) := by
      rw [show cv (x :: xs) g = fun k => x * g k + sh (cv xs g) k from funext (cv_cons x xs g)]
    have h2 := sN_add (fun k => x * g k) (sh (cv xs g)) n
    have h3 := sN_sh (cv xs g) n
    rw [e]
    rw [sN_mul] at h2
    show _ ≤ (x.natAbs + nm xs) * sN n g
    rw [Nat.add_mul]
    omega
theorem nm_snoc (l : List Int) (x : Int) : nm (l ++ [x]) = nm l + x.natAbs := by
  unfold nm
  rw [List.map_append, List.sum_append]
  simp
theorem nm_tb (f : Nat → Int) : ∀ n, nm (tb n f) = sN n f
  | 0 => rfl
  | n + 1 => by
    have e : tb (n + 1) f = tb n f ++ [f n] := by
      unfold tb
      rw [List.range_succ, List.map_append]
      rfl
    rw [e, nm_snoc, nm_tb f n]
    rfl
theorem nm_mem : ∀ {l : List Int} {x : Int}, x ∈ l → x.natAbs ≤ nm l
  | y :: ys, x, h => by
    show x.natAbs ≤ y.natAbs + nm ys
    rcases List.mem_cons.mp h with e | e
    · rw [e]; omega
    · have := nm_mem e; omega
theorem sN_co (l : List Int) (n : Nat) : sN n (co l) ≤ nm l := by
  by_cases h : n ≤ l.length
  · have mono : ∀ k, sN n (co l) ≤ sN (n + k) (co l) := by
      intro k
      induction k with
      | zero => exact Nat.le_refl _
      | succ k ih => exact Nat.le_trans ih (Nat.le_add_right _ _)
    have h1 := mono (l.length - n)
    rw [show n + (l.length - n) = l.length by omega] at h1
    rw [← nm_tb (co l) l.length, tb_co] at h1
    exact h1
  · have far : ∀ k, sN (l.length + k) (co l) = sN l.length (co l) := by
      intro k
      induction k with
      | zero => rfl
      | succ k ih =>
        show sN (l.length + k) (co l) + (co l (l.length + k)).natAbs = _
        rw [ih, co_far (by omega)]
        rfl
    have h1 := far (n - l.length)
    rw [show l.length + (n - l.length) = n by omega] at h1
    rw [h1, ← nm_tb (co l) l.length, tb_co]
    exact Nat.le_refl _
theorem nm_ml (l m : List Int) : nm (ml l m) ≤ nm l * nm m := by
  unfold ml
  rw [nm_tb]
  exact Nat.le_trans (sN_cv _ _ l) (Nat.mul_le_mul (Nat.le_refl _) (sN_co m _))
theorem nm_pl : ∀ (l m : List Int), nm (pl l m) ≤ nm l + nm m
  | [], _ => Nat.zero_le _
  | _ :: _, [] => Nat.zero_le _
  | x :: xs, y :: ys => by
    have h1 := nm_pl xs ys
    have h2 := Int.natAbs_add_le x y
    show (x + y).natAbs + nm (pl xs ys) ≤ x.natAbs + nm xs + (y.natAbs + nm ys)
    omega
theorem nm_scale (c : Int) : ∀ l : List Int, nm (l.map (c * ·)) = c.natAbs * nm l
  | [] => rfl
  | x :: xs => by
    show (c * x).natAbs + nm (xs.map (c * ·)) = c.natAbs * (x.natAbs + nm xs)
    rw [nm_scale c xs, Int.natAbs_mul, Nat.mul_add]
theorem nm_le {b : Nat} : ∀ {l : List Int}, (∀ x ∈ l, x.natAbs ≤ b) → nm l ≤ l.length * b
  | [], _ => Nat.zero_le _
  | x :: xs, h => by
    have h1 := nm_le (l := xs) fun y hy => h y (List.mem_cons_of_mem _ hy)
    have h2 := h x List.mem_cons_self
    show x.natAbs + nm xs ≤ (xs.length + 1) * b
    rw [Nat.succ_mul]
    omega
end K59

set_option Elab.async false
set_option linter.all false
set_option maxRecDepth 100000
set_option maxHeartbeats 4000000
namespace K59
open PySem PySem.Spec PyProof.Rows L2 StX RZ MyR SlX OwnR OwnF EnumT
section
variable {P : Program} {w : World} {K : PySem.W.Frag} {mg : Str → Option Value} {base : Heap}
end
end K59

set_option Elab.async false
set_option linter.all false
set_option maxRecDepth 100000
set_option maxHeartbeats 4000000
namespace K59
open PySem PySem.Spec PyProof.Rows L2 StX RZ MyR SlX OwnR OwnF EnumT
/-- the product of the first i rows -/
def allP (ls : List (List Int)) (i : Nat) : List Int := (ls.take i).foldl ml [1]
theorem allP_succ {ls : List (List Int)} {i : Nat} (h : i < ls.length) : allP ls (i + 1) = ml (allP ls i) ls[i] := by
  unfold allP
  rw [List.take_add_one, List.getElem?_eq_getElem h, List.foldl_append]
  rfl
section
variable {P : Program} {w : World} {K : PySem.W.Frag} {mg : Str → Option Value} {base : Heap}
def spAll : Sp := fun vs H Q _ => ∃ (l : Addr) (rs : List Addr) (ls : List (List Int)), vs = [.ref l] ∧ H l = some (.lst (rs.map V.ref)) ∧ rs.length = ls.length ∧ (∀ i (h : i < ls.length) (h' : i < rs.length), H rs[i] = some (tp ls[i]) ∧ Rw ls[i]) ∧ (∀ i, i < ls.length → Rw (allP ls i)) ∧ ∀ p H', Same H H' → H' p = some (tp (allP ls ls.length)) → Q (.ref p) H'
theorem ok_law_all_product (T : Facts K mg) : FnOk P w K mg base CX0 2 T.f_law_all_product T.fd_law_all_product ["_law_forms"] spAll := by
  have G_law_product : FnOk P w K mg base CX0 1 T.f_law_product T.fd_law_product ["_law_one", "_law_other"] spProd := ok_law_product T
  refine T.F_law_all_product.ok sc_law_all_product (fun vs H Q E h => ?_) (fun cdv A outer s H vs Q E hr h => ?_)
  · obtain ⟨l, rs, ls, rfl, _⟩ := h
    rfl
  · obtain ⟨l, rs, ls, rfl, hl, hlen, hrow, hall, q⟩ := h
    refine ⟨_, (PSs.nox (pss_cons (ps_set (i := 1) sc_law_all_product.nd rfl (.inl rfl) (pe_tup (pa_cons pe_int pa_nil)))
    (pss_cons (ps_for PassesOwn.never (by rfl) (pi_list (pv 0)) (pg_name (i := 2) sc_law_all_product.nd rfl (.inl rfl))
      (pss_one (ps_set (i := 1) sc_law_all_product.nd rfl (.inl rfl) (pe_call G_law_product hr (by rfl) T.g_law_product T.F_law_product.kp T.b_law_product .nil pass0 (pa_cons (pv 1) (pa_cons (pv 2) pa_nil))))))
    (pss_one (ps_ret (pv 1)))))), ?_⟩
    refine ⟨(by show 1 ≤ sizeLine; decide), fun p0 n0 => ⟨_, rfl, l, rfl, ⟨_, SqL.of (same_upd0 n0 _ _ hl)⟩, for_list (xs := rs.map V.ref) (fun i σ H' => ∃ r y, σ = [some (.ref l), some (.ref r), y] ∧ Same H H' ∧ H' r = some (tp (allP ls i))) ⟨p0, none, rfl, same_upd0 n0, upd_same⟩ (fun i σ H' _ hP => ?_) (fun i x σ H' hx hP => ?_) (fun σ H' hP => ?_)⟩⟩
    · obtain ⟨r, y, _, sH, _⟩ := hP
      exact SqL.of (sH _ _ hl)
    · obtain ⟨r, y, rfl, sH, hr2⟩ := hP
      rw [List.getElem?_map] at hx
      obtain ⟨b, hb, rfl⟩ := Option.map_eq_some_iff.mp hx
      obtain ⟨h1, e1⟩ := List.getElem?_eq_some_iff.mp hb
      have h2 : i < ls.length := by omega
      obtain ⟨hb2, rb⟩ := hrow i h2 h1
      rw [e1] at hb2
      have ra := hall i h2
      exact ⟨_, rfl, _, rfl, r, b, _, ls[i], rfl, hr2, sH _ _ hb2, ra.ne, rb.ne, ra.len, rb.len, ra.sm, rb.sm, fun p H2 s2 _ hp2 => ⟨p, _, rfl, sH.trans s2, by rw [allP_succ h2]; exact hp2⟩⟩
    · obtain ⟨r, y, rfl, sH, hr2⟩ := hP
      rw [List.length_map, hlen] at hr2
      exact ⟨_, rfl, q r H' sH hr2⟩
end
end K59

set_option Elab.async false
set_option linter.all false
set_option maxRecDepth 100000
/-! the primitive row of a primitive row -/
namespace K59
end K59

set_option Elab.async false
set_option linter.all false
set_option maxRecDepth 100000
/-! sums of rows, rows of 0 -/
namespace K59
theorem zs_one : ∀ xs ys : List Int, zs 1 xs ys = pl xs ys
  | [], _ => rfl
  | _ :: _, [] => rfl
  | x :: xs, y :: ys => by
    show (x + 1 * y) :: zs 1 xs ys = (x + y) :: pl xs ys
    rw [zs_one xs ys, Int.one_mul]
theorem any_cont : ∀ l : List Int, (!l.any (· != 0)) = decide (cont l = 0)
  | [] => rfl
  | x :: xs => by
    have h := any_cont xs
    rw [List.any_cons, Bool.not_or, h]
    by_cases c : x = 0
    · have e : cont (x :: xs) = cont xs := by
        show Nat.gcd x.natAbs (cont xs) = _
        rw [c]
        exact Nat.gcd_zero_left _
      rw [e, c]
      rfl
    · have e : cont (x :: xs) ≠ 0 := fun z => c (cont_zero z x List.mem_cons_self)
      rw [decide_eq_false e]
      have : (x != 0) = true := by simpa using c
      rw [this]
      rfl
end K59

set_option Elab.async false
set_option linter.all false
set_option maxRecDepth 100000
/-! values of forms; a form is told by its values -/
namespace K59
/-- the value at x, y of the first n entries -/
def evF : Nat → (Nat → Int) → Int → Int → Int
  | 0, _, _, _ => 0
  | n + 1, g, x, y => x * evF n g x y + g n * y ^ n
def ev (l : List Int) (x y : Int) : Int := evF l.length (co l) x y
theorem evF_congr {g h : Nat → Int} {x y : Int} : ∀ n, (∀ i, i < n → g i = h i) → evF n g x y = evF n h x y
  | 0, _ => rfl
  | n + 1, e => by
    show x * evF n g x y + g n * y ^ n = x * evF n h x y + h n * y ^ n
    rw [evF_congr n fun i hi => e i (by omega), e n (by omega)]
theorem evF_add (g h : Nat → Int) (x y : Int) : ∀ n, evF n (fun i => g i + h i) x y = evF n g x y + evF n h x y
  | 0 => rfl
  | n + 1 => by
    show x * evF n (fun i => g i + h i) x y + (g n + h n) * y ^ n = (x * evF n g x y + g n * y ^ n) + (x * evF n h x y + h n * y ^ n)
    rw [evF_add g h x y n, Int.mul_add, Int.add_mul]
    omega
theorem evF_mul (c : Int) (g : Nat → Int) (x y : Int) : ∀ n, evF n (fun i => c * g i) x y = c * evF n g x y
  | 0 => by show (0 : Int) = c * 0; rw [Int.mul_zero]
  | n + 1 => by
    show x * evF n (fun i => c * g i) x y + (c * g n) * y ^ n = c * (x * evF n g x y + g n * y ^ n)
    rw [evF_mul c g x y n, Int.mul_add, Int.mul_assoc, ← Int.mul_assoc x c, Int.mul_comm x c, Int.mul_assoc]
theorem evF_sh (g : Nat → Int) (x y : Int) : ∀ n, evF (n + 1) (sh g) x y = y * evF n g x y
  | 0 => by
    show x * 0 + (0 : Int) * y ^ 0 = y * 0
    rw [Int.mul_zero, Int.zero_mul, Int.mul_zero]
    rfl
  | n + 1 => by
    show x * evF (n + 1) (sh g) x y + g n * y ^ (n + 1) = y * (x * evF n g x y + g n * y ^ n)
    rw [evF_sh g x y n, Int.mul_add, Int.pow_succ, ← Int.mul_assoc, Int.mul_comm x y, Int.mul_assoc, Int.mul_comm (y ^ n) y, ← Int.mul_assoc (g n), Int.mul_comm (g n) y, Int.mul_assoc y (g n)]
theorem evF_far {g : Nat → Int} (x y : Int) {n : Nat} (h : ∀ i, n ≤ i → g i = 0) : ∀ k, evF (n + k) g x y = x ^ k * evF n g x y
  | 0 => by rw [Nat.add_zero, Int.pow_zero, Int.one_mul]
  | k + 1 => by
    show x * evF (n + k) g x y + g (n + k) * y ^ (n + k) = _
    rw [evF_far x y h k, h _ (by omega), Int.zero_mul, Int.add_zero, Int.pow_succ, ← Int.mul_assoc, Int.mul_comm x]
theorem evF_zero (x y : Int) : ∀ n, evF n (fun _ => 0) x y = 0
  | 0 => rfl
  | n + 1 => by
    show x * evF n (fun _ => 0) x y + 0 * y ^ n = 0
    rw [evF_zero x y n, Int.mul_zero, Int.zero_mul]
    rfl
theorem ev_ml : ∀ {l m : List Int}, l ≠ [] → m ≠ [] → ∀ x y, ev (ml l m) x y = ev l x y * ev m x y := by
  intro l
  induction l with
  | nil => intro m h; exact absurd rfl h
  | cons a l ih =>
    intro m hl hm x y
    have hM : 0 < m.length := List.length_pos_iff.mpr hm
    have e0 : ev (ml (a :: l) m) x y = evF (l.length + m.length) (cv (a :: l) (co m)) x y := by
      unfold ev
      rw [ml_len, show (a :: l).length + m.length - 1 = l.length + m.length by rw [List.length_cons]; omega]
      exact evF_congr _ fun i _ => co_ml hm i
    rw [e0]
    have e1 : evF (l.length + m.length) (cv (a :: l) (co m)) x y = a * evF (l.length + m.length) (co m) x y + evF (l.length + m.length) (sh (cv l (co m))) x y := by
      rw [← evF_mul, ← evF_add]
      exact evF_congr _ fun i _ => cv_cons a l (co m) i
    rw [e1, show l.length + m.length = m.length + l.length by omega, evF_far x y (fun i hi => co_far hi) l.length]
    have e2 : ev (a :: l) x y = a * x ^ l.length + y * evF l.length (co l) x y := by
      unfold ev
      rw [List.length_cons]
      rw [show evF (l.length + 1) (co (a :: l)) x y = evF (l.length + 1) (fun i => a * (if i = 0 then 1 else 0) + sh (co l) i) x y from evF_congr _ fun i _ => by
        rw [co_cons]
        by_cases h : i = 0
        · rw [if_pos h, if_pos h, Int.mul_one]
        · rw [if_neg h, if_neg h, Int.mul_zero], evF_add, evF_mul, evF_sh]
      congr 1
      congr 1
      have h1 : evF (1 + l.length) (fun i => if i = 0 then (1 : Int) else 0) x y = x ^ l.length * evF 1 (fun i => if i = 0 then (1 : Int) else 0) x y := evF_far x y (n := 1) (fun i hi => if_neg (by omega)) l.length
      rw [show l.length + 1 = 1 + l.length by omega, h1]
      show x ^ l.length * (x * 0 + (if 0 = 0 then 1 else 0) * y ^ 0) = _
      rw [if_pos rfl, Int.mul_zero, Int.pow_zero, Int.mul_one, Int.zero_add, Int.mul_one]
    rw [e2]
    by_cases c : l = []
    · subst c
      show a * (x ^ 0 * evF m.length (co m) x y) + evF (m.length + 0) (sh (cv [] (co m))) x y = (a * x ^ 0 + y * 0) * ev m x y
      rw [show evF (m.length + 0) (sh (cv [] (co m))) x y = evF m.length (fun _ => 0) x y from evF_congr _ fun i _ => by cases i <;> rfl, evF_zero, Int.pow_zero, Int.one_mul, Int.mul_one, Int.mul_zero, Int.add_zero, Int.add_zero]
      rfl
    · have hL : 0 < l.length := List.length_pos_iff.mpr c
      have e3 : evF (m.length + l.length) (sh (cv l (co m))) x y = y * (ev l x y * ev m x y) := by
        rw [show m.length + l.length = (l.length + m.length - 1) + 1 by omega, evF_sh, ← ih c hm x y]
        congr 1
        unfold ev
        rw [ml_len]
        exact evF_congr _ fun i _ => (co_ml hm i).symm
      rw [e3]
      show a * (x ^ l.length * ev m x y) + y * (ev l x y * ev m x y) = (a * x ^ l.length + y * ev l x y) * ev m x y
      rw [Int.add_mul, Int.mul_assoc, Int.mul_assoc]
theorem ev_cons (a : Int) (l : List Int) (x y : Int) : ev (a :: l) x y = a * x ^ l.length + y * ev l x y := by
  unfold ev
  rw [List.length_cons]
  rw [show evF (l.length + 1) (co (a :: l)) x y = evF (l.length + 1) (fun i => a * (if i = 0 then 1 else 0) + sh (co l) i) x y from evF_congr _ fun i _ => by
    rw [co_cons]
    by_cases h : i = 0
    · rw [if_pos h, if_pos h, Int.mul_one]
    · rw [if_neg h, if_neg h, Int.mul_zero], evF_add, evF_mul, evF_sh]
  congr 1
  congr 1
  have h1 : evF (1 + l.length) (fun i => if i = 0 then (1 : Int) else 0) x y = x ^ l.length * evF 1 (fun i => if i = 0 then (1 : Int) else 0) x y := evF_far x y (n := 1) (fun i hi => if_neg (by omega)) l.length
  rw [show l.length + 1 = 1 + l.length by omega, h1]
  show x ^ l.length * (x * 0 + (if 0 = 0 then 1 else 0) * y ^ 0) = _
  rw [if_pos rfl, Int.mul_zero, Int.pow_zero, Int.mul_one, Int.zero_add, Int.mul_one]
/-- only the form with zeros has the value 0 everywhere -/
theorem evF_inj {g : Nat → Int} {M : Int} : ∀ n, (∀ i, i < n → (g i).natAbs < M.natAbs) → evF n g M 1 = 0 → ∀ i, i < n → g i = 0
  | 0, _, _, i, hi => absurd hi (Nat.not_lt_zero i)
  | n + 1, hb, e, i, hi => by
    have e' : M * evF n g M 1 + g n * 1 ^ n = 0 := e
    rw [Int.one_pow, Int.mul_one] at e'
    have hd : M ∣ g n := ⟨-evF n g M 1, by rw [Int.mul_neg]; omega⟩
    have hn : g n = 0 := Int.natAbs_eq_zero.mp (Nat.eq_zero_of_dvd_of_lt (Int.natAbs_dvd_natAbs.mpr hd) (hb n (by omega)))
    have hM : M ≠ 0 := fun z => by
      have := hb n (by omega)
      rw [z] at this
      exact absurd this (by simp)
    rw [hn, Int.add_zero] at e'
    have e2 : evF n g M 1 = 0 := (Int.mul_eq_zero.mp e').resolve_left hM
    by_cases c : i = n
    · rw [c]; exact hn
    · exact evF_inj n (fun j hj => hb j (by omega)) e2 i (by omega)
theorem ev_inj {l m : List Int} (hl : l.length = m.length) (h : ∀ x y, ev l x y = ev m x y) : l = m := by
  refine co_inj hl fun i => ?_
  by_cases c : i < l.length
  · have key := evF_inj (g := fun i => co l i + -1 * co m i) (M := ((nm l + nm m + 1 : Nat) : Int)) l.length (fun i _ => by
      rw [Int.natAbs_natCast]
      have h1 : (co l i).natAbs ≤ nm l := by
        rcases co_mem (l := l) (k := i) with e | e
        · rw [e]; exact Nat.zero_le _
        · exact nm_mem e
      have h2 : (co m i).natAbs ≤ nm m := by
        rcases co_mem (l := m) (k := i) with e | e
        · rw [e]; exact Nat.zero_le _
        · exact nm_mem e
      show (co l i + -1 * co m i).natAbs < _
      omega) (by
      rw [evF_add, evF_mul]
      have := h ((nm l + nm m + 1 : Nat) : Int) 1
      unfold ev at this
      rw [← hl] at this
      rw [this]
      omega) i c
    have key' : co l i + -1 * co m i = 0 := key
    omega
  · rw [co_far (by omega), co_far (by omega)]
end K59

set_option Elab.async false
set_option linter.all false
set_option maxRecDepth 100000
set_option maxHeartbeats 4000000
namespace K59
open PySem PySem.Spec PyProof.Rows L2 StX RZ MyR SlX OwnR OwnF EnumT
/-! ### drawn forms -/
/-- a row of a degree, with its size -/
structure Bd (l : List Int) (n b : Nat) : Prop where
  len : l.length = n + 1
  nm : nm l ≤ b
theorem Bd.ne {l : List Int} {n b : Nat} (h : Bd l n b) : l ≠ [] := fun e => by
  have := h.len
  rw [e] at this
  cases this
theorem Bd.mono {l : List Int} {n b c : Nat} (h : Bd l n b) (k : b ≤ c) : Bd l n c := ⟨h.len, Nat.le_trans h.nm k⟩
theorem Bd.mem {l : List Int} {n b : Nat} (h : Bd l n b) : ∀ x ∈ l, x.natAbs ≤ b := fun x hx => Nat.le_trans (nm_mem hx) h.nm
theorem Bd.rw {l : List Int} {n b : Nat} (h : Bd l n b) (hn : n ≤ 99) (hb : b < 2 ^ 4000) : Rw l := ⟨h.ne, by rw [h.len]; omega, fun x hx => Nat.lt_of_le_of_lt (h.mem x hx) hb⟩
theorem bd_ml {l m : List Int} {n k b c : Nat} (h : Bd l n b) (g : Bd m k c) : Bd (ml l m) (n + k) (b * c) :=
  ⟨by rw [ml_len, h.len, g.len]; omega, Nat.le_trans (nm_ml l m) (Nat.mul_le_mul h.nm g.nm)⟩
theorem bd_one : Bd [1] 0 1 := ⟨rfl, Nat.le_refl _⟩
theorem bd_line {u v : Int} {m : Nat} (hu : u.natAbs ≤ m) (hv : v.natAbs ≤ m) : Bd [v, 0 - u] 1 (2 * m) := ⟨rfl, by
  show v.natAbs + ((0 - u).natAbs + 0) ≤ _
  omega⟩
theorem bd_pair {u v : Int} {m : Nat} (hu : u.natAbs ≤ m) (hv : v.natAbs ≤ m) : Bd [u, v] 1 (2 * m) := ⟨rfl, by
  show u.natAbs + (v.natAbs + 0) ≤ _
  omega⟩
theorem bd_small {l : List Int} {n m : Nat} (hl : l.length = n + 1) (h : ∀ x ∈ l, x.natAbs ≤ m) : Bd l n ((n + 1) * m) := ⟨hl, by
  have := nm_le h
  rw [hl] at this
  exact this⟩
theorem bd_pow {l : List Int} {b : Nat} (h : Bd l 1 b) : ∀ i, Bd (pow l i) i (b ^ i)
  | 0 => bd_one
  | i + 1 => by
    rw [Nat.pow_succ]
    exact bd_ml (bd_pow h i) h
theorem bd_all {ls : List (List Int)} {b : Nat} (h : ∀ l ∈ ls, Bd l 1 b) : ∀ i, i ≤ ls.length → Bd (allP ls i) i (b ^ i)
  | 0, _ => bd_one
  | i + 1, hi => by
    rw [Nat.pow_succ, allP_succ hi]
    exact bd_ml (bd_all h i (by omega)) (h _ (List.getElem_mem hi))
theorem bd_zs {l m : List Int} {n b c : Nat} (h : Bd l n b) (g : Bd m n c) : Bd (zs 1 l m) n (b + c) := by
  rw [zs_one]
  exact ⟨by rw [pl_len (by rw [h.len, g.len]), h.len], Nat.le_trans (nm_pl l m) (Nat.add_le_add h.nm g.nm)⟩
theorem bd_scale {l : List Int} {n b d : Nat} {c : Int} (h : Bd l n b) (hc : c.natAbs ≤ d) : Bd (l.map (c * ·)) n (d * b) := ⟨by rw [List.length_map, h.len], by
  rw [nm_scale]
  exact Nat.mul_le_mul hc h.nm⟩
theorem p6 {i : Nat} (h : i ≤ 8) : 6 ^ i ≤ 1679616 := Nat.le_trans (Nat.pow_le_pow_right (by decide) h) (by decide)
theorem iteI {i j : Int} {A B : Prop} (h1 : i = j → A) (h2 : i ≠ j → B) : if decide (V.int i = V.int j) = true then A else B := by
  by_cases h : i = j
  · rw [decide_eq_true (by rw [h])]
    exact iteT (h1 h)
  · rw [decide_eq_false fun z => h (V.int.inj z)]
    exact iteF (h2 h)
section
variable {P : Program} {w : World} {K : PySem.W.Frag} {mg : Str → Option Value} {base : Heap}
def spDrawn : Sp := fun vs H Q _ => ∃ (d : Addr) (n : Nat), vs = [.ref d, .int n] ∧ Dc H d ∧ n ≤ 8 ∧ ∀ p H' l, Sx d H H' → Dc H' d → H' p = some (tp l) → Bd l n (10 ^ 14) → Q (.ref p) H'
theorem ok_law_form (T : Facts K mg) : FnOk P w K mg base CX0 5 T.f_law_form T.fd_law_form ["_law_dice_here", "_law_degree"] spDrawn := by
  have G_law_roll : FnOk P w K mg base CX0 1 T.f_law_roll T.fd_law_roll ["_law_dice_here", "_law_total"] spRoll2 := (ok_law_roll T).imp roll2
  have G_law_near : FnOk P w K mg base CX0 2 T.f_law_near T.fd_law_near ["_law_dice_here", "_law_most"] spNear := ok_law_near T
  have G_law_plus := ok_law_plus (P := P) (w := w) (base := base) T
  have G_law_scaled := ok_law_scaled (P := P) (w := w) (base := base) T
  have G_law_product := ok_law_product (P := P) (w := w) (base := base) T
  have G_law_all_product := ok_law_all_product (P := P) (w := w) (base := base) T
  have G_law_power := ok_law_power (P := P) (w := w) (base := base) T
  have G_law_line := ok_law_line (P := P) (w := w) (base := base) T
  have G_law_point := ok_law_point (P := P) (w := w) (base := base) T
  have G_law_small_form := ok_law_small_form (P := P) (w := w) (base := base) T
  refine T.F_law_form.ok sc_law_form (fun vs H Q E h => ?_) (fun cdv A outer s H vs Q E hr h => ?_)
  · obtain ⟨d, n, rfl, _⟩ := h
    rfl
  · obtain ⟨d, n, rfl, hd, hn, q⟩ := h
    have e15 : (10 : Int) ^ 15 = 1000000000000000 := by decide
    have e14 : (10 : Nat) ^ 14 = 100000000000000 := by decide
    rw [e14] at q
    have lg : ∀ i : Nat, i < 100 → (i : Int).natAbs.log2 < 9000 := fun i hi => Nat.lt_trans (PySem.Flt.log2_lt_of (k := 10) (by decide) (by show i < 2 ^ 10; omega)) (by decide)
    refine ⟨_, (PSs.nox (pss_cons (ps_set (i := 2) sc_law_form.nd rfl (.inl rfl) (pe_call G_law_roll (hr.mono (by decide)) (by rfl) T.g_law_roll T.F_law_roll.kp T.b_law_roll .nil pass0 (pa_cons (pv 0) (pa_cons pe_int pa_nil))))
    (pss_cons (ps_if (pt_cmpR op_eq (pv 2) pe_int (nomark _))
      (pss_one (ps_ret (pe_call G_law_all_product (hr.mono (by decide)) (by rfl) T.g_law_all_product T.F_law_all_product.kp T.b_law_all_product .nil pass0 (pa_cons (pe_lc (own := [("_law_turn", 3)]) (g := (gName 3)) (tt := tYes) (by rfl) sc_law_form.nd (pi_range1 (by rfl) T.z_range (pa_cons (pv 1) pa_nil)) (blkOk_by (N := N_law_form) (sc := defScope s_law_form) (by decide +kernel)) (fun _ _ _ _ _ => (pg_name (i := 3) sc_law_form.nd rfl (.inl rfl))) (fun _ _ _ _ _ => pts_nil) (fun _ _ _ _ _ => (pe_call G_law_line (hr.mono (by decide)) (by rfl) T.g_law_line T.F_law_line.kp T.b_law_line .nil pass0 (pa_cons (pe_call G_law_point hr (by rfl) T.g_law_point T.F_law_point.kp T.b_law_point .nil pass0 (pa_cons (pv 0) (pa_cons pe_int pa_nil))) pa_nil)))) pa_nil))))
      pss_nil)
    (pss_cons (ps_if (pt_cmpR op_eq (pv 2) pe_int (nomark _))
      (pss_cons (ps_par (i := 4) (j := 5) (by rfl) sc_law_form.nd rfl rfl (by decide) rfl rfl (pa_cons (pe_call G_law_line (hr.mono (by decide)) (by rfl) T.g_law_line T.F_law_line.kp T.b_law_line .nil pass0 (pa_cons (pe_call G_law_point hr (by rfl) T.g_law_point T.F_law_point.kp T.b_law_point .nil pass0 (pa_cons (pv 0) (pa_cons pe_int pa_nil))) pa_nil)) (pa_cons (pe_call G_law_roll (hr.mono (by decide)) (by rfl) T.g_law_roll T.F_law_roll.kp T.b_law_roll .nil pass0 (pa_cons (pv 0) (pa_cons (pe_op op_add (pv 1) pe_int) pa_nil))) pa_nil)) (by rfl))
      (pss_one (ps_ret (pe_call G_law_product (hr.mono (by decide)) (by rfl) T.g_law_product T.F_law_product.kp T.b_law_product .nil pass0 (pa_cons (pe_call G_law_power (hr.mono (by decide)) (by rfl) T.g_law_power T.F_law_power.kp T.b_law_power .nil pass0 (pa_cons (pv 4) (pa_cons (pv 5) pa_nil))) (pa_cons (pe_call G_law_small_form (hr.mono (by decide)) (by rfl) T.g_law_small_form T.F_law_small_form.kp T.b_law_small_form .nil pass0 (pa_cons (pv 0) (pa_cons (pe_op op_sub (pv 1) (pv 5)) (pa_cons pe_int pa_nil)))) pa_nil))))))
      pss_nil)
    (pss_cons (ps_if (pt_cmpR op_eq (pv 2) pe_int (nomark _))
      (pss_cons (ps_set (i := 6) sc_law_form.nd rfl (.inl rfl) (pe_tupleOf (by rfl) T.z_tuple (pe_lc (own := [("_law_place", 7)]) (g := (gName 7)) (tt := tYes) (by rfl) sc_law_form.nd (pi_range1 (by rfl) T.z_range (pa_cons (pe_op op_add (pv 1) pe_int) pa_nil)) (blkOk_by (N := N_law_form) (sc := defScope s_law_form) (by decide +kernel)) (fun _ _ _ _ _ => (pg_name (i := 7) sc_law_form.nd rfl (.inl rfl))) (fun _ _ _ _ _ => pts_nil) (fun _ _ _ _ _ => pe_int))))
      (pss_cons (ps_for PassesOwn.never (by rfl) (pi_range1 (by rfl) T.z_range (pa_cons (pe_op op_add pe_int (pe_call G_law_roll (hr.mono (by decide)) (by rfl) T.g_law_roll T.F_law_roll.kp T.b_law_roll .nil pass0 (pa_cons (pv 0) (pa_cons pe_int pa_nil)))) pa_nil)) (pg_name (i := 3) sc_law_form.nd rfl (.inl rfl))
        (pss_one (ps_set (i := 6) sc_law_form.nd rfl (.inl rfl) (pe_call G_law_plus (hr.mono (by decide)) (by rfl) T.g_law_plus T.F_law_plus.kp T.b_law_plus .nil pass0 (pa_cons (pv 6) (pa_cons (pe_call G_law_scaled (hr.mono (by decide)) (by rfl) T.g_law_scaled T.F_law_scaled.kp T.b_law_scaled .nil pass0 (pa_cons (pe_call G_law_power (hr.mono (by decide)) (by rfl) T.g_law_power T.F_law_power.kp T.b_law_power .nil pass0 (pa_cons (pe_call G_law_point hr (by rfl) T.g_law_point T.F_law_point.kp T.b_law_point .nil pass0 (pa_cons (pv 0) (pa_cons pe_int pa_nil))) (pa_cons (pv 1) pa_nil))) (pa_cons (pe_call G_law_near (hr.mono (by decide)) (by rfl) T.g_law_near T.F_law_near.kp T.b_law_near .nil pass0 (pa_cons (pv 0) (pa_cons pe_int pa_nil))) pa_nil))) pa_nil))))))
      (pss_one (ps_ret (pv 6)))))
      pss_nil)
    (pss_cons (ps_if (pt_cmpR op_eq (pv 2) pe_int (nomark _))
      (pss_one (ps_ret (pe_tupleOf (by rfl) T.z_tuple (pe_lc (own := [("_law_place", 7)]) (g := (gName 7)) (tt := tYes) (by rfl) sc_law_form.nd (pi_range1 (by rfl) T.z_range (pa_cons (pe_op op_add (pv 1) pe_int) pa_nil)) (blkOk_by (N := N_law_form) (sc := defScope s_law_form) (by decide +kernel)) (fun _ _ _ _ _ => (pg_name (i := 7) sc_law_form.nd rfl (.inl rfl))) (fun _ _ _ _ _ => pts_nil) (fun _ _ _ _ _ => (pe_op op_mulW (pe_call G_law_near (hr.mono (by decide)) (by rfl) T.g_law_near T.F_law_near.kp T.b_law_near .nil pass0 (pa_cons (pv 0) (pa_cons pe_int pa_nil))) (pe_call G_law_roll (hr.mono (by decide)) (by rfl) T.g_law_roll T.F_law_roll.kp T.b_law_roll .nil pass0 (pa_cons (pv 0) (pa_cons pe_int pa_nil)))))))))
      pss_nil)
    (pss_cons (ps_if (pw_and (pt_cmpR op_eq (pv 2) pe_int (nomark _)) (pw_and1 (pt_cmpR op_eq (pe_call G_law_roll (hr.mono (by decide)) (by rfl) T.g_law_roll T.F_law_roll.kp T.b_law_roll .nil pass0 (pa_cons (pv 0) (pa_cons pe_int pa_nil))) pe_int (nomark _)))).pt
      (pss_one (ps_ret (pe_tupleOf (by rfl) T.z_tuple (pe_lc (own := [("_law_place", 7)]) (g := (gName 7)) (tt := tYes) (by rfl) sc_law_form.nd (pi_range1 (by rfl) T.z_range (pa_cons (pe_op op_add (pv 1) pe_int) pa_nil)) (blkOk_by (N := N_law_form) (sc := defScope s_law_form) (by decide +kernel)) (fun _ _ _ _ _ => (pg_name (i := 7) sc_law_form.nd rfl (.inl rfl))) (fun _ _ _ _ _ => pts_nil) (fun _ _ _ _ _ => (pe_call G_law_near (hr.mono (by decide)) (by rfl) T.g_law_near T.F_law_near.kp T.b_law_near .nil pass0 (pa_cons (pv 0) (pa_cons (pe_op op_pow pe_int pe_int) pa_nil))))))))
      pss_nil)
    (pss_one (ps_ret (pe_call G_law_small_form (hr.mono (by decide)) (by rfl) T.g_law_small_form T.F_law_small_form.kp T.b_law_small_form .nil pass0 (pa_cons (pv 0) (pa_cons (pv 1) (pa_cons pe_int pa_nil))))))))))))), ?_⟩
    refine ⟨_, rfl, d, 6, rfl, hd, by decide, lg 6 (by decide), fun r H1 hr1 s1 d1 => ⟨_, rfl, rfl, _, rfl, iteI (fun _ => ?_) (fun r0 => ⟨_, rfl, rfl, _, rfl, iteI (fun _ => ?_) (fun r1 => ⟨_, rfl, rfl, _, rfl, iteI (fun _ => ?_) (fun r2 => ⟨_, rfl, rfl, _, rfl, iteI (fun _ => ?_) (fun r3 => ?_)⟩)⟩)⟩)⟩⟩
    · -- lines
      refine ⟨_, rfl, n, rfl, by omega, by omega, fun D hD => lc_range (n := (n : Int).toNat) (fun j H' => Sx d H H' ∧ Dc H' d ∧ ∃ (rs : List Addr) (ls : List (List Int)), H' D = some (.lst (rs.map V.ref)) ∧ rs.length = j ∧ ls.length = j ∧ (∀ i (h : i < ls.length) (h' : i < rs.length), H' rs[i] = some (tp ls[i])) ∧ ∀ l ∈ ls, Bd l 1 6) ⟨s1.trans (Sx.of (same_upd0 hD)), d1.same (same_upd0 hD), [], [], upd_same, rfl, rfl, fun i h _ => absurd h (Nat.not_lt_zero i), fun l h => (nomatch h)⟩ (fun j H' hj hP => ?_) (fun H' hP => ?_)⟩
      · obtain ⟨sH, dH, rs, ls, hL, hl1, hl2, hr, hb⟩ := hP
        refine ⟨rfl, _, rfl, d, 3, rfl, dH, by decide, by decide, fun p H2 u v s2 d2 hp hu hv => ⟨p, u, v, rfl, hp, fun p2 n2 => gen_upd H2 p2 _ n2 fun H3 s3 f3 => ?_⟩⟩
        have nD : D ≠ d := d1.ne hD
        have hL3 := s3 _ _ (s2 D _ nD hL)
        have dD : ∀ a l, H3 a = some (tp l) → a ≠ D := fun a l e z => by
          rw [z, hL3] at e
          cases e
        have d3 := d2.same s3
        refine ⟨_, hL3, by rw [List.length_map, hl1]; exact small1000 (by omega), fun b o hb2 e => ?_, ?_, rs ++ [p2], ls ++ [[v, 0 - u]], by rw [upd_same, List.map_append]; rfl, by rw [List.length_append, hl1]; rfl, by rw [List.length_append, hl2]; rfl, fun i h h' => ?_, fun l hl => ?_⟩
        · rw [upd_ne (ne_of_none (s1 b o hb2 e) hD)]
          exact s3 _ _ (s2 b o hb2 (sH b o hb2 e))
        · obtain ⟨x, y, z, e⟩ := d3
          exact ⟨x, y, z, by rw [upd_ne (Ne.symm nD)]; exact e⟩
        · by_cases c : i < ls.length
          · have e1 : (rs ++ [p2])[i] = rs[i]'(by omega) := List.getElem_append_left _
            have e2 : (ls ++ [[v, 0 - u]])[i] = ls[i] := List.getElem_append_left _
            rw [e1, e2]
            have e3 := s3 _ _ (s2 _ _ (dc_ne dH (hr i c (by omega))) (hr i c (by omega)))
            rw [upd_ne (dD _ _ e3)]
            exact e3
          · have ei : i = ls.length := by rw [List.length_append] at h; simp at h; omega
            subst ei
            have e1 : (rs ++ [p2])[ls.length] = p2 := by rw [List.getElem_append_right (by omega)]; simp [hl1, hl2]
            have e2 : (ls ++ [[v, 0 - u]])[ls.length] = [v, 0 - u] := by rw [List.getElem_append_right (by omega)]; simp
            rw [e1, e2, upd_ne (dD _ _ f3)]
            exact f3
        · rcases List.mem_append.mp hl with e | e
          · exact hb l e
          · rw [List.mem_singleton.mp e]
            exact bd_line hu hv
      · obtain ⟨sH, dH, rs, ls, hL, hl1, hl2, hr, hb⟩ := hP
        have hnn : ls.length = n := by omega
        refine ⟨D, rs, ls, rfl, hL, by omega, fun i h h' => ⟨hr i h h', (hb _ (List.getElem_mem h)).rw (by omega) (by decide)⟩, fun i hi => (bd_all hb i (by omega)).rw (by omega) (Nat.lt_of_le_of_lt (p6 (by omega)) (by decide)), fun p H3 s3 f3 => q p H3 _ (sH.trans (Sx.of s3)) (dH.same s3) f3 ?_⟩
        rw [hnn]
        exact (bd_all hb n (by omega)).mono (Nat.le_trans (p6 hn) (by decide))
    · -- a power of a line, times
      refine ⟨_, rfl, d, 3, rfl, d1, by decide, by decide, fun p H2 u v s2 d2 hp hu hv => ⟨p, u, v, rfl, hp, fun p2 n2 => gen_upd H2 p2 _ n2 fun H3 s3 f3 => ⟨_, rfl, _, rfl, _, _, rfl, rfl, ?_⟩⟩⟩
      have d3 := d2.same s3
      refine ⟨d, _, rfl, d3, by omega, lg (n + 1) (by omega), fun k H4 hk s4 d4 => ⟨_, _, rfl, ?_⟩⟩
      have hk' : k ≤ n := by have : (k : Int) < (n : Int) + 1 := hk; omega
      have f4 := s4 _ _ (dc_ne d3 f3) f3
      have bl : Bd [v, 0 - u] 1 6 := bd_line hu hv
      refine ⟨_, rfl, _, rfl, p2, _, k, rfl, f4, bl.ne, by show 2 ≤ 100; decide, fun x hx => (bl.rw (by decide) (Nat.lt_of_lt_of_le (show 6 < 2 ^ 4 by decide) (Nat.pow_le_pow_right (by decide) (by decide)))).sm x hx, fun i hi => ?_, by omega, fun p5 H5 s5 f5 => ?_⟩
      · have := (bd_pow bl i).rw (by omega) (Nat.lt_of_le_of_lt (p6 (by omega)) (by decide))
        exact ⟨this.ne, this.len, this.sm⟩
      · have d5 := d4.same s5
        refine ⟨_, rfl, _, rfl, _, rfl, _, _, rfl, rfl, d, n - k, 4, by show [V.ref d, V.int ((n : Int) - (k : Int)), V.int 4] = [V.ref d, V.int ((n - k : Nat) : Int), V.int 4]; rw [Int.ofNat_sub hk'], d5, by omega, by decide, fun p6' H6 l6 s6 d6 f6 hl6 hm6 => ?_⟩
        have f5' := s6 _ _ (dc_ne d5 f5) f5
        have b1 := bd_pow bl k
        have b2 := bd_small hl6 hm6
        have r1 := b1.rw (by omega) (Nat.lt_of_le_of_lt (p6 (by omega)) (by decide))
        have r2 := b2.rw (by omega) (Nat.lt_of_le_of_lt (show (n - k + 1) * 4 ≤ 36 by omega) (by decide))
        refine ⟨p5, p6', _, l6, rfl, f5', f6, r1.ne, r2.ne, r1.len, r2.len, r1.sm, r2.sm, fun p7 H7 s7 _ f7 => q p7 H7 _ ((((s1.trans s2).trans (Sx.of s3)).trans s4).trans (((Sx.of s5).trans s6).trans (Sx.of s7))) (d6.same s7) f7 ?_⟩
        have b3 := bd_ml b1 b2
        rw [show k + (n - k) = n by omega] at b3
        exact b3.mono (Nat.le_trans (Nat.mul_le_mul (p6 (by omega)) (show (n - k + 1) * 4 ≤ 36 by omega)) (by decide))
    · -- sums of powers
      refine ⟨_, rfl, _, _, rfl, rfl, _, rfl, by show -(2 ^ 62) ≤ (n : Int) + 1; omega, by show (n : Int) + 1 < 2 ^ 62; omega, fun D hD => lc_range (n := ((n : Int) + 1).toNat) (fun j H' => H' = upd H1 D (.lst (tab j fun _ => 0))) rfl (fun j H' hj hP => ?_) (fun H' hP => ?_)⟩
      · subst hP
        refine ⟨rfl, ⟨_, upd_same, by rw [tab_len]; exact small1000 (by omega), ?_⟩⟩
        rw [upd_upd, ← tab_snoc]
      · subst hP
        rw [show ((n : Int) + 1).toNat = n + 1 by omega, tab_tb]
        refine .inl ⟨D, _, rfl, SqL.of upd_same, fun p hp => gen_upd (upd H1 D _) p _ hp fun H2 s2 f2 => ?_⟩
        have s02 := (same_upd0 (o := HO.lst ((tb (n + 1) fun _ => 0).map V.int)) hD).trans s2
        have d2 := d1.same s02
        have b0 : Bd (tb (n + 1) fun _ => 0) n 0 := ⟨tb_len _ _, by
          rw [nm_tb]
          have : ∀ k, sN k (fun _ => 0) = 0 := by
            intro k
            induction k with
            | zero => rfl
            | succ k ih => show sN k (fun _ => 0) + 0 = 0; rw [ih]
          rw [this]
          exact Nat.le_refl _⟩
        refine ⟨_, rfl, d, 3, rfl, d2, by decide, lg 3 (by decide), fun k H3 hk s3 d3 => ⟨_, _, rfl, rfl, _, rfl, by omega, by omega, ?_⟩⟩
        have f3 := s3 _ _ (dc_ne d2 f2) f2
        have hk3 : (k : Int) < 3 := hk
        refine for_range (n := (1 + (k : Int)).toNat) (fun i σ H' => ∃ r y3 y4 y5 y7 l, σ = [some (.ref d), some (.int n), some (.int (r : Int)), y3, y4, y5, some (.ref y7), none] ∧ Sx d H1 H' ∧ Dc H' d ∧ H' y7 = some (tp l) ∧ Bd l n (i * 6718464)) ⟨_, _, _, _, _, _, rfl, (Sx.of s02).trans s3, d3, f3, b0.mono (Nat.zero_le _)⟩ (fun i σ H' hi hP => ?_) (fun σ H' hP => ?_)
        · obtain ⟨r', y3, y4, y5, y7, l, rfl, sH, dH, hl, bl⟩ := hP
          refine ⟨_, rfl, _, rfl, d, 3, rfl, dH, by decide, by decide, fun p4 H4 u v s4 d4 h4 hu hv => ⟨_, rfl, ?_⟩⟩
          have bp : Bd [u, v] 1 6 := bd_pair hu hv
          refine ⟨p4, _, n, rfl, h4, bp.ne, by show 2 ≤ 100; decide, fun x hx => (bp.rw (by decide) (Nat.lt_of_lt_of_le (show 6 < 2 ^ 4 by decide) (Nat.pow_le_pow_right (by decide) (by decide)))).sm x hx, fun i hi => ?_, by omega, fun p5 H5 s5 f5 => ?_⟩
          · have := (bd_pow bp i).rw (by omega) (Nat.lt_of_le_of_lt (p6 (by omega)) (by decide))
            exact ⟨this.ne, this.len, this.sm⟩
          · have d5 := d4.same s5
            have b5 := bd_pow bp n
            have r5 := b5.rw (by omega) (Nat.lt_of_le_of_lt (p6 (by omega)) (by decide))
            refine ⟨_, rfl, d, 4, rfl, d5, by decide, by rw [e15]; decide, fun c H6 c1 c2 s6 d6 => ?_⟩
            have f6 := s6 _ _ (dc_ne d5 f5) f5
            refine ⟨p5, _, c, rfl, f6, r5.len, r5.sm, Nat.lt_of_le_of_lt (show c.natAbs ≤ 4 by omega) (by decide), fun p7 H7 s7 _ f7 => ?_⟩
            have b7 := bd_scale (d := 4) b5 (show c.natAbs ≤ 4 by omega)
            have hl7 := s7 _ _ (s6 _ _ (dc_ne d5 (s5 _ _ (s4 _ _ (dc_ne dH hl) hl))) (s5 _ _ (s4 _ _ (dc_ne dH hl) hl)))
            refine ⟨_, p7, l, _, rfl, hl7, f7, by rw [bl.len, b7.len], by rw [bl.len]; omega, fun p8 H8 s8 _ f8 => ⟨_, _, _, _, p8, _, rfl, ((sH.trans s4).trans ((Sx.of s5).trans s6)).trans ((Sx.of s7).trans (Sx.of s8)), (d6.same s7).same s8, f8, (bd_zs bl b7).mono ?_⟩⟩
            have : 4 * 6 ^ n ≤ 4 * 1679616 := Nat.mul_le_mul (Nat.le_refl _) (p6 hn)
            rw [Nat.succ_mul]
            omega
        · obtain ⟨r', y3, y4, y5, y7, l, rfl, sH, dH, hl, bl⟩ := hP
          exact ⟨_, rfl, q y7 H' l (s1.trans sH) dH hl (bl.mono (by omega))⟩
    · -- some entries, some zeros
      refine ⟨_, rfl, _, _, rfl, rfl, _, rfl, by show -(2 ^ 62) ≤ (n : Int) + 1; omega, by show (n : Int) + 1 < 2 ^ 62; omega, fun D hD => lc_range (n := ((n : Int) + 1).toNat) (fun j H' => Sx d H1 H' ∧ Dc H' d ∧ ∃ l : List Int, H' D = some (.lst (l.map V.int)) ∧ l.length = j ∧ ∀ x ∈ l, x.natAbs ≤ 3) ⟨Sx.of (same_upd0 hD), d1.same (same_upd0 hD), [], upd_same, rfl, fun x hx => by cases hx⟩ (fun j H' hj hP => ?_) (fun H' hP => ?_)⟩
      · obtain ⟨sH, dH, l, hL, hl, hb⟩ := hP
        have nD : D ≠ d := d1.ne hD
        refine ⟨rfl, _, rfl, d, 3, rfl, dH, by decide, by rw [e15]; decide, fun c H2 c1 c2 s2 d2 => ⟨_, rfl, d, 2, rfl, d2, by decide, lg 2 (by decide), fun k H3 hk s3 d3 => ⟨_, _, rfl, rfl, sm_mul (Nat.lt_of_le_of_lt (show c.natAbs ≤ 3 by omega) (by decide)) (Nat.lt_of_le_of_lt (show ((k : Nat) : Int).natAbs ≤ 2 by have : (k : Int) < 2 := hk; omega) (by decide)), _, s3 D _ nD (s2 D _ nD hL), ?_, fun b o hb2 e => ?_, ?_, l ++ [c * (k : Int)], ?_, ?_, fun x hx => ?_⟩⟩⟩
        · rw [List.length_map]
          exact small1000 (by omega)
        · rw [upd_ne (ne_of_none e hD)]
          exact (sH.trans (s2.trans s3)) b o hb2 e
        · obtain ⟨x, y, z, e⟩ := d3
          exact ⟨x, y, z, by rw [upd_ne (Ne.symm nD)]; exact e⟩
        · rw [upd_same, List.map_append]
          rfl
        · rw [List.length_append, hl]
          rfl
        · rcases List.mem_append.mp hx with e | e
          · exact hb x e
          · rw [List.mem_singleton.mp e]
            have hk2 : (k : Int) < 2 := hk
            rw [Int.natAbs_mul]
            have := Nat.mul_le_mul (show c.natAbs ≤ 3 by omega) (show ((k : Nat) : Int).natAbs ≤ 1 by omega)
            omega
      · obtain ⟨sH, dH, l, hL, hl, hb⟩ := hP
        refine .inl ⟨D, _, rfl, SqL.of hL, fun p hp2 => ?_⟩
        exact q p _ l (s1.trans (sH.trans (Sx.of (same_upd0 hp2)))) (dH.same (same_upd0 hp2)) upd_same ((bd_small (n := n) (by omega) hb).mono (Nat.le_trans (Nat.mul_le_mul (show n + 1 ≤ 9 by omega) (Nat.le_refl _)) (by decide)))
    · -- great entries, or small ones
      have small : ∀ H2, Sx d H H2 → Dc H2 d → spSmall [V.ref d, V.int (n : Int), V.int 6] H2 Q E0 := fun H2 s2 d2 => ⟨d, n, 6, rfl, d2, by omega, by decide, fun p H3 l s3 d3 f3 hl hm => q p H3 l (s2.trans s3) d3 f3 ((bd_small hl hm).mono (by omega))⟩
      refine ⟨_, rfl, rfl, _, rfl, iteI (fun _ => ?_) (fun _ => ?_)⟩
      · refine ⟨_, rfl, d, 4, rfl, d1, by decide, lg 4 (by decide), fun k H2 hk s2 d2 => ⟨rfl, _, rfl, iteI (fun _ => ?_) (fun _ => ?_)⟩⟩
        · -- great entries
          refine ⟨_, rfl, _, _, rfl, rfl, _, rfl, by show -(2 ^ 62) ≤ (n : Int) + 1; omega, by show (n : Int) + 1 < 2 ^ 62; omega, fun D hD => lc_range (n := ((n : Int) + 1).toNat) (fun j H' => Sx d H2 H' ∧ Dc H' d ∧ ∃ l : List Int, H' D = some (.lst (l.map V.int)) ∧ l.length = j ∧ ∀ x ∈ l, x.natAbs ≤ 1000000000000) ⟨Sx.of (same_upd0 hD), d2.same (same_upd0 hD), [], upd_same, rfl, fun x hx => by cases hx⟩ (fun j H' hj hP => ?_) (fun H' hP => ?_)⟩
          · obtain ⟨sH, dH, l, hL, hl, hb⟩ := hP
            have nD : D ≠ d := d2.ne hD
            refine ⟨rfl, _, rfl, 10, 12, rfl, rfl, ⟨by decide, by decide, by decide⟩, d, 1000000000000, rfl, dH, by decide, by rw [e15]; decide, fun r H2 r1 r2 s2 d2 => ⟨_, s2 D _ nD hL, ?_, fun b o hb2 e => ?_, ?_, l ++ [r], ?_, ?_, fun x hx => ?_⟩⟩
            · rw [List.length_map]
              exact small1000 (by omega)
            · rw [upd_ne (ne_of_none e hD)]
              exact (sH.trans s2) b o hb2 e
            · obtain ⟨x, y, z, e⟩ := d2
              exact ⟨x, y, z, by rw [upd_ne (Ne.symm nD)]; exact e⟩
            · rw [upd_same, List.map_append]
              rfl
            · rw [List.length_append, hl]
              rfl
            · rcases List.mem_append.mp hx with e | e
              · exact hb x e
              · rw [List.mem_singleton.mp e]
                omega
          · obtain ⟨sH, dH, l, hL, hl, hb⟩ := hP
            refine .inl ⟨D, _, rfl, SqL.of hL, fun p hp2 => ?_⟩
            exact q p _ l ((s1.trans s2).trans (sH.trans (Sx.of (same_upd0 hp2)))) (dH.same (same_upd0 hp2)) upd_same ((bd_small (n := n) (by omega) hb).mono (Nat.le_trans (Nat.mul_le_mul (show n + 1 ≤ 9 by omega) (Nat.le_refl _)) (by decide)))
        · exact ⟨_, rfl, _, rfl, small H2 (s1.trans s2) d2⟩
      · exact ⟨_, rfl, _, rfl, small H1 s1 d1⟩
end
end K59

set_option Elab.async false
set_option linter.all false
set_option maxRecDepth 100000
set_option maxHeartbeats 4000000
namespace K59
open PySem PySem.Spec PyProof.Rows L2 StX RZ MyR SlX OwnR OwnF EnumT
/-! what is said of forms by those who use them (for other laws: K59u, K59v, K59y hold the same) -/
section
variable {P : Program} {w : World} {K : PySem.W.Frag} {mg : Str → Option Value} {base : Heap}
/-- what is asked of a told row -/
structure Tr (l : List Int) : Prop where
  ne : l ≠ []
  len : l.length ≤ 40
  sho : ∀ x ∈ l, Sho x
theorem Tr.rw {l : List Int} (h : Tr l) : Rw l := ⟨h.ne, by have := h.len; omega, fun x hx => Nat.lt_trans (h.sho x hx) (by decide)⟩
theorem Tr.pos {l : List Int} (h : Tr l) : 1 ≤ l.length := List.length_pos_iff.mpr h.ne
/-- Form(t) -/
theorem made_form {C x dx t : Addr} {l : List Int} {H0 H2 : Hp} (hx : H0 x = none) (hdx : H0 dx = none) (hne : dx ≠ x) (s : Same (upd (upd H0 dx (.own x)) x (.ins C dx [])) H2) (ht : H0 t = some (tp l)) : Same H0 (slH H2 x C dx [some (.ref t)]) ∧ Fo C (slH H2 x C dx [some (.ref t)]) x l := by
  have s3 := made (v := .ref t) hx hdx hne s
  refine ⟨s3, dx, t, upd_same, ?_, s3 _ _ ht⟩
  unfold slH
  rw [upd_ne hne, upd_same]
theorem Fo.sx {C a d : Addr} {H H' : Hp} {ns : List Int} (h : Fo C H a ns) (hd : Dc H d) (s : Sx d H H') : Fo C H' a ns := by
  obtain ⟨dx, t, h1, h2, h3⟩ := h
  obtain ⟨x, y, z, e⟩ := hd
  refine ⟨dx, t, s _ _ (fun q => ?_) h1, s _ _ (fun q => ?_) h2, s _ _ (fun q => ?_) h3⟩
  · rw [q, e] at h1
    cases h1
  · rw [q, e] at h2
    cases h2
  · rw [q, e] at h3
    cases h3
theorem mkF {CT C x dx t : Addr} {H : Hp} {l : List Int} {R : Hp → Prop} (hx : H x = none) (hdx : H dx = none) (hne : dx ≠ x) (ht : H t = some (tp l)) (h1 : 1 ≤ l.length) (h2 : l.length ≤ 41) (hs : ∀ z ∈ l, Sho z) (q : ∀ H', Same H H' → Fo C H' x l → R H') :
    spForm CT C [.ref x, .ref t] (upd (upd H dx (.own x)) x (.ins C dx [])) (fun v H2 => v = .non ∧ R H2) E0 := by
  refine ⟨x, dx, t, t, rfl, .inl ⟨upd_same, rfl⟩, .inr ⟨l, rfl, ?_, h1, h2, hs⟩, fun H2 s2 => ⟨rfl, ?_⟩⟩
  · rw [upd_ne (ne_of_none ht hx), upd_ne (ne_of_none ht hdx)]
    exact ht
  · obtain ⟨s, f⟩ := made_form hx hdx hne s2 ht
    exact q _ s f
theorem Bd.tr {l : List Int} {n b : Nat} (h : Bd l n b) (hn : n ≤ 39) (hb : b < 10 ^ 60) : Tr l := ⟨h.ne, by rw [h.len]; omega, fun x hx => Nat.lt_of_le_of_lt (h.mem x hx) hb⟩
/-- a pair of a form and its row -/
structure Pa (C : Addr) (H : Hp) (v : V) (l : List Int) : Prop where
  tr : Tr l
  at_ : ∃ p f t, v = .ref p ∧ H p = some (.tup [.ref f, .ref t]) ∧ Fo C H f l ∧ H t = some (tp l)
theorem Pa.same {C : Addr} {H H' : Hp} {v : V} {l : List Int} (h : Pa C H v l) (s : Same H H') : Pa C H' v l := by
  obtain ⟨p, f, t, e, h1, h2, h3⟩ := h.at_
  exact ⟨h.tr, p, f, t, e, s _ _ h1, h2.same s, s _ _ h3⟩
theorem prop_ent {C a : Addr} {H : Hp} {xs : List Int} {Q : VK} (fa : Fo C H a xs) (q : ∀ t, H t = some (tp xs) → Q (.ref t) H) : ∃ a' dx vs, V.ref a = .ref a' ∧ Slt H a' C dx vs ∧ spEnt C [.ref a'] H Q E0 := by
  obtain ⟨dx, t, ha, _⟩ := fa.slt
  exact ⟨a, dx, _, rfl, ha, a, xs, rfl, fa, q⟩
theorem prop_zero {C a : Addr} {H : Hp} {xs : List Int} {Q : VK} (fa : Fo C H a xs) (q : Q (.bl (!xs.any (· != 0))) H) : ∃ a' dx vs, V.ref a = .ref a' ∧ Slt H a' C dx vs ∧ spIsZ C [.ref a'] H Q E0 := by
  obtain ⟨dx, t, ha, _⟩ := fa.slt
  exact ⟨a, dx, _, rfl, ha, a, xs, rfl, fa, q⟩
theorem prop_deg {C a : Addr} {H : Hp} {xs : List Int} {Q : VK} (fa : Fo C H a xs) (q : Q (.int ((xs.length : Int) - 1)) H) : ∃ a' dx vs, V.ref a = .ref a' ∧ Slt H a' C dx vs ∧ spDeg C [.ref a'] H Q E0 := by
  obtain ⟨dx, t, ha, _⟩ := fa.slt
  exact ⟨a, dx, _, rfl, ha, a, xs, rfl, fa, q⟩
/-- Form(t), t a written row -/
theorem mkB {CT C x dx t : Addr} {H : Hp} {l : List Int} {n b : Nat} {R : Hp → Prop} (hx : H x = none) (hdx : H dx = none) (hne : dx ≠ x) (ht : H t = some (tp l)) (bd : Bd l n b) (hn : n ≤ 39) (hb : b < 10 ^ 60) (q : ∀ H', Same H H' → Fo C H' x l → R H') :
    spForm CT C [.ref x, .ref t] (upd (upd H dx (.own x)) x (.ins C dx [])) (fun v H2 => v = .non ∧ R H2) E0 :=
  mkF hx hdx hne ht (bd.tr hn hb).pos (by have := (bd.tr hn hb).len; omega) (bd.tr hn hb).sho q
end
end K59

set_option Elab.async false
set_option linter.all false
set_option maxRecDepth 100000
/-! changed forms, derived forms: the plain law -/
namespace K59
theorem ev_zs (c : Int) {l m : List Int} (h : l.length = m.length) (x y : Int) : ev (zs c l m) x y = ev l x y + c * ev m x y := by
  have hz : (zs c l m).length = l.length := by unfold zs; rw [List.length_zipWith, h, Nat.min_self]
  have co_zs : ∀ k, co (zs c l m) k = co l k + c * co m k := fun k => by
    unfold zs
    by_cases hk : k < l.length
    · rw [co_get (by rw [List.length_zipWith]; omega), co_get hk, co_get (by omega), List.getElem_zipWith]
    · rw [co_far (by rw [List.length_zipWith]; omega), co_far (by omega), co_far (by omega), Int.mul_zero]
      rfl
  unfold ev
  rw [hz, ← h, ← evF_mul, ← evF_add]
  exact evF_congr _ fun i _ => co_zs i
theorem ev_map (c : Int) (l : List Int) (x y : Int) : ev (l.map (c * ·)) x y = c * ev l x y := by
  unfold ev
  rw [List.length_map, ← evF_mul]
  exact evF_congr _ fun i _ => co_map c l i
theorem ev_one (x y : Int) : ev [1] x y = 1 := by
  rw [ev_cons]
  show 1 * x ^ 0 + y * 0 = 1
  rw [Int.pow_zero, Int.mul_zero]
  rfl
theorem ev_nil (x y : Int) : ev [] x y = 0 := rfl
theorem pow_ne {l : List Int} (h : l ≠ []) : ∀ n, pow l n ≠ []
  | 0 => by show [1] ≠ []; simp
  | n + 1 => ml_ne (pow_ne h n) h
theorem pow_len {l : List Int} (h : l.length = 2) : ∀ n, (pow l n).length = n + 1
  | 0 => rfl
  | n + 1 => by
    show (ml (pow l n) l).length = _
    rw [ml_len, pow_len h n, h]
    omega
theorem ev_pow {l : List Int} (h : l ≠ []) (x y : Int) : ∀ n, ev (pow l n) x y = ev l x y ^ n
  | 0 => by rw [Int.pow_zero]; exact ev_one x y
  | n + 1 => by
    show ev (ml (pow l n) l) x y = _
    rw [ev_ml (pow_ne h n) h, ev_pow h x y n, Int.pow_succ]
theorem zs_len {c : Int} {l m : List Int} (h : l.length = m.length) : (zs c l m).length = l.length := by unfold zs; rw [List.length_zipWith, h, Nat.min_self]
/-- how the program changes: the entries that are left, what is found, the power of the second row -/
def chg (X Y : List Int) : List Int → List Int → List Int → List Int
  | [], f, _ => f
  | e :: r, f, p => chg X Y r (zs e (ml f X) (ml p Y)) (ml p Y)
theorem chg_len {X Y : List Int} (hX : X.length = 2) (hY : Y.length = 2) : ∀ (r f p : List Int), f ≠ [] → f.length = p.length → (chg X Y r f p).length = f.length + r.length
  | [], f, p, _, _ => rfl
  | e :: r, f, p, nf, h => by
    have pf : 0 < f.length := List.length_pos_iff.mpr nf
    have l1 : (ml f X).length = f.length + 1 := by rw [ml_len, hX]; omega
    have l2 : (ml p Y).length = f.length + 1 := by rw [ml_len, hY, ← h]; omega
    have l3 : (zs e (ml f X) (ml p Y)).length = f.length + 1 := by rw [zs_len (by rw [l1, l2]), l1]
    show (chg X Y r (zs e (ml f X) (ml p Y)) (ml p Y)).length = _
    rw [chg_len hX hY r _ _ (fun z => by rw [z] at l3; cases l3) (by rw [l3, l2]), l3, List.length_cons]
    omega
theorem ev_chg {X Y : List Int} (hX : X.length = 2) (hY : Y.length = 2) (x y : Int) : ∀ (r f p : List Int), f ≠ [] → f.length = p.length →
    ev (chg X Y r f p) x y = ev f x y * ev X x y ^ r.length + ev p x y * ev Y x y * ev r (ev X x y) (ev Y x y)
  | [], f, p, _, _ => by
    show ev f x y = ev f x y * ev X x y ^ 0 + ev p x y * ev Y x y * 0
    rw [Int.pow_zero, Int.mul_one, Int.mul_zero, Int.add_zero]
  | e :: r, f, p, nf, h => by
    have pf : 0 < f.length := List.length_pos_iff.mpr nf
    have np : p ≠ [] := fun z => by rw [z] at h; simp at h; exact nf h
    have nX : X ≠ [] := fun z => by rw [z] at hX; cases hX
    have nY : Y ≠ [] := fun z => by rw [z] at hY; cases hY
    have l1 : (ml f X).length = f.length + 1 := by rw [ml_len, hX]; omega
    have l2 : (ml p Y).length = f.length + 1 := by rw [ml_len, hY, ← h]; omega
    have l3 : (zs e (ml f X) (ml p Y)).length = f.length + 1 := by rw [zs_len (by rw [l1, l2]), l1]
    show ev (chg X Y r (zs e (ml f X) (ml p Y)) (ml p Y)) x y = _
    rw [ev_chg hX hY x y r _ _ (fun z => by rw [z] at l3; cases l3) (by rw [l3, l2]), ev_zs e (by rw [l1, l2]), ev_ml nf nX, ev_ml np nY, ev_cons, List.length_cons, Int.pow_succ]
    generalize ev f x y = a
    generalize ev p x y = b
    generalize ev X x y = u
    generalize ev Y x y = v
    generalize ev r u v = w
    generalize u ^ r.length = z
    grind
/-- the changed form -/
def changed (X Y l : List Int) : List Int := chg X Y l.tail [co l 0] [1]
theorem changed_len {X Y l : List Int} (hX : X.length = 2) (hY : Y.length = 2) (h : l ≠ []) : (changed X Y l).length = l.length := by
  match l, h with
  | a :: r, _ =>
    show (chg X Y r [a] [1]).length = _
    rw [chg_len hX hY r [a] [1] (by simp) rfl]
    show 1 + r.length = r.length + 1
    omega
theorem ev_changed {X Y l : List Int} (hX : X.length = 2) (hY : Y.length = 2) (h : l ≠ []) (x y : Int) : ev (changed X Y l) x y = ev l (ev X x y) (ev Y x y) := by
  match l, h with
  | a :: r, _ =>
    show ev (chg X Y r [a] [1]) x y = _
    rw [ev_chg hX hY x y r [a] [1] (by simp) rfl, ev_one, ev_cons a r, Int.one_mul, ev_cons a []]
    show (a * x ^ 0 + y * 0) * _ + _ = _
    rw [Int.pow_zero, Int.mul_one, Int.mul_zero, Int.add_zero]
theorem ev_rep (n : Nat) (x y : Int) : ev (List.replicate n 0) x y = 0 := by
  unfold ev
  rw [show evF (List.replicate n (0 : Int)).length (co (List.replicate n 0)) x y = evF (List.replicate n (0 : Int)).length (fun _ => 0) x y from evF_congr _ fun i hi => by
    rw [co_get hi, List.getElem_replicate], evF_zero]
theorem ev2 (a b x y : Int) : ev [a, b] x y = a * x + b * y := by
  rw [ev_cons, ev_cons, ev_nil]
  show a * x ^ 1 + y * (b * x ^ 0 + y * 0) = _
  rw [Int.pow_zero, Int.pow_succ, Int.pow_zero]
  grind
theorem pow_zero {c : Int} : ∀ {n : Nat}, c ^ n = 0 → c = 0
  | 0, h => by rw [Int.pow_zero] at h; cases h
  | n + 1, h => by
    rw [Int.pow_succ] at h
    rcases Int.mul_eq_zero.mp h with e | e
    · exact pow_zero e
    · exact e
theorem ev_zero {l : List Int} (h : ∀ z ∈ l, z = 0) (x y : Int) : ev l x y = 0 := by
  have e : l = List.replicate l.length 0 := List.eq_replicate_iff.mpr ⟨rfl, h⟩
  rw [e, ev_rep]
/-! ### derivatives -/
/-- derived by x, by y -/
def dX (l : List Int) : List Int := tb (l.length - 1) fun k => co l k * ((l.length : Int) - 1 - k)
def dY (l : List Int) : List Int := tb (l.length - 1) fun k => co l (k + 1) * ((k : Int) + 1)
theorem dX_len (l : List Int) : (dX l).length = l.length - 1 := tb_len _ _
theorem dY_len (l : List Int) : (dY l).length = l.length - 1 := tb_len _ _
theorem co_zs' (c : Int) {l m : List Int} (h : l.length = m.length) (k : Nat) : co (zs c l m) k = co l k + c * co m k := by
  unfold zs
  by_cases hk : k < l.length
  · rw [co_get (by rw [List.length_zipWith]; omega), co_get hk, co_get (by omega), List.getElem_zipWith]
  · rw [co_far (by rw [List.length_zipWith]; omega), co_far (by omega), co_far (by omega), Int.mul_zero]
    rfl
def it (f : List Int → List Int) : Nat → List Int → List Int
  | 0, l => l
  | n + 1, l => f (it f n l)
theorem dX_it_len (l : List Int) : ∀ n, (it dX n l).length = l.length - n
  | 0 => rfl
  | n + 1 => by
    show (dX (it dX n l)).length = _
    rw [dX_len, dX_it_len l n]
    omega
theorem dY_it_len (l : List Int) : ∀ n, (it dY n l).length = l.length - n
  | 0 => rfl
  | n + 1 => by
    show (dY (it dY n l)).length = _
    rw [dY_len, dY_it_len l n]
    omega
/-- derived i times by x, j times by y -/
def dd (i j : Nat) (l : List Int) : List Int := it dY j (it dX i l)
theorem dd_len (i j : Nat) (l : List Int) : (dd i j l).length = l.length - i - j := by
  unfold dd
  rw [dY_it_len, dX_it_len]
end K59

set_option Elab.async false
set_option linter.all false
set_option maxRecDepth 100000
set_option maxHeartbeats 4000000
namespace K59
open PySem PySem.Spec PyProof.Rows L2 StX RZ MyR SlX OwnR OwnF EnumT
/-- a comprehension over enumerate of a tuple -/
theorem lc_enumT {K : PySem.W.Frag} {a : Addr} {xs : List V} {g : TG} {tt : TT} {te : TE} {vs : List Nat} {σ : L2.St} {H1 : Hp} {D : Addr} {Qd : Hp → Prop} (Pv : Nat → Hp → Prop) (h0 : Pv 0 (upd H1 D (.lst []))) (hq : ∀ i H, i ≤ xs.length → Pv i H → SqT K H a xs)
    (hs : ∀ (i : Nat) (x : V) (T : Addr) (H : Hp), xs[i]? = some x → Pv i H → H T = none → g (.ref T) (wipe σ vs) (upd H T (.tup [.int (i : Nat), x])) fun σ2 H2 => wipe σ2 vs = wipe σ vs ∧ tt σ2 H2 fun b H3 =>
      if b = true then te σ2 H3 fun y H4 => ∃ acc, H4 D = some (.lst acc) ∧ acc.length < sizeLine ∧ Pv (i + 1) (upd H4 D (.lst (acc ++ [y]))) else Pv (i + 1) H3) (hd : ∀ H, Pv xs.length H → Qd H) :
    ∃ W : Nat → Nat → Hp → Prop, (∃ m, W 0 m (upd H1 D (.lst []))) ∧ ∀ i m H, W i m H →
      ((IteT K a).stop i H ∧ Qd H) ∨ ((IteT K a).go i H ∧ ∃ Nx : Hp → Prop, (∀ H', Nx H' → ∃ m', m' < m ∧ W (i + 1) m' H') ∧ ∀ x H', (IteT K a).yld i H x H' → g x (wipe σ vs) H' fun σ2 H2 => wipe σ2 vs = wipe σ vs ∧ tt σ2 H2 fun b H3 =>
        if b = true then te σ2 H3 fun y H4 => ∃ acc, H4 D = some (.lst acc) ∧ acc.length < sizeLine ∧ Nx (upd H4 D (.lst (acc ++ [y]))) else Nx H3) := by
  refine ⟨fun i m H => m = xs.length - i ∧ i ≤ xs.length ∧ Pv i H, ⟨xs.length, by simp, Nat.zero_le _, h0⟩, ?_⟩
  rintro i m H ⟨rfl, hi, p⟩
  have qx := hq i H hi p
  by_cases hlt : i < xs.length
  · have hx : xs[i]? = some xs[i] := List.getElem?_eq_getElem hlt
    refine .inr ⟨⟨xs, _, qx, hx⟩, Pv (i + 1), fun H' p' => ⟨xs.length - (i + 1), by omega, rfl, hlt, p'⟩, fun v H' y => ?_⟩
    obtain ⟨T, x', rfl, hT, rfl, f1⟩ := y
    exact hs i x' T H (f1 xs qx) p hT
  · have e : i = xs.length := by omega
    subst e
    exact .inl ⟨⟨xs, qx, rfl⟩, hd H p⟩
section
variable {P : Program} {w : World} {K : PySem.W.Frag} {mg : Str → Option Value} {base : Heap}
theorem ok_product_in (T : Facts K mg) : FnOk P w K mg base CX0 2 T.f_product_in T.fd_product_in ["one", "other"] (spJoin K) := by
  have G_joined_entries : FnOk P w K mg base CX0 1 T.f_joined_entries T.fd_joined_entries ["one", "other"] (spJoin K) := ok_joined_entries T
  refine T.F_product_in.ok sc_product_in (fun vs H Q E h => ?_) (fun cdv A outer s H vs Q E hr h => ?_)
  · obtain ⟨a, b, xs, ys, rfl, _⟩ := h
    rfl
  · obtain ⟨a, b, xs, ys, rfl, h⟩ := h
    refine ⟨_, (PSs.nox (pss_one (ps_ret (pe_call G_joined_entries hr (by rfl) T.g_joined_entries T.F_joined_entries.kp T.b_joined_entries .nil pass0 (pa_cons (pv 0) (pa_cons (pv 1) pa_nil)))))), ?_⟩
    exact ⟨_, rfl, _, rfl, a, b, xs, ys, rfl, h⟩
/-! ### values -/
/-- what is asked of a value's letters -/
structure Vb (l : List Int) (x y : Int) (M : Nat) : Prop where
  x : x.natAbs ≤ M
  y : y.natAbs ≤ M
  one : 1 ≤ M
  big : nm l * M ^ l.length < 2 ^ 4000
  pw : M ^ (l.length + 1) < 2 ^ 4000
/-! ### changes -/
/-- a table of two rows of two -/
def Tb (H : Hp) (t : Addr) (X Y : List Int) : Prop := ∃ r0 r1, H t = some (.tup [.ref r0, .ref r1]) ∧ H r0 = some (tp X) ∧ H r1 = some (tp Y)
theorem Tb.same {H H' : Hp} {t : Addr} {X Y : List Int} (h : Tb H t X Y) (s : Same H H') : Tb H' t X Y := by
  obtain ⟨r0, r1, h1, h2, h3⟩ := h
  exact ⟨r0, r1, s _ _ h1, s _ _ h2, s _ _ h3⟩
theorem Tb.sx {H H' : Hp} {t d : Addr} {X Y : List Int} (h : Tb H t X Y) (hd : Dc H d) (s : Sx d H H') : Tb H' t X Y := by
  obtain ⟨r0, r1, h1, h2, h3⟩ := h
  exact ⟨r0, r1, s _ _ (dc_ne hd h1) h1, s _ _ (dc_ne hd h2) h2, s _ _ (dc_ne hd h3) h3⟩
/-- short pairs -/
structure Pr2 (X : List Int) : Prop where
  len : X.length = 2
  sho : ∀ x ∈ X, Sho x
theorem sIx_neg {n : Nat} (h : 1 ≤ n) : HT.sIx n n (some (-1)) = n - 1 := by
  unfold HT.sIx
  simp only []
  split <;> omega
theorem cut_tail (xs : List V) (h : 1 ≤ xs.length) : cutV xs (some 1) none = xs.drop 1 := by
  unfold cutV
  have e1 : HT.sIx xs.length 0 (some 1) = 1 := by
    unfold HT.sIx
    simp only []
    split <;> omega
  have e2 : HT.sIx xs.length xs.length none = xs.length := rfl
  rw [e1, e2]
  exact List.take_of_length_le (by rw [List.length_drop]; omega)
theorem cut_init (xs : List V) (h : 1 ≤ xs.length) : cutV xs none (some (-1)) = xs.take (xs.length - 1) := by
  unfold cutV
  have e1 : HT.sIx xs.length 0 none = 0 := rfl
  rw [e1, sIx_neg h, List.drop_zero, Nat.sub_zero]
end
end K59

set_option Elab.async false
set_option linter.all false
set_option maxRecDepth 100000
set_option maxHeartbeats 4000000
namespace K59
open PySem PySem.Spec PyProof.Rows L2 StX RZ MyR SlX OwnR OwnF EnumT
section
variable {P : Program} {w : World} {K : PySem.W.Frag} {mg : Str → Option Value} {base : Heap}
/-- all that is derived on the way is let -/
structure DdOk (i j : Nat) (l : List Int) : Prop where
  len : i + j + 1 ≤ l.length
  le : l.length ≤ 100
  sx : ∀ u, u ≤ i → ∀ z ∈ it dX u l, sm z
  sy : ∀ u, u ≤ j → ∀ z ∈ it dY u (it dX i l), sm z
def spDerived : Sp := fun vs H Q _ => ∃ (a : Addr) (l : List Int) (i j : Nat), vs = [.ref a, .int i, .int j] ∧ H a = some (tp l) ∧ DdOk i j l ∧ ∀ p H', Same H H' → H' p = some (tp (dd i j l)) → Q (.ref p) H'
theorem ecut_init {l : List Int} (h : 1 ≤ l.length) : HO.tup (cutV (l.map V.int) none (some (-1))) = tp (l.take (l.length - 1)) := by
  rw [cut_init _ (by rw [List.length_map]; exact h), ← List.map_take, List.length_map]
theorem ecut_tail {l : List Int} (h : 1 ≤ l.length) : HO.tup (cutV (l.map V.int) (some 1) none) = tp (l.drop 1) := by
  rw [cut_tail _ (by rw [List.length_map]; exact h), ← List.map_drop]
theorem co_take {l : List Int} {n k : Nat} (h : k < n) : co (l.take n) k = co l k := by
  unfold co
  rw [List.getD_eq_getElem?_getD, List.getD_eq_getElem?_getD, List.getElem?_take_of_lt h]
theorem co_drop1 (l : List Int) (k : Nat) : co (l.drop 1) k = co l (k + 1) := by
  unfold co
  rw [List.getD_eq_getElem?_getD, List.getD_eq_getElem?_getD, List.getElem?_drop, Nat.add_comm]
theorem Pr2.rw {X : List Int} (h : Pr2 X) : Rw X := ⟨fun z => (by have := h.len; rw [z] at this; cases this), (by rw [h.len]; decide), fun x hx => Nat.lt_trans (h.sho x hx) (by decide)⟩
end
end K59

set_option Elab.async false
set_option linter.all false
set_option maxRecDepth 100000
set_option maxHeartbeats 4000000
namespace K59
open PySem PySem.Spec PyProof.Rows L2 StX RZ MyR SlX OwnR OwnF EnumT
/-! ### how large changed and derived forms are -/
theorem bd_zs' {l m : List Int} {n b c : Nat} (e : Int) (h : Bd l n b) (g : Bd m n c) : Bd (zs e l m) n (b + e.natAbs * c) := by
  have hz : zs e l m = zs 1 l (m.map (e * ·)) := by
    refine co_inj (by rw [zs_len (by rw [h.len, g.len]), zs_len (by rw [List.length_map, h.len, g.len])]) fun k => ?_
    rw [co_zs' e (by rw [h.len, g.len]), co_zs' 1 (by rw [List.length_map, h.len, g.len]), co_map, Int.one_mul]
  rw [hz]
  exact bd_zs h (bd_scale g (Nat.le_refl _))
theorem sN_le_mul {f g : Nat → Int} {c : Nat} : ∀ n, (∀ k, k < n → (f k).natAbs ≤ c * (g k).natAbs) → sN n f ≤ c * sN n g
  | 0, _ => Nat.zero_le _
  | n + 1, h => by
    show sN n f + (f n).natAbs ≤ c * (sN n g + (g n).natAbs)
    have h1 := sN_le_mul n fun k hk => h k (by omega)
    have h2 := h n (by omega)
    rw [Nat.mul_add]
    omega
theorem nm_drop1 (l : List Int) : nm (l.drop 1) ≤ nm l := by
  cases l with
  | nil => exact Nat.le_refl _
  | cons x xs => exact Nat.le_add_left _ _
theorem nm_dX (l : List Int) : nm (dX l) ≤ l.length * nm l := by
  unfold dX
  rw [nm_tb]
  refine Nat.le_trans (sN_le_mul (g := co l) (c := l.length) _ fun k hk => ?_) (Nat.mul_le_mul (Nat.le_refl _) (sN_co l _))
  rw [Int.natAbs_mul, Nat.mul_comm]
  exact Nat.mul_le_mul (by omega) (Nat.le_refl _)
theorem nm_dY (l : List Int) : nm (dY l) ≤ l.length * nm l := by
  unfold dY
  rw [nm_tb]
  refine Nat.le_trans (sN_le_mul (g := co (l.drop 1)) (c := l.length) _ fun k hk => ?_) (Nat.mul_le_mul (Nat.le_refl _) (Nat.le_trans (sN_co (l.drop 1) _) (nm_drop1 l)))
  rw [Int.natAbs_mul, Nat.mul_comm, co_drop1]
  exact Nat.mul_le_mul (by omega) (Nat.le_refl _)
theorem nm_dX_it (l : List Int) : ∀ u, nm (it dX u l) ≤ l.length ^ u * nm l
  | 0 => by rw [Nat.pow_zero, Nat.one_mul]; exact Nat.le_refl _
  | u + 1 => by
    have h1 := nm_dX (it dX u l)
    have h2 := nm_dX_it l u
    rw [dX_it_len] at h1
    show nm (dX (it dX u l)) ≤ _
    rw [Nat.pow_succ, Nat.mul_comm (l.length ^ u), Nat.mul_assoc]
    exact Nat.le_trans h1 (Nat.mul_le_mul (by omega) h2)
theorem nm_dY_it (l : List Int) : ∀ u, nm (it dY u l) ≤ l.length ^ u * nm l
  | 0 => by rw [Nat.pow_zero, Nat.one_mul]; exact Nat.le_refl _
  | u + 1 => by
    have h1 := nm_dY (it dY u l)
    have h2 := nm_dY_it l u
    rw [dY_it_len] at h1
    show nm (dY (it dY u l)) ≤ _
    rw [Nat.pow_succ, Nat.mul_comm (l.length ^ u), Nat.mul_assoc]
    exact Nat.le_trans h1 (Nat.mul_le_mul (by omega) h2)
theorem nm_dd (i j : Nat) (l : List Int) (h : 1 ≤ l.length) : nm (dd i j l) ≤ l.length ^ (i + j) * nm l := by
  unfold dd
  refine Nat.le_trans (nm_dY_it (it dX i l) j) ?_
  rw [dX_it_len]
  refine Nat.le_trans (Nat.mul_le_mul (Nat.pow_le_pow_left (show l.length - i ≤ l.length by omega) j) (nm_dX_it l i)) (Nat.le_of_eq ?_)
  rw [Nat.pow_add, ← Nat.mul_assoc, Nat.mul_comm (l.length ^ j)]
end K59

set_option Elab.async false
set_option linter.all false
set_option maxRecDepth 100000
set_option maxHeartbeats 4000000
namespace K59
open PySem PySem.Spec PyProof.Rows L2 StX RZ MyR SlX OwnR OwnF EnumT
section
variable {P : Program} {w : World} {K : PySem.W.Frag} {mg : Str → Option Value} {base : Heap}
def spByX : Sp := fun vs H Q _ => ∃ (a : Addr) (m : List Int), vs = [.ref a] ∧ H a = some (tp m) ∧ 1 ≤ m.length ∧ m.length ≤ 100 ∧ (∀ z ∈ m, sm z) ∧ ∀ p H', Same H H' → H' p = some (tp (dX m)) → Q (.ref p) H'
theorem ok_law_by_x (T : Facts K mg) : FnOk P w K mg base CX0 1 T.f_law_by_x T.fd_law_by_x ["_law_form_here"] spByX := by
  refine T.F_law_by_x.ok sc_law_by_x (fun vs H Q E h => ?_) (fun cdv A outer s H vs Q E hr h => ?_)
  · obtain ⟨a, m, rfl, _⟩ := h
    rfl
  · obtain ⟨a, m, rfl, ha, h1, h2, sm1, q⟩ := h
    refine ⟨_, (PSs.nox (pss_one (ps_ret (pe_tupleOf (by rfl) T.z_tuple (pe_lc (own := [("_law_at", 1), ("_law_entry", 2)]) (g := (gTup K 2 (gCons (gName 1) (gCons (gName 2) gNil)))) (tt := tYes) (by rfl) sc_law_by_x.nd (pi_enumT (by rfl) T.z_enumerate (pa_cons (pe_slice sl_tupA (pv 0) po_none (po_some (pe_un un_neg pe_int))) pa_nil)) (blkOk_by (N := N_law_by_x) (sc := defScope s_law_by_x) (by decide +kernel)) (fun _ _ _ _ _ => (pg_tup (by rfl) (pgs_cons (pg_name (i := 1) sc_law_by_x.nd rfl (.inl rfl)) (pgs_cons (pg_name (i := 2) sc_law_by_x.nd rfl (.inl rfl)) pgs_nil)))) (fun _ _ _ _ _ => pts_nil) (fun _ _ _ _ _ => (pe_op op_mulW (pv 2) (pe_op op_sub (pe_op op_sub (pe_callB (call_len_seq : CallR _ _ (Evl.rLenS K)) (by rfl) T.z_len (by decide +kernel) (pa_cons (pv 0) pa_nil)) pe_int) (pv 1))))))))), ?_⟩
    refine ⟨_, rfl, _, rfl, _, rfl, a, _, rfl, SqT.of ha, fun z => absurd z.2 (by rw [List.length_map, sIx_neg (by omega)]; omega), fun _ p np => ?_⟩
    rw [ecut_init (by omega)]
    refine gen_upd H p _ np fun H2 s2 f2 => ⟨p, _, rfl, SqT.of f2, fun D hD => lc_enumT (xs := (m.take (m.length - 1)).map V.int) (fun k H' => Same H2 H' ∧ H' D = some (.lst (tab k fun k => co m k * ((m.length : Int) - 1 - k)))) ⟨same_upd0 hD, upd_same⟩ (fun k H' _ hP => SqT.of (hP.1 _ _ f2)) (fun k x B H' hx hP hB => ?_) (fun H3 hP => ?_)⟩
    · obtain ⟨sH, hL⟩ := hP
      obtain ⟨hk, rfl⟩ := int_get hx
      rw [List.length_take] at hk
      rw [co_take (by omega)]
      refine gen_upd H' B _ hB fun H4 s4 f4 => ⟨B, _, rfl, SqT.of f4, rfl, _, _, rfl, _, _, rfl, rfl, rfl, ?_⟩
      have hfB := (s2.trans (sH.trans s4)) _ _ ha
      refine ⟨_, rfl, _, rfl, a, _, rfl, .inr (SqT.of hfB), ?_⟩
      rw [List.length_map]
      refine ⟨_, _, rfl, rfl, _, rfl, _, _, rfl, rfl, _, _, rfl, rfl, sm_mul (sm_co sm1 (by omega)) (Nat.lt_of_le_of_lt (show ((m.length : Int) - 1 - (k : Int)).natAbs ≤ 100 by omega) (Nat.lt_of_lt_of_le (show 100 < 2 ^ 7 by decide) (Nat.pow_le_pow_right (by decide) (by decide)))), _, s4 _ _ hL, ?_, fun b o e => ?_, ?_⟩
      · rw [tab_len]
        exact small1000 (by omega)
      · rw [upd_ne (ne_of_none e hD)]
        exact s4 _ _ (sH _ _ e)
      · rw [upd_same, ← tab_snoc]
    · obtain ⟨sH, hL⟩ := hP
      rw [List.length_map, List.length_take, Nat.min_eq_left (by omega), tab_tb] at hL
      exact .inl ⟨D, _, rfl, SqL.of hL, fun p5 n5 => q p5 _ (s2.trans (sH.trans (same_upd0 n5))) upd_same⟩
def spByY : Sp := fun vs H Q _ => ∃ (a : Addr) (m : List Int), vs = [.ref a] ∧ H a = some (tp m) ∧ 1 ≤ m.length ∧ m.length ≤ 100 ∧ (∀ z ∈ m, sm z) ∧ ∀ p H', Same H H' → H' p = some (tp (dY m)) → Q (.ref p) H'
theorem ok_law_by_y (T : Facts K mg) : FnOk P w K mg base CX0 1 T.f_law_by_y T.fd_law_by_y ["_law_form_here"] spByY := by
  refine T.F_law_by_y.ok sc_law_by_y (fun vs H Q E h => ?_) (fun cdv A outer s H vs Q E hr h => ?_)
  · obtain ⟨a, m, rfl, _⟩ := h
    rfl
  · obtain ⟨a, m, rfl, ha, h1, h2, sm1, q⟩ := h
    refine ⟨_, (PSs.nox (pss_one (ps_ret (pe_tupleOf (by rfl) T.z_tuple (pe_lc (own := [("_law_at", 1), ("_law_entry", 2)]) (g := (gTup K 2 (gCons (gName 1) (gCons (gName 2) gNil)))) (tt := tYes) (by rfl) sc_law_by_y.nd (pi_enumT (by rfl) T.z_enumerate (pa_cons (pe_slice sl_tupA (pv 0) (po_some pe_int) po_none) pa_nil)) (blkOk_by (N := N_law_by_y) (sc := defScope s_law_by_y) (by decide +kernel)) (fun _ _ _ _ _ => (pg_tup (by rfl) (pgs_cons (pg_name (i := 1) sc_law_by_y.nd rfl (.inl rfl)) (pgs_cons (pg_name (i := 2) sc_law_by_y.nd rfl (.inl rfl)) pgs_nil)))) (fun _ _ _ _ _ => pts_nil) (fun _ _ _ _ _ => (pe_op op_mulW (pv 2) (pe_op op_add (pv 1) pe_int)))))))), ?_⟩
    refine ⟨_, rfl, 1, rfl, a, _, rfl, SqT.of ha, fun z => absurd z.1 (by
      rw [List.length_map]
      unfold HT.sIx
      simp only []
      split <;> omega), fun _ p np => ?_⟩
    rw [ecut_tail (by omega)]
    refine gen_upd H p _ np fun H2 s2 f2 => ⟨p, _, rfl, SqT.of f2, fun D hD => lc_enumT (xs := (m.drop 1).map V.int) (fun k H' => Same H2 H' ∧ H' D = some (.lst (tab k fun k => co m (k + 1) * ((k : Int) + 1)))) ⟨same_upd0 hD, upd_same⟩ (fun k H' _ hP => SqT.of (hP.1 _ _ f2)) (fun k x B H' hx hP hB => ?_) (fun H3 hP => ?_)⟩
    · obtain ⟨sH, hL⟩ := hP
      obtain ⟨hk, rfl⟩ := int_get hx
      rw [List.length_drop] at hk
      rw [co_drop1]
      refine gen_upd H' B _ hB fun H4 s4 f4 => ⟨B, _, rfl, SqT.of f4, rfl, _, _, rfl, _, _, rfl, rfl, rfl, ?_⟩
      refine ⟨_, rfl, _, rfl, _, _, rfl, rfl, _, _, rfl, rfl, sm_mul (sm_co sm1 (by omega)) (Nat.lt_of_le_of_lt (show ((k : Int) + 1).natAbs ≤ 100 by omega) (Nat.lt_of_lt_of_le (show 100 < 2 ^ 7 by decide) (Nat.pow_le_pow_right (by decide) (by decide)))), _, s4 _ _ hL, ?_, fun b o e => ?_, ?_⟩
      · rw [tab_len]
        exact small1000 (by omega)
      · rw [upd_ne (ne_of_none e hD)]
        exact s4 _ _ (sH _ _ e)
      · rw [upd_same, ← tab_snoc]
    · obtain ⟨sH, hL⟩ := hP
      rw [List.length_map, List.length_drop, tab_tb] at hL
      exact .inl ⟨D, _, rfl, SqL.of hL, fun p5 n5 => q p5 _ (s2.trans (sH.trans (same_upd0 n5))) upd_same⟩
theorem ok_law_derived (T : Facts K mg) : FnOk P w K mg base CX0 2 T.f_law_derived T.fd_law_derived ["_law_form_here", "_law_one", "_law_other"] spDerived := by
  have G_law_by_x := ok_law_by_x (P := P) (w := w) (base := base) T
  have G_law_by_y := ok_law_by_y (P := P) (w := w) (base := base) T
  refine T.F_law_derived.ok sc_law_derived (fun vs H Q E h => ?_) (fun cdv A outer s H vs Q E hr h => ?_)
  · obtain ⟨a, l, i, j, rfl, _⟩ := h
    rfl
  · obtain ⟨a, l, i, j, rfl, ha, ok, q⟩ := h
    have hlen := ok.len
    have hle := ok.le
    refine ⟨_, (PSs.nox (pss_cons (ps_for PassesOwn.never (by rfl) (pi_range1 (by rfl) T.z_range (pa_cons (pv 1) pa_nil)) (pg_name (i := 3) sc_law_derived.nd rfl (.inl rfl))
      (pss_one (ps_set (i := 0) sc_law_derived.nd rfl (.inl rfl) (pe_call G_law_by_x hr (by rfl) T.g_law_by_x T.F_law_by_x.kp T.b_law_by_x .nil pass0 (pa_cons (pv 0) pa_nil)))))
    (pss_cons (ps_for PassesOwn.never (by rfl) (pi_range1 (by rfl) T.z_range (pa_cons (pv 2) pa_nil)) (pg_name (i := 3) sc_law_derived.nd rfl (.inl rfl))
      (pss_one (ps_set (i := 0) sc_law_derived.nd rfl (.inl rfl) (pe_call G_law_by_y hr (by rfl) T.g_law_by_y T.F_law_by_y.kp T.b_law_by_y .nil pass0 (pa_cons (pv 0) pa_nil)))))
    (pss_one (ps_ret (pv 0)))))), ?_⟩
    refine ⟨_, rfl, i, rfl, by omega, by omega, for_range (n := (i : Int).toNat) (fun u σ H' => ∃ fa y3, σ = [some (.ref fa), some (.int i), some (.int j), y3] ∧ Same H H' ∧ H' fa = some (tp (it dX u l))) ⟨a, none, rfl, Same.rf H, ha⟩ (fun u σ H1 hu hP => ?_) (fun σ H1 hP => ?_)⟩
    · obtain ⟨fa, y3, rfl, s1, hf⟩ := hP
      have lu := dX_it_len l u
      exact ⟨_, rfl, fa, _, rfl, hf, by omega, by omega, ok.sx u (by omega), fun p H2 s2 hp => ⟨p, _, rfl, s1.trans s2, hp⟩⟩
    · obtain ⟨fa, y3, rfl, s1, hf⟩ := hP
      rw [Int.toNat_natCast] at hf
      have lu0 := dX_it_len l i
      refine ⟨_, rfl, j, rfl, by omega, by omega, for_range (n := (j : Int).toNat) (fun u σ H' => ∃ fa y3, σ = [some (.ref fa), some (.int i), some (.int j), y3] ∧ Same H H' ∧ H' fa = some (tp (it dY u (it dX i l)))) ⟨fa, y3, rfl, s1, hf⟩ (fun u σ H1 hu hP => ?_) (fun σ H1 hP => ?_)⟩
      · obtain ⟨fa, y3, rfl, s1, hf⟩ := hP
        have lu := dY_it_len (it dX i l) u
        exact ⟨_, rfl, fa, _, rfl, hf, by omega, by omega, ok.sy u (by omega), fun p H2 s2 hp => ⟨p, _, rfl, s1.trans s2, hp⟩⟩
      · obtain ⟨fa, y3, rfl, s1, hf⟩ := hP
        rw [Int.toNat_natCast] at hf
        exact ⟨_, rfl, q fa H1 s1 hf⟩
/-- all that the law makes on its way is let -/
structure LchOk (X Y l : List Int) : Prop where
  ne : l ≠ []
  len : l.length ≤ 90
  lX : X.length = 2
  lY : Y.length = 2
  pX : ∀ i, i ≤ l.length → Rw (pow X i)
  pY : ∀ i, i ≤ l.length → Rw (pow Y i)
  pm : ∀ i, i < l.length → Rw (ml (pow X (l.length - 1 - i)) (pow Y i))
  sl : ∀ z ∈ l, sm z
end
end K59

set_option Elab.async false
set_option linter.all false
set_option maxRecDepth 100000
set_option maxHeartbeats 4000000
namespace K59
open PySem PySem.Spec PyProof.Rows L2 StX RZ MyR SlX OwnR OwnF EnumT
section
variable {P : Program} {w : World} {K : PySem.W.Frag} {mg : Str → Option Value} {base : Heap}
theorem sm_le {x : Int} {n : Nat} (h : x.natAbs ≤ n) (hn : n < 2 ^ 60) : sm x := Nat.lt_of_le_of_lt h (Nat.lt_of_lt_of_le hn (Nat.pow_le_pow_right (by decide) (by decide)))
end
end K59

set_option Elab.async false
set_option linter.all false
set_option maxRecDepth 100000
/-! layings: the plain law -/
namespace K59
theorem evF_cons (g : Nat → Int) (x y : Int) : ∀ m, evF (m + 1) g x y = g 0 * x ^ m + y * evF m (fun k => g (k + 1)) x y
  | 0 => by
    show x * 0 + g 0 * y ^ 0 = g 0 * x ^ 0 + y * 0
    rw [Int.pow_zero, Int.pow_zero]
    grind
  | m + 1 => by
    show x * evF (m + 1) g x y + g (m + 1) * y ^ (m + 1) = g 0 * x ^ (m + 1) + y * (x * evF m (fun k => g (k + 1)) x y + g (m + 1) * y ^ m)
    rw [evF_cons g x y m, Int.pow_succ, Int.pow_succ]
    generalize evF m (fun k => g (k + 1)) x y = w
    generalize x ^ m = A
    generalize y ^ m = B
    grind
theorem ev_tb (n : Nat) (f : Nat → Int) (x y : Int) : ev (tb n f) x y = evF n f x y := by
  unfold ev
  rw [tb_len]
  exact evF_congr _ fun i hi => by rw [co_tb, if_pos hi]
theorem ev_dX (l : List Int) (x y : Int) : ev (dX l) x y = evF (l.length - 1) (fun k => co l k * ((l.length : Int) - 1 - k)) x y := ev_tb _ _ x y
theorem ev_dY (l : List Int) (x y : Int) : ev (dY l) x y = evF (l.length - 1) (fun k => co l (k + 1) * ((k : Int) + 1)) x y := ev_tb _ _ x y
theorem ev_dX_cons (a : Int) (l : List Int) (x y : Int) : ev (dX (a :: l)) x y = a * l.length * x ^ (l.length - 1) + y * ev (dX l) x y := by
  rw [ev_dX, ev_dX]
  show evF (l.length + 1 - 1) _ x y = _
  rw [Nat.add_sub_cancel]
  cases hl : l.length with
  | zero =>
    show (0 : Int) = a * 0 * _ + y * 0
    grind
  | succ m =>
    rw [evF_cons]
    rw [show evF m (fun k => co (a :: l) (k + 1) * (((a :: l).length : Int) - 1 - ((k + 1 : Nat) : Int))) x y = evF (m + 1 - 1) (fun k => co l k * (((m + 1 : Nat) : Int) - 1 - k)) x y from by
      rw [Nat.add_sub_cancel]
      refine evF_congr _ fun k _ => ?_
      show co l k * (((a :: l).length : Int) - 1 - ((k + 1 : Nat) : Int)) = _
      congr 1
      rw [List.length_cons, hl]
      omega]
    show a * (((a :: l).length : Int) - 1 - ((0 : Nat) : Int)) * x ^ m + _ = _
    rw [List.length_cons, hl, Nat.add_sub_cancel, show (((m + 1 + 1 : Nat)) : Int) - 1 - ((0 : Nat) : Int) = ((m + 1 : Nat) : Int) by omega]
theorem ev_dY_cons (a : Int) (l : List Int) (x y : Int) : ev (dY (a :: l)) x y = ev l x y + y * ev (dY l) x y := by
  rw [ev_dY, ev_dY]
  show evF (l.length + 1 - 1) (fun k => co l k * ((k : Int) + 1)) x y = _
  rw [Nat.add_sub_cancel]
  have e1 : evF l.length (fun k => co l k * ((k : Int) + 1)) x y = ev l x y + evF l.length (fun k => co l k * (k : Int)) x y := by
    unfold ev
    rw [← evF_add]
    exact evF_congr _ fun k _ => by grind
  rw [e1]
  congr 1
  cases hl : l.length with
  | zero =>
    show (0 : Int) = y * 0
    rw [Int.mul_zero]
  | succ m =>
    rw [evF_cons, Nat.add_sub_cancel]
    show co l 0 * ((0 : Nat) : Int) * x ^ m + y * evF m (fun k => co l (k + 1) * ((k + 1 : Nat) : Int)) x y = _
    rw [show evF m (fun k => co l (k + 1) * ((k + 1 : Nat) : Int)) x y = evF m (fun k => co l (k + 1) * ((k : Int) + 1)) x y from evF_congr _ fun k _ => by rw [show ((k + 1 : Nat) : Int) = (k : Int) + 1 by omega]]
    show co l 0 * 0 * x ^ m + _ = _
    grind
/-- a step along a line: up to squares it is told by the derivatives -/
theorem pow_step (x u h : Int) : ∀ n : Nat, ∃ R, (x + u * h) ^ n = x ^ n + h * (u * (n * x ^ (n - 1))) + h * h * R
  | 0 => ⟨0, by rw [Int.pow_zero, Int.pow_zero]; show (1 : Int) = 1 + h * (u * (0 * _)) + h * h * 0; grind⟩
  | 1 => ⟨0, by
    rw [Int.pow_succ, Int.pow_zero, Int.pow_succ, Int.pow_zero]
    show 1 * (x + u * h) = 1 * x + h * (u * (1 * 1)) + h * h * 0
    grind⟩
  | n + 2 => by
    obtain ⟨R, e⟩ := pow_step x u h (n + 1)
    refine ⟨u * u * ((n + 1 : Nat) * x ^ n) + R * (x + u * h), ?_⟩
    rw [Int.pow_succ, e, show n + 1 - 1 = n by omega, show n + 2 - 1 = n + 1 by omega, Int.pow_succ x (n + 1), Int.pow_succ x n, show ((n + 2 : Nat) : Int) = ((n + 1 : Nat) : Int) + 1 by omega]
    generalize x ^ n = A
    generalize ((n + 1 : Nat) : Int) = N
    grind
theorem ev_step (x y u v h : Int) : ∀ l : List Int, ∃ R, ev l (x + u * h) (y + v * h) = ev l x y + h * (u * ev (dX l) x y + v * ev (dY l) x y) + h * h * R
  | [] => ⟨0, by
    show (0 : Int) = 0 + h * (u * ev (dX []) x y + v * ev (dY []) x y) + h * h * 0
    rw [show ev (dX []) x y = 0 from rfl, show ev (dY []) x y = 0 from rfl]
    grind⟩
  | a :: l => by
    obtain ⟨R, e⟩ := ev_step x y u v h l
    obtain ⟨S, e2⟩ := pow_step x u h l.length
    refine ⟨a * S + v * (u * ev (dX l) x y + v * ev (dY l) x y) + (y + v * h) * R, ?_⟩
    rw [ev_cons, ev_cons, ev_dX_cons, ev_dY_cons, e, e2]
    generalize ev (dX l) x y = EX
    generalize ev (dY l) x y = EY
    generalize ev l x y = E
    generalize x ^ (l.length - 1) = A
    generalize x ^ l.length = B
    generalize (l.length : Int) = n
    grind
theorem step_eq {p q : Int} (H : ∀ h : Int, ∃ R, h * p = h * q + h * h * R) : p = q := by
  obtain ⟨R, e⟩ := H (((p - q).natAbs + 1 : Nat) : Int)
  have hp : (((p - q).natAbs + 1 : Nat) : Int) ≠ 0 := by omega
  have e2 : p = q + (((p - q).natAbs + 1 : Nat) : Int) * R := by
    refine Int.eq_of_mul_eq_mul_left hp ?_
    rw [Int.mul_add, ← Int.mul_assoc]
    exact e
  have hd : (((p - q).natAbs + 1 : Nat) : Int) ∣ p - q := ⟨R, by omega⟩
  have hz := Nat.eq_zero_of_dvd_of_lt (Int.natAbs_dvd_natAbs.mpr hd) (by rw [Int.natAbs_natCast]; omega)
  omega
theorem map_len (c : Int) (l : List Int) : (l.map (c * ·)).length = l.length := List.length_map ..
theorem dX_ne {l : List Int} (h : 2 ≤ l.length) : dX l ≠ [] := fun z => by have := dX_len l; rw [z] at this; have : 0 = l.length - 1 := this; omega
theorem dY_ne {l : List Int} (h : 2 ≤ l.length) : dY l ≠ [] := fun z => by have := dY_len l; rw [z] at this; have : 0 = l.length - 1 := this; omega
theorem ne_of2 {l : List Int} (h : 1 ≤ l.length) : l ≠ [] := List.length_pos_iff.mp h
/-- the rule of the chain -/
theorem dX_changed {a b c e : Int} {l : List Int} (h : 2 ≤ l.length) : dX (changed [a, b] [c, e] l) = zs 1 ((changed [a, b] [c, e] (dX l)).map (a * ·)) ((changed [a, b] [c, e] (dY l)).map (c * ·)) := by
  have nl := ne_of2 (show 1 ≤ l.length by omega)
  have l0 := changed_len (X := [a, b]) (Y := [c, e]) rfl rfl nl
  have l1 := changed_len (X := [a, b]) (Y := [c, e]) rfl rfl (dX_ne h)
  have l2 := changed_len (X := [a, b]) (Y := [c, e]) rfl rfl (dY_ne h)
  rw [dX_len] at l1
  rw [dY_len] at l2
  refine ev_inj (by rw [dX_len, l0, zs_len (by rw [map_len, map_len, l1, l2]), map_len, l1]) fun x y => step_eq fun k => ?_
  obtain ⟨R, e1⟩ := ev_step x y 1 0 k (changed [a, b] [c, e] l)
  obtain ⟨S, e2⟩ := ev_step (a * x + b * y) (c * x + e * y) a c k l
  rw [ev_changed rfl rfl nl, ev_changed rfl rfl nl, ev2, ev2, ev2, ev2] at e1
  rw [show a * (x + 1 * k) + b * (y + 0 * k) = a * x + b * y + a * k by grind, show c * (x + 1 * k) + e * (y + 0 * k) = c * x + e * y + c * k by grind, e2] at e1
  refine ⟨S - R, ?_⟩
  rw [ev_zs 1 (by rw [map_len, map_len, l1, l2]), ev_map, ev_map, ev_changed rfl rfl (dX_ne h), ev_changed rfl rfl (dY_ne h), ev2, ev2]
  grind
theorem dY_changed {a b c e : Int} {l : List Int} (h : 2 ≤ l.length) : dY (changed [a, b] [c, e] l) = zs 1 ((changed [a, b] [c, e] (dX l)).map (b * ·)) ((changed [a, b] [c, e] (dY l)).map (e * ·)) := by
  have nl := ne_of2 (show 1 ≤ l.length by omega)
  have l0 := changed_len (X := [a, b]) (Y := [c, e]) rfl rfl nl
  have l1 := changed_len (X := [a, b]) (Y := [c, e]) rfl rfl (dX_ne h)
  have l2 := changed_len (X := [a, b]) (Y := [c, e]) rfl rfl (dY_ne h)
  rw [dX_len] at l1
  rw [dY_len] at l2
  refine ev_inj (by rw [dY_len, l0, zs_len (by rw [map_len, map_len, l1, l2]), map_len, l1]) fun x y => step_eq fun k => ?_
  obtain ⟨R, e1⟩ := ev_step x y 0 1 k (changed [a, b] [c, e] l)
  obtain ⟨S, e2⟩ := ev_step (a * x + b * y) (c * x + e * y) b e k l
  rw [ev_changed rfl rfl nl, ev_changed rfl rfl nl, ev2, ev2, ev2, ev2] at e1
  rw [show a * (x + 0 * k) + b * (y + 1 * k) = a * x + b * y + b * k by grind, show c * (x + 0 * k) + e * (y + 1 * k) = c * x + e * y + e * k by grind, e2] at e1
  refine ⟨S - R, ?_⟩
  rw [ev_zs 1 (by rw [map_len, map_len, l1, l2]), ev_map, ev_map, ev_changed rfl rfl (dX_ne h), ev_changed rfl rfl (dY_ne h), ev2, ev2]
  grind
/-! ### the laying -/
def L : Nat → List Int → List Int → List Int
  | 0, f, g => ml f g
  | t + 1, f, g => zs (-1) (L t (dX f) (dY g)) (L t (dY f) (dX g))
theorem L_len : ∀ (t : Nat) (f g : List Int), t + 1 ≤ f.length → t + 1 ≤ g.length → (L t f g).length = f.length + g.length - 1 - 2 * t
  | 0, f, g, _, _ => ml_len f g
  | t + 1, f, g, hf, hg => by
    have h1 := L_len t (dX f) (dY g) (by rw [dX_len]; omega) (by rw [dY_len]; omega)
    have h2 := L_len t (dY f) (dX g) (by rw [dY_len]; omega) (by rw [dX_len]; omega)
    rw [dX_len, dY_len] at h1
    rw [dX_len, dY_len] at h2
    show (zs (-1) (L t (dX f) (dY g)) (L t (dY f) (dX g))).length = _
    rw [zs_len (by rw [h1, h2]), h1]
    omega
theorem ev_L_succ {t : Nat} {f g : List Int} (hf : t + 2 ≤ f.length) (hg : t + 2 ≤ g.length) (x y : Int) : ev (L (t + 1) f g) x y = ev (L t (dX f) (dY g)) x y - ev (L t (dY f) (dX g)) x y := by
  have h1 := L_len t (dX f) (dY g) (by rw [dX_len]; omega) (by rw [dY_len]; omega)
  have h2 := L_len t (dY f) (dX g) (by rw [dY_len]; omega) (by rw [dX_len]; omega)
  rw [dX_len, dY_len] at h1
  rw [dX_len, dY_len] at h2
  show ev (zs (-1) (L t (dX f) (dY g)) (L t (dY f) (dX g))) x y = _
  rw [ev_zs (-1) (by rw [h1, h2])]
  omega
theorem dX_zs' (c : Int) {l m : List Int} (h : l.length = m.length) : dX (zs c l m) = zs c (dX l) (dX m) := by
  refine co_inj (by rw [dX_len, zs_len h, zs_len (by rw [dX_len, dX_len, h]), dX_len]) fun k => ?_
  rw [co_zs' c (by rw [dX_len, dX_len, h])]
  unfold dX
  rw [co_tb, co_tb, co_tb, zs_len h, ← h, co_zs' c h]
  by_cases d : k < l.length - 1
  · rw [if_pos d, if_pos d, if_pos d]
    grind
  · rw [if_neg d, if_neg d, if_neg d]
    grind
theorem dY_zs' (c : Int) {l m : List Int} (h : l.length = m.length) : dY (zs c l m) = zs c (dY l) (dY m) := by
  refine co_inj (by rw [dY_len, zs_len h, zs_len (by rw [dY_len, dY_len, h]), dY_len]) fun k => ?_
  rw [co_zs' c (by rw [dY_len, dY_len, h])]
  unfold dY
  rw [co_tb, co_tb, co_tb, zs_len h, ← h, co_zs' c h]
  by_cases d : k < l.length - 1
  · rw [if_pos d, if_pos d, if_pos d]
    grind
  · rw [if_neg d, if_neg d, if_neg d]
    grind
/-- a laying is a sum in both -/
theorem L_zsl (c : Int) (x y : Int) : ∀ (t : Nat) (f f' g : List Int), f.length = f'.length → t + 1 ≤ f.length → t + 1 ≤ g.length → ev (L t (zs c f f') g) x y = ev (L t f g) x y + c * ev (L t f' g) x y
  | 0, f, f', g, h, hf, hg => by
    have n1 : zs c f f' ≠ [] := ne_of2 (by rw [zs_len h]; omega)
    show ev (ml (zs c f f') g) x y = ev (ml f g) x y + c * ev (ml f' g) x y
    rw [ev_ml n1 (ne_of2 hg), ev_ml (ne_of2 hf) (ne_of2 hg), ev_ml (ne_of2 (by omega)) (ne_of2 hg), ev_zs c h]
    grind
  | t + 1, f, f', g, h, hf, hg => by
    rw [ev_L_succ (by rw [zs_len h]; omega) (by omega), ev_L_succ (by omega) (by omega), ev_L_succ (by omega) (by omega), dX_zs' c h, dY_zs' c h,
      L_zsl c x y t _ _ _ (by rw [dX_len, dX_len, h]) (by rw [dX_len]; omega) (by rw [dY_len]; omega), L_zsl c x y t _ _ _ (by rw [dY_len, dY_len, h]) (by rw [dY_len]; omega) (by rw [dX_len]; omega)]
    grind
theorem L_zsr (c : Int) (x y : Int) : ∀ (t : Nat) (f g g' : List Int), g.length = g'.length → t + 1 ≤ f.length → t + 1 ≤ g.length → ev (L t f (zs c g g')) x y = ev (L t f g) x y + c * ev (L t f g') x y
  | 0, f, g, g', h, hf, hg => by
    have n1 : zs c g g' ≠ [] := ne_of2 (by rw [zs_len h]; omega)
    show ev (ml f (zs c g g')) x y = ev (ml f g) x y + c * ev (ml f g') x y
    rw [ev_ml (ne_of2 hf) n1, ev_ml (ne_of2 hf) (ne_of2 hg), ev_ml (ne_of2 hf) (ne_of2 (by omega)), ev_zs c h]
    grind
  | t + 1, f, g, g', h, hf, hg => by
    rw [ev_L_succ (by omega) (by rw [zs_len h]; omega), ev_L_succ (by omega) (by omega), ev_L_succ (by omega) (by omega), dX_zs' c h, dY_zs' c h,
      L_zsr c x y t _ _ _ (by rw [dY_len, dY_len, h]) (by rw [dX_len]; omega) (by rw [dY_len]; omega), L_zsr c x y t _ _ _ (by rw [dX_len, dX_len, h]) (by rw [dY_len]; omega) (by rw [dX_len]; omega)]
    grind
theorem dX_map (c : Int) (l : List Int) : dX (l.map (c * ·)) = (dX l).map (c * ·) := by
  refine co_inj (by rw [dX_len, map_len, map_len, dX_len]) fun k => ?_
  rw [co_map]
  unfold dX
  rw [co_tb, co_tb, map_len, co_map]
  by_cases d : k < l.length - 1
  · rw [if_pos d, if_pos d]
    grind
  · rw [if_neg d, if_neg d]
    grind
theorem dY_map (c : Int) (l : List Int) : dY (l.map (c * ·)) = (dY l).map (c * ·) := by
  refine co_inj (by rw [dY_len, map_len, map_len, dY_len]) fun k => ?_
  rw [co_map]
  unfold dY
  rw [co_tb, co_tb, map_len, co_map]
  by_cases d : k < l.length - 1
  · rw [if_pos d, if_pos d]
    grind
  · rw [if_neg d, if_neg d]
    grind
theorem L_mapl (c : Int) (x y : Int) : ∀ (t : Nat) (f g : List Int), t + 1 ≤ f.length → t + 1 ≤ g.length → ev (L t (f.map (c * ·)) g) x y = c * ev (L t f g) x y
  | 0, f, g, hf, hg => by
    show ev (ml (f.map (c * ·)) g) x y = c * ev (ml f g) x y
    rw [ev_ml (ne_of2 (by rw [map_len]; omega)) (ne_of2 hg), ev_ml (ne_of2 hf) (ne_of2 hg), ev_map]
    grind
  | t + 1, f, g, hf, hg => by
    rw [ev_L_succ (by rw [map_len]; omega) (by omega), ev_L_succ (by omega) (by omega), dX_map, dY_map, L_mapl c x y t _ _ (by rw [dX_len]; omega) (by rw [dY_len]; omega), L_mapl c x y t _ _ (by rw [dY_len]; omega) (by rw [dX_len]; omega)]
    grind
theorem L_mapr (c : Int) (x y : Int) : ∀ (t : Nat) (f g : List Int), t + 1 ≤ f.length → t + 1 ≤ g.length → ev (L t f (g.map (c * ·))) x y = c * ev (L t f g) x y
  | 0, f, g, hf, hg => by
    show ev (ml f (g.map (c * ·))) x y = c * ev (ml f g) x y
    rw [ev_ml (ne_of2 hf) (ne_of2 (by rw [map_len]; omega)), ev_ml (ne_of2 hf) (ne_of2 hg), ev_map]
    grind
  | t + 1, f, g, hf, hg => by
    rw [ev_L_succ (by omega) (by rw [map_len]; omega), ev_L_succ (by omega) (by omega), dX_map, dY_map, L_mapr c x y t _ _ (by rw [dX_len]; omega) (by rw [dY_len]; omega), L_mapr c x y t _ _ (by rw [dY_len]; omega) (by rw [dX_len]; omega)]
    grind
/-- laid after a change -/
theorem L_changed {a b c e : Int} (x y : Int) : ∀ (t : Nat) (f g : List Int), t + 1 ≤ f.length → t + 1 ≤ g.length →
    ev (L t (changed [a, b] [c, e] f) (changed [a, b] [c, e] g)) x y = (a * e - b * c) ^ t * ev (L t f g) (a * x + b * y) (c * x + e * y)
  | 0, f, g, hf, hg => by
    have l1 := changed_len (X := [a, b]) (Y := [c, e]) rfl rfl (ne_of2 hf)
    have l2 := changed_len (X := [a, b]) (Y := [c, e]) rfl rfl (ne_of2 hg)
    rw [Int.pow_zero, Int.one_mul]
    show ev (ml (changed [a, b] [c, e] f) (changed [a, b] [c, e] g)) x y = ev (ml f g) _ _
    rw [ev_ml (ne_of2 (by omega)) (ne_of2 (by omega)), ev_ml (ne_of2 hf) (ne_of2 hg), ev_changed rfl rfl (ne_of2 hf), ev_changed rfl rfl (ne_of2 hg), ev2, ev2]
  | t + 1, f, g, hf, hg => by
    have l1 := changed_len (X := [a, b]) (Y := [c, e]) rfl rfl (ne_of2 (show 1 ≤ f.length by omega))
    have l2 := changed_len (X := [a, b]) (Y := [c, e]) rfl rfl (ne_of2 (show 1 ≤ g.length by omega))
    have lfx := changed_len (X := [a, b]) (Y := [c, e]) rfl rfl (dX_ne (l := f) (by omega))
    have lfy := changed_len (X := [a, b]) (Y := [c, e]) rfl rfl (dY_ne (l := f) (by omega))
    have lgx := changed_len (X := [a, b]) (Y := [c, e]) rfl rfl (dX_ne (l := g) (by omega))
    have lgy := changed_len (X := [a, b]) (Y := [c, e]) rfl rfl (dY_ne (l := g) (by omega))
    rw [dX_len] at lfx lgx
    rw [dY_len] at lfy lgy
    rw [ev_L_succ (by omega) (by omega), ev_L_succ (by omega) (by omega), dX_changed (l := f) (by omega), dY_changed (l := f) (by omega), dX_changed (l := g) (by omega), dY_changed (l := g) (by omega)]
    have two : ∀ (p q r s : Int), ev (L t (zs 1 ((changed [a, b] [c, e] (dX f)).map (p * ·)) ((changed [a, b] [c, e] (dY f)).map (q * ·))) (zs 1 ((changed [a, b] [c, e] (dX g)).map (r * ·)) ((changed [a, b] [c, e] (dY g)).map (s * ·)))) x y =
        p * r * ((a * e - b * c) ^ t * ev (L t (dX f) (dX g)) (a * x + b * y) (c * x + e * y)) + p * s * ((a * e - b * c) ^ t * ev (L t (dX f) (dY g)) (a * x + b * y) (c * x + e * y)) +
        q * r * ((a * e - b * c) ^ t * ev (L t (dY f) (dX g)) (a * x + b * y) (c * x + e * y)) + q * s * ((a * e - b * c) ^ t * ev (L t (dY f) (dY g)) (a * x + b * y) (c * x + e * y)) := fun p q r s => by
      have ih1 := L_changed (a := a) (b := b) (c := c) (e := e) x y t (dX f) (dX g) (by rw [dX_len]; omega) (by rw [dX_len]; omega)
      have ih2 := L_changed (a := a) (b := b) (c := c) (e := e) x y t (dX f) (dY g) (by rw [dX_len]; omega) (by rw [dY_len]; omega)
      have ih3 := L_changed (a := a) (b := b) (c := c) (e := e) x y t (dY f) (dX g) (by rw [dY_len]; omega) (by rw [dX_len]; omega)
      have ih4 := L_changed (a := a) (b := b) (c := c) (e := e) x y t (dY f) (dY g) (by rw [dY_len]; omega) (by rw [dY_len]; omega)
      rw [L_zsl 1 x y t _ _ _ (by rw [map_len, map_len, lfx, lfy]) (by rw [map_len, lfx]; omega) (by rw [zs_len (by rw [map_len, map_len, lgx, lgy]), map_len, lgx]; omega),
        L_zsr 1 x y t _ _ _ (by rw [map_len, map_len, lgx, lgy]) (by rw [map_len, lfx]; omega) (by rw [map_len, lgx]; omega),
        L_zsr 1 x y t _ _ _ (by rw [map_len, map_len, lgx, lgy]) (by rw [map_len, lfy]; omega) (by rw [map_len, lgx]; omega),
        L_mapl p x y t _ _ (by rw [lfx]; omega) (by rw [map_len, lgx]; omega), L_mapl p x y t _ _ (by rw [lfx]; omega) (by rw [map_len, lgy]; omega),
        L_mapl q x y t _ _ (by rw [lfy]; omega) (by rw [map_len, lgx]; omega), L_mapl q x y t _ _ (by rw [lfy]; omega) (by rw [map_len, lgy]; omega),
        L_mapr r x y t _ _ (by rw [lfx]; omega) (by rw [lgx]; omega), L_mapr s x y t _ _ (by rw [lfx]; omega) (by rw [lgy]; omega),
        L_mapr r x y t _ _ (by rw [lfy]; omega) (by rw [lgx]; omega), L_mapr s x y t _ _ (by rw [lfy]; omega) (by rw [lgy]; omega), ih1, ih2, ih3, ih4]
      grind
    rw [two, two, Int.pow_succ]
    grind
/-! ### sums -/
def su : Nat → (Nat → Int) → Int
  | 0, _ => 0
  | n + 1, φ => su n φ + φ n
theorem su_congr {φ ψ : Nat → Int} : ∀ n, (∀ k, k < n → φ k = ψ k) → su n φ = su n ψ
  | 0, _ => rfl
  | n + 1, h => by
    show su n φ + φ n = su n ψ + ψ n
    rw [su_congr n fun k hk => h k (by omega), h n (by omega)]
theorem su_add (φ ψ : Nat → Int) : ∀ n, su n (fun k => φ k + ψ k) = su n φ + su n ψ
  | 0 => rfl
  | n + 1 => by
    show su n (fun k => φ k + ψ k) + (φ n + ψ n) = su n φ + φ n + (su n ψ + ψ n)
    rw [su_add φ ψ n]
    omega
theorem su_shift (φ : Nat → Int) : ∀ n, su (n + 1) φ = φ 0 + su n (fun k => φ (k + 1))
  | 0 => by show 0 + φ 0 = φ 0 + 0; omega
  | n + 1 => by
    show su (n + 1) φ + φ (n + 1) = φ 0 + (su n (fun k => φ (k + 1)) + φ (n + 1))
    rw [su_shift φ n]
    omega
/-- how many lots -/
def ch : Nat → Nat → Nat
  | _, 0 => 1
  | 0, _ + 1 => 0
  | n + 1, k + 1 => ch n k + ch n (k + 1)
theorem ch_zero (n : Nat) : ch n 0 = 1 := by cases n <;> rfl
theorem ch_far : ∀ n k : Nat, n < k → ch n k = 0
  | n, 0, h => absurd h (Nat.not_lt_zero n)
  | 0, k + 1, _ => rfl
  | n + 1, k + 1, h => by
    show ch n k + ch n (k + 1) = 0
    rw [ch_far n k (by omega), ch_far n (k + 1) (by omega)]
theorem ch_mul : ∀ n k : Nat, (ch n (k + 1) : Int) * ((k : Int) + 1) = ch n k * ((n : Int) - k)
  | 0, k => by
    show ((0 : Nat) : Int) * _ = _
    cases k with
    | zero => show (0 : Int) * _ = 1 * ((0 : Int) - 0); grind
    | succ k => show (0 : Int) * _ = (0 : Int) * _; grind
  | n + 1, 0 => by
    have h := ch_mul n 0
    rw [ch_zero] at h
    show ((ch n 0 + ch n (0 + 1) : Nat) : Int) * _ = ((ch (n + 1) 0 : Nat) : Int) * _
    rw [ch_zero, ch_zero, Int.natCast_add]
    have e : ((0 : Nat) : Int) = 0 := rfl
    rw [e] at h ⊢
    rw [show ((n + 1 : Nat) : Int) = (n : Int) + 1 by omega]
    grind
  | n + 1, k + 1 => by
    have h1 := ch_mul n (k + 1)
    have h2 := ch_mul n k
    show ((ch n (k + 1) + ch n (k + 1 + 1) : Nat) : Int) * _ = ((ch n k + ch n (k + 1) : Nat) : Int) * _
    rw [Int.natCast_add (ch n (k + 1)), Int.natCast_add (ch n k)]
    rw [show ((k + 1 : Nat) : Int) = (k : Int) + 1 by omega] at h1 ⊢
    rw [show ((n + 1 : Nat) : Int) = (n : Int) + 1 by omega]
    grind
/-- the sign of a place -/
def sgn (k : Nat) : Int := if k % 2 = 0 then 1 else -1
theorem sgn_succ (k : Nat) : sgn (k + 1) = -sgn k := by
  unfold sgn
  by_cases h : k % 2 = 0
  · rw [if_pos h, if_neg (by omega)]
  · rw [if_neg h, if_pos (by omega)]
    rfl
theorem dXY (l : List Int) : dX (dY l) = dY (dX l) := by
  refine co_inj (by rw [dX_len, dY_len, dY_len, dX_len]) fun k => ?_
  have a1 : ∀ m : List Int, ∀ k, co (dX m) k = if k < m.length - 1 then co m k * ((m.length : Int) - 1 - k) else 0 := fun m k => co_tb k
  have a2 : ∀ m : List Int, ∀ k, co (dY m) k = if k < m.length - 1 then co m (k + 1) * ((k : Int) + 1) else 0 := fun m k => co_tb k
  rw [a1 (dY l), a2 (dX l), dX_len, dY_len, a1 l, a2 l]
  by_cases h : k < l.length - 1 - 1
  · rw [if_pos h, if_pos h, if_pos (by omega), if_pos (by omega)]
    rw [show ((k + 1 : Nat) : Int) = (k : Int) + 1 by omega, show ((l.length - 1 : Nat) : Int) = (l.length : Int) - 1 by omega]
    grind
  · rw [if_neg h, if_neg h]
theorem it_succ (f : List Int → List Int) (n : Nat) (l : List Int) : it f n (f l) = it f (n + 1) l := by
  induction n with
  | zero => rfl
  | succ n ih => show f (it f n (f l)) = f (it f (n + 1) l); rw [ih]
theorem dX_it_dY (l : List Int) : ∀ n, it dX n (dY l) = dY (it dX n l)
  | 0 => rfl
  | n + 1 => by
    show dX (it dX n (dY l)) = dY (dX (it dX n l))
    rw [dX_it_dY l n, dXY]
theorem dd_dX (i j : Nat) (l : List Int) : dd i j (dX l) = dd (i + 1) j l := by
  unfold dd
  rw [it_succ]
theorem dd_dY (i j : Nat) (l : List Int) : dd i j (dY l) = dd i (j + 1) l := by
  unfold dd
  rw [dX_it_dY, it_succ]
/-- a laying, as a sum -/
theorem L_sum (x y : Int) : ∀ (t : Nat) (f g : List Int), t + 1 ≤ f.length → t + 1 ≤ g.length →
    ev (L t f g) x y = su (t + 1) fun k => sgn k * ch t k * (ev (dd (t - k) k f) x y * ev (dd k (t - k) g) x y)
  | 0, f, g, hf, hg => by
    show ev (ml f g) x y = 0 + 1 * 1 * (ev f x y * ev g x y)
    rw [ev_ml (ne_of2 hf) (ne_of2 hg)]
    grind
  | t + 1, f, g, hf, hg => by
    rw [ev_L_succ (by omega) (by omega), L_sum x y t _ _ (by rw [dX_len]; omega) (by rw [dY_len]; omega), L_sum x y t _ _ (by rw [dY_len]; omega) (by rw [dX_len]; omega)]
    have T : ∃ T : Nat → Int, ∀ k, k ≤ t + 1 → T k = ev (dd (t + 1 - k) k f) x y * ev (dd k (t + 1 - k) g) x y := ⟨_, fun _ _ => rfl⟩
    obtain ⟨T, hT⟩ := T
    have e1 : su (t + 1) (fun k => sgn k * ch t k * (ev (dd (t - k) k (dX f)) x y * ev (dd k (t - k) (dY g)) x y)) = su (t + 1) fun k => sgn k * ch t k * T k := su_congr _ fun k hk => by
      rw [dd_dX, dd_dY, hT k (by omega), show t - k + 1 = t + 1 - k by omega]
    have e2 : su (t + 1) (fun k => sgn k * ch t k * (ev (dd (t - k) k (dY f)) x y * ev (dd k (t - k) (dX g)) x y)) = su (t + 1) fun k => sgn k * ch t k * T (k + 1) := su_congr _ fun k hk => by
      rw [dd_dX, dd_dY, hT (k + 1) (by omega), show t + 1 - (k + 1) = t - k by omega]
    have e3 : su (t + 1 + 1) (fun k => sgn k * ch (t + 1) k * (ev (dd (t + 1 - k) k f) x y * ev (dd k (t + 1 - k) g) x y)) = su (t + 1 + 1) fun k => sgn k * ch (t + 1) k * T k := su_congr _ fun k hk => by
      rw [hT k (by omega)]
    rw [e1, e2, e3, su_shift _ (t + 1)]
    have e4 : su (t + 1) (fun k => sgn (k + 1) * ch (t + 1) (k + 1) * T (k + 1)) = su (t + 1) (fun k => sgn (k + 1) * ch t (k + 1) * T (k + 1)) + su (t + 1) (fun k => -1 * (sgn k * ch t k * T (k + 1))) := by
      rw [← su_add]
      refine su_congr _ fun k hk => ?_
      show sgn (k + 1) * ((ch t k + ch t (k + 1) : Nat) : Int) * T (k + 1) = _
      rw [Int.natCast_add, sgn_succ]
      grind
    have e5 := su_shift (fun k => sgn k * ch t k * T k) (t + 1)
    have e6 : su (t + 1 + 1) (fun k => sgn k * ch t k * T k) = su (t + 1) (fun k => sgn k * ch t k * T k) + sgn (t + 1) * ch t (t + 1) * T (t + 1) := rfl
    have e7 : su (t + 1) (fun k => -1 * (sgn k * ch t k * T (k + 1))) = - su (t + 1) (fun k => sgn k * ch t k * T (k + 1)) := by
      have : ∀ n φ, su n (fun k => -1 * φ k) = - su n φ := by
        intro n φ
        induction n with
        | zero => rfl
        | succ n ih => show su n (fun k => -1 * φ k) + -1 * φ n = -(su n φ + φ n); rw [ih]; omega
      exact this _ _
    rw [e4, e7]
    rw [e6, ch_far t (t + 1) (by omega)] at e5
    rw [ch_zero] at e5 ⊢
    have z0 : sgn (t + 1) * ((0 : Nat) : Int) * T (t + 1) = 0 := by
      rw [show ((0 : Nat) : Int) = 0 from rfl, Int.mul_zero, Int.zero_mul]
    omega
end K59

set_option Elab.async false
set_option linter.all false
set_option maxRecDepth 100000
set_option maxHeartbeats 4000000
namespace K59
open PySem PySem.Spec PyProof.Rows L2 StX RZ MyR SlX OwnR OwnF EnumT GxR
/-! ### the first entry other than 0 -/
def nzr (l : List Int) : Bool := l.any (· != 0)
def fi (l : List Int) : Nat := l.findIdx (· != 0)
theorem fi_lt {l : List Int} (h : nzr l = true) : fi l < l.length := by
  unfold fi
  refine List.findIdx_lt_length_of_exists ?_
  obtain ⟨x, h1, h2⟩ := List.any_eq_true.mp h
  exact ⟨x, h1, h2⟩
theorem fi_ne {l : List Int} (h : nzr l = true) : co l (fi l) ≠ 0 := by
  have := List.findIdx_getElem (p := (· != 0)) (w := fi_lt h)
  rw [co_get (fi_lt h)]
  have h2 : (l[fi l]'(fi_lt h) != 0) = true := this
  simpa using h2
theorem fi_first {l : List Int} {i : Nat} {z : Int} (h1 : l[i]? = some z) (h2 : (z != 0) = true) (h3 : ∀ (j : Nat) (y : Int), j < i → l[j]? = some y → (y != 0) = false) : fi l = i := by
  obtain ⟨hi, e⟩ := List.getElem?_eq_some_iff.mp h1
  unfold fi
  refine (List.findIdx_eq hi).mpr ⟨by rw [e]; exact h2, fun j hj => ?_⟩
  exact h3 j _ hj (List.getElem?_eq_getElem (by omega))
theorem nzr_of {l : List Int} {i : Nat} {z : Int} (h1 : l[i]? = some z) (h2 : (z != 0) = true) : nzr l = true := List.any_eq_true.mpr ⟨z, List.mem_of_getElem? h1, h2⟩
theorem nzr_no {l : List Int} (h : ∀ (j : Nat) (z : Int), l[j]? = some z → (z != 0) = false) : nzr l = false := by
  cases e : nzr l with
  | false => rfl
  | true =>
    obtain ⟨x, h1, h2⟩ := List.any_eq_true.mp e
    obtain ⟨j, hj, ej⟩ := List.getElem_of_mem h1
    rw [h j x (by rw [← ej]; exact List.getElem?_eq_getElem hj)] at h2
    cases h2
theorem nzr_co {l : List Int} (h : nzr l = false) (k : Nat) : co l k = 0 := by
  by_cases hk : k < l.length
  · have := List.any_eq_false.mp h l[k] (List.getElem_mem hk)
    rw [co_get hk]
    simpa using this
  · exact co_far (by omega)
theorem nzr_iff {l : List Int} : nzr l = true ↔ ∃ k, k < l.length ∧ co l k ≠ 0 := by
  constructor
  · intro h
    exact ⟨fi l, fi_lt h, fi_ne h⟩
  · rintro ⟨k, hk, hz⟩
    cases e : nzr l with
    | true => rfl
    | false => exact absurd (nzr_co e k) hz
theorem cont_nzr (l : List Int) : cont l = 0 ↔ nzr l = false := by
  have h := any_cont l
  unfold nzr
  constructor
  · intro e
    rw [decide_eq_true e] at h
    simpa using h
  · intro e
    rw [e] at h
    exact of_decide_eq_true h.symm
/-! ### tables of code objects -/
def Tg (Ps : List Addr) (H : Hp) : Prop := ∀ P ∈ Ps, TabG H P
def Sts (Ps : List Addr) (H H' : Hp) : Prop := ∀ b o, b ∉ Ps → H b = some o → H' b = some o
/-- all but the dice at d and the tables Ps stays -/
def Sy (d : Addr) (Ps : List Addr) (H H' : Hp) : Prop := ∀ b o, b ≠ d → b ∉ Ps → H b = some o → H' b = some o
theorem Sts.rf (Ps : List Addr) (H : Hp) : Sts Ps H H := fun _ _ _ e => e
theorem Sts.of {Ps : List Addr} {H H' : Hp} (s : Same H H') : Sts Ps H H' := fun b o _ h => s b o h
theorem Sts.trans {Ps : List Addr} {H H1 H2 : Hp} (s : Sts Ps H H1) (t : Sts Ps H1 H2) : Sts Ps H H2 := fun b o n h => t b o n (s b o n h)
theorem Sy.rf (d : Addr) (Ps : List Addr) (H : Hp) : Sy d Ps H H := fun _ _ _ _ e => e
theorem Sy.of {d : Addr} {Ps : List Addr} {H H' : Hp} (s : Same H H') : Sy d Ps H H' := fun b o _ _ h => s b o h
theorem Sy.ofD {d : Addr} {Ps : List Addr} {H H' : Hp} (s : Sx d H H') : Sy d Ps H H' := fun b o n _ h => s b o n h
theorem Sy.ofP {d : Addr} {Ps : List Addr} {H H' : Hp} (s : Sts Ps H H') : Sy d Ps H H' := fun b o _ n h => s b o n h
theorem Sy.trans {d : Addr} {Ps : List Addr} {H H1 H2 : Hp} (s : Sy d Ps H H1) (t : Sy d Ps H1 H2) : Sy d Ps H H2 := fun b o n m h => t b o n m (s b o n m h)
theorem tabS {P : Addr} {H H' : Hp} (t : TabG H P) (s : Same H H') : TabG H' P := by
  obtain ⟨ps, h, k⟩ := t
  exact ⟨ps, s _ _ h, k⟩
theorem Tg.same {Ps : List Addr} {H H' : Hp} (t : Tg Ps H) (s : Same H H') : Tg Ps H' := fun P m => tabS (t P m) s
theorem Tg.sx {Ps : List Addr} {d : Addr} {H H' : Hp} (t : Tg Ps H) (s : Sx d H H') (hd : Dc H d) : Tg Ps H' := fun P m => by
  obtain ⟨ps, h, k⟩ := t P m
  obtain ⟨x, y, z, e⟩ := hd
  refine ⟨ps, s _ _ (fun q => ?_) h, k⟩
  rw [q, e] at h
  cases h
theorem Tg.ne {Ps : List Addr} {H : Hp} {a : Addr} {o : HO} (t : Tg Ps H) (h : H a = some o) (ho : ∀ ps, o ≠ .tbl ps) : a ∉ Ps := fun m => by
  obtain ⟨ps, e, _⟩ := t a m
  rw [h] at e
  exact ho ps (Option.some.inj e)
theorem Tg.sts {Ps : List Addr} {H H1 H' : Hp} (t : Tg Ps H1) (s : Sts Ps H H1) (s2 : Same H1 H') : Tg Ps H' := t.same s2
theorem tbd_sts {Ps : List Addr} {P : Addr} {H H' : Hp} (t : Tabbed P H H') (h : P ∈ Ps) : Sts Ps H H' := fun b o nb e => (t.2 b (fun z => nb (z ▸ h))).trans e
theorem tbd_tg {Ps : List Addr} {P : Addr} {H H' : Hp} (t : Tabbed P H H') (g : Tg Ps H) : Tg Ps H' := fun P' m => by
  by_cases e : P' = P
  · rw [e]
    exact t.1
  · obtain ⟨ps, h, k⟩ := g P' m
    exact ⟨ps, (t.2 P' e).trans h, k⟩
theorem Sts.tup {Ps : List Addr} {H H' : Hp} {t : Addr} {xs : List V} (s : Sts Ps H H') (g : Tg Ps H) (h : H t = some (.tup xs)) : H' t = some (.tup xs) := s _ _ (g.ne h fun _ e => by cases e) h
theorem Sts.lst {Ps : List Addr} {H H' : Hp} {t : Addr} {xs : List V} (s : Sts Ps H H') (g : Tg Ps H) (h : H t = some (.lst xs)) : H' t = some (.lst xs) := s _ _ (g.ne h fun _ e => by cases e) h
theorem Sts.fo {Ps : List Addr} {C a : Addr} {H H' : Hp} {l : List Int} (s : Sts Ps H H') (g : Tg Ps H) (h : Fo C H a l) : Fo C H' a l := by
  obtain ⟨dx, t, e1, e2, e3⟩ := h
  exact ⟨dx, t, s _ _ (g.ne e1 fun _ e => by cases e) e1, s _ _ (g.ne e2 fun _ e => by cases e) e2, s _ _ (g.ne e3 fun _ e => by cases e) e3⟩
theorem Sts.dc {Ps : List Addr} {d : Addr} {H H' : Hp} (s : Sts Ps H H') (g : Tg Ps H) (h : Dc H d) : Dc H' d := by
  obtain ⟨x, y, z, e⟩ := h
  exact ⟨x, y, z, s _ _ (g.ne e fun _ e => by cases e) e⟩
/-- dice and the tables -/
structure Dp (d : Addr) (Ps : List Addr) (H : Hp) : Prop where
  dd : Dc H d
  tt : Tg Ps H
theorem Dp.same {d : Addr} {Ps : List Addr} {H H' : Hp} (D : Dp d Ps H) (s : Same H H') : Dp d Ps H' := ⟨D.dd.same s, D.tt.same s⟩
theorem Dp.sx {d : Addr} {Ps : List Addr} {H H' : Hp} (D : Dp d Ps H) (s : Sx d H H') (h : Dc H' d) : Dp d Ps H' := ⟨h, D.tt.sx s D.dd⟩
theorem Dp.sp {d : Addr} {Ps : List Addr} {H H' : Hp} (D : Dp d Ps H) (s : Sts Ps H H') (h : Tg Ps H') : Dp d Ps H' := ⟨s.dc D.tt D.dd, h⟩
theorem Dp.tup {d : Addr} {Ps : List Addr} {H H' : Hp} {t : Addr} {xs : List V} (D : Dp d Ps H) (s : Sy d Ps H H') (h : H t = some (.tup xs)) : H' t = some (.tup xs) := s _ _ (dc_ne D.dd h) (D.tt.ne h fun _ e => by cases e) h
theorem Dp.fo {d : Addr} {Ps : List Addr} {H H' : Hp} {C a : Addr} {l : List Int} (D : Dp d Ps H) (s : Sy d Ps H H') (h : Fo C H a l) : Fo C H' a l := by
  obtain ⟨dx, t, e1, e2, e3⟩ := h
  obtain ⟨x, y, z, e⟩ := D.dd
  have nd : ∀ {b o}, H b = some o → (∀ l, o ≠ .lst l) → b ≠ d := fun h1 h2 q => by
    rw [q, e] at h1
    exact h2 _ (Option.some.inj h1).symm
  exact ⟨dx, t, s _ _ (nd e1 fun _ e => by cases e) (D.tt.ne e1 fun _ e => by cases e) e1, s _ _ (nd e2 fun _ e => by cases e) (D.tt.ne e2 fun _ e => by cases e) e2, s _ _ (nd e3 fun _ e => by cases e) (D.tt.ne e3 fun _ e => by cases e) e3⟩
theorem script_Sy {K : PySem.W.Frag} {d a : Addr} {Ps : List Addr} {H H' : Hp} {o : HO} {xs : List V} (s : Sy d Ps (upd H d o) H') (n : H d = none) (t : Tg Ps H) (h : SqL K H a xs) : SqL K H' a xs := by
  rcases h with (h | ⟨u, h⟩) | h
  · have ne : a ≠ d := ne_of_none h n
    exact .inl (.inl (s a _ ne (t.ne h fun _ e => by cases e) (by rw [upd_ne ne]; exact h)))
  · have ne : a ≠ d := ne_of_none h n
    exact .inl (.inr ⟨u, s a _ ne (t.ne h fun _ e => by cases e) (by rw [upd_ne ne]; exact h)⟩)
  · exact .inr h
def spLawT (K : PySem.W.Frag) (Ps : List Addr) : Sp := fun vs H Q _ => ∃ (a : Addr) (ns : List Int), vs = [.ref a] ∧ SqL K H a (ns.map V.int) ∧ ns.length ≤ 63 ∧ Tg Ps H ∧ ∀ H', Q (.bl true) H'
end K59

set_option Elab.async false
set_option linter.all false
set_option maxRecDepth 100000
set_option maxHeartbeats 2000000
/-! // by an int of any size, where the quotient is not too great: fewer than 4500 bits -/
namespace FDivQ
open PySem PySem.Spec PyProof.Rows L2
/-- a divisor other than 0 of fewer than 9000 bits, or a quotient of fewer than some 4470 -/
def CDivQ (i j : Int) : Prop := j ≠ 0 ∧ (j.natAbs.log2 < 9000 ∨ i.natAbs.log2 ≤ j.natAbs.log2 + 4470)
/-- an exact quotient below 2 ^ 4470 -/
theorem CDivQ.exact {i j q : Int} (hj : j ≠ 0) (e : i = q * j) (hq : q.natAbs < 2 ^ 4470) : CDivQ i j := by
  refine ⟨hj, .inr ?_⟩
  by_cases h0 : i.natAbs = 0
  · rw [h0, Nat.log2_zero]
    exact Nat.zero_le _
  · have h1 : j.natAbs ≠ 0 := by omega
    have h2 : i.natAbs < 2 ^ (4470 + (j.natAbs.log2 + 1)) := by
      rw [e, Int.natAbs_mul, Nat.pow_add]
      exact Nat.mul_lt_mul'' hq Nat.lt_log2_self
    have := (Nat.log2_lt h0).mpr h2
    omega
end FDivQ

set_option Elab.async false
set_option linter.all false
/-! list(xs) of a list or a tuple, the fragment named (for comprehensions) -/
namespace ListOf
open PySem PySem.Spec PyProof.Rows L2
end ListOf

set_option Elab.async false
set_option linter.all false
set_option maxRecDepth 100000
set_option maxHeartbeats 4000000
set_option exponentiation.threshold 10000
namespace K59
open PySem PySem.Spec PyProof.Rows L2 StX RZ MyR SlX OwnR OwnF EnumT GxR GenNx FDivQ
def gl (l : List Int) : Nat := l.foldl (fun a x => Nat.gcd a x.natAbs) 0
theorem gl_snoc (l : List Int) (x : Int) : gl (l ++ [x]) = Nat.gcd (gl l) x.natAbs := by
  unfold gl
  rw [List.foldl_append]
  rfl
def foE (l : List Int) : Int := (l.find? (· != 0)).getD 0
abbrev ls (ns : List Int) : HO := .lst (ns.map V.int)
section
variable {P : Program} {w : World} {K : PySem.W.Frag} {mg : Str → Option Value} {base : Heap} {Ps : List Addr}
def spSharedL (K : PySem.W.Frag) : Sp := fun vs H Q _ => ∃ (t : Addr) (ns : List Int), vs = [.ref t] ∧ SqT K H t (ns.map V.int) ∧ Q (.int (gl ns : Nat)) H
theorem ok_shared_of (T : Facts K mg) : FnOk P w K mg base CX0 1 T.f_shared_of T.fd_shared_of ["numbers"] (spSharedL K) := by
  refine T.F_shared_of.ok sc_shared_of (fun vs H Q E h => ?_) (fun cdv A outer s H vs Q E hr h => ?_)
  · obtain ⟨t, ns, rfl, _⟩ := h
    rfl
  · obtain ⟨t, ns, rfl, ht, q⟩ := h
    refine ⟨_, (PSs.nox (pss_cons (ps_set (i := 1) sc_shared_of.nd rfl (.inl rfl) pe_int)
    (pss_cons (ps_for PassesOwn.never (by rfl) (pi_tup (pv 0)) (pg_name (i := 2) sc_shared_of.nd rfl (.inl rfl))
      (pss_one (ps_set (i := 1) sc_shared_of.nd rfl (.inl rfl) (pe_callBfun cr_gcd (by rfl) T.m_gcd (pa_cons (pv 1) (pa_cons (pv 2) pa_nil))))))
    (pss_one (ps_ret (pv 1)))))), ?_⟩
    refine ⟨_, rfl, t, rfl, ⟨_, ht⟩, for_tup (xs := ns.map V.int) (fun i σ H' => ∃ y, σ = [some (.ref t), some (.int ((gl (ns.take i) : Nat) : Int)), y] ∧ H' = H) ⟨none, rfl, rfl⟩ (fun i σ H' _ hP => by rw [hP.choose_spec.2]; exact ht) (fun i x σ H' hx hP => ?_) (fun σ H' hP => ?_)⟩
    · obtain ⟨y, rfl, rfl⟩ := hP
      obtain ⟨hi, rfl⟩ := int_get hx
      refine ⟨_, rfl, _, rfl, _, _, rfl, some (.int (co ns i)), ?_, rfl⟩
      rw [take_snoc hi, gl_snoc]
      rfl
    · obtain ⟨y, rfl, rfl⟩ := hP
      rw [List.length_map, List.take_length]
      exact ⟨_, rfl, q⟩
end
def dv (l : List Int) (c : Int) : List Int := l.map fun x => x.fdiv c
def primE (l : List Int) : List Int := if gl l = 0 then l else dv l (if 0 < foE l then (gl l : Int) else -(gl l : Int))
def DivOk (l : List Int) : Prop := gl l ≠ 0 → ∀ x ∈ l, CDivQ x (gl l)
theorem co_memE {l : List Int} {k : Nat} (h : k < l.length) : co l k ∈ l := by
  rw [co_get h]
  exact List.getElem_mem h
section
variable {P : Program} {w : World} {K : PySem.W.Frag} {mg : Str → Option Value} {base : Heap} {Ps : List Addr}
def lf (row head : List Int) (p : Nat) : List Int :=
  tb row.length fun k => co row k * (co head p).fdiv (Nat.gcd (co head p).natAbs (co row p).natAbs : Nat) - (co row p).fdiv (Nat.gcd (co head p).natAbs (co row p).natAbs : Nat) * co head k
structure LessOk (row head : List Int) (p : Nat) : Prop where
  c1 : CDivQ (co head p) (Nat.gcd (co head p).natAbs (co row p).natAbs : Nat)
  c2 : CDivQ (co row p) (Nat.gcd (co head p).natAbs (co row p).natAbs : Nat)
  m1 : ∀ k, k < row.length → CMulW (co row k) ((co head p).fdiv (Nat.gcd (co head p).natAbs (co row p).natAbs : Nat))
  m2 : ∀ k, k < row.length → CMulW ((co row p).fdiv (Nat.gcd (co head p).natAbs (co row p).natAbs : Nat)) (co head k)
  d : DivOk (lf row head p)
theorem sz2 : 2 ≤ sizeLine := by decide
end
def RX (p : Addr → List Int → Prop) : List Addr → List (List Int) → Prop
  | [], [] => True
  | a :: as, r :: rs => p a r ∧ RX p as rs
  | _, _ => False
theorem RX.len {p : Addr → List Int → Prop} : ∀ {as : List Addr} {rs : List (List Int)}, RX p as rs → as.length = rs.length
  | [], [], _ => rfl
  | a :: as, r :: rs, h => congrArg (· + 1) (RX.len h.2)
theorem RX.imp {p q : Addr → List Int → Prop} (f : ∀ a r, p a r → q a r) : ∀ {as : List Addr} {rs : List (List Int)}, RX p as rs → RX q as rs
  | [], [], _ => True.intro
  | a :: as, r :: rs, h => ⟨f _ _ h.1, RX.imp f h.2⟩
theorem RX.app {p : Addr → List Int → Prop} {bs : List Addr} {ss : List (List Int)} (g : RX p bs ss) : ∀ {as : List Addr} {rs : List (List Int)}, RX p as rs → RX p (as ++ bs) (rs ++ ss)
  | [], [], _ => g
  | a :: as, r :: rs, h => ⟨h.1, RX.app g h.2⟩
theorem RX.get {p : Addr → List Int → Prop} : ∀ {as : List Addr} {rs : List (List Int)} {i : Nat}, RX p as rs → i < rs.length → ∃ a r, as[i]? = some a ∧ rs[i]? = some r ∧ p a r
  | [], [], _, _, h => absurd h (Nat.not_lt_zero _)
  | a :: as, r :: rs, 0, h, _ => ⟨a, r, rfl, rfl, h.1⟩
  | a :: as, r :: rs, i + 1, h, hi => by
    obtain ⟨b, s, e1, e2, k⟩ := RX.get (i := i) h.2 (Nat.lt_of_succ_lt_succ hi)
    exact ⟨b, s, by rw [List.getElem?_cons_succ]; exact e1, by rw [List.getElem?_cons_succ]; exact e2, k⟩
theorem RX.snoc {p : Addr → List Int → Prop} {as : List Addr} {rs : List (List Int)} {a : Addr} {r : List Int} (h : RX p as rs) (k : p a r) : RX p (as ++ [a]) (rs ++ [r]) := RX.app (bs := [a]) (ss := [r]) ⟨k, True.intro⟩ h
def RR (H : Hp) : List Addr → List (List Int) → Prop := RX fun a r => H a = some (ls r)
def RA (H : Hp) : List Addr → List (List Int) → Prop := RX fun a r => H a = some (tp r) ∨ H a = some (ls r)
theorem RR.same {H H' : Hp} {as : List Addr} {rs : List (List Int)} (h : RR H as rs) (s : Same H H') : RR H' as rs := RX.imp (fun a r e => s _ _ e) h
theorem RR.sts {Ps : List Addr} {H H' : Hp} {as : List Addr} {rs : List (List Int)} (h : RR H as rs) (s : Sts Ps H H') (g : Tg Ps H) : RR H' as rs := RX.imp (fun a r e => s.lst g e) h
theorem RA.same {H H' : Hp} {as : List Addr} {rs : List (List Int)} (h : RA H as rs) (s : Same H H') : RA H' as rs := RX.imp (fun a r e => e.imp (s _ _) (s _ _)) h
theorem RX.impM {p q : Addr → List Int → Prop} : ∀ {as : List Addr} {rs : List (List Int)}, (∀ a ∈ as, ∀ r, p a r → q a r) → RX p as rs → RX q as rs
  | [], [], _, _ => True.intro
  | a :: as, r :: rs, f, h => ⟨f a List.mem_cons_self r h.1, RX.impM (fun b hb => f b (List.mem_cons_of_mem _ hb)) h.2⟩
theorem row_ne {H : Hp} {b D : Addr} {r : List Int} {xs : List Addr} (h : H b = some (ls r)) (hD : H D = some (.lst (xs.map V.ref))) (hx : xs ≠ []) : b ≠ D := fun e => by
  rw [e, hD] at h
  have h := HO.lst.inj (Option.some.inj h)
  cases xs with
  | nil => exact hx rfl
  | cons x xs =>
    cases r with
    | nil => cases h
    | cons y r => cases h
theorem RR.upd {H : Hp} {D : Addr} {o : HO} {xs as : List Addr} {rs : List (List Int)} (h : RR H as rs) (hD : H D = some (.lst (xs.map V.ref))) (hx : as ≠ [] → xs ≠ []) : RR (L2.upd H D o) as rs :=
  RX.impM (fun a ha r e => by rw [upd_ne (row_ne e hD (hx fun z => by rw [z] at ha; cases ha))]; exact e) h
def hix (left : List (List Int)) (p : Nat) : Option Nat := left.findIdx? fun r => co r p != 0
def stp (le : List Int → List Int → Nat → List Int) (p : Nat) (s : List (List Int) × List (List Int)) : List (List Int) × List (List Int) := match hix s.1 p with
  | none => s
  | some h => ((s.1.eraseIdx h).map fun r => le r (s.1.getD h []) p, (s.2.map fun r => le r (s.1.getD h []) p) ++ [s.1.getD h []])
def eS (le : List Int → List Int → Nat → List Int) (rows : List (List Int)) : Nat → List (List Int) × List (List Int)
  | 0 => (rows, [])
  | p + 1 => stp le p (eS le rows p)
def ech (le : List Int → List Int → Nat → List Int) (rows : List (List Int)) (w : Nat) : List (List Int) := (eS le rows w).2.map primE
structure EOk (le : List Int → List Int → Nat → List Int) (rows : List (List Int)) (w : Nat) : Prop where
  d : ∀ r ∈ (eS le rows w).2, DivOk r
  l : ∀ p, p < w → ∀ h, hix (eS le rows p).1 p = some h → ∀ r, (r ∈ (eS le rows p).1.eraseIdx h ∨ r ∈ (eS le rows p).2) → LessOk r ((eS le rows p).1.getD h []) p
theorem primE_len (l : List Int) : (primE l).length = l.length := by
  unfold primE dv
  split
  · rfl
  · rw [List.length_map]
theorem stp_none {le : List Int → List Int → Nat → List Int} {p : Nat} {s : List (List Int) × List (List Int)} (h : hix s.1 p = none) : stp le p s = s := by
  unfold stp
  rw [h]
theorem stp_some {le : List Int → List Int → Nat → List Int} {p h : Nat} {s : List (List Int) × List (List Int)} (e : hix s.1 p = some h) : stp le p s = ((s.1.eraseIdx h).map fun r => le r (s.1.getD h []) p, (s.2.map fun r => le r (s.1.getD h []) p) ++ [s.1.getD h []]) := by
  unfold stp
  rw [e]
section
variable {P : Program} {w : World} {K : PySem.W.Frag} {mg : Str → Option Value} {base : Heap} {Ps : List Addr}
end
def ld (r : List Int) : Nat := r.findIdx (· != 0)
section
variable {P : Program} {w : World} {K : PySem.W.Frag} {mg : Str → Option Value} {base : Heap} {Ps : List Addr}
end
end K59

set_option Elab.async false
set_option linter.all false
/-! linear algebra over the integers, up to factors: spans, independence, numbers of rows -/
namespace LA
/-- sums -/
def S : Nat → (Nat → Int) → Int
  | 0, _ => 0
  | n + 1, f => S n f + f n
theorem S_congr {f g : Nat → Int} : ∀ {n : Nat}, (∀ i, i < n → f i = g i) → S n f = S n g
  | 0, _ => rfl
  | n + 1, h => by
    show S n f + f n = S n g + g n
    rw [S_congr fun i hi => h i (Nat.lt_succ_of_lt hi), h n (Nat.lt_succ_self n)]
theorem S_zero {f : Nat → Int} {n : Nat} (h : ∀ i, i < n → f i = 0) : S n f = 0 := by
  induction n with
  | zero => rfl
  | succ n ih =>
    show S n f + f n = 0
    rw [ih fun i hi => h i (Nat.lt_succ_of_lt hi), h n (Nat.lt_succ_self n)]
    rfl
theorem S_add (f g : Nat → Int) : ∀ n, S n (fun i => f i + g i) = S n f + S n g
  | 0 => rfl
  | n + 1 => by
    show S n _ + (f n + g n) = (S n f + f n) + (S n g + g n)
    rw [S_add f g n]
    omega
theorem S_mul (c : Int) (f : Nat → Int) : ∀ n, S n (fun i => c * f i) = c * S n f
  | 0 => (Int.mul_zero c).symm
  | n + 1 => by
    show S n _ + c * f n = c * (S n f + f n)
    rw [S_mul c f n, Int.mul_add]
theorem S_mulr (c : Int) (f : Nat → Int) (n : Nat) : S n (fun i => f i * c) = S n f * c := by
  rw [Int.mul_comm (S n f) c, ← S_mul c f n]
  exact S_congr fun i _ => Int.mul_comm _ _
theorem S_swap (f : Nat → Nat → Int) (m : Nat) : ∀ n, S n (fun i => S m (fun k => f i k)) = S m (fun k => S n (fun i => f i k))
  | 0 => (S_zero fun i _ => rfl).symm
  | n + 1 => by
    show S n _ + S m _ = _
    rw [S_swap f m n, ← S_add]
    rfl
/-- one alone -/
theorem S_one {f : Nat → Int} {n p : Nat} (hp : p < n) (h : ∀ i, i < n → i ≠ p → f i = 0) : S n f = f p := by
  induction n with
  | zero => exact absurd hp (Nat.not_lt_zero _)
  | succ n ih =>
    show S n f + f n = f p
    by_cases c : p = n
    · subst c
      rw [S_zero fun i hi => h i (Nat.lt_succ_of_lt hi) (Nat.ne_of_lt hi), Int.zero_add]
    · rw [ih (by omega) fun i hi hne => h i (Nat.lt_succ_of_lt hi) hne, h n (Nat.lt_succ_self n) (Ne.symm c), Int.add_zero]
/-- all but one: i, or i + 1 from p on -/
def sk (p i : Nat) : Nat := if i < p then i else i + 1
theorem S_skip (f : Nat → Int) (p : Nat) : ∀ n, p ≤ n → S (n + 1) f = f p + S n fun i => f (sk p i)
  | 0, h => by
    have : p = 0 := by omega
    subst this
    show 0 + f 0 = f 0 + 0
    omega
  | n + 1, h => by
    by_cases c : p = n + 1
    · subst c
      show S (n + 1) f + f (n + 1) = _
      rw [Int.add_comm]
      congr 1
      exact S_congr fun i hi => by
        unfold sk
        rw [if_pos hi]
    · show S (n + 1) f + f (n + 1) = f p + (S n (fun i => f (sk p i)) + f (sk p n))
      rw [S_skip f p n (by omega), show sk p n = n + 1 by unfold sk; rw [if_neg (by omega)]]
      omega
/-- more vectors than columns: they hang on one another -/
theorem dep : ∀ (m n : Nat) (x : Nat → Nat → Int), m < n → ∃ y : Nat → Int, (∃ i, i < n ∧ y i ≠ 0) ∧ ∀ j, j < m → S n (fun i => y i * x i j) = 0
  | 0, n, x, h => ⟨fun _ => 1, ⟨0, h, by decide⟩, fun j hj => absurd hj (Nat.not_lt_zero _)⟩
  | m + 1, n, x, h => by
    by_cases c : ∀ i, i < n → x i m = 0
    · obtain ⟨y, hy, he⟩ := dep m n x (by omega)
      refine ⟨y, hy, fun j hj => ?_⟩
      by_cases e : j = m
      · subst e
        exact S_zero fun i hi => by rw [c i hi, Int.mul_zero]
      · exact he j (by omega)
    · obtain ⟨p, hp⟩ := Classical.not_forall.mp c
      obtain ⟨hpn, hp0⟩ : p < n ∧ x p m ≠ 0 := ⟨Classical.byContradiction fun z => hp fun a => absurd a z, fun z => hp fun _ => z⟩
      obtain ⟨n', rfl⟩ : ∃ n', n = n' + 1 := ⟨n - 1, by omega⟩
      obtain ⟨y, ⟨i0, hi0, hy0⟩, he⟩ := dep m n' (fun i j => x p m * x (sk p i) j - x (sk p i) m * x p j) (by omega)
      have back : ∀ i, (if sk p i < p then sk p i else sk p i - 1) = i ∧ sk p i ≠ p := fun i => by
        unfold sk
        by_cases z : i < p
        · rw [if_pos z, if_pos z]
          exact ⟨rfl, by omega⟩
        · rw [if_neg z, if_neg (by omega)]
          exact ⟨by omega, by omega⟩
      let Y : Nat → Int := fun k => if k = p then - S n' (fun i => y i * x (sk p i) m) else x p m * y (if k < p then k else k - 1)
      have Yp : Y p = - S n' (fun i => y i * x (sk p i) m) := if_pos rfl
      have Ys : ∀ i, Y (sk p i) = x p m * y i := fun i => by
        show (if sk p i = p then _ else _) = _
        rw [if_neg (back i).2, (back i).1]
      refine ⟨Y, ⟨sk p i0, by unfold sk; split <;> omega, by rw [Ys]; exact Int.mul_ne_zero hp0 hy0⟩, fun j hj => ?_⟩
      have e0 : S n' (fun i => Y (sk p i) * x (sk p i) j) = S n' (fun i => x p m * y i * x (sk p i) j) := S_congr fun i _ => by rw [Ys i]
      rw [S_skip _ p n' (by omega), e0]
      show Y p * x p j + _ = 0
      rw [Yp]
      have e1 : S n' (fun i => x p m * y i * x (sk p i) j) = S n' (fun i => y i * (x p m * x (sk p i) j - x (sk p i) m * x p j)) + S n' (fun i => y i * x (sk p i) m) * x p j := by
        rw [← S_mulr, ← S_add]
        exact S_congr fun i _ => by grind
      rw [e1]
      by_cases e : j = m
      · subst e
        rw [S_zero (f := fun i => y i * (x p j * x (sk p i) j - x (sk p i) j * x p j)) fun i _ => by rw [Int.mul_comm (x p j), Int.sub_self, Int.mul_zero]]
        grind
      · rw [he j (by omega)]
        grind
/-- v, times a number other than 0, is a sum of multiples of m rows -/
def Sp (w m : Nat) (B : Nat → Nat → Int) (v : Nat → Int) : Prop := ∃ c : Int, c ≠ 0 ∧ ∃ a : Nat → Int, ∀ j, j < w → c * v j = S m (fun k => a k * B k j)
def Ind (w n : Nat) (A : Nat → Nat → Int) : Prop := ∀ a : Nat → Int, (∀ j, j < w → S n (fun i => a i * A i j) = 0) → ∀ i, i < n → a i = 0
/-- independent rows are not more than rows whose span holds them -/
theorem steinitz {w n m : Nat} {A B : Nat → Nat → Int} (hI : Ind w n A) (h : ∀ i, i < n → Sp w m B (A i)) : n ≤ m := by
  by_cases c : n ≤ m
  · exact c
  · exfalso
    have h' : ∀ i, ∃ c : Int, i < n → c ≠ 0 ∧ ∃ a : Nat → Int, ∀ j, j < w → c * A i j = S m (fun k => a k * B k j) := fun i => by
      by_cases hi : i < n
      · obtain ⟨c, hc, a, ha⟩ := h i hi
        exact ⟨c, fun _ => ⟨hc, a, ha⟩⟩
      · exact ⟨0, fun z => absurd z hi⟩
    obtain ⟨C, hC⟩ := Classical.axiomOfChoice h'
    have h2 : ∀ i, ∃ a : Nat → Int, i < n → ∀ j, j < w → C i * A i j = S m (fun k => a k * B k j) := fun i => by
      by_cases hi : i < n
      · obtain ⟨_, a, ha⟩ := hC i hi
        exact ⟨a, fun _ => ha⟩
      · exact ⟨fun _ => 0, fun z => absurd z hi⟩
    obtain ⟨a, ha⟩ := Classical.axiomOfChoice h2
    obtain ⟨y, ⟨i0, hi0, hy⟩, he⟩ := dep m n a (by omega)
    have z := hI (fun i => y i * C i) (fun j hj => by
      have e1 : S n (fun i => y i * C i * A i j) = S n (fun i => S m (fun k => y i * a i k * B k j)) := S_congr fun i hi => by
        rw [Int.mul_assoc, ha i hi j hj, ← S_mul]
        exact S_congr fun k _ => by rw [Int.mul_assoc]
      rw [e1, S_swap]
      exact S_zero fun k hk => by rw [S_mulr, he k hk, Int.zero_mul]) i0 hi0
    exact Int.mul_ne_zero hy (hC i0 hi0).1 z
theorem Sp.own {w m : Nat} {B : Nat → Nat → Int} {k : Nat} (hk : k < m) : Sp w m B (B k) := ⟨1, by decide, fun i => if i = k then 1 else 0, fun j _ => by
  rw [Int.one_mul, S_one hk fun i _ hne => by
    show (if i = k then (1 : Int) else 0) * B i j = 0
    rw [if_neg hne, Int.zero_mul]]
  show B k j = (if k = k then (1 : Int) else 0) * B k j
  rw [if_pos rfl, Int.one_mul]⟩
theorem Sp.zero {w m : Nat} {B : Nat → Nat → Int} {v : Nat → Int} (h : ∀ j, j < w → v j = 0) : Sp w m B v := ⟨1, by decide, fun _ => 0, fun j hj => by
  rw [h j hj, S_zero fun i _ => Int.zero_mul _]
  rfl⟩
theorem Sp.lin {w m : Nat} {B : Nat → Nat → Int} {u v : Nat → Int} (α β : Int) (h : Sp w m B u) (g : Sp w m B v) : Sp w m B fun j => α * u j + β * v j := by
  obtain ⟨c, hc, a, ha⟩ := h
  obtain ⟨d, hd, b, hb⟩ := g
  refine ⟨c * d, Int.mul_ne_zero hc hd, fun k => α * d * a k + β * c * b k, fun j hj => ?_⟩
  have e : S m (fun k => (α * d * a k + β * c * b k) * B k j) = α * d * S m (fun k => a k * B k j) + β * c * S m (fun k => b k * B k j) := by
    rw [← S_mul, ← S_mul, ← S_add]
    exact S_congr fun k _ => by grind
  rw [e, ← ha j hj, ← hb j hj]
  grind
theorem Sp.div {w m : Nat} {B : Nat → Nat → Int} {u v : Nat → Int} {c : Int} (hc : c ≠ 0) (h : Sp w m B u) (e : ∀ j, j < w → c * v j = u j) : Sp w m B v := by
  obtain ⟨d, hd, a, ha⟩ := h
  exact ⟨d * c, Int.mul_ne_zero hd hc, a, fun j hj => by rw [Int.mul_assoc, e j hj]; exact ha j hj⟩
theorem Sp.sum {w m' : Nat} {B B' : Nat → Nat → Int} (a : Nat → Int) : ∀ {m : Nat}, (∀ k, k < m → Sp w m' B' (B k)) → Sp w m' B' fun j => S m (fun k => a k * B k j)
  | 0, _ => .zero fun j _ => rfl
  | m + 1, h => by
    have q := Sp.lin 1 (a m) (Sp.sum a fun k hk => h k (Nat.lt_succ_of_lt hk)) (h m (Nat.lt_succ_self m))
    exact .div (c := 1) (by decide) q fun j _ => by rw [Int.one_mul, Int.one_mul]; rfl
/-- what is in the span of rows that are in a span -/
theorem Sp.trans {w m m' : Nat} {B B' : Nat → Nat → Int} {v : Nat → Int} (h : Sp w m B v) (g : ∀ k, k < m → Sp w m' B' (B k)) : Sp w m' B' v := by
  obtain ⟨c, hc, a, ha⟩ := h
  exact .div hc (Sp.sum a g) ha
/-- one factor for all -/
theorem common {w r : Nat} {E A : Nat → Nat → Int} : ∀ {n : Nat}, (∀ i, i < n → Sp w r E (A i)) → ∃ c : Int, c ≠ 0 ∧ ∃ a : Nat → Nat → Int, ∀ i, i < n → ∀ j, j < w → c * A i j = S r (fun k => a i k * E k j)
  | 0, _ => ⟨1, by decide, fun _ _ => 0, fun i hi => absurd hi (Nat.not_lt_zero _)⟩
  | n + 1, h => by
    obtain ⟨c, hc, a, ha⟩ := common (n := n) fun i hi => h i (Nat.lt_succ_of_lt hi)
    obtain ⟨d, hd, b, hb⟩ := h n (Nat.lt_succ_self n)
    refine ⟨c * d, Int.mul_ne_zero hc hd, fun i k => if i = n then c * b k else d * a i k, fun i hi j hj => ?_⟩
    by_cases e : i = n
    · subst e
      rw [S_congr (g := fun k => c * (b k * E k j)) fun k _ => by
        show (if i = i then c * b k else d * a i k) * E k j = _
        rw [if_pos rfl, Int.mul_assoc], S_mul, ← hb j hj, Int.mul_assoc]
    · rw [S_congr (g := fun k => d * (a i k * E k j)) fun k _ => by
        show (if i = n then c * b k else d * a i k) * E k j = _
        rw [if_neg e, Int.mul_assoc], S_mul, ← ha i (by omega) j hj, Int.mul_comm c d, Int.mul_assoc]
/-- rows with leads: E i is the only one that is not 0 at its lead -/
structure Ech (w r : Nat) (E : Nat → Nat → Int) (lead : Nat → Nat) : Prop where
  lt : ∀ i, i < r → lead i < w
  nz : ∀ i, i < r → E i (lead i) ≠ 0
  z : ∀ i k, i < r → k < r → k ≠ i → E k (lead i) = 0
theorem Ech.ind {w r : Nat} {E : Nat → Nat → Int} {lead : Nat → Nat} (h : Ech w r E lead) : Ind w r E := fun a ha i hi => by
  have e := ha (lead i) (h.lt i hi)
  rw [S_one hi fun k hk hne => by rw [h.z i k hi hk hne, Int.mul_zero]] at e
  rcases Int.mul_eq_zero.mp e with z | z
  · exact z
  · exact absurd z (h.nz i hi)
/-- the rows of A have the base E -/
structure Base (w n : Nat) (A : Nat → Nat → Int) (r : Nat) (E : Nat → Nat → Int) : Prop where
  ind : Ind w r E
  of : ∀ k, k < r → Sp w n A (E k)
  to : ∀ i, i < n → Sp w r E (A i)
theorem Base.same {w n r r' : Nat} {A E E' : Nat → Nat → Int} (h : Base w n A r E) (g : Base w n A r' E') : r = r' :=
  Nat.le_antisymm (steinitz h.ind fun k hk => (h.of k hk).trans g.to) (steinitz g.ind fun k hk => (g.of k hk).trans h.to)
/-- columns have no greater number -/
theorem Base.col {w n r r' : Nat} {A E E' : Nat → Nat → Int} (h : Base w n A r E) (g : Base n w (fun j i => A i j) r' E') : r' ≤ r := by
  obtain ⟨c, hc, a, ha⟩ := common h.to
  refine steinitz g.ind fun k hk => (g.of k hk).trans (B' := fun k i => a i k) fun j hj => ⟨c, hc, fun k => E k j, fun i hi => ?_⟩
  rw [ha i hi j hj]
  exact S_congr fun k _ => Int.mul_comm _ _
theorem Base.turned {w n r r' : Nat} {A E E' : Nat → Nat → Int} (h : Base w n A r E) (g : Base n w (fun j i => A i j) r' E') : r = r' :=
  Nat.le_antisymm (g.col h) (h.col g)
/-- rows that are sums of multiples of others -/
theorem Base.le {w n m r r' : Nat} {A B E E' : Nat → Nat → Int} (h : Base w n A r E) (g : Base w m B r' E') (s : ∀ i, i < n → Sp w m B (A i)) : r ≤ r' :=
  steinitz h.ind fun k hk => ((h.of k hk).trans s).trans g.to
end LA

set_option Elab.async false
set_option linter.all false
/-! small solutions: more small rows than columns hang on one another by small factors -/
namespace LA
theorem pigeon : ∀ (N : Nat) (f : Nat → Nat), (∀ i, i < N + 1 → f i < N) → ∃ i j, i < j ∧ j < N + 1 ∧ f i = f j
  | 0, f, h => absurd (h 0 (Nat.lt_succ_self 0)) (Nat.not_lt_zero _)
  | N + 1, f, h => by
    by_cases c : ∃ i, i < N + 1 ∧ f i = f (N + 1)
    · obtain ⟨i, hi, e⟩ := c
      exact ⟨i, N + 1, hi, Nat.lt_succ_self _, e⟩
    · have ne : ∀ i, i < N + 1 → f i ≠ f (N + 1) := fun i hi e => c ⟨i, hi, e⟩
      have hl := h (N + 1) (Nat.lt_succ_self _)
      obtain ⟨i, j, hij, hj, e⟩ := pigeon N (fun i => if f i < f (N + 1) then f i else f i - 1) (fun i hi => by
        have h1 := ne i hi
        have h2 := h i (by omega)
        show (if f i < f (N + 1) then f i else f i - 1) < N
        split <;> omega)
      refine ⟨i, j, hij, by omega, ?_⟩
      have h1 := ne i (by omega)
      have h2 := ne j hj
      have e : (if f i < f (N + 1) then f i else f i - 1) = (if f j < f (N + 1) then f j else f j - 1) := e
      split at e <;> split at e <;> omega
/-- digits put together -/
def enc (b : Nat) : Nat → (Nat → Nat) → Nat
  | 0, _ => 0
  | n + 1, g => enc b n g + b ^ n * g n
theorem enc_lt {b : Nat} : ∀ {n : Nat} {g : Nat → Nat}, (∀ i, i < n → g i < b) → enc b n g < b ^ n
  | 0, g, _ => Nat.zero_lt_one
  | n + 1, g, h => by
    have h1 := enc_lt (n := n) fun i hi => h i (Nat.lt_succ_of_lt hi)
    have h2 := h n (Nat.lt_succ_self n)
    show enc b n g + b ^ n * g n < b ^ (n + 1)
    have h3 : b ^ n * (g n + 1) ≤ b ^ n * b := Nat.mul_le_mul_left _ h2
    have h4 : b ^ (n + 1) = b ^ n * b := rfl
    rw [Nat.mul_add, Nat.mul_one] at h3
    omega
theorem enc_inj {b : Nat} : ∀ {n : Nat} {f g : Nat → Nat}, (∀ i, i < n → f i < b) → (∀ i, i < n → g i < b) → enc b n f = enc b n g → ∀ i, i < n → f i = g i
  | 0, _, _, _, _, _ => fun i hi => absurd hi (Nat.not_lt_zero _)
  | n + 1, f, g, hf, hg, e => by
    have h1 := enc_lt (n := n) fun i hi => hf i (Nat.lt_succ_of_lt hi)
    have h2 := enc_lt (n := n) fun i hi => hg i (Nat.lt_succ_of_lt hi)
    have e : enc b n f + b ^ n * f n = enc b n g + b ^ n * g n := e
    have p : 0 < b ^ n := by omega
    have e1 : enc b n f = enc b n g := by
      have q : (enc b n f + b ^ n * f n) % b ^ n = (enc b n g + b ^ n * g n) % b ^ n := by rw [e]
      rwa [Nat.add_mul_mod_self_left, Nat.add_mul_mod_self_left, Nat.mod_eq_of_lt h1, Nat.mod_eq_of_lt h2] at q
    have e2 : f n = g n := Nat.eq_of_mul_eq_mul_left p (by omega)
    intro i hi
    by_cases c : i = n
    · rw [c]; exact e2
    · exact enc_inj (fun i hi => hf i (Nat.lt_succ_of_lt hi)) (fun i hi => hg i (Nat.lt_succ_of_lt hi)) e1 i (by omega)
theorem enc_dig (b t : Nat) : ∀ n, enc b n (fun i => t / b ^ i % b) = t % b ^ n
  | 0 => by
    show 0 = t % 1
    rw [Nat.mod_one]
  | n + 1 => by
    show enc b n _ + b ^ n * (t / b ^ n % b) = t % (b ^ n * b)
    rw [enc_dig b t n, Nat.mod_mul]
theorem S_abs {f : Nat → Int} {n : Nat} {B : Nat} (h : ∀ i, i < n → (f i).natAbs ≤ B) : (S n f).natAbs ≤ n * B := by
  induction n with
  | zero => exact Nat.zero_le _
  | succ n ih =>
    have h1 := ih fun i hi => h i (Nat.lt_succ_of_lt hi)
    have h2 := h n (Nat.lt_succ_self n)
    show (S n f + f n).natAbs ≤ (n + 1) * B
    have h3 := Int.natAbs_add_le (S n f) (f n)
    rw [Nat.succ_mul]
    omega
theorem siegel (m M : Nat) (x : Nat → Nat → Int) (hx : ∀ i, i < m + 1 → ∀ j, j < m → (x i j).natAbs ≤ M) :
    ∃ y : Nat → Int, (∃ i, i < m + 1 ∧ y i ≠ 0) ∧ (∀ i, (y i).natAbs ≤ (2 * (m + 1) * M + 1) ^ m) ∧ ∀ j, j < m → S (m + 1) (fun i => y i * x i j) = 0 := by
  generalize hY : (2 * (m + 1) * M + 1) ^ m = Y
  let d : Nat → Nat → Nat := fun t i => t / (Y + 1) ^ i % (Y + 1)
  have dl : ∀ t i, d t i < Y + 1 := fun t i => Nat.mod_lt _ (Nat.succ_pos _)
  let s : Nat → Nat → Int := fun t j => S (m + 1) fun i => (d t i : Int) * x i j
  have sb : ∀ t j, j < m → (s t j).natAbs ≤ (m + 1) * (Y * M) := fun t j hj => S_abs fun i hi => by
    rw [Int.natAbs_mul, Int.natAbs_natCast]
    exact Nat.mul_le_mul (Nat.le_of_lt_succ (dl t i)) (hx i hi j hj)
  generalize hC : (m + 1) * (Y * M) = C at sb
  let g : Nat → Nat → Nat := fun t j => (s t j + C).toNat
  have gl : ∀ t j, j < m → g t j < 2 * C + 1 := fun t j hj => by
    have := sb t j hj
    show (s t j + C).toNat < _
    omega
  have hW : (2 * C + 1) ^ m < (Y + 1) ^ (m + 1) := by
    have h1 : 2 * C + 1 ≤ (2 * (m + 1) * M + 1) * (Y + 1) := by
      have : 2 * C = 2 * (m + 1) * M * Y := by
        rw [← hC, Nat.mul_comm Y M, ← Nat.mul_assoc, ← Nat.mul_assoc]
      rw [this]
      generalize 2 * (m + 1) * M = q
      rw [Nat.add_mul, Nat.mul_add, Nat.one_mul, Nat.mul_one]
      omega
    have h2 := Nat.pow_le_pow_left h1 m
    rw [Nat.mul_pow, hY] at h2
    have h3 : 0 < (Y + 1) ^ m := Nat.pow_pos (Nat.succ_pos _)
    have h4 : (Y + 1) ^ (m + 1) = (Y + 1) ^ m * (Y + 1) := rfl
    rw [h4, Nat.mul_add, Nat.mul_one, Nat.mul_comm _ Y]
    omega
  obtain ⟨t, t', ht, ht', e⟩ := pigeon ((2 * C + 1) ^ m) (fun t => enc (2 * C + 1) m (g t)) fun t _ => enc_lt (gl t)
  have eg := enc_inj (gl t) (gl t') e
  refine ⟨fun i => (d t i : Int) - d t' i, ?_, fun i => ?_, fun j hj => ?_⟩
  · refine Classical.byContradiction fun c => ?_
    have same : ∀ i, i < m + 1 → d t i = d t' i := fun i hi => Classical.byContradiction fun z => c ⟨i, hi, by
      show (d t i : Int) - d t' i ≠ 0
      omega⟩
    have e1 := enc_dig (Y + 1) t (m + 1)
    have e2 := enc_dig (Y + 1) t' (m + 1)
    rw [Nat.mod_eq_of_lt (by omega)] at e1 e2
    have e3 : ∀ n, n ≤ m + 1 → enc (Y + 1) n (d t) = enc (Y + 1) n (d t') := fun n => by
      induction n with
      | zero => exact fun _ => rfl
      | succ n ih =>
        intro hn
        show enc (Y + 1) n (d t) + _ * d t n = enc (Y + 1) n (d t') + _ * d t' n
        rw [ih (by omega), same n (by omega)]
    have := e3 (m + 1) (Nat.le_refl _)
    have e1 : enc (Y + 1) (m + 1) (d t) = t := e1
    have e2 : enc (Y + 1) (m + 1) (d t') = t' := e2
    omega
  · have h1 := dl t i
    have h2 := dl t' i
    show ((d t i : Int) - d t' i).natAbs ≤ Y
    omega
  · have e1 : s t j = s t' j := by
      have q := eg j hj
      have h1 := sb t j hj
      have h2 := sb t' j hj
      have q : (s t j + C).toNat = (s t' j + C).toNat := q
      omega
    have e2 : S (m + 1) (fun i => ((d t i : Int) - d t' i) * x i j) = s t j + (-1) * s t' j := by
      show _ = S (m + 1) (fun i => (d t i : Int) * x i j) + (-1) * S (m + 1) (fun i => (d t' i : Int) * x i j)
      rw [← S_mul, ← S_add]
      exact S_congr fun i _ => by grind
    rw [e2, e1]
    omega
end LA

set_option Elab.async false
set_option linter.all false
set_option maxRecDepth 100000
set_option maxHeartbeats 4000000
set_option exponentiation.threshold 10000
namespace K59
open PySem PySem.Spec PyProof.Rows L2 StX RZ MyR SlX OwnR OwnF EnumT GxR GenNx FDivQ LA
theorem gl_iff {d : Nat} : ∀ (l : List Int) (a : Nat), d ∣ l.foldl (fun a x => Nat.gcd a x.natAbs) a ↔ d ∣ a ∧ ∀ x ∈ l, d ∣ x.natAbs
  | [], a => ⟨fun h => ⟨h, fun x hx => absurd hx List.not_mem_nil⟩, fun h => h.1⟩
  | y :: l, a => by
    rw [List.foldl_cons, gl_iff l]
    constructor
    · rintro ⟨h1, h2⟩
      refine ⟨Nat.dvd_trans h1 (Nat.gcd_dvd_left ..), fun x hx => ?_⟩
      rcases List.mem_cons.mp hx with rfl | hx
      · exact Nat.dvd_trans h1 (Nat.gcd_dvd_right ..)
      · exact h2 x hx
    · rintro ⟨h1, h2⟩
      exact ⟨Nat.dvd_gcd h1 (h2 y List.mem_cons_self), fun x hx => h2 x (List.mem_cons_of_mem _ hx)⟩
theorem gl_dvd {l : List Int} {x : Int} (h : x ∈ l) : gl l ∣ x.natAbs := ((gl_iff l 0).mp (Nat.dvd_refl _)).2 x h
theorem gl_dvdI {l : List Int} {x : Int} (h : x ∈ l) : (gl l : Int) ∣ x := Int.ofNat_dvd_left.mpr (gl_dvd h)
theorem dvd_gl {l : List Int} {d : Nat} (h : ∀ x ∈ l, d ∣ x.natAbs) : d ∣ gl l := (gl_iff l 0).mpr ⟨Nat.dvd_zero _, h⟩
theorem mem_co {l : List Int} {x : Int} (h : x ∈ l) : ∃ k, k < l.length ∧ co l k = x := by
  obtain ⟨k, hk, e⟩ := List.mem_iff_getElem.mp h
  exact ⟨k, hk, by rw [co_get hk, e]⟩
theorem dvd_glc {l : List Int} {d : Nat} (h : ∀ k, k < l.length → d ∣ (co l k).natAbs) : d ∣ gl l := dvd_gl fun x hx => by
  obtain ⟨k, hk, e⟩ := mem_co hx
  rw [← e]
  exact h k hk
theorem gl_dvdc (l : List Int) (k : Nat) : gl l ∣ (co l k).natAbs := by
  by_cases h : k < l.length
  · exact gl_dvd (co_memE h)
  · rw [co_far (by omega)]
    exact Nat.dvd_zero _
theorem gl_zero {l : List Int} (h : gl l = 0) (k : Nat) : co l k = 0 := by
  have := gl_dvdc l k
  rw [h] at this
  have := Nat.eq_zero_of_zero_dvd this
  omega
theorem co_dv (l : List Int) (c : Int) (k : Nat) : co (dv l c) k = (co l k).fdiv c := by
  by_cases h : k < l.length
  · have h2 : k < (dv l c).length := by
      unfold dv
      rw [List.length_map]
      exact h
    rw [co_get h2, co_get h]
    exact List.getElem_map ..
  · rw [co_far (l := dv l c) (by unfold dv; rw [List.length_map]; omega), co_far (by omega), Int.zero_fdiv]
theorem fdiv_ex {x c : Int} (h : c ∣ x) : c * x.fdiv c = x := Int.mul_fdiv_cancel' h
theorem red_le {w : Nat} {v : List Int} {u : Nat → Int} {α β : Int} (hv : gl v ≤ 1) (hl : v.length = w) (hα : α ≠ 0) (h : ∀ j, j < w → α * co v j = β * u j) : ∀ j, j < w → (co v j).natAbs ≤ (u j).natAbs := by
  have hn : ∀ j, j < w → α.natAbs * (co v j).natAbs = β.natAbs * (u j).natAbs := fun j hj => by
    rw [← Int.natAbs_mul, ← Int.natAbs_mul, h j hj]
  have ha : 0 < α.natAbs := by omega
  generalize α.natAbs = a at hn ha
  generalize β.natAbs = b at hn
  have hg : 0 < Nat.gcd a b := Nat.gcd_pos_of_pos_left _ ha
  obtain ⟨a', ea⟩ := Nat.gcd_dvd_left a b
  obtain ⟨b', eb⟩ := Nat.gcd_dvd_right a b
  have cop : Nat.Coprime a' b' := by
    have e1 : a' = a / Nat.gcd a b := Nat.eq_div_of_mul_eq_right (by omega) ea.symm
    have e2 : b' = b / Nat.gcd a b := Nat.eq_div_of_mul_eq_right (by omega) eb.symm
    rw [e1, e2]
    exact Nat.coprime_div_gcd_div_gcd hg
  have hn2 : ∀ j, j < w → a' * (co v j).natAbs = b' * (u j).natAbs := fun j hj => by
    refine Nat.eq_of_mul_eq_mul_left hg ?_
    rw [← Nat.mul_assoc, ← Nat.mul_assoc, ← ea, ← eb]
    exact hn j hj
  have ha' : 0 < a' := by
    rcases Nat.eq_zero_or_pos a' with z | z
    · rw [z, Nat.mul_zero] at ea
      omega
    · exact z
  have hb : b' ∣ gl v := dvd_glc fun k hk => cop.symm.dvd_of_dvd_mul_left ⟨_, hn2 k (hl ▸ hk)⟩
  intro j hj
  rcases Nat.eq_zero_or_pos (gl v) with z | z
  · rw [gl_zero z]
    exact Nat.zero_le _
  · have e1 : gl v = 1 := by omega
    rw [e1] at hb
    have e2 := Nat.dvd_one.mp hb
    have q := hn2 j hj
    rw [e2, Nat.one_mul] at q
    rw [← q]
    exact Nat.le_mul_of_pos_left _ ha'
abbrev row (B : List (List Int)) (k : Nat) : Nat → Int := co (B.getD k [])
def SpM (w : Nat) (B : List (List Int)) (v : List Int) : Prop := Sp w B.length (row B) (co v)
theorem row_mem {B : List (List Int)} {x : List Int} (h : x ∈ B) : ∃ k, k < B.length ∧ row B k = co x := by
  obtain ⟨k, hk, e⟩ := List.mem_iff_getElem.mp h
  exact ⟨k, hk, by unfold row; rw [List.getD_eq_getElem?_getD, List.getElem?_eq_getElem hk, e]; rfl⟩
theorem mem_row {B : List (List Int)} {k : Nat} (h : k < B.length) : B.getD k [] ∈ B := by
  rw [List.getD_eq_getElem?_getD, List.getElem?_eq_getElem h]
  exact List.getElem_mem h
theorem SpM.own {w : Nat} {B : List (List Int)} {x : List Int} (h : x ∈ B) : SpM w B x := by
  obtain ⟨k, hk, e⟩ := row_mem h
  unfold SpM
  rw [← e]
  exact Sp.own hk
theorem SpM.trans {w : Nat} {B B' : List (List Int)} {v : List Int} (h : SpM w B v) (g : ∀ x ∈ B, SpM w B' x) : SpM w B' v :=
  Sp.trans h fun k hk => g _ (mem_row hk)
theorem SpM.mono {w : Nat} {B B' : List (List Int)} {v : List Int} (h : SpM w B v) (g : ∀ x ∈ B, x ∈ B') : SpM w B' v := h.trans fun x hx => SpM.own (g x hx)
theorem SpM.lin {w : Nat} {B : List (List Int)} {u v t : List Int} {c : Int} (α β : Int) (hc : c ≠ 0) (h : SpM w B u) (g : SpM w B v) (e : ∀ j, j < w → c * co t j = α * co u j + β * co v j) : SpM w B t :=
  Sp.div hc (Sp.lin α β h g) e
theorem SpM.zero {w : Nat} {B : List (List Int)} {v : List Int} (h : ∀ j, j < w → co v j = 0) : SpM w B v := Sp.zero h
theorem SpM.mul {w : Nat} {B : List (List Int)} {u t : List Int} {c α : Int} (hc : c ≠ 0) (h : SpM w B u) (e : ∀ j, j < w → c * co t j = α * co u j) : SpM w B t :=
  h.lin α 0 hc h fun j hj => by rw [e j hj, Int.zero_mul, Int.add_zero]
theorem ind_of {w n : Nat} {A B : Nat → Nat → Int} (hA : Ind w n A) (h : ∀ i, i < n → Sp w n B (A i)) : Ind w n B := fun a ha i0 hi0 => by
  refine Classical.byContradiction fun ne => ?_
  obtain ⟨m, rfl⟩ : ∃ m, n = m + 1 := ⟨n - 1, by omega⟩
  have key : ∀ k, k < m + 1 → Sp w m (fun i => B (sk i0 i)) (B k) := fun k hk => by
    by_cases c : k = i0
    · subst c
      refine ⟨a k, ne, fun i => - a (sk k i), fun j hj => ?_⟩
      have e := ha j hj
      rw [S_skip _ k m (by omega)] at e
      rw [S_congr (g := fun i => (-1) * (a (sk k i) * B (sk k i) j)) fun i _ => by rw [Int.neg_mul, Int.neg_mul, Int.one_mul], S_mul]
      omega
    · obtain ⟨i, hi, e⟩ : ∃ i, i < m ∧ sk i0 i = k := by
        by_cases d : k < i0
        · exact ⟨k, by omega, if_pos d⟩
        · exact ⟨k - 1, by omega, by unfold sk; rw [if_neg (by omega)]; omega⟩
      rw [← e]
      exact Sp.own hi
  have := steinitz hA fun i hi => (h i hi).trans key
  omega
def BdE (R M : Nat) : Nat := R * ((2 * R * M + 1) ^ (R - 1) * M)
theorem Bd_mono {R R' M : Nat} (h : R ≤ R') : BdE R M ≤ BdE R' M := by
  unfold BdE
  refine Nat.mul_le_mul h (Nat.mul_le_mul_right _ ?_)
  refine Nat.le_trans (Nat.pow_le_pow_left (Nat.add_le_add_right (Nat.mul_le_mul_right _ (Nat.mul_le_mul_left _ h)) 1) _) ?_
  exact Nat.pow_le_pow_right (Nat.succ_pos _) (by omega)
theorem Bd_le {R M : Nat} (h : 1 ≤ R) : M ≤ BdE R M := by
  unfold BdE
  have h1 : 0 < (2 * R * M + 1) ^ (R - 1) := Nat.pow_pos (Nat.succ_pos _)
  have h2 := Nat.mul_le_mul_right M (show 1 ≤ (2 * R * M + 1) ^ (R - 1) from h1)
  have h3 := Nat.mul_le_mul_right ((2 * R * M + 1) ^ (R - 1) * M) h
  omega
theorem bd_left {w r M : Nat} {B : Nat → Nat → Int} {P : Nat → Nat} {v : List Int} (hl : v.length = w) (hv : gl v ≤ 1) (hM : ∀ i, i < r + 1 → ∀ j, (B i j).natAbs ≤ M) (hP : ∀ k, k < r → P k < w) (hI : Ind r r fun k j => B k (P j)) (hs : Sp w (r + 1) B (co v)) (hz : ∀ k, k < r → co v (P k) = 0) :
    ∀ j, j < w → (co v j).natAbs ≤ BdE (r + 1) M := by
  obtain ⟨y, ⟨i0, hi0, hy0⟩, hyb, hy⟩ := siegel r M (fun i k => B i (P k)) fun i hi k hk => hM i hi _
  obtain ⟨c, hc, a, ha⟩ := hs
  have yr : y r ≠ 0 := fun z => by
    have q := hI y (fun k hk => by
      have e := hy k hk
      have e : S r (fun i => y i * B i (P k)) + y r * B r (P k) = 0 := e
      rw [z, Int.zero_mul, Int.add_zero] at e
      exact e)
    by_cases d : i0 = r
    · rw [d] at hy0
      exact hy0 z
    · exact hy0 (q i0 (by omega))
  have D : ∀ j, j < w → y r * (c * co v j) - a r * S (r + 1) (fun i => y i * B i j) = S r (fun i => (y r * a i - a r * y i) * B i j) := fun j hj => by
    rw [ha j hj, ← S_mul, ← S_mul]
    have e : S r (fun i => (y r * a i - a r * y i) * B i j) = S r (fun i => y r * (a i * B i j)) + (-1) * S r (fun i => a r * (y i * B i j)) := by
      rw [← S_mul, ← S_add]
      exact S_congr fun i _ => by grind
    rw [e]
    show S r _ + y r * (a r * B r j) - (S r _ + a r * (y r * B r j)) = _
    grind
  have dz := hI (fun i => y r * a i - a r * y i) fun k hk => by
    rw [← D (P k) (hP k hk), hz k hk, hy k hk]
    rw [Int.mul_zero, Int.mul_zero, Int.mul_zero]
    rfl
  refine fun j hj => Nat.le_trans (red_le (u := fun j => S (r + 1) (fun i => y i * B i j)) (α := y r * c) (β := a r) hv hl (Int.mul_ne_zero yr hc) (fun j hj => ?_) j hj) (S_abs fun i hi => ?_)
  · have e := D j hj
    rw [S_zero (f := fun i => (y r * a i - a r * y i) * B i j) fun i hi => by rw [dz i hi, Int.zero_mul]] at e
    rw [Int.mul_assoc]
    exact Int.sub_eq_zero.mp e
  · rw [Int.natAbs_mul]
    exact Nat.mul_le_mul (hyb i) (hM i hi j)
theorem bd_found {w m M : Nat} {B : Nat → Nat → Int} {P : Nat → Nat} {v : List Int} {i0 : Nat} (hl : v.length = w) (hv : gl v ≤ 1) (hM : ∀ i, i < m + 1 → ∀ j, (B i j).natAbs ≤ M) (hP : ∀ k, k < m + 1 → P k < w) (hI : Ind (m + 1) (m + 1) fun k j => B k (P j)) (hs : Sp w (m + 1) B (co v)) (hi0 : i0 < m + 1) (hz : ∀ k, k < m + 1 → k ≠ i0 → co v (P k) = 0) :
    ∀ j, j < w → (co v j).natAbs ≤ BdE (m + 1) M := by
  obtain ⟨y, ⟨i1, hi1, hy1⟩, hyb, hy⟩ := siegel m M (fun i k => B i (P (sk i0 k))) fun i hi k hk => hM i hi _
  obtain ⟨c, hc, a, ha⟩ := hs
  have uz : ∀ k, k < m + 1 → k ≠ i0 → S (m + 1) (fun i => y i * B i (P k)) = 0 := fun k hk hne => by
    obtain ⟨i, hi, e⟩ : ∃ i, i < m ∧ sk i0 i = k := by
      by_cases d : k < i0
      · exact ⟨k, by omega, if_pos d⟩
      · exact ⟨k - 1, by omega, by unfold sk; rw [if_neg (by omega)]; omega⟩
    have := hy i hi
    rw [e] at this
    exact this
  have u0 : S (m + 1) (fun i => y i * B i (P i0)) ≠ 0 := fun z => hy1 (hI y (fun k hk => by
    by_cases d : k = i0
    · rw [d]
      exact z
    · exact uz k hk d) i1 hi1)
  generalize hU : S (m + 1) (fun i => y i * B i (P i0)) = U at u0
  have D : ∀ j, j < w → U * (c * co v j) - c * co v (P i0) * S (m + 1) (fun i => y i * B i j) = S (m + 1) (fun i => (U * a i - c * co v (P i0) * y i) * B i j) := fun j hj => by
    rw [ha j hj, ← S_mul, ← S_mul]
    have e : S (m + 1) (fun i => (U * a i - c * co v (P i0) * y i) * B i j) = S (m + 1) (fun i => U * (a i * B i j)) + (-1) * S (m + 1) (fun i => c * co v (P i0) * (y i * B i j)) := by
      rw [← S_mul, ← S_add]
      exact S_congr fun i _ => by grind
    rw [e]
    omega
  have dz := hI (fun i => U * a i - c * co v (P i0) * y i) fun k hk => by
    rw [← D (P k) (hP k hk)]
    by_cases d : k = i0
    · rw [d, hU]
      grind
    · rw [hz k hk d, uz k hk d]
      rw [Int.mul_zero, Int.mul_zero, Int.mul_zero]
      rfl
  refine fun j hj => Nat.le_trans (red_le (u := fun j => S (m + 1) (fun i => y i * B i j)) (α := U * c) (β := c * co v (P i0)) hv hl (Int.mul_ne_zero u0 hc) (fun j hj => ?_) j hj) (S_abs fun i hi => ?_)
  · have e := D j hj
    rw [S_zero (f := fun i => (U * a i - c * co v (P i0) * y i) * B i j) fun i hi => by rw [dz i hi, Int.zero_mul]] at e
    rw [Int.mul_assoc]
    exact Int.sub_eq_zero.mp e
  · rw [Int.natAbs_mul]
    exact Nat.mul_le_mul (hyb i) (hM i hi j)
structure LeP (le : List Int → List Int → Nat → List Int) : Prop where
  lin : ∀ row head p, co head p ≠ 0 → row.length = head.length → ∃ c : Int, c ≠ 0 ∧ ∀ j, c * co (le row head p) j = co head p * co row j - co row p * co head j
  len : ∀ row head p, (le row head p).length = row.length
  red : ∀ row head p, gl (le row head p) ≤ 1 ∨ le row head p = row
structure Inv (w : Nat) (rows : List (List Int)) (p : Nat) (left found Hh : List (List Int)) (P : List Nat) : Prop where
  hr : ∀ x ∈ Hh, x ∈ rows
  hl : Hh.length = found.length
  pl : P.length = found.length
  lf : ∀ r ∈ left, ∃ x ∈ rows, SpM w (Hh ++ [x]) r
  ff : ∀ r ∈ found, SpM w Hh r
  lz : ∀ r ∈ left, ∀ j, j < p → co r j = 0
  pp : ∀ k, k < found.length → P.getD k 0 < p
  nz : ∀ k, k < found.length → row found k (P.getD k 0) ≠ 0
  z : ∀ i k, i < found.length → k < found.length → k ≠ i → row found k (P.getD i 0) = 0
  be : ∀ k, k < found.length → ∀ j, j < P.getD k 0 → row found k j = 0
  rd : ∀ r, r ∈ left ∨ r ∈ found → gl r ≤ 1 ∨ r ∈ rows
  rv : ∀ x ∈ rows, SpM w (found ++ left) x
  ll : ∀ r, r ∈ left ∨ r ∈ found → r.length = w
theorem row_app {A : List (List Int)} {x : List Int} {k : Nat} : row (A ++ [x]) k = if k < A.length then row A k else if k = A.length then co x else co [] := by
  unfold row
  rw [List.getD_eq_getElem?_getD, List.getD_eq_getElem?_getD]
  by_cases h : k < A.length
  · rw [if_pos h, List.getElem?_append_left h]
  · rw [if_neg h, List.getElem?_append_right (by omega)]
    by_cases e : k = A.length
    · rw [if_pos e, e, Nat.sub_self]
      rfl
    · rw [if_neg e, List.getElem?_eq_none (by show 1 ≤ _; omega)]
      rfl
theorem row_map {A : List (List Int)} {f : List Int → List Int} {k : Nat} (h : k < A.length) : row (A.map f) k = co (f (A.getD k [])) := by
  unfold row
  rw [List.getD_eq_getElem?_getD, List.getD_eq_getElem?_getD, List.getElem?_map, List.getElem?_eq_getElem h]
  rfl
theorem getD_app {P : List Nat} {x k : Nat} : (P ++ [x]).getD k 0 = if k < P.length then P.getD k 0 else if k = P.length then x else 0 := by
  rw [List.getD_eq_getElem?_getD, List.getD_eq_getElem?_getD]
  by_cases h : k < P.length
  · rw [if_pos h, List.getElem?_append_left h]
  · rw [if_neg h, List.getElem?_append_right (by omega)]
    by_cases e : k = P.length
    · rw [if_pos e, e, Nat.sub_self]
      rfl
    · rw [if_neg e, List.getElem?_eq_none (by show 1 ≤ _; omega)]
      rfl
theorem hix_some {left : List (List Int)} {p h : Nat} (e : hix left p = some h) : h < left.length ∧ co (left.getD h []) p ≠ 0 := by
  obtain ⟨hh, h1, _⟩ := List.findIdx?_eq_some_iff_getElem.mp e
  refine ⟨hh, ?_⟩
  rw [List.getD_eq_getElem?_getD, List.getElem?_eq_getElem hh]
  show co left[h] p ≠ 0
  simpa using h1
theorem hix_none {left : List (List Int)} {p : Nat} (e : hix left p = none) : ∀ r ∈ left, co r p = 0 := fun r hr => by
  have := List.findIdx?_eq_none_iff.mp e r hr
  simpa using this
theorem Inv.init {w : Nat} {rows : List (List Int)} (hw : ∀ r ∈ rows, r.length = w) : Inv w rows 0 rows [] [] [] :=
  ⟨fun x hx => absurd hx List.not_mem_nil, rfl, rfl, fun r hr => ⟨r, hr, SpM.own (by simp)⟩, fun r hr => absurd hr List.not_mem_nil, fun r _ j hj => absurd hj (Nat.not_lt_zero _), fun k hk => absurd hk (Nat.not_lt_zero _), fun k hk => absurd hk (Nat.not_lt_zero _), fun i k hi => absurd hi (Nat.not_lt_zero _), fun k hk => absurd hk (Nat.not_lt_zero _), fun r hr => .inr (hr.resolve_right List.not_mem_nil), fun x hx => SpM.own (by simpa using hx), fun r hr => hw r (hr.resolve_right List.not_mem_nil)⟩
theorem Inv.none {w p : Nat} {rows left found Hh : List (List Int)} {P : List Nat} (I : Inv w rows p left found Hh P) (e : hix left p = none) : Inv w rows (p + 1) left found Hh P :=
  ⟨I.hr, I.hl, I.pl, I.lf, I.ff, fun r hr j hj => by
    by_cases c : j = p
    · rw [c]
      exact hix_none e r hr
    · exact I.lz r hr j (by omega), fun k hk => Nat.lt_succ_of_lt (I.pp k hk), I.nz, I.z, I.be, I.rd, I.rv, I.ll⟩
theorem Inv.some {le : List Int → List Int → Nat → List Int} (hle : LeP le) {w p h : Nat} {rows left found Hh : List (List Int)} {P : List Nat} (I : Inv w rows p left found Hh P) (hp : p < w) (e : hix left p = .some h) :
    ∃ x, Inv w rows (p + 1) ((left.eraseIdx h).map fun r => le r (left.getD h []) p) ((found.map fun r => le r (left.getD h []) p) ++ [left.getD h []]) (Hh ++ [x]) (P ++ [p]) := by
  obtain ⟨hh, hd⟩ := hix_some e
  have hm : left.getD h [] ∈ left := mem_row hh
  generalize hH : left.getD h [] = hed at hd hm
  obtain ⟨x, hx, hs⟩ := I.lf hed hm
  have hlen := I.ll hed (.inl hm)
  have sub : ∀ r ∈ left.eraseIdx h, r ∈ left := fun r hr => List.mem_of_mem_eraseIdx hr
  have lin : ∀ r, r ∈ left ∨ r ∈ found → ∃ c : Int, c ≠ 0 ∧ ∀ j, c * co (le r hed p) j = co hed p * co r j - co r p * co hed j := fun r hr => hle.lin r hed p hd (by rw [I.ll r hr, hlen])
  have van : ∀ r, r ∈ left ∨ r ∈ found → ∀ j, co r j = 0 → co hed j = 0 → co (le r hed p) j = 0 := fun r hr j h1 h2 => by
    obtain ⟨c, hc, q⟩ := lin r hr
    have := q j
    rw [h1, h2, Int.mul_zero, Int.mul_zero] at this
    exact (Int.mul_eq_zero.mp this).resolve_left hc
  have vanp : ∀ r, r ∈ left ∨ r ∈ found → co (le r hed p) p = 0 := fun r hr => by
    obtain ⟨c, hc, q⟩ := lin r hr
    have := q p
    rw [Int.mul_comm (co hed p), Int.sub_self] at this
    · exact (Int.mul_eq_zero.mp this).resolve_left hc
  have keep : ∀ r, r ∈ left ∨ r ∈ found → ∀ j, co r j ≠ 0 → co hed j = 0 → co (le r hed p) j ≠ 0 := fun r hr j h1 h2 z => by
    obtain ⟨c, hc, q⟩ := lin r hr
    have := q j
    rw [z, h2, Int.mul_zero, Int.mul_zero, Int.sub_zero] at this
    rcases Int.mul_eq_zero.mp this.symm with z | z
    · exact hd z
    · exact h1 z
  have hz : ∀ j, j < p → co hed j = 0 := I.lz hed hm
  have fl : (found.map fun r => le r hed p).length = found.length := List.length_map ..
  have rw1 : ∀ k, k < found.length → row ((found.map fun r => le r hed p) ++ [hed]) k = co (le (found.getD k []) hed p) := fun k hk => by
    rw [row_app, fl, if_pos hk, row_map hk]
  have rw2 : row ((found.map fun r => le r hed p) ++ [hed]) found.length = co hed := by
    rw [row_app, fl, if_neg (Nat.lt_irrefl _), if_pos rfl]
  have pw1 : ∀ k, k < found.length → (P ++ [p]).getD k 0 = P.getD k 0 := fun k hk => by rw [getD_app, I.pl, if_pos hk]
  have pw2 : (P ++ [p]).getD found.length 0 = p := by rw [getD_app, I.pl, if_neg (Nat.lt_irrefl _), if_pos rfl]
  have nl : ((found.map fun r => le r hed p) ++ [hed]).length = found.length + 1 := by
    rw [List.length_append, fl]
    rfl
  refine ⟨x, fun y hy => ?_, ?_, ?_, fun r hr => ?_, fun r hr => ?_, fun r hr j hj => ?_, fun k hk => ?_, fun k hk => ?_, fun i k hi hk hne => ?_, fun k hk j hj => ?_, fun r hr => ?_, fun y hy => ?_, fun r hr => ?_⟩
  · rcases List.mem_append.mp hy with hy | hy
    · exact I.hr y hy
    · rw [List.mem_singleton.mp hy]
      exact hx
  · rw [List.length_append, List.length_append, fl, I.hl]
    rfl
  · rw [List.length_append, List.length_append, fl, I.pl]
    rfl
  · obtain ⟨r0, hr0, rfl⟩ := List.mem_map.mp hr
    obtain ⟨y, hy, hs2⟩ := I.lf r0 (sub r0 hr0)
    obtain ⟨c, hc, q⟩ := lin r0 (.inl (sub r0 hr0))
    refine ⟨y, hy, SpM.lin (co hed p) (- co r0 p) hc (hs2.mono fun z hz => ?_) (hs.mono fun z hz => ?_) fun j _ => by rw [q j, Int.neg_mul, Int.sub_eq_add_neg]⟩
    · simp only [List.mem_append, List.mem_singleton] at hz ⊢
      rcases hz with hz | hz
      · exact .inl (.inl hz)
      · exact .inr hz
    · exact List.mem_append.mpr (.inl hz)
  · rcases List.mem_append.mp hr with hr | hr
    · obtain ⟨r0, hr0, rfl⟩ := List.mem_map.mp hr
      obtain ⟨c, hc, q⟩ := lin r0 (.inr hr0)
      exact SpM.lin (co hed p) (- co r0 p) hc ((I.ff r0 hr0).mono fun z hz => List.mem_append.mpr (.inl hz)) hs fun j _ => by rw [q j, Int.neg_mul, Int.sub_eq_add_neg]
    · rw [List.mem_singleton.mp hr]
      exact hs
  · obtain ⟨r0, hr0, rfl⟩ := List.mem_map.mp hr
    by_cases c : j = p
    · rw [c]
      exact vanp r0 (.inl (sub r0 hr0))
    · exact van r0 (.inl (sub r0 hr0)) j (I.lz r0 (sub r0 hr0) j (by omega)) (hz j (by omega))
  · rw [nl] at hk
    by_cases c : k = found.length
    · rw [c, pw2]
      exact Nat.lt_succ_self _
    · rw [pw1 k (by omega)]
      exact Nat.lt_succ_of_lt (I.pp k (by omega))
  · rw [nl] at hk
    by_cases c : k = found.length
    · rw [c, pw2, rw2]
      exact hd
    · have hk : k < found.length := by omega
      rw [pw1 k hk, rw1 k hk]
      exact keep _ (.inr (mem_row hk)) _ (I.nz k hk) (hz _ (I.pp k hk))
  · rw [nl] at hi hk
    by_cases c : k = found.length
    · have hi : i < found.length := by omega
      rw [c, rw2, pw1 i hi]
      exact hz _ (I.pp i hi)
    · have hk : k < found.length := by omega
      rw [rw1 k hk]
      by_cases d : i = found.length
      · rw [d, pw2]
        exact vanp _ (.inr (mem_row hk))
      · have hi : i < found.length := by omega
        rw [pw1 i hi]
        exact van _ (.inr (mem_row hk)) _ (I.z i k hi hk hne) (hz _ (I.pp i hi))
  · rw [nl] at hk
    by_cases c : k = found.length
    · rw [c, pw2] at hj
      rw [c, rw2]
      exact hz j hj
    · have hk : k < found.length := by omega
      rw [pw1 k hk] at hj
      rw [rw1 k hk]
      exact van _ (.inr (mem_row hk)) _ (I.be k hk j hj) (hz j (Nat.lt_trans hj (I.pp k hk)))
  · have key : ∀ r0, r0 ∈ left ∨ r0 ∈ found → gl (le r0 hed p) ≤ 1 ∨ le r0 hed p ∈ rows := fun r0 h0 => by
      rcases hle.red r0 hed p with g | g
      · exact .inl g
      · rw [g]
        exact I.rd r0 h0
    rcases hr with hr | hr
    · obtain ⟨r0, hr0, rfl⟩ := List.mem_map.mp hr
      exact key r0 (.inl (sub r0 hr0))
    · rcases List.mem_append.mp hr with hr | hr
      · obtain ⟨r0, hr0, rfl⟩ := List.mem_map.mp hr
        exact key r0 (.inr hr0)
      · rw [List.mem_singleton.mp hr]
        exact I.rd hed (.inl hm)
  · refine (I.rv y hy).trans fun r hr => ?_
    have hin : SpM w (((found.map fun r => le r hed p) ++ [hed]) ++ ((left.eraseIdx h).map fun r => le r hed p)) hed := SpM.own (by simp)
    have back : ∀ r0, r0 ∈ left ∨ r0 ∈ found → le r0 hed p ∈ ((found.map fun r => le r hed p) ++ [hed]) ++ ((left.eraseIdx h).map fun r => le r hed p) → SpM w (((found.map fun r => le r hed p) ++ [hed]) ++ ((left.eraseIdx h).map fun r => le r hed p)) r0 := fun r0 h0 hm0 => by
      obtain ⟨c, hc, q⟩ := lin r0 h0
      exact SpM.lin c (co r0 p) hd (SpM.own hm0) hin fun j _ => by rw [q j]; omega
    rcases List.mem_append.mp hr with hr | hr
    · exact back r (.inr hr) (List.mem_append.mpr (.inl (List.mem_append.mpr (.inl (List.mem_map.mpr ⟨r, hr, rfl⟩)))))
    · obtain ⟨i, hi, ei⟩ := List.mem_iff_getElem.mp hr
      by_cases c : i = h
      · have : r = hed := by
          rw [← ei, ← hH, List.getD_eq_getElem?_getD]
          subst c
          rw [List.getElem?_eq_getElem hi]
          rfl
        rw [this]
        exact hin
      · exact back r (.inl hr) (List.mem_append.mpr (.inr (List.mem_map.mpr ⟨r, List.mem_eraseIdx_iff_getElem.mpr ⟨i, hi, c, ei⟩, rfl⟩)))
  · have key : ∀ r0, r0 ∈ left ∨ r0 ∈ found → (le r0 hed p).length = w := fun r0 h0 => by
      rw [hle.len]
      exact I.ll r0 h0
    rcases hr with hr | hr
    · obtain ⟨r0, hr0, rfl⟩ := List.mem_map.mp hr
      exact key r0 (.inl (sub r0 hr0))
    · rcases List.mem_append.mp hr with hr | hr
      · obtain ⟨r0, hr0, rfl⟩ := List.mem_map.mp hr
        exact key r0 (.inr hr0)
      · rw [List.mem_singleton.mp hr]
        exact hlen
theorem inv {le : List Int → List Int → Nat → List Int} (hle : LeP le) {w : Nat} {rows : List (List Int)} (hw : ∀ r ∈ rows, r.length = w) : ∀ p, p ≤ w → ∃ Hh P, Inv w rows p (eS le rows p).1 (eS le rows p).2 Hh P
  | 0, _ => ⟨[], [], Inv.init hw⟩
  | p + 1, hp => by
    obtain ⟨Hh, P, I⟩ := inv hle hw p (by omega)
    show ∃ Hh P, Inv w rows (p + 1) (stp le p (eS le rows p)).1 (stp le p (eS le rows p)).2 Hh P
    cases e : hix (eS le rows p).1 p with
    | none =>
      rw [stp_none e]
      exact ⟨Hh, P, I.none e⟩
    | some h =>
      rw [stp_some e]
      obtain ⟨x, J⟩ := I.some hle (by omega) e
      exact ⟨_, _, J⟩
theorem Inv.ind {w p : Nat} {rows left found Hh : List (List Int)} {P : List Nat} (I : Inv w rows p left found Hh P) (hp : p ≤ w) : Ind found.length found.length fun k j => row Hh k (P.getD j 0) := by
  refine ind_of (A := fun k j => row found k (P.getD j 0)) ?_ fun i hi => ?_
  · exact Ech.ind (lead := fun i => i) ⟨fun i hi => hi, fun i hi => I.nz i hi, fun i k hi hk hne => I.z i k hi hk hne⟩
  · obtain ⟨c, hc, a, ha⟩ := I.ff _ (mem_row hi)
    rw [I.hl] at ha
    exact ⟨c, hc, a, fun j hj => ha _ (Nat.lt_of_lt_of_le (I.pp j hj) hp)⟩
theorem co_bd {rows : List (List Int)} {M : Nat} (hM : ∀ r ∈ rows, ∀ x ∈ r, x.natAbs ≤ M) {r : List Int} (hr : r ∈ rows) (j : Nat) : (co r j).natAbs ≤ M := by
  by_cases h : j < r.length
  · exact hM r hr _ (co_memE h)
  · rw [co_far (by omega)]
    exact Nat.zero_le _
theorem Inv.bd {w p M : Nat} {rows left found Hh : List (List Int)} {P : List Nat} (I : Inv w rows p left found Hh P) (hp : p ≤ w) (hM : ∀ r ∈ rows, ∀ x ∈ r, x.natAbs ≤ M) (hc : left.length + found.length = rows.length) :
    ∀ r, r ∈ left ∨ r ∈ found → ∀ j, (co r j).natAbs ≤ BdE rows.length M := fun r hr j => by
  by_cases hj : j < w
  · rcases I.rd r hr with hv | hv
    · rcases hr with hr | hr
      · obtain ⟨x, hx, hs⟩ := I.lf r hr
        have hp1 := List.length_pos_of_mem hr
        refine Nat.le_trans (bd_left (r := found.length) (B := row (Hh ++ [x])) (P := fun k => P.getD k 0) (I.ll r (.inl hr)) hv (fun i hi j => ?_) (fun k hk => Nat.lt_of_lt_of_le (I.pp k hk) hp) (fun a ha => I.ind hp a fun k hk => ?_) ?_ (fun k hk => I.lz r hr _ (I.pp k hk)) j hj) (Bd_mono (by omega))
        · rw [row_app, I.hl]
          by_cases c : i < found.length
          · rw [if_pos c]
            exact co_bd hM (I.hr _ (mem_row (by rw [I.hl]; exact c))) j
          · rw [if_neg c, if_pos (by omega)]
            exact co_bd hM hx j
        · rw [← ha k hk]
          exact S_congr fun i hi => by
            show _ = a i * row (Hh ++ [x]) i (P.getD k 0)
            rw [row_app, I.hl, if_pos hi]
        · unfold SpM at hs
          rw [List.length_append, I.hl] at hs
          exact hs
      · obtain ⟨i0, hi0, e⟩ := row_mem hr
        obtain ⟨m, hm⟩ : ∃ m, found.length = m + 1 := ⟨found.length - 1, by omega⟩
        have hI := I.ind hp
        have hs := I.ff r hr
        unfold SpM at hs
        rw [I.hl] at hs
        rw [hm] at hI hs hi0
        refine Nat.le_trans (bd_found (B := row Hh) (P := fun k => P.getD k 0) (i0 := i0) (I.ll r (.inr hr)) hv (fun i hi j => co_bd hM (I.hr _ (mem_row (by rw [I.hl, hm]; exact hi))) j) (fun k hk => Nat.lt_of_lt_of_le (I.pp k (by omega)) hp) hI hs hi0 (fun k hk hne => ?_) j hj) (Bd_mono (by omega))
        rw [← e]
        exact I.z k i0 (by omega) (by omega) (Ne.symm hne)
    · exact Nat.le_trans (co_bd hM hv j) (Bd_le (List.length_pos_of_mem hv))
  · rw [co_far (by rw [I.ll r hr]; omega)]
    exact Nat.zero_le _
theorem quot_le {c q x : Int} (h : c * q = x) (hc : c ≠ 0) : q.natAbs ≤ x.natAbs := by
  rw [← h, Int.natAbs_mul]
  exact Nat.le_mul_of_pos_left _ (by omega)
theorem gl_mul (c : Int) : ∀ (l : List Int) (a : Nat), (l.map (c * ·)).foldl (fun a x => Nat.gcd a x.natAbs) (c.natAbs * a) = c.natAbs * l.foldl (fun a x => Nat.gcd a x.natAbs) a
  | [], _ => rfl
  | x :: l, a => by
    rw [List.map_cons, List.foldl_cons, List.foldl_cons, Int.natAbs_mul, Nat.gcd_mul_left]
    exact gl_mul c l _
theorem gl_scale (c : Int) (l : List Int) : gl (l.map (c * ·)) = c.natAbs * gl l := gl_mul c l 0
theorem co_scale (c : Int) (l : List Int) (j : Nat) : co (l.map (c * ·)) j = c * co l j := by
  by_cases h : j < l.length
  · rw [co_get (by rw [List.length_map]; exact h), co_get h, List.getElem_map]
  · rw [co_far (by rw [List.length_map]; omega), co_far (by omega), Int.mul_zero]
theorem gl0_of {l : List Int} (h : ∀ j, co l j = 0) : gl l = 0 := Nat.eq_zero_of_zero_dvd (dvd_glc fun k _ => by rw [h k]; exact Nat.dvd_refl _)
theorem ld_char {l : List Int} {k : Nat} (h : co l k ≠ 0) (hz : ∀ j, j < k → co l j = 0) : ld l = k := by
  have hk : k < l.length := by
    refine Classical.byContradiction fun c => h (co_far (by omega))
  unfold ld
  refine (List.findIdx_eq hk).mpr ⟨?_, fun j hj => ?_⟩
  · rw [← co_get hk]
    simpa using h
  · have := hz j hj
    rw [co_get (by omega)] at this
    simpa using this
theorem fo_ld : ∀ {l : List Int}, (∃ k, co l k ≠ 0) → foE l = co l (ld l) ∧ co l (ld l) ≠ 0 ∧ ∀ j, j < ld l → co l j = 0
  | [], ⟨k, h⟩ => absurd (co_far (Nat.zero_le _)) h
  | x :: l, ⟨k, h⟩ => by
    by_cases c : x = 0
    · have hk : ∃ k, co l k ≠ 0 := by
        cases k with
        | zero => exact absurd c h
        | succ k => exact ⟨k, h⟩
      obtain ⟨h1, h2, h3⟩ := fo_ld hk
      have e1 : foE (x :: l) = foE l := by
        unfold foE
        rw [List.find?_cons_of_neg (by simp [c])]
      have e2 : ld (x :: l) = ld l + 1 := ld_char (l := x :: l) (k := ld l + 1) h2 fun j hj => by
        cases j with
        | zero => exact c
        | succ j => exact h3 j (by omega)
      rw [e1, e2]
      refine ⟨h1, h2, fun j hj => ?_⟩
      cases j with
      | zero => exact c
      | succ j => exact h3 j (by omega)
    · have e1 : foE (x :: l) = x := by
        unfold foE
        rw [List.find?_cons_of_pos (by simp [c])]
        rfl
      have e2 : ld (x :: l) = 0 := ld_char (l := x :: l) (k := 0) c fun j hj => absurd hj (Nat.not_lt_zero _)
      rw [e1, e2]
      exact ⟨rfl, c, fun j hj => absurd hj (Nat.not_lt_zero _)⟩
def pf (l : List Int) : Int := if gl l = 0 then 1 else if 0 < foE l then (gl l : Int) else -(gl l : Int)
theorem pf_ne (l : List Int) : pf l ≠ 0 := by
  unfold pf
  split
  · decide
  · split <;> omega
theorem prim_ex (l : List Int) (j : Nat) : pf l * co (primE l) j = co l j := by
  unfold pf primE
  by_cases c : gl l = 0
  · rw [if_pos c, if_pos c, Int.one_mul]
  · rw [if_neg c, if_neg c, co_dv]
    refine fdiv_ex ?_
    have := Int.ofNat_dvd_left.mpr (gl_dvdc l j)
    split
    · exact this
    · exact Int.neg_dvd.mpr this
theorem prim_le (l : List Int) (j : Nat) : (co (primE l) j).natAbs ≤ (co l j).natAbs := quot_le (prim_ex l j) (pf_ne l)
def Pq (w : Nat) (r r' : List Int) : Prop := r.length = w ∧ r'.length = w ∧ ∃ α β : Int, α ≠ 0 ∧ β ≠ 0 ∧ ∀ j, α * co r j = β * co r' j
theorem Pq.zero {w : Nat} {r r' : List Int} (h : Pq w r r') (j : Nat) : co r j = 0 ↔ co r' j = 0 := by
  obtain ⟨_, _, α, β, ha, hb, e⟩ := h
  have := e j
  constructor <;> intro z <;> rw [z, Int.mul_zero] at this
  · exact (Int.mul_eq_zero.mp this.symm).resolve_left hb
  · exact (Int.mul_eq_zero.mp this).resolve_left ha
theorem sq_pos {a : Int} (h : a ≠ 0) : 0 < a * a := by
  rcases Int.lt_or_gt_of_ne h with z | z
  · exact Int.mul_pos_of_neg_of_neg z z
  · exact Int.mul_pos z z
theorem prim_pq {w : Nat} {r r' : List Int} (h : Pq w r r') : primE r = primE r' := by
  have hz := h.zero
  obtain ⟨hl, hl', α, β, ha, hb, e⟩ := h
  by_cases c : gl r = 0
  · have c' : gl r' = 0 := gl0_of fun j => (hz j).mp (gl_zero c j)
    unfold primE
    rw [if_pos c, if_pos c']
    exact co_inj (hl.trans hl'.symm) fun j => by rw [gl_zero c j, gl_zero c' j]
  · have c' : gl r' ≠ 0 := fun z => c (gl0_of fun j => (hz j).mpr (gl_zero z j))
    have ex : ∀ l : List Int, gl l ≠ 0 → ∃ k, co l k ≠ 0 := fun l hl => Classical.byContradiction fun z => hl (gl0_of fun j => Classical.byContradiction fun q => z ⟨j, q⟩)
    obtain ⟨f1, f2, f3⟩ := fo_ld (ex r c)
    obtain ⟨g1, g2, g3⟩ := fo_ld (ex r' c')
    have el : ld r' = ld r := ld_char (fun z => f2 ((hz _).mpr z)) fun j hj => (hz j).mp (f3 j hj)
    have e0 : α * foE r = β * foE r' := by rw [f1, g1, el]; exact e _
    have eg : α.natAbs * gl r = β.natAbs * gl r' := by
      rw [← gl_scale, ← gl_scale]
      refine congrArg gl (co_inj (by rw [List.length_map, List.length_map, hl, hl']) fun j => ?_)
      rw [co_scale, co_scale]
      exact e j
    have s1 : 0 < pf r * foE r := by
      unfold pf
      rw [if_neg c]
      split
      · exact Int.mul_pos (by omega) ‹_›
      · exact Int.mul_pos_of_neg_of_neg (by omega) (by omega)
    have s2 : 0 < pf r' * foE r' := by
      unfold pf
      rw [if_neg c']
      split
      · exact Int.mul_pos (by omega) ‹_›
      · exact Int.mul_pos_of_neg_of_neg (by omega) (by omega)
    have n1 : (α * pf r).natAbs = (β * pf r').natAbs := by
      have q : ∀ l, gl l ≠ 0 → (pf l).natAbs = gl l := fun l hl => by
        unfold pf
        rw [if_neg hl]
        split <;> omega
      rw [Int.natAbs_mul, Int.natAbs_mul, q r c, q r' c', eg]
    have z0 : α * foE r ≠ 0 := Int.mul_ne_zero ha (by omega)
    have t1 : 0 < α * pf r * (α * foE r) := by
      have : α * pf r * (α * foE r) = α * α * (pf r * foE r) := by grind
      rw [this]
      exact Int.mul_pos (sq_pos ha) s1
    have t2 : 0 < β * pf r' * (α * foE r) := by
      rw [e0]
      have : β * pf r' * (β * foE r') = β * β * (pf r' * foE r') := by grind
      rw [this]
      exact Int.mul_pos (sq_pos hb) s2
    have key : α * pf r = β * pf r' := by
      rcases Int.natAbs_eq_natAbs_iff.mp n1 with q | q
      · exact q
      · exfalso
        rw [q, Int.neg_mul] at t1
        omega
    refine co_inj (by rw [primE_len, primE_len, hl, hl']) fun j => ?_
    have a1 := prim_ex r j
    have a2 := prim_ex r' j
    have q : α * pf r * co (primE r) j = α * pf r * co (primE r') j := by
      rw [Int.mul_assoc, a1, e j, ← a2, ← Int.mul_assoc, key]
    exact Int.eq_of_mul_eq_mul_left (Int.mul_ne_zero ha (pf_ne r)) q
def PL (w : Nat) : List (List Int) → List (List Int) → Prop
  | [], [] => True
  | a :: as, b :: bs => Pq w a b ∧ PL w as bs
  | _, _ => False
theorem PL.hix {w p : Nat} : ∀ {A B : List (List Int)}, PL w A B → hix A p = hix B p
  | [], [], _ => rfl
  | a :: as, b :: bs, h => by
    have ih := PL.hix (p := p) h.2
    unfold K59.hix at ih ⊢
    rw [List.findIdx?_cons, List.findIdx?_cons, ih]
    have : (co a p != 0) = (co b p != 0) := by
      by_cases c : co a p = 0
      · rw [c, (h.1.zero p).mp c]
      · have c2 : co b p ≠ 0 := fun z => c ((h.1.zero p).mpr z)
        rw [bne_iff_ne.mpr c, bne_iff_ne.mpr c2]
    rw [this]
theorem PL.get {w : Nat} : ∀ {A B : List (List Int)} {k : Nat}, PL w A B → k < A.length → Pq w (A.getD k []) (B.getD k [])
  | [], [], _, _, hk => absurd hk (Nat.not_lt_zero _)
  | a :: as, b :: bs, 0, h, _ => h.1
  | a :: as, b :: bs, k + 1, h, hk => PL.get (k := k) h.2 (Nat.lt_of_succ_lt_succ hk)
theorem PL.map {w : Nat} {f g : List Int → List Int} (hf : ∀ a b, Pq w a b → Pq w (f a) (g b)) : ∀ {A B : List (List Int)}, PL w A B → PL w (A.map f) (B.map g)
  | [], [], _ => True.intro
  | a :: as, b :: bs, h => ⟨hf _ _ h.1, PL.map hf h.2⟩
theorem PL.app {w : Nat} {a b : List Int} (h : Pq w a b) : ∀ {A B : List (List Int)}, PL w A B → PL w (A ++ [a]) (B ++ [b])
  | [], [], _ => ⟨h, True.intro⟩
  | a :: as, b :: bs, g => ⟨g.1, PL.app h g.2⟩
theorem PL.rf {w : Nat} : ∀ {A : List (List Int)}, (∀ a ∈ A, a.length = w) → PL w A A
  | [], _ => True.intro
  | a :: as, h => ⟨⟨h a List.mem_cons_self, h a List.mem_cons_self, 1, 1, by decide, by decide, fun _ => rfl⟩, PL.rf fun b hb => h b (List.mem_cons_of_mem _ hb)⟩
theorem PL.primE {w : Nat} : ∀ {A B : List (List Int)}, PL w A B → A.map primE = B.map primE
  | [], [], _ => rfl
  | a :: as, b :: bs, h => by
    rw [List.map_cons, List.map_cons, prim_pq h.1, PL.primE h.2]
structure Told (w M : Nat) (rows T : List (List Int)) : Prop where
  len : ∀ t ∈ T, t.length = w
  lt : ∀ t ∈ T, ld t < w
  nz : ∀ t ∈ T, co t (ld t) ≠ 0
  z : ∀ i k, i < T.length → k < T.length → k ≠ i → row T k (ld (T.getD i [])) = 0
  base : Base w rows.length (row rows) T.length (row T)
  bd : ∀ t ∈ T, ∀ j, (co t j).natAbs ≤ BdE T.length M
theorem getD_map {A : List (List Int)} {f : List Int → List Int} {k : Nat} (h : k < A.length) : (A.map f).getD k [] = f (A.getD k []) := by
  rw [List.getD_eq_getElem?_getD, List.getD_eq_getElem?_getD, List.getElem?_map, List.getElem?_eq_getElem h]
  rfl
theorem told {le : List Int → List Int → Nat → List Int} (hle : LeP le) {w M : Nat} {rows : List (List Int)} (hw : ∀ r ∈ rows, r.length = w) (hM : ∀ r ∈ rows, ∀ x ∈ r, x.natAbs ≤ M) : Told w M rows (ech le rows w) := by
  obtain ⟨Hh, P, I⟩ := inv hle hw w (Nat.le_refl _)
  unfold ech
  generalize (eS le rows w).1 = left at I
  generalize (eS le rows w).2 = found at I
  have hz : ∀ (r : List Int) (j : Nat), co (primE r) j = 0 ↔ co r j = 0 := fun r j => by
    have := prim_ex r j
    constructor <;> intro z <;> rw [z] at this
    · rw [Int.mul_zero] at this
      exact this.symm
    · exact (Int.mul_eq_zero.mp this).resolve_left (pf_ne r)
  have hld : ∀ k, k < found.length → ld (primE (found.getD k [])) = P.getD k 0 := fun k hk => ld_char (fun z => I.nz k hk ((hz _ _).mp z)) fun j hj => (hz _ _).mpr (I.be k hk j hj)
  have mem : ∀ t ∈ found.map primE, ∃ k, k < found.length ∧ t = primE (found.getD k []) := fun t ht => by
    obtain ⟨r, hr, rfl⟩ := List.mem_map.mp ht
    obtain ⟨k, hk, e⟩ := List.mem_iff_getElem.mp hr
    exact ⟨k, hk, by rw [List.getD_eq_getElem?_getD, List.getElem?_eq_getElem hk, e]; rfl⟩
  have z' : ∀ i k, i < (found.map primE).length → k < (found.map primE).length → k ≠ i → row (found.map primE) k (ld ((found.map primE).getD i [])) = 0 := fun i k hi hk hne => by
    rw [List.length_map] at hi hk
    rw [row_map hk, getD_map hi, hld i hi]
    exact (hz _ _).mpr (I.z i k hi hk hne)
  have nz' : ∀ k, k < (found.map primE).length → row (found.map primE) k (ld ((found.map primE).getD k [])) ≠ 0 := fun k hk => by
    rw [List.length_map] at hk
    rw [row_map hk, getD_map hk, hld k hk]
    exact fun z => I.nz k hk ((hz _ _).mp z)
  have lt' : ∀ k, k < (found.map primE).length → ld ((found.map primE).getD k []) < w := fun k hk => by
    rw [List.length_map] at hk
    rw [getD_map hk, hld k hk]
    exact I.pp k hk
  refine ⟨fun t ht => ?_, fun t ht => ?_, fun t ht => ?_, z', ⟨?_, fun k hk => ?_, fun i hi => ?_⟩, fun t ht j => ?_⟩
  · obtain ⟨k, hk, rfl⟩ := mem t ht
    rw [primE_len]
    exact I.ll _ (.inr (mem_row hk))
  · obtain ⟨k, hk, rfl⟩ := mem t ht
    rw [hld k hk]
    exact I.pp k hk
  · obtain ⟨k, hk, rfl⟩ := mem t ht
    rw [hld k hk]
    exact fun z => I.nz k hk ((hz _ _).mp z)
  · exact Ech.ind (lead := fun k => ld ((found.map primE).getD k [])) ⟨lt', nz', z'⟩
  · rw [List.length_map] at hk
    rw [row_map hk]
    have h1 : SpM w rows (found.getD k []) := (I.ff _ (mem_row hk)).trans fun x hx => SpM.own (I.hr x hx)
    exact SpM.mul (c := pf (found.getD k [])) (α := 1) (pf_ne _) h1 fun j _ => by rw [prim_ex, Int.one_mul]
  · refine (I.rv _ (mem_row hi)).trans fun x hx => ?_
    rcases List.mem_append.mp hx with hx | hx
    · exact SpM.mul (c := 1) (α := pf x) (by decide) (SpM.own (List.mem_map.mpr ⟨x, hx, rfl⟩)) fun j _ => by rw [prim_ex, Int.one_mul]
    · exact SpM.zero (I.lz x hx)
  · obtain ⟨k, hk, rfl⟩ := mem t ht
    rw [List.length_map]
    refine Nat.le_trans (prim_le _ j) ?_
    have hr := mem_row hk
    generalize hR : found.getD k [] = r at hr
    by_cases hj : j < w
    · rcases I.rd r (.inr hr) with hv | hv
      · obtain ⟨m, hm⟩ : ∃ m, found.length = m + 1 := ⟨found.length - 1, by omega⟩
        have hI := I.ind (Nat.le_refl _)
        have hs := I.ff r hr
        unfold SpM at hs
        rw [I.hl] at hs
        have hk0 := hk
        rw [hm] at hI hs hk ⊢
        refine bd_found (B := row Hh) (P := fun k => P.getD k 0) (i0 := k) (I.ll r (.inr hr)) hv (fun i hi j => co_bd hM (I.hr _ (mem_row (by rw [I.hl, hm]; exact hi))) j) (fun k hk => I.pp k (by omega)) hI hs hk (fun i hi hne => ?_) j hj
        rw [← hR]
        exact I.z i k (by omega) hk0 (Ne.symm hne)
      · exact Nat.le_trans (co_bd hM hv j) (Bd_le (by omega))
    · rw [co_far (by rw [I.ll r (.inr hr)]; omega)]
      exact Nat.zero_le _
abbrev le0 (t : List Int) : Int := co t (ld t)
def wst (a : Int) (t : List Int) : Int := a * (le0 t).fdiv (Nat.gcd a.natAbs (le0 t).natAbs : Nat)
def whl (T : List (List Int)) : Int := T.foldl wst 1
def frees (T : List (List Int)) (w : Nat) : List Nat := (List.range w).filter fun p => !(T.map ld).contains p
def kst (W : Int) (f : Nat) (o : List Int) (t : List Int) : List Int := o.set (ld t) (-(W.fdiv (le0 t)) * co t f)
def k0 (W : Int) (w f : Nat) : List Int := (List.replicate w (0 : Int)).set f W
def kone (T : List (List Int)) (w f : Nat) : List Int := T.foldl (kst (whl T) f) (k0 (whl T) w f)
structure KOk (T : List (List Int)) : Prop where
  c1 : ∀ A t B, T = A ++ t :: B → CDivQ (le0 t) (Nat.gcd (whl A).natAbs (le0 t).natAbs : Nat)
  m1 : ∀ A t B, T = A ++ t :: B → CMulW (whl A) ((le0 t).fdiv (Nat.gcd (whl A).natAbs (le0 t).natAbs : Nat))
  c2 : ∀ t ∈ T, CDivQ (whl T) (le0 t)
  m2 : ∀ t ∈ T, ∀ f, CMulW (-((whl T).fdiv (le0 t))) (co t f)
  m3 : ∀ t ∈ T, ∀ f, CMulW (whl T) (co t f)
  c3 : ∀ t ∈ T, ∀ f, CDivQ (whl T * co t f) (le0 t)
structure Kv (n : Nat) (T : List (List Int)) : Prop where
  free : ∀ f ∈ frees T n, ∀ g ∈ frees T n, co (kone T n f) g = if g = f then whl T else 0
  dot : ∀ f ∈ frees T n, ∀ t ∈ T, S n (fun j => co (kone T n f) j * co t j) = 0
  nz : whl T ≠ 0
  bd : ∀ B, (∀ t ∈ T, ∀ j, (co t j).natAbs ≤ B) → 1 ≤ B → ∀ f ∈ frees T n, ∀ j, (co (kone T n f) j).natAbs ≤ B ^ (T.length + 1)
theorem Told.nodup {w M : Nat} {rows T : List (List Int)} (h : Told w M rows T) : (T.map ld).Nodup := by
  unfold List.Nodup
  rw [List.pairwise_iff_getElem]
  intro i j hi hj hij e
  rw [List.length_map] at hi hj
  rw [List.getElem_map, List.getElem_map] at e
  have hz := h.z i j hi hj (by omega)
  have g : ∀ k, (hk : k < T.length) → T.getD k [] = T[k] := fun k hk => by rw [List.getD_eq_getElem?_getD, List.getElem?_eq_getElem hk]; rfl
  unfold row at hz
  rw [g i hi, g j hj, e] at hz
  exact h.nz _ (List.getElem_mem hj) hz
theorem Told.split {w M : Nat} {rows T : List (List Int)} (h : Told w M rows T) {t : List Int} (ht : t ∈ T) : ∃ A C, T = A ++ t :: C ∧ (∀ u ∈ C, ld u ≠ ld t) ∧ ∀ u ∈ T, u ≠ t → co t (ld u) = 0 := by
  obtain ⟨i, hi, e⟩ := List.mem_iff_getElem.mp ht
  have g : ∀ k, (hk : k < T.length) → T.getD k [] = T[k] := fun k hk => by rw [List.getD_eq_getElem?_getD, List.getElem?_eq_getElem hk]; rfl
  obtain ⟨A, C, es⟩ := List.append_of_mem ht
  refine ⟨A, C, es, fun u hu eq => ?_, fun u hu ne => ?_⟩
  · have nd := h.nodup
    rw [es, List.map_append, List.map_cons] at nd
    have := (List.nodup_append.mp nd).2.1
    exact (List.nodup_cons.mp this).1 (List.mem_map.mpr ⟨u, hu, eq⟩)
  · obtain ⟨k, hk, e2⟩ := List.mem_iff_getElem.mp hu
    have hki : i ≠ k := fun z => by
      subst z
      exact ne (e2.symm.trans e)
    have hz := h.z k i hk hi hki
    unfold row at hz
    rw [g k hk, g i hi, e, e2] at hz
    exact hz
end K59

set_option Elab.async false
set_option linter.all false
set_option maxRecDepth 100000
set_option maxHeartbeats 4000000
set_option exponentiation.threshold 10000
namespace K59
open PySem PySem.Spec PyProof.Rows L2 StX RZ MyR SlX OwnR OwnF EnumT GxR GenNx FDivQ LA
section
variable {P : Program} {w : World} {K : PySem.W.Frag} {mg : Str → Option Value} {base : Heap} {Ps : List Addr}
end
section
variable {P : Program} {w : World} {K : PySem.W.Frag} {mg : Str → Option Value} {base : Heap} {Ps : List Addr}
end
section
variable {P : Program} {w : World} {K : PySem.W.Frag} {mg : Str → Option Value} {base : Heap} {Ps : List Addr}
end
section
variable {P : Program} {w : World} {K : PySem.W.Frag} {mg : Str → Option Value} {base : Heap} {Ps : List Addr}
end
section
variable {P : Program} {w : World} {K : PySem.W.Frag} {mg : Str → Option Value} {base : Heap} {Ps : List Addr}
end
theorem gl_cont : ∀ (l : List Int), cont l = gl l := fun l => by
  have key : ∀ n, n ≤ l.length → cont (l.take n) = gl (l.take n) := fun n => by
    induction n with
    | zero => exact fun _ => rfl
    | succ n ih =>
      intro h
      rw [take_snoc (by omega), cont_snoc, ih (by omega)]
      unfold gl
      rw [List.foldl_append]
      rfl
  have := key l.length (Nat.le_refl _)
  rw [List.take_length] at this
  exact this
section
variable {P : Program} {w : World} {K : PySem.W.Frag} {mg : Str → Option Value} {base : Heap} {Ps : List Addr}
end
end K59

set_option Elab.async false
set_option linter.all false
set_option maxRecDepth 100000
/-! layings: three forms, powers -/
namespace K59
def fact : Nat → Int
  | 0 => 1
  | n + 1 => fact n * (n + 1)
end K59

set_option Elab.async false
set_option linter.all false
set_option maxRecDepth 100000
set_option maxHeartbeats 4000000
namespace K59
open PySem PySem.Spec PyProof.Rows L2 StX RZ MyR SlX OwnR OwnF EnumT
/-- a loop over enumerate of a list -/
theorem for_enum {K : PySem.W.Frag} {a : Addr} {xs : List V} {g : TG} {tb : TS} {D : Ends} {σ : L2.St} {H : Hp} (Pv : Nat → L2.St → Hp → Prop) (h0 : Pv 0 σ H) (hq : ∀ i σ H, Pv i σ H → SqL K H a xs)
    (hs : ∀ (i : Nat) (x : V) (T : Addr) (σ : L2.St) (H : Hp), xs[i]? = some x → Pv i σ H → H T = none → g (.ref T) σ (upd H T (.tup [.int (i : Nat), x])) fun σ2 H2 => tb { D with nx := Pv (i + 1), ct := Pv (i + 1), bk := D.nx } σ2 H2) (hd : ∀ σ H, Pv xs.length σ H → D.nx σ H) :
    ∃ W : Nat → Nat → L2.St → Hp → Prop, (∃ m, W 0 m σ H) ∧ ∀ i m σ H, W i m σ H →
      ((Ite K a).stop i H ∧ D.nx σ H) ∨ ((Ite K a).go i H ∧ ∃ N : L2.St → Hp → Prop, (∀ σ' H', N σ' H' → ∃ m', m' < m ∧ W (i + 1) m' σ' H') ∧ ∀ v H', (Ite K a).yld i H v H' → g v σ H' fun σ2 H2 => tb { D with nx := N, ct := N, bk := D.nx } σ2 H2) := by
  refine ⟨fun i m σ H => m = xs.length - i ∧ i ≤ xs.length ∧ Pv i σ H, ⟨xs.length, rfl, Nat.zero_le _, h0⟩, ?_⟩
  rintro i m σ H ⟨rfl, hi, p⟩
  have qx := hq i σ H p
  by_cases hlt : i < xs.length
  · have hx : xs[i]? = some xs[i] := List.getElem?_eq_getElem hlt
    refine .inr ⟨⟨xs, _, qx, hx⟩, Pv (i + 1), fun σ' H' p' => ⟨xs.length - (i + 1), by omega, rfl, hlt, p'⟩, fun v H' y => ?_⟩
    obtain ⟨T, x', rfl, hT, rfl, f1⟩ := y
    exact hs i x' T σ H (f1 xs qx) p hT
  · have e : i = xs.length := by omega
    subst e
    exact .inl ⟨⟨xs, qx, Nat.le_refl _⟩, hd σ H p⟩
/-- a comprehension over enumerate of a list -/
theorem lc_enum {K : PySem.W.Frag} {a : Addr} {xs : List V} {g : TG} {tt : TT} {te : TE} {vs : List Nat} {σ : L2.St} {H1 : Hp} {D : Addr} {Qd : Hp → Prop} (Pv : Nat → Hp → Prop) (h0 : Pv 0 (upd H1 D (.lst []))) (hq : ∀ i H, i ≤ xs.length → Pv i H → SqL K H a xs)
    (hs : ∀ (i : Nat) (x : V) (T : Addr) (H : Hp), xs[i]? = some x → Pv i H → H T = none → g (.ref T) (wipe σ vs) (upd H T (.tup [.int (i : Nat), x])) fun σ2 H2 => wipe σ2 vs = wipe σ vs ∧ tt σ2 H2 fun b H3 =>
      if b = true then te σ2 H3 fun y H4 => ∃ acc, H4 D = some (.lst acc) ∧ acc.length < sizeLine ∧ Pv (i + 1) (upd H4 D (.lst (acc ++ [y]))) else Pv (i + 1) H3) (hd : ∀ H, Pv xs.length H → Qd H) :
    ∃ W : Nat → Nat → Hp → Prop, (∃ m, W 0 m (upd H1 D (.lst []))) ∧ ∀ i m H, W i m H →
      ((Ite K a).stop i H ∧ Qd H) ∨ ((Ite K a).go i H ∧ ∃ Nx : Hp → Prop, (∀ H', Nx H' → ∃ m', m' < m ∧ W (i + 1) m' H') ∧ ∀ x H', (Ite K a).yld i H x H' → g x (wipe σ vs) H' fun σ2 H2 => wipe σ2 vs = wipe σ vs ∧ tt σ2 H2 fun b H3 =>
        if b = true then te σ2 H3 fun y H4 => ∃ acc, H4 D = some (.lst acc) ∧ acc.length < sizeLine ∧ Nx (upd H4 D (.lst (acc ++ [y]))) else Nx H3) := by
  refine ⟨fun i m H => m = xs.length - i ∧ i ≤ xs.length ∧ Pv i H, ⟨xs.length, by simp, Nat.zero_le _, h0⟩, ?_⟩
  rintro i m H ⟨rfl, hi, p⟩
  have qx := hq i H hi p
  by_cases hlt : i < xs.length
  · have hx : xs[i]? = some xs[i] := List.getElem?_eq_getElem hlt
    refine .inr ⟨⟨xs, _, qx, hx⟩, Pv (i + 1), fun H' p' => ⟨xs.length - (i + 1), by omega, rfl, hlt, p'⟩, fun v H' y => ?_⟩
    obtain ⟨T, x', rfl, hT, rfl, f1⟩ := y
    exact hs i x' T H (f1 xs qx) p hT
  · have e : i = xs.length := by omega
    subst e
    exact .inl ⟨⟨xs, qx, Nat.le_refl _⟩, hd H p⟩
/-- a list of ints -/
abbrev lp (ns : List Int) : HO := .lst (ns.map V.int)
theorem lcut_init {l : List Int} (h : 1 ≤ l.length) : HO.lst (cutV (l.map V.int) none (some (-1))) = lp (l.take (l.length - 1)) := by
  rw [cut_init _ (by rw [List.length_map]; exact h), ← List.map_take, List.length_map]
theorem lcut_tail {l : List Int} (h : 1 ≤ l.length) : HO.lst (cutV (l.map V.int) (some 1) none) = lp (l.drop 1) := by
  rw [cut_tail _ (by rw [List.length_map]; exact h), ← List.map_drop]
theorem ch_le : ∀ n k : Nat, ch n k ≤ 2 ^ n
  | n, 0 => by rw [ch_zero]; exact Nat.one_le_two_pow
  | 0, k + 1 => Nat.zero_le _
  | n + 1, k + 1 => by
    show ch n k + ch n (k + 1) ≤ _
    have h1 := ch_le n k
    have h2 := ch_le n (k + 1)
    rw [Nat.pow_succ]
    omega
section
variable {P : Program} {w : World} {K : PySem.W.Frag} {mg : Str → Option Value} {base : Heap}
def spLots : Sp := fun vs H Q _ => ∃ n k : Nat, vs = [.int n, .int k] ∧ k ≤ n ∧ n ≤ 50 ∧ Q (.int (ch n k)) H
theorem sm_ch {n k : Nat} (h : n ≤ 50) : sm ((ch n k : Nat) : Int) := by
  show ((ch n k : Nat) : Int).natAbs < _
  rw [Int.natAbs_natCast]
  exact Nat.lt_of_le_of_lt (ch_le n k) (Nat.pow_lt_pow_right (by decide) (by omega))
theorem ok_lots_of (T : Facts K mg) : FnOk P w K mg base CX0 1 T.f_lots_of T.fd_lots_of ["many", "few"] spLots := by
  refine T.F_lots_of.ok sc_lots_of (fun vs H Q E h => ?_) (fun cdv A outer s H vs Q E hr h => ?_)
  · obtain ⟨n, k, rfl, _⟩ := h
    rfl
  · obtain ⟨n, k, rfl, hk, hn, q⟩ := h
    refine ⟨_, (PSs.nox (pss_cons (ps_set (i := 2) sc_lots_of.nd rfl (.inl rfl) pe_int)
    (pss_cons (ps_for PassesOwn.never (by rfl) (pi_range1 (by rfl) T.z_range (pa_cons (pv 1) pa_nil)) (pg_name (i := 3) sc_lots_of.nd rfl (.inl rfl))
      (pss_one (ps_set (i := 2) sc_lots_of.nd rfl (.inl rfl) (pe_op op_fdivZ (pe_op op_mulW (pv 2) (pe_op op_sub (pv 0) (pv 3))) (pe_op op_add (pv 3) pe_int)))))
    (pss_one (ps_ret (pv 2)))))), ?_⟩
    refine ⟨_, rfl, k, rfl, by omega, by omega, for_range (n := (k : Int).toNat) (fun i σ H' => ∃ y3, σ = [some (.int n), some (.int k), some (.int (ch n i)), y3] ∧ H' = H) ⟨none, by rw [ch_zero]; rfl, rfl⟩ (fun i σ H' hi hP => ?_) (fun σ H' hP => ?_)⟩
    · obtain ⟨y3, rfl, rfl⟩ := hP
      have e := ch_mul n i
      have hi1 : (0 : Int) + (i : Int) + 1 ≠ 0 := by omega
      refine ⟨_, rfl, _, rfl, _, rfl, _, _, rfl, rfl, _, _, rfl, rfl, sm_mul (sm_ch hn) (Nat.lt_of_le_of_lt (show ((n : Int) - (0 + (i : Int))).natAbs ≤ 50 by omega) (Nat.lt_of_lt_of_le (show 50 < 2 ^ 7 by decide) (Nat.pow_le_pow_right (by decide) (by decide)))), _, rfl, _, _, rfl, rfl, _, _, rfl, rfl, ⟨hi1, Nat.lt_trans (PySem.Flt.log2_lt_of (k := 10) (by decide) (by show ((0 : Int) + (i : Int) + 1).natAbs < 2 ^ 10; omega)) (by decide)⟩, some (.int (0 + (i : Int))), ?_, rfl⟩
      have e2 : (((ch n i : Nat) : Int) * ((n : Int) - (0 + (i : Int)))).fdiv (0 + (i : Int) + 1) = ((ch n (i + 1) : Nat) : Int) := by
        rw [Int.zero_add, ← e, Int.mul_fdiv_cancel _ (by omega)]
      show [some (V.int n), some (V.int k), some (V.int ((((ch n i : Nat) : Int) * ((n : Int) - (0 + (i : Int)))).fdiv (0 + (i : Int) + 1))), _] = _
      rw [e2]
    · obtain ⟨y3, rfl, rfl⟩ := hP
      rw [Int.toNat_natCast]
      exact ⟨_, rfl, q⟩
def spSlope : Sp := fun vs H Q _ => ∃ (a : Addr) (m : List Int) (b : Bool), vs = [.ref a, .bl b] ∧ H a = some (lp m) ∧ 1 ≤ m.length ∧ m.length ≤ 100 ∧ (∀ z ∈ m, sm z) ∧ ∀ p H', Same H H' → H p = none → H' p = some (lp (if b = true then dY m else dX m)) → Q (.ref p) H'
theorem ok_laying_slope (T : Facts K mg) : FnOk P w K mg base CX0 1 T.f_laying_slope T.fd_laying_slope ["entries", "by_y"] spSlope := by
  refine T.F_laying_slope.ok sc_laying_slope (fun vs H Q E h => ?_) (fun cdv A outer s H vs Q E hr h => ?_)
  · obtain ⟨a, m, b, rfl, _⟩ := h
    rfl
  · obtain ⟨a, m, b, rfl, ha, h1, h2, sm1, q⟩ := h
    refine ⟨_, (PSs.nox (pss_cons (ps_if (pt_val (pv 1))
      (pss_one (ps_ret (pe_lc (own := [("at", 2), ("entry", 3)]) (g := (gTup K 2 (gCons (gName 2) (gCons (gName 3) gNil)))) (tt := tYes) (by rfl) sc_laying_slope.nd (pi_enum (by rfl) T.z_enumerate (pa_cons (pe_slice sl_list (pv 0) (po_some pe_int) po_none) pa_nil)) (blkOk_by (N := N_laying_slope) (sc := defScope s_laying_slope) (by decide +kernel)) (fun _ _ _ _ _ => (pg_tup (by rfl) (pgs_cons (pg_name (i := 2) sc_laying_slope.nd rfl (.inl rfl)) (pgs_cons (pg_name (i := 3) sc_laying_slope.nd rfl (.inl rfl)) pgs_nil)))) (fun _ _ _ _ _ => pts_nil) (fun _ _ _ _ _ => (pe_op op_mulW (pv 3) (pe_op op_add (pv 2) pe_int))))))
      pss_nil)
    (pss_one (ps_ret (pe_lc (own := [("at", 2), ("entry", 3)]) (g := (gTup K 2 (gCons (gName 2) (gCons (gName 3) gNil)))) (tt := tYes) (by rfl) sc_laying_slope.nd (pi_enum (by rfl) T.z_enumerate (pa_cons (pe_slice sl_list (pv 0) po_none (po_some (pe_un un_neg pe_int))) pa_nil)) (blkOk_by (N := N_laying_slope) (sc := defScope s_laying_slope) (by decide +kernel)) (fun _ _ _ _ _ => (pg_tup (by rfl) (pgs_cons (pg_name (i := 2) sc_laying_slope.nd rfl (.inl rfl)) (pgs_cons (pg_name (i := 3) sc_laying_slope.nd rfl (.inl rfl)) pgs_nil)))) (fun _ _ _ _ _ => pts_nil) (fun _ _ _ _ _ => (pe_op op_mulW (pv 3) (pe_op op_sub (pe_op op_sub (pe_callB (call_len_seq : CallR _ _ (Evl.rLenS K)) (by rfl) T.z_len (by decide +kernel) (pa_cons (pv 0) pa_nil)) pe_int) (pv 2))))))))), ?_⟩
    cases b with
    | true =>
      refine ⟨_, rfl, true, rfl, iteT ⟨_, rfl, 1, rfl, a, _, rfl, SqL.of ha, fun p np => ?_⟩⟩
      rw [lcut_tail (by omega)]
      refine gen_upd H p _ np fun H2 s2 f2 => ⟨p, _, rfl, SqL.of f2, fun D hD => lc_enum (xs := (m.drop 1).map V.int) (fun k H' => Same H2 H' ∧ H' D = some (.lst (tab k fun k => co m (k + 1) * ((k : Int) + 1)))) ⟨same_upd0 hD, upd_same⟩ (fun k H' _ hP => SqL.of (hP.1 _ _ f2)) (fun k x B H' hx hP hB => ?_) (fun H3 hP => ?_)⟩
      · obtain ⟨sH, hL⟩ := hP
        obtain ⟨hk, rfl⟩ := int_get hx
        rw [List.length_drop] at hk
        rw [co_drop1]
        refine gen_upd H' B _ hB fun H4 s4 f4 => ⟨B, _, rfl, SqT.of f4, rfl, _, _, rfl, _, _, rfl, rfl, rfl, ?_⟩
        refine ⟨_, rfl, _, rfl, _, _, rfl, rfl, _, _, rfl, rfl, sm_mul (sm_co sm1 (by omega)) (Nat.lt_of_le_of_lt (show ((k : Int) + 1).natAbs ≤ 100 by omega) (Nat.lt_of_lt_of_le (show 100 < 2 ^ 7 by decide) (Nat.pow_le_pow_right (by decide) (by decide)))), _, s4 _ _ hL, ?_, fun b o e => ?_, ?_⟩
        · rw [tab_len]
          exact small1000 (by omega)
        · rw [upd_ne (ne_of_none e hD)]
          exact s4 _ _ (sH _ _ e)
        · rw [upd_same, ← tab_snoc]
      · obtain ⟨sH, hL⟩ := hP
        rw [List.length_map, List.length_drop, tab_tb] at hL
        exact q D H3 (s2.trans sH) (Same.free s2 hD) hL
    | false =>
      refine ⟨_, rfl, false, rfl, iteF ⟨_, rfl, _, rfl, _, rfl, a, _, rfl, SqL.of ha, fun p np => ?_⟩⟩
      rw [lcut_init (by omega)]
      refine gen_upd H p _ np fun H2 s2 f2 => ⟨p, _, rfl, SqL.of f2, fun D hD => lc_enum (xs := (m.take (m.length - 1)).map V.int) (fun k H' => Same H2 H' ∧ H' D = some (.lst (tab k fun k => co m k * ((m.length : Int) - 1 - k)))) ⟨same_upd0 hD, upd_same⟩ (fun k H' _ hP => SqL.of (hP.1 _ _ f2)) (fun k x B H' hx hP hB => ?_) (fun H3 hP => ?_)⟩
      · obtain ⟨sH, hL⟩ := hP
        obtain ⟨hk, rfl⟩ := int_get hx
        rw [List.length_take] at hk
        rw [co_take (by omega)]
        refine gen_upd H' B _ hB fun H4 s4 f4 => ⟨B, _, rfl, SqT.of f4, rfl, _, _, rfl, _, _, rfl, rfl, rfl, ?_⟩
        have hfB := (s2.trans (sH.trans s4)) _ _ ha
        refine ⟨_, rfl, _, rfl, a, _, rfl, .inl (SqL.of hfB), ?_⟩
        rw [List.length_map]
        refine ⟨_, _, rfl, rfl, _, rfl, _, _, rfl, rfl, _, _, rfl, rfl, sm_mul (sm_co sm1 (by omega)) (Nat.lt_of_le_of_lt (show ((m.length : Int) - 1 - (k : Int)).natAbs ≤ 100 by omega) (Nat.lt_of_lt_of_le (show 100 < 2 ^ 7 by decide) (Nat.pow_le_pow_right (by decide) (by decide)))), _, s4 _ _ hL, ?_, fun b o e => ?_, ?_⟩
        · rw [tab_len]
          exact small1000 (by omega)
        · rw [upd_ne (ne_of_none e hD)]
          exact s4 _ _ (sH _ _ e)
        · rw [upd_same, ← tab_snoc]
      · obtain ⟨sH, hL⟩ := hP
        rw [List.length_map, List.length_take, Nat.min_eq_left (by omega), tab_tb] at hL
        exact q D H3 (s2.trans sH) (Same.free s2 hD) hL
end
end K59

set_option Elab.async false
set_option linter.all false
set_option maxRecDepth 100000
set_option maxHeartbeats 4000000
namespace K59
open PySem PySem.Spec PyProof.Rows L2 StX RZ MyR SlX OwnR OwnF EnumT
theorem dX_itY (l : List Int) : ∀ j, dX (it dY j l) = it dY j (dX l)
  | 0 => rfl
  | j + 1 => by
    show dX (dY (it dY j l)) = dY (it dY j (dX l))
    rw [dXY, dX_itY l j]
theorem dX_dd (i j : Nat) (l : List Int) : dX (dd i j l) = dd (i + 1) j l := by
  unfold dd
  rw [dX_itY]
  rfl
theorem dY_dd (i j : Nat) (l : List Int) : dY (dd i j l) = dd i (j + 1) l := rfl
/-- lists of ints: where they stand, what they hold -/
structure Ll (H : Hp) (rs : List Addr) (n : Nat) (φ : Nat → List Int) : Prop where
  len : rs.length = n
  row : ∀ k (h : k < rs.length), H rs[k] = some (lp (φ k))
theorem Ll.same {H H' : Hp} {rs : List Addr} {n : Nat} {φ : Nat → List Int} (h : Ll H rs n φ) (s : Same H H') : Ll H' rs n φ := ⟨h.len, fun k hk => s _ _ (h.row k hk)⟩
theorem Ll.snoc {H H' : Hp} {rs : List Addr} {n : Nat} {φ : Nat → List Int} {p : Addr} {l : List Int} (h : Ll H rs n φ) (s : ∀ k (hk : k < rs.length), H' rs[k] = H rs[k]) (hp : H' p = some (lp l)) (e : l = φ n) : Ll H' (rs ++ [p]) (n + 1) φ := by
  refine ⟨by rw [List.length_append, h.len]; rfl, fun k hk => ?_⟩
  by_cases c : k < rs.length
  · rw [show (rs ++ [p])[k] = rs[k] from List.getElem_append_left _, s k c]
    exact h.row k c
  · have ek : k = rs.length := by rw [List.length_append] at hk; simp at hk; omega
    subst ek
    rw [show (rs ++ [p])[rs.length] = p by rw [List.getElem_append_right (Nat.le_refl _)]; simp, hp, e, h.len]
/-- all these addresses are free -/
def Fr (H : Hp) (rs : List Addr) : Prop := ∀ r ∈ rs, H r = none
theorem Fr.snoc {H : Hp} {rs : List Addr} {p : Addr} (h : Fr H rs) (hp : H p = none) : Fr H (rs ++ [p]) := fun r hr => by
  rcases List.mem_append.mp hr with e | e
  · exact h r e
  · rw [List.mem_singleton.mp e]
    exact hp
theorem get_ref {rs : List Addr} {i : Nat} {x : V} (h : (rs.map V.ref)[i]? = some x) : ∃ hi : i < rs.length, x = .ref rs[i] := by
  rw [List.getElem?_map] at h
  obtain ⟨b, hb, rfl⟩ := Option.map_eq_some_iff.mp h
  obtain ⟨h1, e1⟩ := List.getElem?_eq_some_iff.mp hb
  exact ⟨h1, by rw [e1]⟩
section
variable {P : Program} {w : World} {K : PySem.W.Frag} {mg : Str → Option Value} {base : Heap}
def spSlopes : Sp := fun vs H Q _ => ∃ (a : Addr) (l : List Int) (t : Nat), vs = [.ref a, .int t] ∧ H a = some (tp l) ∧ t + 1 ≤ l.length ∧ l.length ≤ 100 ∧ (∀ i j, i + j ≤ t → ∀ z ∈ dd i j l, sm z) ∧
  ∀ p rs H', Same H H' → H p = none → Fr H rs → H' p = some (.lst (rs.map V.ref)) → Ll H' rs (t + 1) (fun k => dd (t - k) k l) → Q (.ref p) H'
theorem ok_laying_slopes (T : Facts K mg) : FnOk P w K mg base CX0 2 T.f_laying_slopes T.fd_laying_slopes ["entries", "times"] spSlopes := by
  have G_laying_slope := ok_laying_slope (P := P) (w := w) (base := base) T
  refine T.F_laying_slopes.ok sc_laying_slopes (fun vs H Q E h => ?_) (fun cdv A outer s H vs Q E hr h => ?_)
  · obtain ⟨a, l, t, rfl, _⟩ := h
    rfl
  · obtain ⟨a, l, t, rfl, ha, h1, h2, hs, q⟩ := h
    refine ⟨_, (PSs.nox (pss_cons (ps_set (i := 2) sc_laying_slopes.nd rfl (.inl rfl) (pe_lst (pa_cons (pe_callTy call_list_of (by rfl) T.z_list (by decide +kernel) (pa_cons (pv 0) pa_nil)) pa_nil)))
    (pss_cons (ps_for PassesOwn.never (by rfl) (pi_range1 (by rfl) T.z_range (pa_cons (pv 1) pa_nil)) (pg_name (i := 3) sc_laying_slopes.nd rfl (.inl rfl))
      (pss_one (ps_set (i := 2) sc_laying_slopes.nd rfl (.inl rfl) (pe_lst (pa_star (pe_lc (own := [("one", 4)]) (g := (gName 4)) (tt := tYes) (by rfl) sc_laying_slopes.nd (pi_list (pv 2)) (blkOk_by (N := N_laying_slopes) (sc := defScope s_laying_slopes) (by decide +kernel)) (fun _ _ _ _ _ => (pg_name (i := 4) sc_laying_slopes.nd rfl (.inl rfl))) (fun _ _ _ _ _ => pts_nil) (fun _ _ _ _ _ => (pe_call G_laying_slope hr (by rfl) T.g_laying_slope T.F_laying_slope.kp T.b_laying_slope .nil pass0 (pa_cons (pv 4) (pa_cons pe_bl pa_nil))))) (pa_cons (pe_call G_laying_slope hr (by rfl) T.g_laying_slope T.F_laying_slope.kp T.b_laying_slope .nil pass0 (pa_cons (pe_ix ix_list (pv 2) (pe_un un_neg pe_int) (fun _ _ => rfl)) (pa_cons pe_bl pa_nil))) pa_nil))))))
    (pss_one (ps_ret (pv 2)))))), ?_⟩
    refine ⟨_, rfl, a, _, rfl, .inr (SqT.of ha), fun p0 n0 => gen_upd H p0 (lp l) n0 fun H1 s1 f1 => ⟨by show 1 ≤ sizeLine; decide, fun p1 n1 => gen_upd H1 p1 (.lst [.ref p0]) n1 fun H2 s2 f2 => ?_⟩⟩
    refine ⟨_, rfl, t, rfl, by omega, by omega, for_range (n := (t : Int).toNat) (fun u σ H' => ∃ fa rs y3, σ = [some (.ref a), some (.int t), some (.ref fa), y3, none] ∧ Same H H' ∧ H fa = none ∧ Fr H rs ∧ H' fa = some (.lst (rs.map V.ref)) ∧ Ll H' rs (u + 1) (fun k => dd (u - k) k l)) ⟨p1, [p0], none, rfl, s1.trans s2, Same.free s1 n1, fun r hr => by rw [List.mem_singleton.mp hr]; exact n0, f2, ⟨rfl, fun k hk => ?_⟩⟩ (fun u σ H' hu hP => ?_) (fun σ H' hP => ?_)⟩
    · have k0 : k = 0 := by have : k < 1 := hk; omega
      subst k0
      exact s2 _ _ f1
    · obtain ⟨fa, rs, y3, rfl, sH, nfa, fr, hfa, ll⟩ := hP
      have hu2 : u < t := by omega
      refine ⟨_, rfl, fa, rfl, ⟨_, SqL.of hfa⟩, fun D hD => lc_list (xs := rs.map V.ref) (fun j H3 => Same H' H3 ∧ ∃ ss, H3 D = some (.lst (ss.map V.ref)) ∧ Fr H ss ∧ Ll H3 ss j (fun k => dd (u + 1 - k) k l)) ⟨same_upd0 hD, [], upd_same, fun r hr => (nomatch hr), rfl, fun k hk => absurd hk (Nat.not_lt_zero k)⟩ (fun j H3 _ hP3 => SqL.of (hP3.1 _ _ hfa)) (fun j x H3 hx hP3 => ?_) (fun H3 hP3 => ?_)⟩
      · obtain ⟨s3, ss, hL, fs, l3⟩ := hP3
        obtain ⟨hj, rfl⟩ := get_ref hx
        have hj2 : j < u + 1 := by rw [← ll.len]; exact hj
        have hrow := s3 _ _ (ll.row j hj)
        have dl := dd_len (u - j) j l
        refine ⟨rfl, _, rfl, rs[j], _, false, rfl, hrow, by omega, by omega, hs (u - j) j (by omega), fun p4 H4 s4 n4 f4 => ?_⟩
        have hL4 := s4 _ _ hL
        have nD4 : ∀ q ls, H4 q = some (lp ls) → H3 q = none ∨ True → q ≠ D ∨ True := fun _ _ _ _ => .inr True.intro
        have p4D : p4 ≠ D := fun z => by rw [z, hL] at n4; cases n4
        have dH : ∀ b o, H' b = some o → b ≠ D := fun b o e => ne_of_none e hD
        refine ⟨_, hL4, by rw [List.length_map, l3.len]; exact small1000 (by omega), fun b o e => ?_, ss ++ [p4], by rw [upd_same, List.map_append]; rfl, fs.snoc (Same.free sH (Same.free s3 n4)), l3.snoc (fun k hk => ?_) (by rw [upd_ne p4D]; exact f4) ?_⟩
        · rw [upd_ne (dH b o e)]
          exact s4 _ _ (s3 _ _ e)
        · have e3 := l3.row k hk
          have nk : ss[k] ≠ D := fun z => by
            have e4 := e3
            rw [z, hL] at e4
            have hh := HO.lst.inj (Option.some.inj e4)
            have dl2 := dd_len (u + 1 - k) k l
            have hk2 : k < j := by rw [← l3.len]; exact hk
            have c0 := congrArg (fun zs => zs[0]?) hh
            have : 0 < (dd (u + 1 - k) k l).length := by omega
            have : 0 < ss.length := by omega
            simp only [List.getElem?_map] at c0
            rw [List.getElem?_eq_getElem (by omega), List.getElem?_eq_getElem (by omega)] at c0
            cases c0
          rw [upd_ne nk, s4 _ _ e3, e3]
        · rw [if_neg (by decide), dX_dd]
          rw [show u - j + 1 = u + 1 - j by omega]
      · obtain ⟨s3, ss, hL, fs, l3⟩ := hP3
        rw [List.length_map, ll.len] at l3
        refine ⟨D, _, rfl, .inr (SqL.of hL), ?_⟩
        obtain ⟨rs0, rl, ers⟩ : ∃ rs0 rl, rs = rs0 ++ [rl] := ⟨rs.dropLast, rs.getLast (fun z => by have := ll.len; rw [z] at this; cases this), (List.dropLast_concat_getLast _).symm⟩
        have lr0 : rs0.length = u := by have := ll.len; rw [ers, List.length_append] at this; simp at this; exact this
        have hrl : H' rl = some (lp (dd 0 u l)) := by
          have := ll.row u (by rw [ll.len]; omega)
          rw [Nat.sub_self] at this
          rw [← this]
          congr 1
          simp only [ers]
          rw [List.getElem_append_right (by omega)]
          simp [lr0]
        have hfa' : H' fa = some (.lst (rs0.map V.ref ++ [.ref rl])) := by rw [hfa, ers, List.map_append]; rfl
        have dl := dd_len 0 u l
        refine ⟨_, rfl, _, rfl, fa, _, _, _, rfl, rfl, SqL.of (s3 _ _ hfa'), atI_last _ _, rl, _, true, rfl, s3 _ _ hrl, by omega, by omega, hs 0 u (by omega), fun p5 H5 s5 n5 f5 => ?_⟩
        refine ⟨by rw [List.length_append, List.length_map, l3.len]; exact Nat.le_of_lt (small1000 (by show u + 1 + 1 ≤ 1000; omega)), fun p6 n6 => gen_upd H5 p6 _ n6 fun H6 s6 f6 => ?_⟩
        refine ⟨p6, ss ++ [p5], _, rfl, ((sH.trans s3).trans s5).trans s6, Same.free sH (Same.free s3 (Same.free s5 n6)), fs.snoc (Same.free sH (Same.free s3 n5)), by rw [f6, List.map_append]; rfl, l3.snoc (fun k hk => ?_) (s6 _ _ f5) ?_⟩
        · have e3 := l3.row k hk
          rw [(s5.trans s6) _ _ e3, e3]
        · rw [if_pos rfl, dY_dd, Nat.sub_self]
    · obtain ⟨fa, rs, y3, rfl, sH, nfa, fr, hfa, ll⟩ := hP
      rw [Int.toNat_natCast] at ll
      exact ⟨_, rfl, q fa rs H' sH nfa fr hfa ll⟩
end
end K59

set_option Elab.async false
set_option linter.all false
set_option maxRecDepth 100000
set_option maxHeartbeats 4000000
namespace K59
open PySem PySem.Spec PyProof.Rows L2 StX RZ MyR SlX OwnR OwnF EnumT
theorem tab_inj {n : Nat} {f g : Nat → Int} (h : f = g) : tab n f = tab n g := by rw [h]
/-- the entries so far of a laying -/
def Lc (t : Nat) (f g : List Int) (i k : Nat) : Int := su i fun j => sgn j * ch t j * cv (dd (t - j) j f) (co (dd j (t - j) g)) k
theorem evF_su (N : Nat) (φ : Nat → Nat → Int) (x y : Int) : ∀ n, evF N (fun k => su n fun j => φ j k) x y = su n fun j => evF N (φ j) x y
  | 0 => evF_zero x y N
  | n + 1 => by
    show evF N (fun k => su n (fun j => φ j k) + φ n k) x y = su n (fun j => evF N (φ j) x y) + evF N (φ n) x y
    rw [evF_add, evF_su N φ x y n]
theorem L_tab {t : Nat} {f g : List Int} (hf : t + 1 ≤ f.length) (hg : t + 1 ≤ g.length) : tb (f.length + g.length - 1 - 2 * t) (Lc t f g (t + 1)) = L t f g := by
  refine ev_inj (by rw [tb_len, L_len t f g hf hg]) fun x y => ?_
  rw [ev_tb, L_sum x y t f g hf hg]
  unfold Lc
  rw [evF_su]
  refine su_congr _ fun j hj => ?_
  have l1 := dd_len (t - j) j f
  have l2 := dd_len j (t - j) g
  have n1 : dd (t - j) j f ≠ [] := ne_of2 (by omega)
  have n2 : dd j (t - j) g ≠ [] := ne_of2 (by omega)
  rw [evF_mul]
  congr 1
  rw [← ev_ml n1 n2]
  unfold ev
  rw [ml_len, show (dd (t - j) j f).length + (dd j (t - j) g).length - 1 = f.length + g.length - 1 - 2 * t by omega]
  exact evF_congr _ fun k _ => (co_ml n2 k).symm
/-- what is asked of what is laid -/
structure LdOk (t : Nat) (f g : List Int) : Prop where
  lf : t + 1 ≤ f.length
  lg : t + 1 ≤ g.length
  mf : f.length ≤ 42
  mg : g.length ≤ 42
  sf : ∀ i j, i + j ≤ t → nm (dd i j f) ≤ 2 ^ 1500
  sg : ∀ i j, i + j ≤ t → nm (dd i j g) ≤ 2 ^ 1500
theorem lt400 {x i : Nat} (h : x ≤ 2 ^ i) (hi : i < 4000) : x < 2 ^ 4000 := Nat.lt_of_le_of_lt h (Nat.pow_lt_pow_right (by decide) hi)
theorem LdOk.smf {t : Nat} {f g : List Int} (h : LdOk t f g) (i j : Nat) (hij : i + j ≤ t) : ∀ z ∈ dd i j f, sm z := fun z hz => lt400 (Nat.le_trans (nm_mem hz) (h.sf i j hij)) (by decide)
theorem LdOk.smg {t : Nat} {f g : List Int} (h : LdOk t f g) (i j : Nat) (hij : i + j ≤ t) : ∀ z ∈ dd i j g, sm z := fun z hz => lt400 (Nat.le_trans (nm_mem hz) (h.sg i j hij)) (by decide)
section
variable {P : Program} {w : World} {K : PySem.W.Frag} {mg : Str → Option Value} {base : Heap}
def spAddP : Sp := fun vs H Q _ => ∃ (R a b : Addr) (N : Nat) (g : Nat → Int) (xs ys : List Int) (c : Int), vs = [.ref R, .ref a, .ref b, .int c] ∧ H R = some (.lst (tab N g)) ∧ H a = some (lp xs) ∧ H b = some (lp ys) ∧ a ≠ R ∧ b ≠ R ∧ xs.length + ys.length ≤ N + 1 ∧ N ≤ 900 ∧
  (∀ x ∈ xs, sm x ∧ sm (c * x)) ∧ (∀ y ∈ ys, sm y) ∧ sm c ∧ ∀ H', Sx R H H' → H' R = some (.lst (tab N fun k => g k + c * cv xs (co ys) k)) → Q .non H'
theorem ok_add_product (T : Facts K mg) : FnOk P w K mg base CX0 1 T.f_add_product T.fd_add_product ["found", "one", "other", "factor"] spAddP := by
  refine T.F_add_product.ok sc_add_product (fun vs H Q E h => ?_) (fun cdv A outer s H vs Q E hr h => ?_)
  · obtain ⟨R, a, b, N, g, xs, ys, c, rfl, _⟩ := h
    rfl
  · obtain ⟨R, a, b, N, g, xs, ys, c, rfl, hR, ha, hb, naR, nbR, hN, hN9, hx, hy, hc, q⟩ := h
    refine ⟨_, (PSs.nox (pss_one (ps_for PassesOwn.never (by rfl) (pi_enum (by rfl) T.z_enumerate (pa_cons (pv 1) pa_nil)) (pg_tup (by rfl) (pgs_cons (pg_name (i := 4) sc_add_product.nd rfl (.inl rfl)) (pgs_cons (pg_name (i := 5) sc_add_product.nd rfl (.inl rfl)) pgs_nil)))
      (pss_one (ps_for PassesOwn.never (by rfl) (pi_enum (by rfl) T.z_enumerate (pa_cons (pv 2) pa_nil)) (pg_tup (by rfl) (pgs_cons (pg_name (i := 6) sc_add_product.nd rfl (.inl rfl)) (pgs_cons (pg_name (i := 7) sc_add_product.nd rfl (.inl rfl)) pgs_nil)))
        (pss_one (ps_augS (pv 0) (pe_op op_add (pv 4) (pv 6)) OwnC.get_list (pe_op op_mulW (pe_op op_mulW (pv 3) (pv 5)) (pv 7)) ip_add set_list))))))), ?_⟩
    refine ⟨_, rfl, a, _, rfl, SqL.of ha, for_enum (xs := xs.map V.int) (fun i σ H' => ∃ y4 y5 y6 y7, σ = [some (.ref R), some (.ref a), some (.ref b), some (.int c), y4, y5, y6, y7] ∧ Sx R H H' ∧ H' R = some (.lst (tab N fun k => g k + c * cv (xs.take i) (co ys) k))) ⟨none, none, none, none, rfl, Sx.refl R H, ?_⟩ (fun i σ H' hP => ?_) (fun i x B σ H' hxi hP hB => ?_) (fun σ H' hP => ?_)⟩
    · rw [hR]
      congr 2
      refine tab_inj (funext fun k => ?_)
      show g k = g k + c * 0
      omega
    · obtain ⟨y4, y5, y6, y7, _, sH, _⟩ := hP
      exact SqL.of (sH _ _ naR ha)
    · obtain ⟨y4, y5, y6, y7, rfl, sH, hL⟩ := hP
      obtain ⟨hi2, rfl⟩ := int_get hxi
      refine ⟨B, _, rfl, SqT.of upd_same, rfl, _, _, rfl, _, _, rfl, rfl, ?_⟩
      refine gen_upd H' B _ hB (fun H2 s2 _ => ?_)
      have sH2 : Sx R H H2 := sH.trans (Sx.of s2)
      have hL2 := s2 _ _ hL
      rw [tab_ext (g := fun k => g k + c * J xs (co ys) i 0 k) fun k hk => by rw [J_0]] at hL2
      refine ⟨_, rfl, b, _, rfl, SqL.of (sH2 _ _ nbR hb), for_enum (xs := ys.map V.int) (fun j σ H3 => ∃ y6 y7, σ = [some (.ref R), some (.ref a), some (.ref b), some (.int c), some (.int ((i : Nat) : Int)), some (.int (co xs i)), y6, y7] ∧ Sx R H H3 ∧ H3 R = some (.lst (tab N fun k => g k + c * J xs (co ys) i j k))) ⟨y6, y7, rfl, sH2, hL2⟩ (fun j σ H3 hP => ?_) (fun j y B2 σ H3 hyj hP hB2 => ?_) (fun σ H3 hP => ?_)⟩
      · obtain ⟨y6, y7, _, sH3, _⟩ := hP
        exact SqL.of (sH3 _ _ nbR hb)
      · obtain ⟨y6, y7, rfl, sH3, hL3⟩ := hP
        obtain ⟨hj2, rfl⟩ := int_get hyj
        refine ⟨B2, _, rfl, SqT.of upd_same, rfl, _, _, rfl, _, _, rfl, rfl, ?_⟩
        refine gen_upd H3 B2 _ hB2 (fun H4 s4 _ => ?_)
        have sH4 : Sx R H H4 := sH3.trans (Sx.of s4)
        have hL4 := s4 _ _ hL3
        have e1 : ((i : Nat) : Int) + ((j : Nat) : Int) = ((i + j : Nat) : Int) := by omega
        obtain ⟨sx, scx⟩ := hx (co xs i) (by rw [co_get hi2]; exact List.getElem_mem hi2)
        refine ⟨_, rfl, _, rfl, _, rfl, _, _, rfl, rfl, R, _, i + j, _, rfl, by rw [← e1], SqL.of hL4, tab_get (by omega), ?_⟩
        refine ⟨_, rfl, _, rfl, _, _, rfl, rfl, sm_mul hc sx, _, rfl, _, _, rfl, rfl, sm_mul scx (sm_co hy hj2), _, _, rfl, rfl, R, _, _, (i + j), rfl, rfl, hL4, ?_, ?_⟩
        · rw [tab_len]
          exact ix_at e1 (by omega)
        · refine ⟨_, _, rfl, fun d o n e => ?_, ?_⟩
          · rw [upd_ne n]
            exact sH4 _ _ n e
          · rw [upd_same]
            show some (HO.lst ((tab N fun k => g k + c * J xs (co ys) i j k).set (i + j) (.int (g (i + j) + c * J xs (co ys) i j (i + j) + c * co xs i * co ys j)))) = _
            rw [tab_set]
            congr 2
            refine tab_ext fun k hk => ?_
            rw [← J_step]
            by_cases z : k = i + j
            · subst z
              rw [if_pos rfl, if_pos rfl]
              grind
            · rw [if_neg z, if_neg z]
      · obtain ⟨y6, y7, rfl, sH3, hL3⟩ := hP
        rw [List.length_map, tab_ext (g := fun k => g k + c * cv (xs.take (i + 1)) (co ys) k) fun k hk => by rw [J_end hi2]] at hL3
        exact ⟨_, _, _, _, rfl, sH3, hL3⟩
    · obtain ⟨y4, y5, y6, y7, rfl, sH, hL⟩ := hP
      rw [List.length_map, List.take_length] at hL
      exact q H' sH hL
end
end K59

set_option Elab.async false
set_option linter.all false
set_option maxRecDepth 100000
set_option maxHeartbeats 4000000
namespace K59
open PySem PySem.Spec PyProof.Rows L2 StX RZ MyR SlX OwnR OwnF EnumT
section
variable {P : Program} {w : World} {K : PySem.W.Frag} {mg : Str → Option Value} {base : Heap}
theorem sgn_abs (k : Nat) : (sgn k).natAbs = 1 := by
  unfold sgn
  split <;> rfl
theorem tab_rep0 (n : Nat) : (List.replicate n [V.int 0]).flatten = tab n fun _ => 0 := by
  rw [← tab_rep]
  induction n with
  | zero => rfl
  | succ n ih => rw [List.replicate_succ, List.flatten_cons, ih, List.replicate_succ]; rfl
def spLaidIn : Sp := fun vs H Q _ => ∃ (a b : Addr) (f g : List Int) (t : Nat), vs = [.ref a, .ref b, .int t] ∧ H a = some (tp f) ∧ H b = some (tp g) ∧ LdOk t f g ∧ ∀ p H', Same H H' → H' p = some (tp (L t f g)) → Q (.ref p) H'
theorem ok_laid_in (T : Facts K mg) : FnOk P w K mg base CX0 3 T.f_laid_in T.fd_laid_in ["one", "other", "times"] spLaidIn := by
  have G_laying_slopes := ok_laying_slopes (P := P) (w := w) (base := base) T
  have G_add_product := ok_add_product (P := P) (w := w) (base := base) T
  have G_lots_of := ok_lots_of (P := P) (w := w) (base := base) T
  refine T.F_laid_in.ok sc_laid_in (fun vs H Q E h => ?_) (fun cdv A outer s H vs Q E hr h => ?_)
  · obtain ⟨a, b, f, g, t, rfl, _⟩ := h
    rfl
  · obtain ⟨a, b, f, g, t, rfl, ha, hb, ok, q⟩ := h
    have lf := ok.lf
    have lg := ok.lg
    have mf := ok.mf
    have mg' := ok.mg
    refine ⟨_, (PSs.nox (pss_cons (ps_set (i := 3) sc_laid_in.nd rfl (.inl rfl) (pe_op op_rep (pe_lst (pa_cons pe_int pa_nil)) (pe_op op_sub (pe_op op_sub (pe_op op_add (pe_callB call_len_seq (by rfl) T.z_len (by decide +kernel) (pa_cons (pv 0) pa_nil)) (pe_callB call_len_seq (by rfl) T.z_len (by decide +kernel) (pa_cons (pv 1) pa_nil))) pe_int) (pe_op op_mulW pe_int (pv 2)))))
    (pss_cons (ps_par (i := 4) (j := 5) (by rfl) sc_laid_in.nd rfl rfl (by decide) rfl rfl (pa_cons (pe_call G_laying_slopes hr (by rfl) T.g_laying_slopes T.F_laying_slopes.kp T.b_laying_slopes .nil pass0 (pa_cons (pv 0) (pa_cons (pv 2) pa_nil))) (pa_cons (pe_call G_laying_slopes hr (by rfl) T.g_laying_slopes T.F_laying_slopes.kp T.b_laying_slopes .nil pass0 (pa_cons (pv 1) (pa_cons (pv 2) pa_nil))) pa_nil)) (by rfl))
    (pss_cons (ps_for PassesOwn.never (by rfl) (pi_range1 (by rfl) T.z_range (pa_cons (pe_op op_add (pv 2) pe_int) pa_nil)) (pg_name (i := 6) sc_laid_in.nd rfl (.inl rfl))
      (pss_one (ps_expr (pe_call G_add_product (hr.mono (by decide)) (by rfl) T.g_add_product T.F_add_product.kp T.b_add_product .nil pass0 (pa_cons (pv 3) (pa_cons (pe_ix ix_list (pv 4) (pv 6) (fun _ _ => rfl)) (pa_cons (pe_ix ix_list (pv 5) (pe_op op_sub (pv 2) (pv 6)) (fun _ _ => rfl)) (pa_cons (pe_op op_mulW (pe_call G_lots_of (hr.mono (by decide)) (by rfl) T.g_lots_of T.F_lots_of.kp T.b_lots_of .nil pass0 (pa_cons (pv 2) (pa_cons (pv 6) pa_nil))) (pe_ifExp (pt_cmpR op_eq (pe_op op_mod (pv 6) pe_int) pe_int (nomark _)) pe_int (pe_un un_neg pe_int))) pa_nil))))))))
    (pss_one (ps_ret (pe_tupleOf (by rfl) T.z_tuple (pv 3)))))))), ?_⟩
    refine ⟨by show 1 ≤ sizeLine; decide, fun p0 n0 => gen_upd H p0 (.lst [.int 0]) n0 fun H0 s0 f0 => ⟨_, rfl, a, _, rfl, .inr (SqT.of (s0 _ _ ha)), _, rfl, b, _, rfl, .inr (SqT.of (s0 _ _ hb)), ?_⟩⟩
    rw [List.length_map, List.length_map]
    refine ⟨_, _, rfl, rfl, _, _, rfl, rfl, _, rfl, _, _, rfl, rfl, sm_mul (show sm 2 by show (2 : Nat) < 2 ^ 4000; exact lt400 (i := 1) (by decide) (by decide)) (sm_le (n := 100) (show ((t : Nat) : Int).natAbs ≤ 100 by omega) (by decide)), _, _, rfl, rfl, ?_⟩
    obtain ⟨N, hN⟩ : ∃ N, N = f.length + g.length - 1 - 2 * t := ⟨_, rfl⟩
    have eN : ((f.length : Int) + (g.length : Int) - 1 - 2 * (t : Int)) = (N : Int) := by omega
    dsimp only []
    rw [eN]
    have hz1 : [V.int 0].length * (N : Int).toNat ≤ sizeLine := by
      have hz : (1000 : Nat) ≤ sizeLine := by decide
      show 1 * (N : Int).toNat ≤ sizeLine
      omega
    refine ⟨p0, N, _, rfl, rfl, f0, by omega, by omega, hz1, fun R nR => ?_⟩
    rw [Int.toNat_natCast, tab_rep0]
    refine gen_upd H0 R _ nR fun H1 s1 f1 => ?_
    have s01 := s0.trans s1
    refine ⟨_, rfl, _, rfl, a, f, t, rfl, s01 _ _ ha, by omega, by omega, ok.smf, fun p2 rs H2 s2 n2 fr2 h2 l2 => ?_⟩
    refine ⟨_, rfl, _, rfl, b, g, t, rfl, (s01.trans s2) _ _ hb, by omega, by omega, ok.smg, fun p3 rs' H3 s3 n3 fr3 h3 l3 => ⟨_, _, rfl, ?_⟩⟩
    have f3 := (s2.trans s3) _ _ f1
    have h2' := s3 _ _ h2
    have l2' := l2.same s3
    have ne2 : ∀ r ∈ rs, r ≠ R := fun r hr z => by have := fr2 r hr; rw [z, f1] at this; cases this
    have ne3 : ∀ r ∈ rs', r ≠ R := fun r hr z => by have := fr3 r hr; rw [z, s2 _ _ f1] at this; cases this
    have nR2 : p2 ≠ R := fun z => by rw [z, f1] at n2; cases n2
    have nR3 : p3 ≠ R := fun z => by rw [z, s2 _ _ f1] at n3; cases n3
    have nHR : ∀ d o, H d = some o → d ≠ R := fun d o e => ne_of_none (s0 _ _ e) nR
    refine ⟨_, rfl, _, _, rfl, rfl, _, rfl, by omega, by omega, for_range (n := ((t : Int) + 1).toNat) (fun i σ H' => ∃ y6, σ = [some (.ref a), some (.ref b), some (.int t), some (.ref R), some (.ref p2), some (.ref p3), y6] ∧ Sx R H3 H' ∧ H' R = some (.lst (tab N (Lc t f g i)))) ⟨none, rfl, Sx.refl R H3, f3⟩ (fun i σ H' hi hP => ?_) (fun σ H' hP => ?_)⟩
    · obtain ⟨y6, rfl, sH, hL⟩ := hP
      have hi2 : i ≤ t := by omega
      have ei : (0 : Int) + (i : Int) = ((i : Nat) : Int) := by omega
      have et : (t : Int) - (0 + (i : Int)) = ((t - i : Nat) : Int) := by omega
      have hr1 : i < rs.length := by rw [l2'.len]; omega
      have hr2 : t - i < rs'.length := by rw [l3.len]; omega
      have q1 := sH _ _ (ne2 _ (List.getElem_mem hr1)) (l2'.row i hr1)
      have q2 := sH _ _ (ne3 _ (List.getElem_mem hr2)) (l3.row (t - i) hr2)
      rw [show t - (t - i) = i by omega] at q2
      refine ⟨_, rfl, _, rfl, _, rfl, p2, _, _, _, rfl, rfl, SqL.of (sH _ _ nR2 h2'), at_of ei (by rw [List.getElem?_map, List.getElem?_eq_getElem hr1]; rfl), ?_⟩
      refine ⟨_, rfl, _, rfl, _, rfl, _, _, rfl, rfl, p3, _, _, _, rfl, rfl, SqL.of (sH _ _ nR3 h3), at_of et (by rw [List.getElem?_map, List.getElem?_eq_getElem hr2]; rfl), ?_⟩
      have lotE : [V.int (t : Int), V.int (0 + (i : Int))] = [V.int (t : Int), V.int (i : Int)] := by rw [ei]
      have l1 := dd_len (t - i) i f
      have l2 := dd_len i (t - i) g
      refine ⟨_, rfl, _, rfl, t, i, lotE, hi2, by omega, ?_⟩
      refine ⟨_, rfl, _, _, rfl, rfl, (by show (0 : Int) < 2; decide), rfl, _, rfl, iteI (fun e => ?_) (fun e => ⟨_, rfl, ?_⟩)⟩
      · have es : sgn i = 1 := by
          unfold sgn
          rw [if_pos (by have : ((0 : Int) + (i : Int)) % 2 = 0 := e; omega)]
        have hc : ((ch t i : Nat) : Int) * 1 = sgn i * ch t i := by rw [es]; omega
        have cab : (((ch t i : Nat) : Int) * 1).natAbs ≤ 2 ^ 50 := by
          rw [hc, Int.natAbs_mul, sgn_abs, Nat.one_mul, Int.natAbs_natCast]
          exact Nat.le_trans (ch_le t i) (Nat.pow_le_pow_right (by decide) (by omega))
        refine ⟨_, _, rfl, rfl, sm_mul (sm_ch (by omega)) (show (1 : Int).natAbs < 2 ^ 4000 from lt400 (i := 1) (by decide) (by decide)), R, rs[i], rs'[t - i], N, Lc t f g i, dd (t - i) i f, dd i (t - i) g, ((ch t i : Nat) : Int) * 1, rfl, hL, q1, q2, ne2 _ (List.getElem_mem hr1), ne3 _ (List.getElem_mem hr2), by omega, by omega, fun z hz => ⟨ok.smf _ _ (by omega) z hz, ?_⟩, ok.smg _ _ (by omega), lt400 cab (by decide), fun H4 s4 f4 => ⟨_, rfl, sH.trans s4, ?_⟩⟩
        · show (_ * z).natAbs < _
          rw [Int.natAbs_mul]
          exact lt400 (Nat.le_trans (Nat.mul_le_mul cab (Nat.le_trans (nm_mem hz) (ok.sf (t - i) i (by omega)))) (Nat.le_of_eq (Nat.pow_add 2 50 1500).symm)) (by decide)
        · rw [f4, hc]
          rfl
      · have es : sgn i = -1 := by
          unfold sgn
          rw [if_neg (by have : ¬ ((0 : Int) + (i : Int)) % 2 = 0 := e; omega)]
        have hc : ((ch t i : Nat) : Int) * -1 = sgn i * ch t i := by rw [es]; omega
        have cab : (((ch t i : Nat) : Int) * -1).natAbs ≤ 2 ^ 50 := by
          rw [hc, Int.natAbs_mul, sgn_abs, Nat.one_mul, Int.natAbs_natCast]
          exact Nat.le_trans (ch_le t i) (Nat.pow_le_pow_right (by decide) (by omega))
        refine ⟨_, _, rfl, rfl, sm_mul (sm_ch (by omega)) (show (-1 : Int).natAbs < 2 ^ 4000 from lt400 (i := 1) (by decide) (by decide)), R, rs[i], rs'[t - i], N, Lc t f g i, dd (t - i) i f, dd i (t - i) g, ((ch t i : Nat) : Int) * -1, rfl, hL, q1, q2, ne2 _ (List.getElem_mem hr1), ne3 _ (List.getElem_mem hr2), by omega, by omega, fun z hz => ⟨ok.smf _ _ (by omega) z hz, ?_⟩, ok.smg _ _ (by omega), lt400 cab (by decide), fun H4 s4 f4 => ⟨_, rfl, sH.trans s4, ?_⟩⟩
        · show (_ * z).natAbs < _
          rw [Int.natAbs_mul]
          exact lt400 (Nat.le_trans (Nat.mul_le_mul cab (Nat.le_trans (nm_mem hz) (ok.sf (t - i) i (by omega)))) (Nat.le_of_eq (Nat.pow_add 2 50 1500).symm)) (by decide)
        · rw [f4, hc]
          rfl
    · obtain ⟨y6, rfl, sH, hL⟩ := hP
      rw [show ((t : Int) + 1).toNat = t + 1 by omega] at hL
      refine ⟨_, rfl, .inl ⟨R, _, rfl, SqL.of hL, fun p np => q p _ (fun d o e => ?_) ?_⟩⟩
      · exact same_upd0 np _ _ (sH _ _ (nHR d o e) ((s01.trans (s2.trans s3)) _ _ e))
      · rw [upd_same, tab_tb, hN, L_tab ok.lf ok.lg]
def spReqForm (C : Addr) : Sp := fun vs H Q _ => ∃ (a : Addr) (l : List Int), vs = [.ref a] ∧ Fo C H a l ∧ Q .non H
theorem ok_require_form (T : Facts K mg) : FnOk P w K mg base CX0 1 T.f_require_form T.fd_require_form ["value"] (spReqForm T.C_Form) := by
  refine T.F_require_form.ok sc_require_form (fun vs H Q E h => ?_) (fun cdv A outer s H vs Q E hr h => ?_)
  · obtain ⟨a, l, rfl, _⟩ := h
    rfl
  · obtain ⟨a, l, rfl, fa, q⟩ := h
    obtain ⟨dx, t, ha, ht⟩ := fa.slt
    refine ⟨_, (PSs.nox (pss_one (ps_if (pt_not (pt_val (pe_callB (call_isiF T.C_Form) (by rfl) T.z_isinstance (by decide +kernel) (pa_cons (pv 0) (pa_cons (pe_glob (v := .ref T.C_Form) (by rfl) T.g_Form rfl) pa_nil)))))
      (pss_one ps_never)
      pss_nil))), ?_⟩
    exact ⟨_, rfl, isi_form (X := (cxOf CX0 P w K mg base N_require_form (Str.ofString "require_form") (defScope s_require_form) T.f_require_form cdv A outer s H E).nox) T.oc_Form ha ⟨true, rfl, iteF q⟩⟩
def spPowIn : Sp := fun vs H Q _ => ∃ (a : Addr) (xs : List Int) (n : Nat), vs = [.ref a, .int n] ∧ H a = some (tp xs) ∧ xs ≠ [] ∧ xs.length ≤ 100 ∧ (∀ x ∈ xs, sm x) ∧ (∀ i, i < n → pow xs i ≠ [] ∧ (pow xs i).length ≤ 100 ∧ ∀ x ∈ pow xs i, sm x) ∧ n ≤ 100 ∧ ∀ p H', Same H H' → H' p = some (tp (pow xs n)) → Q (.ref p) H'
theorem ok_power_in (T : Facts K mg) : FnOk P w K mg base CX0 3 T.f_power_in T.fd_power_in ["pair", "degree"] spPowIn := by
  have G_product_in := ok_product_in (P := P) (w := w) (base := base) T
  refine T.F_power_in.ok sc_power_in (fun vs H Q E h => ?_) (fun cdv A outer s H vs Q E hr h => ?_)
  · obtain ⟨a, xs, n, rfl, _⟩ := h
    rfl
  · obtain ⟨a, xs, n, rfl, ha, nx, lx, hx, hp, hn, q⟩ := h
    refine ⟨_, (PSs.nox (pss_cons (ps_set (i := 2) sc_power_in.nd rfl (.inl rfl) (pe_tup (pa_cons pe_int pa_nil)))
    (pss_cons (ps_for PassesOwn.never (by rfl) (pi_range1 (by rfl) T.z_range (pa_cons (pv 1) pa_nil)) (pg_name (i := 3) sc_power_in.nd rfl (.inl rfl))
      (pss_one (ps_set (i := 2) sc_power_in.nd rfl (.inl rfl) (pe_call G_product_in hr (by rfl) T.g_product_in T.F_product_in.kp T.b_product_in .nil pass0 (pa_cons (pv 2) (pa_cons (pv 0) pa_nil))))))
    (pss_one (ps_ret (pv 2)))))), ?_⟩
    refine ⟨(by show 1 ≤ sizeLine; decide), fun p0 n0 => ⟨_, rfl, n, rfl, by omega, by omega, for_range (n := (n : Int).toNat) (fun i σ H' => ∃ r y3, σ = [some (.ref a), some (.int n), some (.ref r), y3] ∧ Same H H' ∧ H' r = some (tp (pow xs i))) ⟨p0, none, rfl, same_upd0 n0, upd_same⟩ (fun i σ H' hi hP => ?_) (fun σ H' hP => ?_)⟩⟩
    · obtain ⟨r, y3, rfl, sH, hr2⟩ := hP
      obtain ⟨h1, h2, h3⟩ := hp i (by omega)
      exact ⟨_, rfl, _, rfl, r, a, _, xs, rfl, hr2, sH _ _ ha, h1, nx, h2, lx, h3, hx, fun p H2 s2 _ hp2 => ⟨p, _, rfl, sH.trans s2, hp2⟩⟩
    · obtain ⟨r, y3, rfl, sH, hr2⟩ := hP
      rw [Int.toNat_natCast] at hr2
      exact ⟨_, rfl, q r H' sH hr2⟩
end
end K59

set_option Elab.async false
set_option linter.all false
set_option maxRecDepth 100000
set_option maxHeartbeats 4000000
namespace K59
open PySem PySem.Spec PyProof.Rows L2 StX RZ MyR SlX OwnR OwnF EnumT
section
variable {P : Program} {w : World} {K : PySem.W.Frag} {mg : Str → Option Value} {base : Heap}
theorem ok_law_choose (T : Facts K mg) : FnOk P w K mg base CX0 1 T.f_law_choose T.fd_law_choose ["_law_many", "_law_few"] spLots := by
  refine T.F_law_choose.ok sc_law_choose (fun vs H Q E h => ?_) (fun cdv A outer s H vs Q E hr h => ?_)
  · obtain ⟨n, k, rfl, _⟩ := h
    rfl
  · obtain ⟨n, k, rfl, hk, hn, q⟩ := h
    refine ⟨_, (PSs.nox (pss_cons (ps_set (i := 2) sc_law_choose.nd rfl (.inl rfl) pe_int)
    (pss_cons (ps_for PassesOwn.never (by rfl) (pi_range1 (by rfl) T.z_range (pa_cons (pv 1) pa_nil)) (pg_name (i := 3) sc_law_choose.nd rfl (.inl rfl))
      (pss_one (ps_set (i := 2) sc_law_choose.nd rfl (.inl rfl) (pe_op op_fdivZ (pe_op op_mulW (pv 2) (pe_op op_sub (pv 0) (pv 3))) (pe_op op_add (pv 3) pe_int)))))
    (pss_one (ps_ret (pv 2)))))), ?_⟩
    refine ⟨_, rfl, k, rfl, by omega, by omega, for_range (n := (k : Int).toNat) (fun i σ H' => ∃ y3, σ = [some (.int n), some (.int k), some (.int (ch n i)), y3] ∧ H' = H) ⟨none, by rw [ch_zero]; rfl, rfl⟩ (fun i σ H' hi hP => ?_) (fun σ H' hP => ?_)⟩
    · obtain ⟨y3, rfl, rfl⟩ := hP
      have e := ch_mul n i
      have hi1 : (0 : Int) + (i : Int) + 1 ≠ 0 := by omega
      refine ⟨_, rfl, _, rfl, _, rfl, _, _, rfl, rfl, _, _, rfl, rfl, sm_mul (sm_ch hn) (Nat.lt_of_le_of_lt (show ((n : Int) - (0 + (i : Int))).natAbs ≤ 50 by omega) (Nat.lt_of_lt_of_le (show 50 < 2 ^ 7 by decide) (Nat.pow_le_pow_right (by decide) (by decide)))), _, rfl, _, _, rfl, rfl, _, _, rfl, rfl, ⟨hi1, Nat.lt_trans (PySem.Flt.log2_lt_of (k := 10) (by decide) (by show ((0 : Int) + (i : Int) + 1).natAbs < 2 ^ 10; omega)) (by decide)⟩, some (.int (0 + (i : Int))), ?_, rfl⟩
      have e2 : (((ch n i : Nat) : Int) * ((n : Int) - (0 + (i : Int)))).fdiv (0 + (i : Int) + 1) = ((ch n (i + 1) : Nat) : Int) := by
        rw [Int.zero_add, ← e, Int.mul_fdiv_cancel _ (by omega)]
      show [some (V.int n), some (V.int k), some (V.int ((((ch n i : Nat) : Int) * ((n : Int) - (0 + (i : Int)))).fdiv (0 + (i : Int) + 1))), _] = _
      rw [e2]
    · obtain ⟨y3, rfl, rfl⟩ := hP
      rw [Int.toNat_natCast]
      exact ⟨_, rfl, q⟩
theorem ok_law_laid (T : Facts K mg) : FnOk P w K mg base CX0 3 T.f_law_laid T.fd_law_laid ["_law_one", "_law_other", "_law_times"] spLaidIn := by
  have G_law_choose := ok_law_choose (P := P) (w := w) (base := base) T
  have G_law_derived := ok_law_derived (P := P) (w := w) (base := base) T
  have G_law_product := ok_law_product (P := P) (w := w) (base := base) T
  have G_law_plus := ok_law_plus (P := P) (w := w) (base := base) T
  have G_law_scaled := ok_law_scaled (P := P) (w := w) (base := base) T
  refine T.F_law_laid.ok sc_law_laid (fun vs H Q E h => ?_) (fun cdv A outer s H vs Q E hr h => ?_)
  · obtain ⟨a, b, f, g, t, rfl, _⟩ := h
    rfl
  · obtain ⟨a, b, f, g, t, rfl, ha, hb, ok, q⟩ := h
    have lf := ok.lf
    have lg := ok.lg
    have mf := ok.mf
    have mg' := ok.mg
    refine ⟨_, (PSs.nox (pss_cons (ps_set (i := 3) sc_law_laid.nd rfl (.inl rfl) (pe_tupleOf (by rfl) T.z_tuple (pe_lc (own := [("_law_place", 4)]) (g := (gName 4)) (tt := tYes) (by rfl) sc_law_laid.nd (pi_range1 (by rfl) T.z_range (pa_cons (pe_op op_sub (pe_op op_sub (pe_op op_add (pe_callB call_len_seq (by rfl) T.z_len (by decide +kernel) (pa_cons (pv 0) pa_nil)) (pe_callB call_len_seq (by rfl) T.z_len (by decide +kernel) (pa_cons (pv 1) pa_nil))) pe_int) (pe_op op_mulW pe_int (pv 2))) pa_nil)) (blkOk_by (N := N_law_laid) (sc := defScope s_law_laid) (by decide +kernel)) (fun _ _ _ _ _ => (pg_name (i := 4) sc_law_laid.nd rfl (.inl rfl))) (fun _ _ _ _ _ => pts_nil) (fun _ _ _ _ _ => pe_int))))
    (pss_cons (ps_for PassesOwn.never (by rfl) (pi_range1 (by rfl) T.z_range (pa_cons (pe_op op_add (pv 2) pe_int) pa_nil)) (pg_name (i := 5) sc_law_laid.nd rfl (.inl rfl))
      (pss_cons (ps_set (i := 6) sc_law_laid.nd rfl (.inl rfl) (pe_call G_law_product (hr.mono (by decide)) (by rfl) T.g_law_product T.F_law_product.kp T.b_law_product .nil pass0 (pa_cons (pe_call G_law_derived hr (by rfl) T.g_law_derived T.F_law_derived.kp T.b_law_derived .nil pass0 (pa_cons (pv 0) (pa_cons (pe_op op_sub (pv 2) (pv 5)) (pa_cons (pv 5) pa_nil)))) (pa_cons (pe_call G_law_derived hr (by rfl) T.g_law_derived T.F_law_derived.kp T.b_law_derived .nil pass0 (pa_cons (pv 1) (pa_cons (pv 5) (pa_cons (pe_op op_sub (pv 2) (pv 5)) pa_nil)))) pa_nil))))
      (pss_cons (ps_set (i := 7) sc_law_laid.nd rfl (.inl rfl) (pe_call G_law_choose (hr.mono (by decide)) (by rfl) T.g_law_choose T.F_law_choose.kp T.b_law_choose .nil pass0 (pa_cons (pv 2) (pa_cons (pv 5) pa_nil))))
      (pss_one (ps_set (i := 3) sc_law_laid.nd rfl (.inl rfl) (pe_call G_law_plus (hr.mono (by decide)) (by rfl) T.g_law_plus T.F_law_plus.kp T.b_law_plus .nil pass0 (pa_cons (pv 3) (pa_cons (pe_call G_law_scaled (hr.mono (by decide)) (by rfl) T.g_law_scaled T.F_law_scaled.kp T.b_law_scaled .nil pass0 (pa_cons (pv 6) (pa_cons (pe_ifExp (pt_cmpR op_eq (pe_op op_mod (pv 5) pe_int) pe_int (nomark _)) (pv 7) (pe_op op_sub pe_int (pv 7))) pa_nil))) pa_nil))))))))
    (pss_one (ps_ret (pv 3)))))), ?_⟩
    refine ⟨_, rfl, a, _, rfl, .inr (SqT.of ha), _, rfl, b, _, rfl, .inr (SqT.of hb), ?_⟩
    rw [List.length_map, List.length_map]
    refine ⟨_, _, rfl, rfl, _, _, rfl, rfl, _, rfl, _, _, rfl, rfl, sm_mul (show sm 2 by show (2 : Nat) < 2 ^ 4000; exact lt400 (i := 1) (by decide) (by decide)) (sm_le (n := 100) (show ((t : Nat) : Int).natAbs ≤ 100 by omega) (by decide)), _, _, rfl, rfl, ?_⟩
    obtain ⟨N, hN⟩ : ∃ N, N = f.length + g.length - 1 - 2 * t := ⟨_, rfl⟩
    have eN : ((f.length : Int) + (g.length : Int) - 1 - 2 * (t : Int)) = (N : Int) := by omega
    dsimp only []
    rw [eN]
    refine ⟨N, rfl, by omega, by omega, fun D hD => lc_range (n := (N : Int).toNat) (fun j H' => H' = upd H D (.lst (tab j fun _ => 0))) rfl (fun j H' hj hP => ?_) (fun H' hP => ?_)⟩
    · subst hP
      refine ⟨rfl, _, upd_same, by rw [tab_len]; exact small1000 (by omega), ?_⟩
      rw [upd_upd, ← tab_snoc]
    · subst hP
      rw [Int.toNat_natCast, tab_tb]
      refine .inl ⟨D, _, rfl, SqL.of upd_same, fun p0 n0 => ?_⟩
      have sD := same_upd0 (o := .lst ((tb N fun _ => (0 : Int)).map V.int)) hD
      refine gen_upd _ p0 (tp (tb N fun _ => 0)) n0 fun H1 s1 f1 => ?_
      have s01 := sD.trans s1
      refine ⟨_, rfl, _, _, rfl, rfl, _, rfl, by omega, by omega, for_range (n := ((t : Int) + 1).toNat) (fun i σ H' => ∃ r y4 y5 y6 y7, σ = [some (.ref a), some (.ref b), some (.int t), some (.ref r), y4, y5, y6, y7] ∧ Same H H' ∧ H' r = some (tp (tb N (Lc t f g i)))) ⟨p0, none, none, none, none, rfl, s01, f1⟩ (fun i σ H' hi hP => ?_) (fun σ H' hP => ?_)⟩
      · obtain ⟨r, y4, y5, y6, y7, rfl, sH, hr2⟩ := hP
        have hi2 : i ≤ t := by omega
        have ei : (0 : Int) + (i : Int) = ((i : Nat) : Int) := by omega
        have et : (t : Int) - (0 + (i : Int)) = ((t - i : Nat) : Int) := by omega
        have l1 := dd_len (t - i) i f
        have l2 := dd_len i (t - i) g
        have of_ : DdOk (t - i) i f := ⟨by omega, by omega, fun u hu z hz => ok.smf u 0 (by omega) z hz, fun u hu z hz => ok.smf (t - i) u (by omega) z hz⟩
        have og : DdOk i (t - i) g := ⟨by omega, by omega, fun u hu z hz => ok.smg u 0 (by omega) z hz, fun u hu z hz => ok.smg i u (by omega) z hz⟩
        have n1 : dd (t - i) i f ≠ [] := ne_of2 (by omega)
        have n2 : dd i (t - i) g ≠ [] := ne_of2 (by omega)
        refine ⟨_, rfl, _, rfl, _, rfl, _, _, rfl, rfl, _, rfl, a, f, t - i, i, ?_, sH _ _ ha, of_, fun p3 H3 s3 f3 => ?_⟩
        · show [V.ref a, V.int ((t : Int) - (0 + (i : Int))), V.int (0 + (i : Int))] = _
          rw [et, ei]
        refine ⟨_, rfl, _, rfl, _, rfl, _, rfl, _, _, rfl, rfl, b, g, i, t - i, ?_, (sH.trans s3) _ _ hb, og, fun p4 H4 s4 f4 => ?_⟩
        · show [V.ref b, V.int (0 + (i : Int)), V.int ((t : Int) - (0 + (i : Int)))] = _
          rw [et, ei]
        refine ⟨p3, p4, _, _, rfl, s4 _ _ f3, f4, n1, n2, by omega, by omega, ok.smf _ _ (by omega), ok.smg _ _ (by omega), fun p5 H5 s5 _ f5 => ?_⟩
        refine ⟨_, rfl, _, rfl, t, i, by rw [ei]; rfl, hi2, by omega, ?_⟩
        have lm : (ml (dd (t - i) i f) (dd i (t - i) g)).length = N := by rw [ml_len]; omega
        have sm5 : ∀ z ∈ ml (dd (t - i) i f) (dd i (t - i) g), sm z := fun z hz => lt400 (Nat.le_trans (nm_mem hz) (Nat.le_trans (nm_ml _ _) (Nat.le_trans (Nat.mul_le_mul (ok.sf (t - i) i (by omega)) (ok.sg i (t - i) (by omega))) (Nat.le_of_eq (Nat.pow_add 2 1500 1500).symm)))) (by decide)
        have t5 := (s3.trans s4).trans s5
        have fin : ∀ c : Int, c = sgn i * ch t i → ∀ p6 H6, Same H5 H6 → H6 p6 = some (tp ((ml (dd (t - i) i f) (dd i (t - i) g)).map (c * ·))) → H6 r = some (tp (tb N (Lc t f g i))) ∧ (tb N (Lc t f g i)).length = ((ml (dd (t - i) i f) (dd i (t - i) g)).map (c * ·)).length ∧ zs 1 (tb N (Lc t f g i)) ((ml (dd (t - i) i f) (dd i (t - i) g)).map (c * ·)) = tb N (Lc t f g (i + 1)) := fun c hc p6 H6 s6 f6 => by
          have hlen : (tb N (Lc t f g i)).length = ((ml (dd (t - i) i f) (dd i (t - i) g)).map (c * ·)).length := by rw [tb_len, List.length_map, lm]
          refine ⟨(t5.trans s6) _ _ hr2, hlen, co_inj (by rw [zs_len hlen, tb_len, tb_len]) fun k => ?_⟩
          rw [co_zs' 1 hlen, co_map, co_tb, co_tb, hc]
          by_cases hk : k < N
          · rw [if_pos hk, if_pos hk, co_ml n2]
            show _ = Lc t f g i k + sgn i * ch t i * cv (dd (t - i) i f) (co (dd i (t - i) g)) k
            omega
          · rw [if_neg hk, if_neg hk, co_far (by rw [lm]; omega)]
            omega
        have bc : sm ((ch t i : Nat) : Int) := sm_ch (by omega)
        have bc' : sm (0 - ((ch t i : Nat) : Int)) := by
          show (0 - ((ch t i : Nat) : Int)).natAbs < _
          rw [Int.zero_sub, Int.natAbs_neg]
          exact bc
        refine ⟨_, rfl, _, rfl, _, rfl, _, _, rfl, rfl, (by show (0 : Int) < 2; decide), rfl, _, rfl, iteI (fun e => ?_) (fun e => ?_)⟩
        · have es : ((ch t i : Nat) : Int) = sgn i * ch t i := by
            unfold sgn
            rw [if_pos (by have : ((0 : Int) + (i : Int)) % 2 = 0 := e; omega), Int.one_mul]
          refine ⟨_, rfl, p5, _, _, rfl, f5, by rw [lm]; omega, sm5, bc, fun p6 H6 s6 _ f6 => ?_⟩
          obtain ⟨g1, g2, g3⟩ := fin _ es p6 H6 s6 f6
          exact ⟨r, p6, _, _, rfl, g1, f6, g2, by rw [tb_len]; omega, fun p7 H7 s7 _ f7 => ⟨p7, _, _, _, _, rfl, sH.trans ((t5.trans s6).trans s7), by rw [f7, g3]⟩⟩
        · have es : 0 - ((ch t i : Nat) : Int) = sgn i * ch t i := by
            unfold sgn
            rw [if_neg (by have : ¬ ((0 : Int) + (i : Int)) % 2 = 0 := e; omega)]
            omega
          refine ⟨_, rfl, _, _, rfl, rfl, p5, _, _, rfl, f5, by rw [lm]; omega, sm5, bc', fun p6 H6 s6 _ f6 => ?_⟩
          obtain ⟨g1, g2, g3⟩ := fin _ es p6 H6 s6 f6
          exact ⟨r, p6, _, _, rfl, g1, f6, g2, by rw [tb_len]; omega, fun p7 H7 s7 _ f7 => ⟨p7, _, _, _, _, rfl, sH.trans ((t5.trans s6).trans s7), by rw [f7, g3]⟩⟩
      · obtain ⟨r, y4, y5, y6, y7, rfl, sH, hr2⟩ := hP
        rw [show ((t : Int) + 1).toNat = t + 1 by omega, hN, L_tab ok.lf ok.lg] at hr2
        exact ⟨_, rfl, q r H' sH hr2⟩
end
end K59

set_option Elab.async false
set_option linter.all false
set_option maxRecDepth 100000
set_option maxHeartbeats 4000000
namespace K59
open PySem PySem.Spec PyProof.Rows L2 StX RZ MyR SlX OwnR OwnF EnumT GxR
/-! ### dividing rows -/
/-- what is left behind i turns -/
def rmd (xs ys : List Int) : Nat → Nat → Int
  | 0 => co xs
  | i + 1 => fun k => rmd xs ys i k - (if i ≤ k then (rmd xs ys i (i + fi ys)).fdiv (co ys (fi ys)) * co ys (k - i) else 0)
/-- how many turns there are -/
def mny (xs ys : List Int) : Nat := xs.length + 1 - ys.length
def GoodTo (xs ys : List Int) (i : Nat) : Prop := ∀ j, j < i → rmd xs ys (j + 1) (j + fi ys) = 0
instance (xs ys : List Int) (i : Nat) : Decidable (GoodTo xs ys i) := by unfold GoodTo; infer_instance
/-- what is asked for dividing -/
structure QdOk (xs ys : List Int) : Prop where
  nz : nzr ys = true
  nx : xs ≠ []
  lx : xs.length ≤ 100
  ly : ys.length ≤ 100
  ex : ∃ M B : Nat, (∀ z ∈ xs, z.natAbs ≤ M) ∧ (∀ z ∈ ys, z.natAbs ≤ B) ∧ B < 2 ^ 4000 ∧ M * (1 + B) ^ (mny xs ys) < 2 ^ 4000
theorem QdOk.sy {xs ys : List Int} (h : QdOk xs ys) : ∀ z ∈ ys, sm z := by
  obtain ⟨M, B, h1, h2, h3, h4⟩ := h.ex
  exact fun z hz => Nat.lt_of_le_of_lt (h2 z hz) h3
theorem QdOk.ny {xs ys : List Int} (h : QdOk xs ys) : ys ≠ [] := fun e => by
  have := h.nz
  rw [e] at this
  cases this
theorem QdOk.lead {xs ys : List Int} (h : QdOk xs ys) : co ys (fi ys) ≠ 0 := fi_ne h.nz
end K59

set_option Elab.async false
set_option linter.all false
set_option maxRecDepth 100000
set_option maxHeartbeats 4000000
namespace K59
open PySem PySem.Spec PyProof.Rows L2 StX RZ MyR SlX OwnR OwnF EnumT GxR
/-- the first entry other than 0, or 0 -/
def fo (l : List Int) : Int := if nzr l = true then co l (fi l) else 0
/-- a row, or none -/
def OV (H : Hp) (v : V) : Option (List Int) → Prop
  | none => v = .non
  | some q => ∃ t, v = .ref t ∧ H t = some (tp q)
theorem OV.same {H H' : Hp} {v : V} {r : Option (List Int)} (h : OV H v r) (s : Same H H') : OV H' v r := by
  cases r with
  | none => exact h
  | some q =>
    obtain ⟨t, e, k⟩ := h
    exact ⟨t, e, s _ _ k⟩
theorem OV.sts {Ps : List Addr} {H H' : Hp} {v : V} {r : Option (List Int)} (h : OV H v r) (s : Sts Ps H H') (g : Tg Ps H) : OV H' v r := by
  cases r with
  | none => exact h
  | some q =>
    obtain ⟨t, e, k⟩ := h
    exact ⟨t, e, s.tup g k⟩
/-- points -/
structure Pt (u v : Int) : Prop where
  cop : Nat.gcd u.natAbs v.natAbs = 1
  pos : 0 < fo [u, v]
theorem Pt.ne {u v : Int} (h : Pt u v) : [u, v] ≠ [0, 0] := fun e => by
  have h1 := h.cop
  cases e
  cases h1
theorem fo_pair (u v : Int) : fo [u, v] = if u = 0 then v else u := by
  by_cases h : u = 0
  · subst h
    rw [if_pos rfl]
    by_cases h2 : v = 0
    · subst h2
      rfl
    · have e : nzr [0, v] = true := nzr_of (i := 1) rfl (by simpa using h2)
      unfold fo
      rw [if_pos e, fi_first (i := 1) (z := v) rfl (by simpa using h2) (fun j y hj hy => by
        have : j = 0 := by omega
        subst this
        cases hy
        rfl)]
      rfl
  · have e : nzr [u, v] = true := nzr_of (i := 0) rfl (by simpa using h)
    unfold fo
    rw [if_neg h, if_pos e, fi_first (i := 0) (z := u) rfl (by simpa using h) (fun j y hj hy => by omega)]
    rfl
section
variable {P : Program} {w : World} {K : PySem.W.Frag} {mg : Str → Option Value} {base : Heap} {Ps : List Addr}
def spFirstOfT (Ps : List Addr) : Sp := fun vs H Q _ => ∃ (t : Addr) (l : List Int), vs = [.ref t] ∧ H t = some (tp l) ∧ Tg Ps H ∧ ∀ H', Sts Ps H H' → Tg Ps H' → Q (.int (fo l)) H'
theorem ok_first_of (T : Facts K mg) (TB_first_of : TabB base mg T.c_first_of T.P_first_of) (hP : T.P_first_of ∈ Ps) : FnOk P w K mg base CX0 1 T.f_first_of T.fd_first_of ["numbers"] (spFirstOfT Ps) := by
  refine HookT.okC T.F_first_of sc_first_of (fun vs H Q E h => ?_) (fun A outer s H vs Q E hr h => ?_)
  · obtain ⟨t, l, rfl, _⟩ := h
    rfl
  · obtain ⟨t, l, rfl, ht, hG, q⟩ := h
    refine ⟨_, (PSs.nox (pss_one (ps_ret (GenNx.pe_nextN hr (by rfl) T.z_next TB_first_of T.code_first_of (GenNx.genS_of rfl rfl (by decide +kernel) rfl rfl) (pv 0) (GenNx.test_ne0 rfl rfl))))), ?_⟩
    refine ⟨_, rfl, t, l, rfl, SqT.of ht, hG _ hP, fun r H2 hr2 hT => ?_⟩
    have q2 := q H2 (tbd_sts hT hP) (tbd_tg hT hG)
    unfold fo at q2
    rcases hr2 with ⟨h1, rfl⟩ | ⟨i, h1, h2, h3⟩
    · rw [nzr_no h1] at q2
      exact q2
    · rw [nzr_of h1 h2, if_pos rfl, fi_first h1 h2 h3, co_get (List.getElem?_eq_some_iff.mp h1).1, (List.getElem?_eq_some_iff.mp h1).2] at q2
      exact q2
def spFirstIx (Ps : List Addr) : Sp := fun vs H Q _ => ∃ (t : Addr) (l : List Int), vs = [.ref t] ∧ H t = some (tp l) ∧ Tg Ps H ∧ ∀ H', Sts Ps H H' → Tg Ps H' → Q (.int (if nzr l = true then (fi l : Int) else 0)) H'
theorem ok_first_index (T : Facts K mg) (TB_first_index : TabB base mg T.c_first_index T.P_first_index) (hP : T.P_first_index ∈ Ps) : FnOk P w K mg base CX0 1 T.f_first_index T.fd_first_index ["entries"] (spFirstIx Ps) := by
  refine HookT.okC T.F_first_index sc_first_index (fun vs H Q E h => ?_) (fun A outer s H vs Q E hr h => ?_)
  · obtain ⟨t, l, rfl, _⟩ := h
    rfl
  · obtain ⟨t, l, rfl, ht, hG, q⟩ := h
    refine ⟨_, (PSs.nox (pss_one (ps_ret (GenNx.pe_nextE hr (by rfl) T.z_next TB_first_index T.code_first_index (GenNx.GenS2.of rfl rfl (by decide +kernel) rfl rfl rfl (by decide)) (by rfl) T.z_enumerate (pa_cons (pv 0) pa_nil) (GenNx.test_ne0 rfl rfl))))), ?_⟩
    refine ⟨_, rfl, t, l, rfl, SqT.of ht, hG _ hP, fun r H2 hr2 hT => ?_⟩
    have q2 := q H2 (tbd_sts hT hP) (tbd_tg hT hG)
    rcases hr2 with ⟨h1, rfl⟩ | ⟨i, z, h1, h2, h3, rfl⟩
    · rw [nzr_no h1] at q2
      exact q2
    · rw [nzr_of h1 h2, if_pos rfl, fi_first h1 h2 h3] at q2
      exact q2
def spLineIn : Sp := fun vs H Q _ => ∃ (t : Addr) (u v : Int), vs = [.ref t] ∧ H t = some (tp [u, v]) ∧ ∀ p H', Same H H' → H' p = some (tp [v, -u]) → Q (.ref p) H'
theorem ok_line_in (T : Facts K mg) : FnOk P w K mg base CX0 1 T.f_line_in T.fd_line_in ["point"] spLineIn := by
  refine T.F_line_in.ok sc_line_in (fun vs H Q E h => ?_) (fun cdv A outer s H vs Q E hr h => ?_)
  · obtain ⟨t, u, v, rfl, _⟩ := h
    rfl
  · obtain ⟨t, u, v, rfl, ht, q⟩ := h
    refine ⟨_, (PSs.nox (pss_one (ps_ret (pe_tup (pa_cons (pe_ix ix_tup (pv 0) pe_int (fun _ _ => rfl)) (pa_cons (pe_un un_neg (pe_ix ix_tup (pv 0) pe_int (fun _ _ => rfl))) pa_nil)))))), ?_⟩
    exact ⟨_, rfl, t, _, 1, _, rfl, rfl, SqT.of ht, atI_nat (j := 1) rfl, _, rfl, t, _, 0, _, rfl, rfl, SqT.of ht, atI_nat (j := 0) rfl, _, rfl, by show 2 ≤ sizeLine; decide, fun p n => gen_upd H p (tp [v, -u]) n fun H1 s1 f1 => q p H1 s1 f1⟩
end
end K59

set_option Elab.async false
set_option linter.all false
set_option maxRecDepth 100000
set_option maxHeartbeats 2000000
set_option exponentiation.threshold 10000
/-! plain: forms as functions; common divisors, up to factors -/
namespace K59
open LA
/-- a function that a row of n entries tells -/
def Fm (n : Nat) (φ : Int → Int → Int) : Prop := ∃ l : List Int, l.length = n ∧ ∀ x y, ev l x y = φ x y
theorem co_appz (l : List Int) (n j : Nat) : co (l ++ List.replicate n 0) j = co l j := by
  by_cases h : j < l.length
  · rw [co_get (by rw [List.length_append]; omega), co_get h, List.getElem_append_left h]
  · rw [co_far (l := l) (by omega)]
    by_cases g : j < (l ++ List.replicate n (0 : Int)).length
    · rw [co_get g, List.getElem_append_right (by omega), List.getElem_replicate]
    · exact co_far (by omega)
theorem ev_sx (l : List Int) (n : Nat) (x y : Int) : ev (l ++ List.replicate n 0) x y = x ^ n * ev l x y := by
  unfold ev
  rw [List.length_append, List.length_replicate, evF_congr _ fun i _ => co_appz l n i]
  exact evF_far x y (fun i hi => co_far hi) n
theorem ev_sy (l : List Int) (x y : Int) : ev (0 :: l) x y = y * ev l x y := by
  rw [ev_cons, Int.zero_mul, Int.zero_add]
theorem ev_ry (l : List Int) (x y : Int) : ∀ n, ev (List.replicate n 0 ++ l) x y = y ^ n * ev l x y
  | 0 => by rw [Int.pow_zero, Int.one_mul]; rfl
  | n + 1 => by
    rw [List.replicate_succ, List.cons_append, ev_sy, ev_ry l x y n, Int.pow_succ]
    grind
theorem ev_lead (l : List Int) : ev l 1 0 = co l 0 := by
  cases l with
  | nil => rfl
  | cons a l => rw [ev_cons, Int.one_pow, Int.mul_one, Int.zero_mul, Int.add_zero]; rfl
theorem Fm.of (l : List Int) : Fm l.length (ev l) := ⟨l, rfl, fun _ _ => rfl⟩
theorem Fm.congr {n : Nat} {φ ψ : Int → Int → Int} (h : Fm n φ) (e : ∀ x y, φ x y = ψ x y) : Fm n ψ := by
  obtain ⟨l, hl, q⟩ := h
  exact ⟨l, hl, fun x y => (q x y).trans (e x y)⟩
theorem Fm.cast {n m : Nat} {φ : Int → Int → Int} (h : Fm n φ) (e : n = m) : Fm m φ := e ▸ h
theorem Fm.zero (n : Nat) : Fm n fun _ _ => 0 := ⟨List.replicate n 0, List.length_replicate, fun x y => ev_zero (fun z hz => List.eq_of_mem_replicate hz) x y⟩
theorem Fm.none {φ : Int → Int → Int} (h : Fm 0 φ) (x y : Int) : φ x y = 0 := by
  obtain ⟨l, hl, q⟩ := h
  rw [← q, List.length_eq_zero_iff.mp hl]
  rfl
theorem Fm.one : Fm 1 fun _ _ => 1 := ⟨[1], rfl, ev_one⟩
theorem Fm.mulc {n : Nat} {φ : Int → Int → Int} (c : Int) (h : Fm n φ) : Fm n fun x y => c * φ x y := by
  obtain ⟨l, hl, q⟩ := h
  exact ⟨l.map (c * ·), by rw [List.length_map, hl], fun x y => by rw [ev_map, q]⟩
theorem Fm.add {n : Nat} {φ ψ : Int → Int → Int} (h : Fm n φ) (g : Fm n ψ) : Fm n fun x y => φ x y + ψ x y := by
  obtain ⟨l, hl, q⟩ := h
  obtain ⟨m, hm, r⟩ := g
  exact ⟨zs 1 l m, by unfold zs; rw [List.length_zipWith]; omega, fun x y => by rw [ev_zs 1 (by omega), q, r, Int.one_mul]⟩
theorem Fm.px {n : Nat} {φ : Int → Int → Int} (h : Fm n φ) (k : Nat) : Fm (n + k) fun x y => x ^ k * φ x y := by
  obtain ⟨l, hl, q⟩ := h
  exact ⟨l ++ List.replicate k 0, by rw [List.length_append, List.length_replicate, hl], fun x y => by rw [ev_sx l k, q]⟩
theorem Fm.py {n : Nat} {φ : Int → Int → Int} (h : Fm n φ) (k : Nat) : Fm (n + k) fun x y => y ^ k * φ x y := by
  obtain ⟨l, hl, q⟩ := h
  exact ⟨List.replicate k 0 ++ l, by rw [List.length_append, List.length_replicate, hl, Nat.add_comm], fun x y => by rw [ev_ry l x y k, q]⟩
theorem Fm.mul {n m k : Nat} {φ ψ : Int → Int → Int} (h : Fm n φ) (g : Fm m ψ) (e : n = 0 ∨ m = 0 ∨ n + m = k + 1) : Fm k fun x y => φ x y * ψ x y := by
  by_cases c1 : n = 0
  · subst c1
    exact (Fm.zero k).congr fun x y => by rw [h.none, Int.zero_mul]
  by_cases c2 : m = 0
  · subst c2
    exact (Fm.zero k).congr fun x y => by rw [g.none, Int.mul_zero]
  obtain ⟨l, hl, q⟩ := h
  obtain ⟨p, hp, r⟩ := g
  exact ⟨ml l p, by rw [ml_len]; omega, fun x y => by rw [ev_ml (fun z => c1 (by rw [← hl, z]; rfl)) (fun z => c2 (by rw [← hp, z]; rfl)), q, r]⟩
/-- the first entry, and the others -/
theorem Fm.split {n : Nat} {φ : Int → Int → Int} (h : Fm (n + 1) φ) : ∃ (a : Int) (ψ : Int → Int → Int), Fm n ψ ∧ ∀ x y, φ x y = a * x ^ n + y * ψ x y := by
  obtain ⟨l, hl, q⟩ := h
  cases l with
  | nil => exact absurd hl (by simp)
  | cons a l => exact ⟨a, ev l, ⟨l, by rw [List.length_cons] at hl; omega, fun _ _ => rfl⟩, fun x y => by rw [← q, ev_cons, show l.length = n by rw [List.length_cons] at hl; omega]⟩
def Nz (φ : Int → Int → Int) : Prop := ∃ x y, φ x y ≠ 0
/-- h divides φ, up to a factor -/
def Dv (k n : Nat) (h φ : Int → Int → Int) : Prop := ∃ (c : Int) (A : Int → Int → Int), c ≠ 0 ∧ Fm (n + 1 - k) A ∧ ∀ x y, c * φ x y = h x y * A x y
theorem Dv.le {k n : Nat} {h φ : Int → Int → Int} (d : Dv k n h φ) (nz : Nz φ) : k ≤ n := by
  obtain ⟨c, A, hc, hA, e⟩ := d
  obtain ⟨x, y, h0⟩ := nz
  refine Classical.byContradiction fun c1 => ?_
  have := (hA.cast (show n + 1 - k = 0 by omega)).none x y
  have e1 := e x y
  rw [this, Int.mul_zero] at e1
  exact (Int.mul_eq_zero.mp e1).elim hc h0
theorem Dv.self {n : Nat} (h : Int → Int → Int) : Dv n n h h := ⟨1, fun _ _ => 1, by decide, Fm.one.cast (by omega), fun x y => by rw [Int.one_mul, Int.mul_one]⟩
theorem Dv.zero {k n : Nat} (h : Int → Int → Int) : Dv k n h fun _ _ => 0 := ⟨1, fun _ _ => 0, by decide, Fm.zero _, fun x y => by rw [Int.mul_zero, Int.mul_zero]⟩
theorem Dv.congr {k n : Nat} {h φ ψ : Int → Int → Int} (d : Dv k n h φ) {a b : Int} (ha : a ≠ 0) (e : ∀ x y, a * φ x y = b * ψ x y) (hb : b ≠ 0) : Dv k n h ψ := by
  obtain ⟨c, A, hc, hA, q⟩ := d
  exact ⟨c * b, _, Int.mul_ne_zero hc hb, hA.mulc a, fun x y => by
    have := q x y
    have := e x y
    grind⟩
theorem Dv.trans {k m n : Nat} {h φ ψ : Int → Int → Int} (d : Dv k m h φ) (g : Dv m n φ ψ) : Dv k n h ψ := by
  obtain ⟨c, A, hc, hA, q⟩ := d
  obtain ⟨c', B, hc', hB, q'⟩ := g
  exact ⟨c * c', _, Int.mul_ne_zero hc hc', (hA.mul hB (by omega) : Fm (n + 1 - k) _), fun x y => by
    have := q x y
    have := q' x y
    grind⟩
theorem Dv.mul {k n k' n' : Nat} {h φ h' φ' : Int → Int → Int} (d : Dv k n h φ) (g : Dv k' n' h' φ') (h1 : 1 ≤ k) (h2 : 1 ≤ k') (n1 : 1 ≤ n) (n2 : 1 ≤ n') : Dv (k + k' - 1) (n + n' - 1) (fun x y => h x y * h' x y) fun x y => φ x y * φ' x y := by
  obtain ⟨c, A, hc, hA, q⟩ := d
  obtain ⟨c', B, hc', hB, q'⟩ := g
  exact ⟨c * c', _, Int.mul_ne_zero hc hc', hA.mul hB (by omega), fun x y => by
    have := q x y
    have := q' x y
    grind⟩
/-- φ is made of F and G -/
def Idl (n m q : Nat) (F G φ : Int → Int → Int) : Prop := ∃ (c : Int) (U V : Int → Int → Int), c ≠ 0 ∧ Fm (q + 1 - n) U ∧ Fm (q + 1 - m) V ∧ ∀ x y, c * φ x y = U x y * F x y + V x y * G x y
theorem Idl.dv {n m q d : Nat} {F G φ D : Int → Int → Int} (h : Idl n m q F G φ) (f : Dv d n D F) (g : Dv d m D G) : Dv d q D φ := by
  obtain ⟨c, U, V, hc, hU, hV, e⟩ := h
  obtain ⟨a, A, ha, hA, p⟩ := f
  obtain ⟨b, B, hb, hB, r⟩ := g
  refine ⟨c * a * b, _, Int.mul_ne_zero (Int.mul_ne_zero hc ha) hb, ((hU.mul hA (k := q + 1 - d) (by omega)).mulc b).add ((hV.mul hB (k := q + 1 - d) (by omega)).mulc a), fun x y => ?_⟩
  have := e x y
  have := p x y
  have := r x y
  grind
end K59

set_option Elab.async false
set_option linter.all false
set_option maxRecDepth 100000
set_option maxHeartbeats 2000000
/-! plain: a form whose second laying with itself is 0 is a number times a power of a line -/
namespace K59
open PySem PySem.Spec PyProof.Rows L2 FDivQ LA
theorem cv_allz {g : Nat → Int} : ∀ (l : List Int) (k : Nat), (∀ i, i ≤ k → co l i * g (k - i) = 0) → cv l g k = 0
  | [], k, _ => cv_nil g k
  | x :: xs, 0, h => by
    rw [cv_zero]
    exact h 0 (Nat.le_refl _)
  | x :: xs, k + 1, h => by
    rw [cv_succ]
    have h0 := h 0 (Nat.zero_le _)
    have h1 := cv_allz xs k fun i hi => by
      have := h (i + 1) (by omega)
      rw [show k + 1 - (i + 1) = k - i by omega] at this
      exact this
    rw [h1]
    have h0 : x * g (k + 1) = 0 := h0
    omega
theorem cv_only {g : Nat → Int} : ∀ (l : List Int) (k j : Nat), j ≤ k → (∀ i, i ≤ k → i ≠ j → co l i * g (k - i) = 0) → cv l g k = co l j * g (k - j)
  | [], k, j, _, _ => by
    rw [cv_nil]
    show 0 = (0 : Int) * _
    omega
  | x :: xs, 0, j, hj, h => by
    have : j = 0 := by omega
    subst this
    rw [cv_zero]
    rfl
  | x :: xs, k + 1, 0, hj, h => by
    rw [cv_succ, cv_allz xs k fun i hi => by
      have := h (i + 1) (by omega) (by omega)
      rw [show k + 1 - (i + 1) = k - i by omega] at this
      exact this]
    show x * g (k + 1) + 0 = x * g (k + 1)
    omega
  | x :: xs, k + 1, j + 1, hj, h => by
    have h0 : x * g (k + 1) = 0 := h 0 (Nat.zero_le _) (by omega)
    rw [cv_succ, h0, cv_only xs k j (by omega) fun i hi hn => by
      have := h (i + 1) (by omega) (by omega)
      rw [show k + 1 - (i + 1) = k - i by omega] at this
      exact this]
    rw [show k + 1 - (j + 1) = k - j by omega]
    show 0 + co xs j * _ = co xs j * _
    omega
theorem dX_at (F : List Int) (k : Nat) : co (dX F) k = if k < F.length - 1 then co F k * ((F.length : Int) - 1 - k) else 0 := co_tb k
theorem dY_at (F : List Int) (k : Nat) : co (dY F) k = if k < F.length - 1 then co F (k + 1) * ((k : Int) + 1) else 0 := co_tb k
def hA (F : List Int) : List Int := ml (dX (dX F)) (dY (dY F))
def hB (F : List Int) : List Int := ml (dX (dY F)) (dY (dX F))
theorem ev_hes {F : List Int} (h : 3 ≤ F.length) (x y : Int) : ev (L 2 F F) x y = 2 * (ev (hA F) x y - ev (hB F) x y) := by
  rw [ev_L_succ (by omega) (by omega), ev_L_succ (by rw [dX_len]; omega) (by rw [dY_len]; omega), ev_L_succ (by rw [dY_len]; omega) (by rw [dX_len]; omega)]
  show ev (ml (dX (dX F)) (dY (dY F))) x y - ev (ml (dY (dX F)) (dX (dY F))) x y - (ev (ml (dX (dY F)) (dY (dX F))) x y - ev (ml (dY (dY F)) (dX (dX F))) x y) = _
  rw [ml_comm (dY (dX F)) (dX (dY F)), ml_comm (dY (dY F)) (dX (dX F))]
  unfold hA hB
  omega
theorem hA_len (F : List Int) : (hA F).length = F.length - 2 + (F.length - 2) - 1 := by
  unfold hA
  rw [ml_len, dX_len, dX_len, dY_len, dY_len]
  omega
theorem hB_len (F : List Int) : (hB F).length = F.length - 2 + (F.length - 2) - 1 := by
  unfold hB
  rw [ml_len, dX_len, dY_len, dY_len, dX_len]
  omega
/-- entry by entry -/
theorem hes_at {F : List Int} (h : 3 ≤ F.length) (z : ∀ x y, ev (L 2 F F) x y = 0) (k : Nat) : cv (dX (dX F)) (co (dY (dY F))) k = cv (dX (dY F)) (co (dY (dX F))) k := by
  have e : hA F = hB F := ev_inj (by rw [hA_len, hB_len]) fun x y => by
    have := z x y
    rw [ev_hes h] at this
    omega
  have n1 : dY (dY F) ≠ [] := ne_of2 (by rw [dY_len, dY_len]; omega)
  have n2 : dY (dX F) ≠ [] := ne_of2 (by rw [dY_len, dX_len]; omega)
  have := congrArg (fun l => co l k) e
  unfold hA hB at this
  simp only [co_ml n1, co_ml n2] at this
  exact this
/-- the first entry stands alone -/
theorem hes_first {F : List Int} {n : Nat} (l : F.length = n + 1) (n2 : 2 ≤ n) (z : ∀ x y, ev (L 2 F F) x y = 0) (h0 : co F 0 ≠ 0) (h1 : co F 1 = 0) : ∀ k, 1 ≤ k → k ≤ n → co F k = 0 := by
  intro k
  induction k using Nat.strongRecOn with
  | ind k ih =>
    intro k1 kn
    by_cases e1 : k = 1
    · rw [e1]
      exact h1
    have e := hes_at (by omega) z (k - 2)
    rw [cv_only (dX (dX F)) (k - 2) 0 (Nat.zero_le _) fun i hi hn => by
        rw [dX_at, dX_len]
        split
        · rw [dX_at]
          split
          · rw [ih i (by omega) (by omega) (by omega)]
            grind
          · grind
        · grind,
      cv_allz (dX (dY F)) (k - 2) fun i hi => by
        rw [dX_at, dY_len]
        split
        · rw [dY_at]
          split
          · rw [ih (i + 1) (by omega) (by omega) (by omega)]
            grind
          · grind
        · grind] at e
    rw [dX_at, if_pos (by rw [dX_len]; omega), dX_at, if_pos (by omega), dY_at, if_pos (by rw [dY_len]; omega), dY_at, if_pos (by omega), dX_len] at e
    rw [show k - 2 - 0 + 1 + 1 = k by omega] at e
    have a1 : ((F.length : Nat) : Int) - 1 - ((0 : Nat) : Int) ≠ 0 := by omega
    have a2 : (((F.length - 1 : Nat)) : Int) - 1 - ((0 : Nat) : Int) ≠ 0 := by omega
    have a3 : ((k - 2 - 0 : Nat) : Int) + 1 ≠ 0 := by omega
    have a4 : ((k - 2 - 0 + 1 : Nat) : Int) + 1 ≠ 0 := by omega
    rcases Int.mul_eq_zero.mp e with q | q
    · rcases Int.mul_eq_zero.mp q with q | q
      · rcases Int.mul_eq_zero.mp q with q | q
        · exact absurd q h0
        · exact absurd q a1
      · exact absurd q a2
    · rcases Int.mul_eq_zero.mp q with q | q
      · rcases Int.mul_eq_zero.mp q with q | q
        · exact q
        · exact absurd q a4
      · exact absurd q a3
/-- no first entry: only the last one -/
theorem hes_last {F : List Int} {n : Nat} (l : F.length = n + 1) (n2 : 2 ≤ n) (z : ∀ x y, ev (L 2 F F) x y = 0) (h0 : co F 0 = 0) : ∀ k, k < n → co F k = 0 := by
  intro k
  induction k using Nat.strongRecOn with
  | ind k ih =>
    intro kn
    by_cases e0 : k = 0
    · rw [e0]
      exact h0
    have e := hes_at (by omega) z (2 * k - 2)
    have dxx : ∀ i, co (dX (dX F)) i = if i < n - 1 then co F i * ((n : Int) - i) * ((n : Int) - 1 - i) else 0 := fun i => by
      rw [dX_at, dX_len, l]
      by_cases c : i < n - 1
      · rw [if_pos (by omega), dX_at, if_pos (by omega), if_pos c, l, show ((n + 1 : Nat) : Int) - 1 = n by omega, show ((n + 1 - 1 : Nat) : Int) = n by omega]
      · rw [if_neg (by omega), if_neg c]
    have dyy : ∀ i, co (dY (dY F)) i = if i < n - 1 then co F (i + 2) * ((i : Int) + 2) * ((i : Int) + 1) else 0 := fun i => by
      rw [dY_at, dY_len, l]
      by_cases c : i < n - 1
      · rw [if_pos (by omega), dY_at, if_pos (by omega), if_pos c, show ((i + 1 : Nat) : Int) + 1 = (i : Int) + 2 by omega]
      · rw [if_neg (by omega), if_neg c]
    have dxy : ∀ i, co (dX (dY F)) i = if i < n - 1 then co F (i + 1) * ((i : Int) + 1) * ((n : Int) - 1 - i) else 0 := fun i => by
      rw [dX_at, dY_len, l]
      by_cases c : i < n - 1
      · rw [if_pos (by omega), dY_at, if_pos (by omega), if_pos c, show ((n + 1 - 1 : Nat) : Int) = n by omega]
      · rw [if_neg (by omega), if_neg c]
    have dyx : ∀ i, co (dY (dX F)) i = if i < n - 1 then co F (i + 1) * ((n : Int) - 1 - i) * ((i : Int) + 1) else 0 := fun i => by
      rw [dY_at, dX_len, l]
      by_cases c : i < n - 1
      · rw [if_pos (by omega), dX_at, if_pos (by omega), if_pos c, l, show ((n + 1 : Nat) : Int) - 1 - ((i + 1 : Nat) : Int) = (n : Int) - 1 - i by omega]
      · rw [if_neg (by omega), if_neg c]
    have lh : cv (dX (dX F)) (co (dY (dY F))) (2 * k - 2) = co F k * ((n : Int) - k) * ((n : Int) - 1 - k) * (co F k * (k : Int) * ((k : Int) - 1)) := by
      by_cases k1 : k = 1
      · subst k1
        rw [cv_allz (dX (dX F)) (2 * 1 - 2) fun i hi => by
          have : i = 0 := by omega
          subst this
          rw [dxx, h0]
          split <;> grind]
        grind
      · rw [cv_only (dX (dX F)) (2 * k - 2) k (by omega) fun i hi hn => by
          rw [dxx, dyy]
          by_cases c : i < k
          · rw [ih i c (by omega)]
            split <;> grind
          · rw [ih (2 * k - 2 - i + 2) (by omega) (by omega)]
            split <;> split <;> grind]
        rw [dxx, dyy, show 2 * k - 2 - k = k - 2 by omega, if_pos (show k - 2 < n - 1 by omega), show k - 2 + 2 = k by omega, show ((k - 2 : Nat) : Int) = (k : Int) - 2 by omega]
        split
        · grind
        · have : (n : Int) - 1 - k = 0 := by omega
          rw [this]
          grind
    have rh : cv (dX (dY F)) (co (dY (dX F))) (2 * k - 2) = co F k * (k : Int) * ((n : Int) - k) * (co F k * ((n : Int) - k) * (k : Int)) := by
      rw [cv_only (dX (dY F)) (2 * k - 2) (k - 1) (by omega) fun i hi hn => by
          rw [dxy, dyx]
          by_cases c : i + 1 < k
          · rw [ih (i + 1) c (by omega)]
            split <;> grind
          · rw [ih (2 * k - 2 - i + 1) (by omega) (by omega)]
            split <;> split <;> grind]
      rw [dxy, dyx, show 2 * k - 2 - (k - 1) = k - 1 by omega, if_pos (show k - 1 < n - 1 by omega), if_pos (show k - 1 < n - 1 by omega), show k - 1 + 1 = k by omega, show ((k - 1 : Nat) : Int) = (k : Int) - 1 by omega]
      grind
    rw [lh, rh] at e
    have key : co F k * co F k * ((k : Int) * (((n : Int) - k) * ((n : Int) - 1))) = 0 := by grind
    have k0 : (k : Int) ≠ 0 := by omega
    have k2 : (n : Int) - k ≠ 0 := by omega
    have k3 : (n : Int) - 1 ≠ 0 := by omega
    rcases Int.mul_eq_zero.mp key with q | q
    · rcases Int.mul_eq_zero.mp q with q | q <;> exact q
    · rcases Int.mul_eq_zero.mp q with q | q
      · exact absurd q k0
      · rcases Int.mul_eq_zero.mp q with q | q
        · exact absurd q k2
        · exact absurd q k3
theorem ev_homA (t x y : Int) : ∀ l : List Int, t * ev l (t * x) (t * y) = t ^ l.length * ev l x y
  | [] => by
    rw [show ev [] (t * x) (t * y) = 0 from rfl, show ev [] x y = 0 from rfl, Int.mul_zero, Int.mul_zero]
  | a :: l => by
    have ih := ev_homA t x y l
    rw [ev_cons, ev_cons, List.length_cons, Int.mul_pow, Int.pow_succ]
    generalize ev l (t * x) (t * y) = u at *
    generalize ev l x y = v at *
    generalize t ^ l.length = T at *
    generalize x ^ l.length = X at *
    have : t * y * (t * u) = t * y * (T * v) := by rw [ih]
    grind
theorem gaussQ {c : Int} {F D A : List Int} (hc : c ≠ 0) (hD : cont D = 1) (nD : D ≠ []) (nA : A ≠ []) (e : F.map (c * ·) = ml D A) : ∃ Q, ml D Q = F ∧ Q.length = A.length := by
  have h := congrArg cont e
  rw [cont_scale, cont_ml nD nA, hD, Nat.one_mul] at h
  have hd : ∀ x ∈ A, c ∣ x := fun x hx => by
    have := cont_dvd A x hx
    rw [← h] at this
    refine Int.dvd_trans ?_ this
    rw [Int.natCast_mul]
    exact Int.dvd_trans (Int.dvd_natAbs.mpr (Int.dvd_refl c)) ⟨_, rfl⟩
  refine ⟨A.map fun x => x / c, ?_, by rw [List.length_map]⟩
  have eA : A = (A.map fun x => x / c).map (c * ·) := by
    rw [List.map_map]
    conv => lhs; rw [← List.map_id A]
    exact List.map_congr_left fun x hx => (Int.mul_ediv_cancel' (hd x hx)).symm
  have nQ : (A.map fun x => x / c) ≠ [] := fun z => nA (List.map_eq_nil_iff.mp z)
  have lF := congrArg List.length e
  rw [List.length_map, ml_len] at lF
  refine ev_inj (by rw [ml_len, List.length_map, lF]) fun x y => ?_
  have h2 : ev (F.map (c * ·)) x y = ev (ml D A) x y := by rw [e]
  rw [ev_map, ev_ml nD nA, eA, ev_map] at h2
  rw [ev_ml nD nQ]
  refine Int.eq_of_mul_eq_mul_left hc ?_
  rw [h2]
  grind
theorem ev_only : ∀ (l : List Int), (∀ k, 1 ≤ k → co l k = 0) → ∀ x y, ev l x y = co l 0 * x ^ (l.length - 1)
  | [], _, x, y => by
    show (0 : Int) = 0 * _
    omega
  | a :: l, h, x, y => by
    rw [ev_cons, show ev l x y = 0 from ev_zero (fun z hz => by
      obtain ⟨k, hk, e⟩ := List.mem_iff_getElem.mp hz
      have := h (k + 1) (by omega)
      rw [← e, ← co_get hk]
      exact this) x y]
    show a * x ^ l.length + y * 0 = a * x ^ l.length
    omega
/-- the values of a form whose second laying with itself is 0 -/
theorem hes_ev {F : List Int} {n : Nat} (l : F.length = n + 1) (n1 : 1 ≤ n) (z : 2 ≤ n → ∀ x y, ev (L 2 F F) x y = 0) (h0 : co F 0 ≠ 0) (x y : Int) :
    ((n : Int) * co F 0) ^ n * ev F x y = co F 0 * ((n : Int) * co F 0 * x + co F 1 * y) ^ n := by
  by_cases c : n = 1
  · subst c
    match F, l with
    | [a, b], _ =>
      rw [ev2]
      show (((1 : Nat) : Int) * a) ^ 1 * (a * x + b * y) = a * (((1 : Nat) : Int) * a * x + b * y) ^ 1
      rw [Int.pow_succ, Int.pow_zero, Int.pow_succ, Int.pow_zero]
      have : ((1 : Nat) : Int) = 1 := rfl
      rw [this]
      grind
  have n2 : 2 ≤ n := by omega
  generalize ha : co F 0 = a at *
  generalize hb : co F 1 = b at *
  have nF : F ≠ [] := fun q => by rw [q] at l; cases l
  have nz : (n : Int) * a ≠ 0 := fun q => by
    rcases Int.mul_eq_zero.mp q with q | q
    · omega
    · exact h0 q
  generalize hG : changed [1, -b] [0, (n : Int) * a] F = G
  have lG : G.length = n + 1 := by rw [← hG, changed_len rfl rfl nF, l]
  have eG : ∀ x y, ev G x y = ev F (x - b * y) ((n : Int) * a * y) := fun x y => by
    rw [← hG, ev_changed rfl rfl nF, ev2, ev2]
    congr 1 <;> grind
  have G0 : co G 0 = a := by
    rw [← ev_lead, eG, show (1 : Int) - b * 0 = 1 by omega, Int.mul_zero, ev_lead, ha]
  have G1 : co G 1 = 0 := by
    have h1 : co (dY G) 0 = co G 1 := by
      rw [dY_at, if_pos (by omega)]
      show co G 1 * (((0 : Nat) : Int) + 1) = co G 1
      have : (((0 : Nat) : Int) + 1) = 1 := rfl
      rw [this, Int.mul_one]
    have nX : dX F ≠ [] := dX_ne (l := F) (by omega)
    have nY : dY F ≠ [] := dY_ne (l := F) (by omega)
    rw [← h1, ← ev_lead, ← hG, dY_changed (l := F) (by omega), ev_zs 1 (by rw [map_len, map_len, changed_len rfl rfl nX, changed_len rfl rfl nY, dX_len, dY_len]), ev_map, ev_map, ev_changed rfl rfl nX, ev_changed rfl rfl nY, ev2, ev2]
    rw [show (1 : Int) * 1 + -b * 0 = 1 by omega, show (0 : Int) * 1 + (n : Int) * a * 0 = 0 by omega, ev_lead, ev_lead, dX_at, dY_at, if_pos (by omega), if_pos (by omega), ha, hb, l]
    have : ((n + 1 : Nat) : Int) - 1 - ((0 : Nat) : Int) = n := by omega
    rw [this]
    have : ((0 : Nat) : Int) + 1 = 1 := rfl
    rw [this]
    grind
  have zG : ∀ x y, ev (L 2 G G) x y = 0 := fun x y => by
    rw [← hG, L_changed x y 2 F F (by omega) (by omega), z n2, Int.mul_zero]
  have rest : ∀ k, 1 ≤ k → co G k = 0 := fun k k1 => by
    by_cases kn : k ≤ n
    · exact hes_first lG n2 zG (by rw [G0]; exact h0) G1 k k1 kn
    · exact co_far (by omega)
  have e := ev_only G rest ((n : Int) * a * x + b * y) y
  rw [eG, G0, lG, show (n : Int) * a * x + b * y - b * y = (n : Int) * a * x by omega, Nat.add_sub_cancel] at e
  have hm := ev_homA ((n : Int) * a) x y F
  rw [e, l, Int.pow_succ] at hm
  refine (Int.eq_of_mul_eq_mul_left nz ?_).symm
  rw [hm]
  grind
theorem cont_pw {P : List Int} (nP : P ≠ []) (h : cont P = 1) : ∀ n, cont (pow P n) = 1
  | 0 => rfl
  | n + 1 => by
    show cont (ml (pow P n) P) = 1
    rw [cont_ml (pow_ne nP n) nP, cont_pw nP h n, h]
/-- told: a number times the power of the line of a point -/
theorem hes_told {F : List Int} {n : Nat} (l : F.length = n + 1) (n1 : 1 ≤ n) (z : 2 ≤ n → ∀ x y, ev (L 2 F F) x y = 0) (h0 : co F 0 ≠ 0) {u v : Int} (hc : cont [v, -u] = 1) (hl : v * co F 1 = -u * ((n : Int) * co F 0)) (v0 : v ≠ 0) :
    ∃ c : Int, F = (pow [v, -u] n).map (c * ·) := by
  have nF : F ≠ [] := fun q => by rw [q] at l; cases l
  have nP : pow [v, -u] n ≠ [] := pow_ne (by simp) n
  have lP : (pow [v, -u] n).length = n + 1 := pow_len rfl n
  have nz : ((n : Int) * co F 0) ^ n ≠ 0 := fun q => by
    have : ∀ m : Nat, ((n : Int) * co F 0) ^ m ≠ 0 := fun m => by
      induction m with
      | zero => rw [Int.pow_zero]; decide
      | succ m ih =>
        rw [Int.pow_succ]
        intro w
        rcases Int.mul_eq_zero.mp w with w | w
        · exact ih w
        · rcases Int.mul_eq_zero.mp w with w | w
          · omega
          · exact h0 w
    exact this n q
  have vn : v ^ n ≠ 0 := by
    have : ∀ m : Nat, v ^ m ≠ 0 := fun m => by
      induction m with
      | zero => rw [Int.pow_zero]; decide
      | succ m ih =>
        rw [Int.pow_succ]
        intro w
        rcases Int.mul_eq_zero.mp w with w | w
        · exact ih w
        · exact v0 w
    exact this n
  have e : F.map (v ^ n * ·) = ml (pow [v, -u] n) [co F 0] := by
    refine ev_inj (by rw [map_len, ml_len, lP, l]; rfl) fun x y => ?_
    rw [ev_map, ev_ml nP (by simp), ev_pow (by simp), ev2]
    have e1 := hes_ev l n1 z h0 x y
    have one : ev [co F 0] x y = co F 0 := by
      rw [ev_cons]
      show co F 0 * x ^ 0 + y * 0 = co F 0
      rw [Int.pow_zero]
      omega
    rw [one]
    refine Int.eq_of_mul_eq_mul_left nz ?_
    calc ((n : Int) * co F 0) ^ n * (v ^ n * ev F x y) = v ^ n * (((n : Int) * co F 0) ^ n * ev F x y) := by grind
      _ = co F 0 * (v ^ n * ((n : Int) * co F 0 * x + co F 1 * y) ^ n) := by rw [e1]; grind
      _ = co F 0 * (v * ((n : Int) * co F 0 * x + co F 1 * y)) ^ n := by rw [Int.mul_pow]
      _ = co F 0 * ((n : Int) * co F 0 * (v * x + -u * y)) ^ n := by
        congr 2
        rw [Int.mul_add, ← Int.mul_assoc v (co F 1), hl]
        grind
      _ = ((n : Int) * co F 0) ^ n * ((v * x + -u * y) ^ n * co F 0) := by rw [Int.mul_pow]; grind
  obtain ⟨Q, q1, q2⟩ := gaussQ vn (cont_pw (by simp) hc n) nP (by simp) e
  match Q, q2 with
  | [c], _ =>
    refine ⟨c, ?_⟩
    refine ev_inj (by rw [map_len, lP, l]) fun x y => ?_
    rw [← q1, ev_ml nP (by simp), ev_map]
    have one : ev [c] x y = c := by
      rw [ev_cons]
      show c * x ^ 0 + y * 0 = c
      rw [Int.pow_zero]
      omega
    rw [one]
    grind
/-- no first entry -/
theorem hes_told0 {F : List Int} {n : Nat} (l : F.length = n + 1) (n1 : 1 ≤ n) (z : 2 ≤ n → ∀ x y, ev (L 2 F F) x y = 0) (h0 : co F 0 = 0) : ∃ c : Int, F = (pow [0, -1] n).map (c * ·) := by
  have lP : (pow [0, -1] n).length = n + 1 := pow_len rfl n
  have low : ∀ k, k < n → co F k = 0 := fun k hk => by
    by_cases c : n = 1
    · have : k = 0 := by omega
      rw [this]
      exact h0
    · exact hes_last l (by omega) (z (by omega)) h0 k hk
  have evF : ∀ x y, ev F x y = co F n * y ^ n := fun x y => by
    have e : F = List.replicate n 0 ++ [co F n] := by
      refine co_inj (by rw [l, List.length_append, List.length_replicate]; rfl) fun i => ?_
      by_cases c : i < n
      · rw [low i c, co_get (by rw [List.length_append, List.length_replicate]; omega), List.getElem_append_left (by rw [List.length_replicate]; exact c), List.getElem_replicate]
      · by_cases d : i = n
        · subst d
          rw [co_get (l := List.replicate i (0 : Int) ++ [co F i]) (by rw [List.length_append, List.length_replicate]; exact Nat.lt_succ_self _), List.getElem_append_right (by rw [List.length_replicate]; exact Nat.le_refl _)]
          simp
        · rw [co_far (by omega), co_far (by rw [List.length_append, List.length_replicate]; show n + 1 ≤ i; omega)]
    rw [e, ev_ry]
    have one : ev [co F n] x y = co F n := by
      rw [ev_cons]
      show co F n * x ^ 0 + y * 0 = co F n
      rw [Int.pow_zero]
      omega
    rw [one, ← e]
    exact Int.mul_comm _ _
  refine ⟨co F n * (-1) ^ n, ev_inj (by rw [map_len, lP, l]) fun x y => ?_⟩
  rw [evF, ev_map, ev_pow (by simp), ev2, show (0 : Int) * x + -1 * y = -1 * y by omega, Int.mul_pow]
  have s : ((-1 : Int) ^ n) * (-1) ^ n = 1 := by
    rw [← Int.mul_pow]
    exact Int.one_pow
  calc co F n * y ^ n = co F n * ((-1) ^ n * (-1) ^ n) * y ^ n := by rw [s, Int.mul_one]
    _ = co F n * (-1) ^ n * ((-1) ^ n * y ^ n) := by grind
end K59

set_option Elab.async false
set_option linter.all false
set_option maxRecDepth 100000
set_option maxHeartbeats 2000000
/-! values of many kinds, told by data, with a bound of their ints; all that is made stands in the heap -/
namespace K59
open PySem PySem.Spec PyProof.Rows L2 StX
mutual
inductive Vd (B : Nat) (H : Hp) : V → PyData → Prop
  | non : Vd B H .non .none
  | bl (b : Bool) : Vd B H (.bl b) (.bool b)
  | int (i : Int) (h : i.natAbs < B) : Vd B H (.int i) (.int i)
  | str (x : Str) : Vd B H (.str x) (.str x)
  | lst {a : Addr} {xs : List V} {ds : List PyData} (e : H a = some (.lst xs)) (h : VdA B H xs ds) : Vd B H (.ref a) (.list ds)
  | tup {a : Addr} {xs : List V} {ds : List PyData} (e : H a = some (.tup xs)) (h : VdA B H xs ds) : Vd B H (.ref a) (.tuple ds)
inductive VdA (B : Nat) (H : Hp) : List V → List PyData → Prop
  | nil : VdA B H [] []
  | cons {v : V} {vs : List V} {d : PyData} {ds : List PyData} (h : Vd B H v d) (t : VdA B H vs ds) : VdA B H (v :: vs) (d :: ds)
end
mutual
theorem Vd.dp {B : Nat} {K : PySem.W.Frag} {H : Hp} : ∀ (d : PyData) (v : V), Vd B H v d → L2.Dp K H v d
  | .none, _, h => by cases h; exact .non
  | .bool b, _, h => by cases h; exact .bl b
  | .int i, _, h => by cases h; exact .int i
  | .str x, _, h => by cases h; exact .str x
  | .list ds, _, h => by
    cases h with
    | lst e t => exact .lst (SqL.of e) (VdA.dp ds _ t)
  | .tuple ds, _, h => by
    cases h with
    | tup e t => exact .tup (SqT.of e) (VdA.dp ds _ t)
  | .dict _, _, h => by cases h
theorem VdA.dp {B : Nat} {K : PySem.W.Frag} {H : Hp} : ∀ (ds : List PyData) (vs : List V), VdA B H vs ds → DpAll K H vs ds
  | [], _, h => by cases h; exact .nil
  | d :: ds, _, h => by
    cases h with
    | cons h t => exact .cons (Vd.dp d _ h) (VdA.dp ds _ t)
end
mutual
theorem Vd.mono {B : Nat} {H H' : Hp} (k : ∀ a xs, H a = some (.tup xs) → H' a = some (.tup xs)) (l : ∀ a xs, H a = some (.lst xs) → H' a = some (.lst xs)) : ∀ (d : PyData) (v : V), Vd B H v d → Vd B H' v d
  | .none, _, h => by cases h; exact .non
  | .bool b, _, h => by cases h; exact .bl b
  | .int i, _, h => by cases h with | int i h => exact .int i h
  | .str x, _, h => by cases h; exact .str x
  | .list ds, _, h => by
    cases h with
    | lst e t => exact .lst (l _ _ e) (VdA.mono k l ds _ t)
  | .tuple ds, _, h => by
    cases h with
    | tup e t => exact .tup (k _ _ e) (VdA.mono k l ds _ t)
  | .dict _, _, h => by cases h
theorem VdA.mono {B : Nat} {H H' : Hp} (k : ∀ a xs, H a = some (.tup xs) → H' a = some (.tup xs)) (l : ∀ a xs, H a = some (.lst xs) → H' a = some (.lst xs)) : ∀ (ds : List PyData) (vs : List V), VdA B H vs ds → VdA B H' vs ds
  | [], _, h => by cases h; exact .nil
  | d :: ds, _, h => by
    cases h with
    | cons h t => exact .cons (Vd.mono k l d _ h) (VdA.mono k l ds _ t)
end
theorem Vd.same {B : Nat} {H H' : Hp} {v : V} {d : PyData} (h : Vd B H v d) (s : Same H H') : Vd B H' v d := Vd.mono (fun a xs e => s _ _ e) (fun a xs e => s _ _ e) d v h
theorem Vd.sts {B : Nat} {Ps : List Addr} {H H' : Hp} {v : V} {d : PyData} (h : Vd B H v d) (s : Sts Ps H H') (g : Tg Ps H) : Vd B H' v d := Vd.mono (fun a xs e => s.tup g e) (fun a xs e => s.lst g e) d v h
theorem VdA.same {B : Nat} {H H' : Hp} {vs : List V} {ds : List PyData} (h : VdA B H vs ds) (s : Same H H') : VdA B H' vs ds := VdA.mono (fun a xs e => s _ _ e) (fun a xs e => s _ _ e) ds vs h
theorem VdA.sts {B : Nat} {Ps : List Addr} {H H' : Hp} {vs : List V} {ds : List PyData} (h : VdA B H vs ds) (s : Sts Ps H H') (g : Tg Ps H) : VdA B H' vs ds := VdA.mono (fun a xs e => s.tup g e) (fun a xs e => s.lst g e) ds vs h
theorem VdA.len {B : Nat} {H : Hp} : ∀ (ds : List PyData) (vs : List V), VdA B H vs ds → vs.length = ds.length
  | [], _, h => by cases h; rfl
  | d :: ds, _, h => by
    cases h with
    | cons h t => rw [List.length_cons, List.length_cons, VdA.len ds _ t]
theorem VdA.get {B : Nat} {H : Hp} : ∀ (ds : List PyData) (vs : List V) (i : Nat) (v : V), VdA B H vs ds → vs[i]? = some v → ∃ d, ds[i]? = some d ∧ Vd B H v d
  | [], _, i, v, h, e => by cases h; cases e
  | d :: ds, _, i, v, h, e => by
    cases h with
    | cons h t =>
      cases i with
      | zero => cases e; exact ⟨d, rfl, h⟩
      | succ i => exact VdA.get ds _ i v t e
theorem VdA.ints {B : Nat} {H : Hp} : ∀ ns : List Int, (∀ x ∈ ns, x.natAbs < B) → VdA B H (ns.map V.int) (ns.map PyData.int)
  | [], _ => .nil
  | n :: ns, h => .cons (.int n (h n (.head _))) (VdA.ints ns fun x hx => h x (.tail _ hx))
theorem Vd.row {B : Nat} {H : Hp} {a : Addr} {ns : List Int} (e : H a = some (.tup (ns.map V.int))) (h : ∀ x ∈ ns, x.natAbs < B) : Vd B H (.ref a) (.tuple (ns.map PyData.int)) := .tup e (VdA.ints ns h)
/-- a value, or an empty dict -/
def Vx (B : Nat) (H : Hp) (v : V) (d : PyData) : Prop := Vd B H v d ∨ ∃ a, v = .ref a ∧ H a = some (.dK []) ∧ d = .dict []
theorem Vx.same {B : Nat} {H H' : Hp} {v : V} {d : PyData} (h : Vx B H v d) (s : Same H H') : Vx B H' v d := by
  rcases h with h | ⟨a, e1, e2, e3⟩
  · exact .inl (h.same s)
  · exact .inr ⟨a, e1, s _ _ e2, e3⟩
theorem Vx.sts {B : Nat} {Ps : List Addr} {H H' : Hp} {v : V} {d : PyData} (h : Vx B H v d) (s : Sts Ps H H') (g : Tg Ps H) : Vx B H' v d := by
  rcases h with h | ⟨a, e1, e2, e3⟩
  · exact .inl (h.sts s g)
  · exact .inr ⟨a, e1, s _ _ (g.ne e2 fun _ z => by cases z) e2, e3⟩
def tyN : PyData → String
  | .none => "NoneType"
  | .bool _ => "bool"
  | .int _ => "int"
  | .str _ => "str"
  | .list _ => "list"
  | .tuple _ => "tuple"
  | .dict _ => "dict"
theorem Vx.ty {B : Nat} {K : PySem.W.Frag} {H : Hp} {v : V} {d : PyData} (h : Vx B H v d) : TyX K H v (.type (tyN d)) := by
  rcases h with h | ⟨a, rfl, e2, rfl⟩
  · cases h with
    | non => exact .base .non
    | bl b => exact .base (.bl b)
    | int i h => exact .base (.int i)
    | str x => exact .base (.str x)
    | lst e t => exact .base (.lst e)
    | tup e t => exact .base (.tup e)
  · exact .base (.dK e2)
end K59

set_option Elab.async false
set_option linter.all false
set_option maxRecDepth 100000
set_option maxHeartbeats 2000000
set_option exponentiation.threshold 10000
/-! powers of lines, told -/
namespace K59
open PySem PySem.Spec PyProof.Rows L2 StX RZ MyR SlX OwnR OwnF EnumT SeqE GxR GenNx FDivQ
theorem sz1 : 1 ≤ sizeLine := by decide
theorem sz0 : 0 ≤ sizeLine := Nat.zero_le _
theorem gl_two (a b : Int) : gl [a, b] = Nat.gcd a.natAbs b.natAbs := by
  show Nat.gcd (Nat.gcd 0 a.natAbs) b.natAbs = _
  rw [Nat.gcd_zero_left]
structure Pol (a b : Int) (A B : Int) : Prop where
  fa : (-b).fdiv ((gl [a, b] : Nat) : Int) = A
  fb : a.fdiv ((gl [a, b] : Nat) : Int) = B
  g0 : gl [a, b] ≠ 0
  ma : ((gl [a, b] : Nat) : Int) * A = -b
  mb : ((gl [a, b] : Nat) : Int) * B = a
  cop : Nat.gcd A.natAbs B.natAbs = 1
  b0 : B ≠ 0
theorem Pol.line {a b X Y : Int} (po : Pol a b X Y) (s : Int) : s * Y * b = -(s * X) * a := by
  have ma := po.ma
  have mb := po.mb
  clear po
  generalize ((gl [a, b] : Nat) : Int) = g at ma mb
  have hb : b = -(g * X) := by omega
  rw [hb, ← mb]
  grind
theorem pol_of {a b : Int} (h : a ≠ 0) : ∃ A B, Pol a b A B := by
  have g0 : gl [a, b] ≠ 0 := fun z => h (gl_zero z 0)
  have gi : ((gl [a, b] : Nat) : Int) ≠ 0 := by omega
  obtain ⟨A, hA⟩ : ((gl [a, b] : Nat) : Int) ∣ -b := Int.dvd_neg.mpr (gl_dvdI (.tail _ (.head _)))
  obtain ⟨B, hB⟩ : ((gl [a, b] : Nat) : Int) ∣ a := gl_dvdI (.head _)
  have fb : a.fdiv ((gl [a, b] : Nat) : Int) = B := by
    have : ∀ z : Int, z = ((gl [a, b] : Nat) : Int) * B → z.fdiv ((gl [a, b] : Nat) : Int) = B := fun z e => by rw [e, Int.mul_fdiv_cancel_left _ gi]
    exact this a hB
  refine ⟨A, B, by rw [hA, Int.mul_fdiv_cancel_left _ gi], fb, g0, hA.symm, hB.symm, ?_, fun z => h (by rw [hB, z, Int.mul_zero])⟩
  have e := gl_two a b
  have ea : a.natAbs = gl [a, b] * B.natAbs := by
    have : ∀ z : Int, z = ((gl [a, b] : Nat) : Int) * B → z.natAbs = gl [a, b] * B.natAbs := fun z e => by rw [e, Int.natAbs_mul, Int.natAbs_natCast]
    exact this a hB
  have eb : b.natAbs = gl [a, b] * A.natAbs := by
    rw [← Int.natAbs_neg, hA, Int.natAbs_mul, Int.natAbs_natCast]
  generalize gl [a, b] = g at *
  rw [ea, eb, Nat.gcd_mul_left] at e
  have : Nat.gcd B.natAbs A.natAbs = 1 := Nat.eq_of_mul_eq_mul_left (Nat.pos_of_ne_zero g0) (by omega)
  rw [Nat.gcd_comm]
  exact this
section
variable {P : Program} {w : World} {K : PySem.W.Frag} {mg : Str → Option Value} {base : Heap} {Ps : List Addr}
def spPoL : Sp := fun vs H Q _ => ∃ a b : Int, vs = [.int a, .int b] ∧ a ≠ 0 ∧ sm a ∧ sm b ∧ ∀ p u v H', Same H H' → H' p = some (tp [u, v]) → Pt u v → v ≠ 0 → v * b = -u * a → u.natAbs ≤ b.natAbs → v.natAbs ≤ a.natAbs → Q (.ref p) H'
theorem ok_point_of_line (T : Facts K mg) : FnOk P w K mg base CX0 2 T.f_point_of_line T.fd_point_of_line ["one", "other"] spPoL := by
  have G_shared_of := ok_shared_of (P := P) (w := w) (base := base) T
  refine T.F_point_of_line.ok sc_point_of_line (fun vs H Q E h => ?_) (fun cdv A outer s H vs Q E hr h => ?_)
  · obtain ⟨a, b, rfl, _⟩ := h
    rfl
  · obtain ⟨a, b, rfl, a0, ha, hb, q⟩ := h
    refine ⟨_, (PSs.nox (pss_cons (ps_set (i := 2) sc_point_of_line.nd rfl (.inl rfl) (pe_call G_shared_of hr (by rfl) T.g_shared_of T.F_shared_of.kp T.b_shared_of .nil pass0 (pa_cons (pe_tup (pa_cons (pv 0) (pa_cons (pv 1) pa_nil))) pa_nil)))
    (pss_cons (ps_par (i := 3) (j := 4) (by rfl) sc_point_of_line.nd rfl rfl (by decide) rfl rfl (pa_cons (pe_op op_fdivZ (pe_un un_neg (pv 1)) (pv 2)) (pa_cons (pe_op op_fdivZ (pv 0) (pv 2)) pa_nil)) (by rfl))
    (pss_one (ps_ret (pe_ifExp (pw_or (pt_cmpR op_gt (pv 3) pe_int (nomark _)) (pw_or1 (pw_and (pt_cmpR op_eq (pv 3) pe_int (nomark _)) (pw_and1 (pt_cmpR op_gt (pv 4) pe_int (nomark _)))).pt)).pt (pe_tup (pa_cons (pv 3) (pa_cons (pv 4) pa_nil))) (pe_tup (pa_cons (pe_un un_neg (pv 3)) (pa_cons (pe_un un_neg (pv 4)) pa_nil))))))))), ?_⟩
    obtain ⟨X, Y, po⟩ := pol_of (b := b) a0
    have e := gl_two a b
    have gb : gl [a, b] < 2 ^ 4000 := by
      rw [e]
      exact Nat.lt_of_le_of_lt (Nat.le_of_dvd (by omega) (Nat.gcd_dvd_left _ _)) ha
    have cd : ∀ x : Int, CDivZ x ((gl [a, b] : Nat) : Int) := fun x => ⟨by have := po.g0; omega, (Nat.log2_lt (by rw [Int.natAbs_natCast]; exact po.g0)).mpr (Nat.lt_of_lt_of_le (by rw [Int.natAbs_natCast]; exact gb) (Nat.pow_le_pow_right (by decide) (by decide)))⟩
    refine ⟨_, rfl, _, rfl, sz2, fun p0 n0 => gen_upd H p0 (tp [a, b]) n0 fun H1 s1 f1 => ⟨p0, [a, b], rfl, SqT.of f1, ?_⟩⟩
    refine ⟨_, rfl, _, rfl, _, rfl, _, _, rfl, rfl, cd _, _, rfl, _, rfl, _, _, rfl, rfl, cd _, ?_⟩
    refine ⟨_, _, rfl, ?_⟩
    dsimp only []
    rw [po.fa, po.fb]
    have hl := po.line
    have hX : X.natAbs ≤ b.natAbs := by
      rw [← Int.natAbs_neg b, ← po.ma, Int.natAbs_mul, Int.natAbs_natCast]
      exact Nat.le_mul_of_pos_left _ (Nat.pos_of_ne_zero po.g0)
    have hY : Y.natAbs ≤ a.natAbs := by
      have : ∀ z : Int, ((gl [a, b] : Nat) : Int) * Y = z → Y.natAbs ≤ z.natAbs := fun z e => by
        rw [← e, Int.natAbs_mul, Int.natAbs_natCast]
        exact Nat.le_mul_of_pos_left _ (Nat.pos_of_ne_zero po.g0)
      exact this a po.mb
    have plus : (0 < X ∨ (X = 0 ∧ 0 < Y)) → ∀ p H', Same H H' → H' p = some (tp [X, Y]) → Q (.ref p) H' := fun c p H' s' f' => by
      refine q p X Y H' s' f' ⟨po.cop, ?_⟩ po.b0 (by have := hl 1; rw [Int.one_mul, Int.one_mul] at this; exact this) hX hY
      rw [fo_pair]
      rcases c with c | ⟨c, d⟩
      · rw [if_neg (by omega)]
        exact c
      · rw [if_pos c]
        exact d
    have minus : ¬ (0 < X ∨ (X = 0 ∧ 0 < Y)) → ∀ p H', Same H H' → H' p = some (tp [-X, -Y]) → Q (.ref p) H' := fun c p H' s' f' => by
      have b0 := po.b0
      refine q p (-X) (-Y) H' s' f' ⟨by rw [Int.natAbs_neg, Int.natAbs_neg]; exact po.cop, ?_⟩ (by omega) (by have := hl (-1); rw [show (-1 : Int) * Y = -Y by omega, show (-1 : Int) * X = -X by omega] at this; exact this) (by rw [Int.natAbs_neg]; exact hX) (by rw [Int.natAbs_neg]; exact hY)
      rw [fo_pair]
      by_cases x0 : X = 0
      · rw [if_pos (by omega)]
        by_cases y0 : 0 < Y
        · exact absurd (.inr ⟨x0, y0⟩) c
        · omega
      · rw [if_neg (by omega)]
        by_cases x1 : 0 < X
        · exact absurd (.inl x1) c
        · omega
    by_cases c1 : 0 < X
    · refine ⟨_, rfl, _, _, rfl, rfl, _, rfl, ?_⟩
      rw [decide_eq_true c1]
      exact iteT ⟨_, rfl, _, rfl, sz2, fun p hp => plus (.inl c1) p _ (s1.trans (same_upd0 hp)) upd_same⟩
    · refine ⟨_, rfl, _, _, rfl, rfl, _, rfl, ?_⟩
      rw [decide_eq_false c1]
      by_cases c2 : X = 0
      · subst c2
        refine iteF ⟨_, rfl, rfl, _, rfl, iteT ⟨_, rfl, _, _, rfl, rfl, _, rfl, ?_⟩⟩
        by_cases c3 : 0 < Y
        · rw [decide_eq_true c3]
          exact iteT ⟨_, rfl, _, rfl, sz2, fun p hp => plus (.inr ⟨rfl, c3⟩) p _ (s1.trans (same_upd0 hp)) upd_same⟩
        · rw [decide_eq_false c3]
          exact iteF ⟨_, rfl, _, rfl, _, rfl, _, rfl, sz2, fun p hp => minus (fun z => z.elim (fun z => absurd z (by omega)) fun z => c3 z.2) p _ (s1.trans (same_upd0 hp)) upd_same⟩
      · refine iteF ⟨_, rfl, rfl, _, rfl, ?_⟩
        rw [decide_eq_false (show ¬ V.int X = V.int 0 from fun z => c2 (V.int.inj z))]
        exact iteF ⟨_, rfl, _, rfl, _, rfl, _, rfl, sz2, fun p hp => minus (fun z => z.elim c1 fun z => c2 z.1) p _ (s1.trans (same_upd0 hp)) upd_same⟩
end
end K59

set_option Elab.async false
set_option linter.all false
set_option maxRecDepth 100000
set_option maxHeartbeats 2000000
set_option exponentiation.threshold 10000
/-! powers of lines, told -/
namespace K59
open PySem PySem.Spec PyProof.Rows L2 StX RZ MyR SlX OwnR OwnF EnumT SeqE GxR GenNx FDivQ
theorem meet1 {G : Prop} {R : Addr → Hp → Prop} (C : Addr → Hp → Prop) (main : (∀ c H, C c H → R c H) → G) (rest : ∀ c H, C c H → R c H) : G := main rest
theorem cont_line {u v : Int} (h : Pt u v) : cont [v, -u] = 1 := by
  rw [gl_cont, gl_two, Int.natAbs_neg, Nat.gcd_comm]
  exact h.cop
theorem pt10 : Pt 1 0 := ⟨by decide, by decide⟩
/-- a form, as a number times a power of the line of a point -/
structure Pw (F : List Int) (n : Nat) (c u v : Int) : Prop where
  pt : Pt u v
  eq : F = (pow [v, -u] n).map (c * ·)
theorem bd_lineN {u v : Int} {b : Nat} (hu : u.natAbs ≤ b) (hv : v.natAbs ≤ b) : Bd [v, -u] 1 (2 * b) := ⟨rfl, by
  show v.natAbs + ((-u).natAbs + 0) ≤ 2 * b
  rw [Int.natAbs_neg]
  omega⟩
theorem bd_point {u v : Int} {b : Nat} (hu : u.natAbs ≤ b) (hv : v.natAbs ≤ b) (n : Nat) : Bd (pow [v, -u] n) n ((2 * b) ^ n) := bd_pow (bd_lineN hu hv) n
section
variable {P : Program} {w : World} {K : PySem.W.Frag} {mg : Str → Option Value} {base : Heap} {Ps : List Addr}
def spPoT (Ps : List Addr) : Sp := fun vs H Q _ => ∃ (a : Addr) (F : List Int) (n : Nat), vs = [.ref a] ∧ H a = some (tp F) ∧ Bd F n (2 ^ 100) ∧ 1 ≤ n ∧ n ≤ 9 ∧ (∃ k, co F k ≠ 0) ∧ (2 ≤ n → ∀ x y, ev (L 2 F F) x y = 0) ∧ Tg Ps H ∧
  ∀ p t c u v H', Sts Ps H H' → Tg Ps H' → H' p = some (.tup [.int c, .ref t]) → H' t = some (tp [u, v]) → Pw F n c u v → c.natAbs ≤ 2 ^ 100 → u.natAbs ≤ 2 ^ 104 → v.natAbs ≤ 2 ^ 104 → Q (.ref p) H'
theorem ok_power_told (T : Facts K mg) (TB_first_index : TabB base mg T.c_first_index T.P_first_index) (hP : T.P_first_index ∈ Ps) : FnOk P w K mg base CX0 4 T.f_power_told T.fd_power_told ["entries"] (spPoT Ps) := by
  have G_point_of_line := ok_point_of_line (P := P) (w := w) (base := base) T
  have G_power_in := ok_power_in (P := P) (w := w) (base := base) T
  have G_line_in := ok_line_in (P := P) (w := w) (base := base) T
  have G_first_index := ok_first_index (P := P) (w := w) (base := base) T TB_first_index hP
  refine T.F_power_told.ok sc_power_told (fun vs H Q E h => ?_) (fun cdv A outer s H vs Q E hr h => ?_)
  · obtain ⟨a, F, n, rfl, _⟩ := h
    rfl
  · obtain ⟨a, F, n, rfl, ha, bF, n1, n9, nz, hz, tg, q⟩ := h
    refine ⟨_, (PSs.nox (pss_cons (ps_par (i := 1) (j := 2) (by rfl) sc_power_told.nd rfl rfl (by decide) rfl rfl (pa_cons (pe_op op_sub (pe_callB call_len_seq (by rfl) T.z_len (by decide +kernel) (pa_cons (pv 0) pa_nil)) pe_int) (pa_cons (pe_ix ix_tup (pv 0) pe_int (fun _ _ => rfl)) pa_nil)) (by rfl))
    (pss_cons (ps_set (i := 3) sc_power_told.nd rfl (.inl rfl) (pe_ifExp (pt_cmpR op_eq (pv 2) pe_int (nomark _)) (pe_tup (pa_cons pe_int (pa_cons pe_int pa_nil))) (pe_call G_point_of_line (hr.mono (by decide)) (by rfl) T.g_point_of_line T.F_point_of_line.kp T.b_point_of_line .nil pass0 (pa_cons (pe_op op_mulW (pv 1) (pv 2)) (pa_cons (pe_ix ix_tup (pv 0) pe_int (fun _ _ => rfl)) pa_nil)))))
    (pss_cons (ps_set (i := 4) sc_power_told.nd rfl (.inl rfl) (pe_call G_power_in hr (by rfl) T.g_power_in T.F_power_in.kp T.b_power_in .nil pass0 (pa_cons (pe_call G_line_in (hr.mono (by decide)) (by rfl) T.g_line_in T.F_line_in.kp T.b_line_in .nil pass0 (pa_cons (pv 3) pa_nil)) (pa_cons (pv 1) pa_nil))))
    (pss_cons (ps_set (i := 5) sc_power_told.nd rfl (.inl rfl) (pe_call G_first_index (hr.mono (by decide)) (by rfl) T.g_first_index T.F_first_index.kp T.b_first_index .nil pass0 (pa_cons (pv 4) pa_nil)))
    (pss_one (ps_ret (pe_tup (pa_cons (pe_op op_fdivZ (pe_ix ix_tup (pv 0) (pv 5) (fun _ _ => rfl)) (pe_ix ix_tup (pv 4) (pv 5) (fun _ _ => rfl))) (pa_cons (pv 3) pa_nil)))))))))), ?_⟩
    have lF := bF.len
    have b0 : (co F 0).natAbs ≤ 2 ^ 100 := bF.mem _ (by rw [co_get (by omega)]; exact List.getElem_mem _)
    have b1 : (co F 1).natAbs ≤ 2 ^ 100 := bF.mem _ (by rw [co_get (by omega)]; exact List.getElem_mem _)
    refine ⟨_, rfl, a, _, rfl, .inr (SqT.of ha), _, _, rfl, rfl, _, rfl, a, _, 0, _, rfl, rfl, SqT.of ha, atI_nat (j := 0) (get_int (by omega)), _, _, rfl, ?_⟩
    have en : ((F.map V.int).length : Int) - 1 = (n : Int) := by rw [List.length_map, lF]; omega
    dsimp only []
    rw [en]
    apply meet1 fun p H1 => ∃ u v : Int, Same H H1 ∧ H1 p = some (tp [u, v]) ∧ Pt u v ∧ (∃ c, Pw F n c u v) ∧ u.natAbs ≤ 2 ^ 104 ∧ v.natAbs ≤ 2 ^ 104
    · intro main
      have cs := Classical.em (co F 0 = 0)
      refine ⟨_, rfl, rfl, _, rfl, ?_⟩
      refine Or.elim cs (fun c0 => ?_) fun c0 => ?_
      · rw [decide_eq_true (congrArg V.int c0)]
        exact iteT ⟨sz2, fun p hp => main p _ ⟨1, 0, same_upd0 hp, upd_same, pt10, (hes_told0 lF n1 hz c0).imp fun c hc => ⟨pt10, hc⟩, by decide +kernel, by decide +kernel⟩⟩
      · rw [decide_eq_false (fun z => c0 (V.int.inj z))]
        have nb : ((n : Int) * co F 0).natAbs ≤ 2 ^ 104 := by
          rw [Int.natAbs_mul, Int.natAbs_natCast]
          exact Nat.le_trans (Nat.mul_le_mul n9 b0) (by decide +kernel)
        have sn : sm (n : Int) := Nat.lt_of_le_of_lt (show (n : Int).natAbs ≤ 9 by omega) (by decide +kernel)
        have s0 : sm (co F 0) := Nat.lt_of_le_of_lt b0 (by decide +kernel)
        refine iteF ⟨_, rfl, _, rfl, _, _, rfl, rfl, sm_mul sn s0, _, rfl, a, _, 1, _, rfl, rfl, SqT.of ha, atI_nat (j := 1) (get_int (by omega)), (n : Int) * co F 0, co F 1, rfl, ?_, Nat.lt_of_le_of_lt nb (by decide +kernel), Nat.lt_of_le_of_lt b1 (by decide +kernel), fun p u v H1 s1 f1 pt v0 hl hu hv => main p H1 ?_⟩
        · exact fun z => (Int.mul_eq_zero.mp z).elim (fun z => by omega) c0
        · obtain ⟨c, hc⟩ := hes_told lF n1 hz c0 (cont_line pt) hl v0
          exact ⟨u, v, s1, f1, pt, ⟨c, pt, hc⟩, Nat.le_trans hu (Nat.le_trans b1 (by decide +kernel)), Nat.le_trans hv nb⟩
    · intro p H1 hC
      obtain ⟨u, v, s1, f1, pt, ⟨c, pw⟩, hu, hv⟩ := hC
      have bp := fun i => bd_point (u := u) (v := v) hu hv i
      have smp : ∀ i, i ≤ n → pow [v, -u] i ≠ [] ∧ (pow [v, -u] i).length ≤ 100 ∧ ∀ x ∈ pow [v, -u] i, sm x := fun i hi => ⟨(bp i).ne, by rw [(bp i).len]; omega, fun x hx => Nat.lt_of_le_of_lt ((bp i).mem x hx) (Nat.lt_of_le_of_lt (Nat.pow_le_pow_right (by decide +kernel) (show i ≤ 9 by omega)) (by decide +kernel))⟩
      have sl : ∀ x ∈ [v, -u], sm x := fun x hx => Nat.lt_of_le_of_lt ((bd_lineN hu hv).mem x hx) (by decide +kernel)
      refine ⟨_, rfl, p, u, v, rfl, f1, fun l H2 s2 f2 => ⟨_, rfl, l, [v, -u], n, rfl, f2, by simp, by show 2 ≤ 100; decide, sl, fun i hi => smp i (by omega), by omega, fun m H3 s3 f3 => ?_⟩⟩
      have s03 := s1.trans (s2.trans s3)
      refine ⟨_, rfl, m, _, rfl, f3, tg.same s03, fun H4 s4 g4 => ?_⟩
      have nzp : nzr (pow [v, -u] n) = true := nzr_iff.mpr (Classical.byContradiction fun z => by
        obtain ⟨k, hk⟩ := nz
        apply hk
        rw [pw.eq, co_map]
        have : co (pow [v, -u] n) k = 0 := Classical.byContradiction fun y => z ⟨k, Classical.byContradiction fun y2 => y (co_far (by omega)), y⟩
        rw [this, Int.mul_zero])
      rw [if_pos nzp]
      have g03 := tg.same s03
      have kl := fi_lt nzp
      have kn : co (pow [v, -u] n) (fi (pow [v, -u] n)) ≠ 0 := fi_ne nzp
      generalize fi (pow [v, -u] n) = k at kl kn ⊢
      have ek : co F k = c * co (pow [v, -u] n) k := by
        conv => lhs; rw [pw.eq]
        rw [co_map]
      have kF : k < F.length := by
        have := (bp n).len
        omega
      have cb : c.natAbs ≤ 2 ^ 100 := by
        have h1 : (co F k).natAbs ≤ 2 ^ 100 := bF.mem _ (by rw [co_get kF]; exact List.getElem_mem _)
        rw [ek, Int.natAbs_mul] at h1
        exact Nat.le_trans (Nat.le_mul_of_pos_right _ (by omega)) h1
      have kb : (co (pow [v, -u] n) k).natAbs < 2 ^ 4000 := (smp n (Nat.le_refl n)).2.2 _ (by rw [co_get kl]; exact List.getElem_mem _)
      have cd : CDivZ (co F k) (co (pow [v, -u] n) k) := ⟨kn, (Nat.log2_lt (by omega)).mpr (Nat.lt_of_lt_of_le kb (Nat.pow_le_pow_right (by decide) (by decide)))⟩
      refine ⟨_, rfl, _, rfl, a, _, k, _, rfl, rfl, SqT.of (s4.tup g03 (s03 _ _ ha)), atI_nat (get_int kF), _, rfl, _, rfl, m, _, k, _, rfl, rfl, SqT.of (s4.tup g03 f3), atI_nat (get_int kl), _, _, rfl, rfl, cd, _, rfl, sz2, fun p2 hp2 => ?_⟩
      have e2 : (co F k).fdiv (co (pow [v, -u] n) k) = c := by
        rw [ek, Int.mul_fdiv_cancel _ kn]
      dsimp only []
      rw [e2]
      exact q p2 p c u v _ ((Sts.of s03).trans (s4.trans (Sts.of (same_upd0 hp2)))) (g4.same (same_upd0 hp2)) upd_same (same_upd0 hp2 _ _ (s4.tup g03 ((s2.trans s3) _ _ f1))) pw cb hu hv
def spPwIn : Sp := fun vs H Q _ => ∃ (a : Addr) (F : List Int) (n : Nat), vs = [.ref a] ∧ H a = some (tp F) ∧ Bd F n (2 ^ 100) ∧ n ≤ 9 ∧ ∀ H', Same H H' → Q (.bl (decide (n < 2) || !nzr (L 2 F F))) H'
theorem ldOk9 {F : List Int} {n : Nat} (h : Bd F n (2 ^ 100)) (n2 : 2 ≤ n) (n9 : n ≤ 9) : LdOk 2 F F := by
  have l := h.len
  have d : ∀ i j, i + j ≤ 2 → nm (dd i j F) ≤ 2 ^ 1500 := fun i j hij => by
    refine Nat.le_trans (nm_dd i j F (by omega)) (Nat.le_trans (Nat.mul_le_mul (Nat.pow_le_pow_left (show F.length ≤ 10 by omega) _) h.nm) ?_)
    exact Nat.le_trans (Nat.mul_le_mul_right _ (Nat.pow_le_pow_right (by decide) hij)) (by decide +kernel)
  exact ⟨by omega, by omega, by omega, by omega, d, d⟩
theorem ok_is_power_in (T : Facts K mg) : FnOk P w K mg base CX0 4 T.f_is_power_in T.fd_is_power_in ["entries"] spPwIn := by
  have G_laid_in := ok_laid_in (P := P) (w := w) (base := base) T
  have G_is_zero_in := ok_is_zero_in (P := P) (w := w) (base := base) T
  refine T.F_is_power_in.ok sc_is_power_in (fun vs H Q E h => ?_) (fun cdv A outer s H vs Q E hr h => ?_)
  · obtain ⟨a, F, n, rfl, _⟩ := h
    rfl
  · obtain ⟨a, F, n, rfl, ha, bF, n9, q⟩ := h
    refine ⟨_, (PSs.nox (pss_one (ps_ret (pe_or (pe_cmpR op_lt (pe_callB call_len_seq (by rfl) T.z_len (by decide +kernel) (pa_cons (pv 0) pa_nil)) pe_int (nomark _)) (pe_one (pe_call G_is_zero_in (hr.mono (by decide)) (by rfl) T.g_is_zero_in T.F_is_zero_in.kp T.b_is_zero_in .nil pass0 (pa_cons (pe_call G_laid_in hr (by rfl) T.g_laid_in T.F_laid_in.kp T.b_laid_in .nil pass0 (pa_cons (pv 0) (pa_cons (pv 0) (pa_cons pe_int pa_nil)))) pa_nil))))))), ?_⟩
    have lF := bF.len
    refine ⟨_, rfl, a, _, rfl, .inr (SqT.of ha), _, _, rfl, rfl, ?_⟩
    dsimp only []
    rw [show (((F.map V.int).length : Nat) : Int) = (n : Int) + 1 by rw [List.length_map, lF]; omega]
    by_cases c : n < 2
    · rw [decide_eq_true (show (n : Int) + 1 < 3 by omega)]
      have q := q H (Same.rf H)
      rw [decide_eq_true c] at q
      exact ⟨true, rfl, iteT q⟩
    · rw [decide_eq_false (show ¬ (n : Int) + 1 < 3 by omega)]
      refine ⟨false, rfl, iteF ⟨_, rfl, _, rfl, a, a, F, F, 2, rfl, ha, ha, ldOk9 bF (by omega) n9, fun p H1 s1 f1 => ⟨p, _, rfl, f1, ?_⟩⟩⟩
      have q := q H1 s1
      rw [decide_eq_false c] at q
      exact q
theorem hes_bd {F : List Int} {n : Nat} (h : Bd F n (2 ^ 100)) (n2 : 2 ≤ n) (n9 : n ≤ 9) : Bd (L 2 F F) (2 * n - 4) (2 ^ 216) := by
  have bx : ∀ {l : List Int} {k C : Nat}, Bd l k C → k ≤ 9 → 1 ≤ k → Bd (dX l) (k - 1) (10 * C) := fun h hk h0 => ⟨by rw [dX_len, h.len]; omega, Nat.le_trans (nm_dX _) (Nat.mul_le_mul (by rw [h.len]; omega) h.nm)⟩
  have by_ : ∀ {l : List Int} {k C : Nat}, Bd l k C → k ≤ 9 → 1 ≤ k → Bd (dY l) (k - 1) (10 * C) := fun h hk h0 => ⟨by rw [dY_len, h.len]; omega, Nat.le_trans (nm_dY _) (Nat.mul_le_mul (by rw [h.len]; omega) h.nm)⟩
  have one : ∀ {f g : List Int} {k A B : Nat}, Bd f k A → Bd g k B → k ≤ 9 → 1 ≤ k → Bd (L 1 f g) (k - 1 + (k - 1)) (200 * (A * B)) := fun {f g k A B} hf hg hk h1 => by
    have r1 := bd_ml (bx hf hk h1) (by_ hg hk h1)
    have r2 := bd_ml (by_ hf hk h1) (bx hg hk h1)
    refine (bd_zs' (-1) r1 r2).mono (Nat.le_of_eq ?_)
    show 10 * A * (10 * B) + 1 * (10 * A * (10 * B)) = _
    grind
  have x := bx h n9 (by omega)
  have y := by_ h n9 (by omega)
  have r := bd_zs' (-1) (one x y (by omega) (by omega)) (one y x (by omega) (by omega))
  have e : n - 1 - 1 + (n - 1 - 1) = 2 * n - 4 := by omega
  rw [e] at r
  exact r.mono (by decide +kernel)
abbrev entO (F : List Int) : HO := .tup [.str "entry", .int ((fi (L 2 F F) : Nat) : Int), .int (co (L 2 F F) (fi (L 2 F F)))]
def spEntP (Ps : List Addr) : Sp := fun vs H Q _ => ∃ (a : Addr) (F : List Int) (n : Nat), vs = [.ref a, .int 2] ∧ H a = some (tp F) ∧ Bd F n (2 ^ 100) ∧ 2 ≤ n ∧ n ≤ 9 ∧ nzr (L 2 F F) = true ∧ Tg Ps H ∧
  ∀ p H', Sts Ps H H' → Tg Ps H' → H' p = some (entO F) → Q (.ref p) H'
theorem ok_entry_paper (T : Facts K mg) (TB_first_index : TabB base mg T.c_first_index T.P_first_index) (hP : T.P_first_index ∈ Ps) : FnOk P w K mg base CX0 4 T.f_entry_paper T.fd_entry_paper ["entries", "times"] (spEntP Ps) := by
  have G_laid_in := ok_laid_in (P := P) (w := w) (base := base) T
  have G_first_index := ok_first_index (P := P) (w := w) (base := base) T TB_first_index hP
  refine T.F_entry_paper.ok sc_entry_paper (fun vs H Q E h => ?_) (fun cdv A outer s H vs Q E hr h => ?_)
  · obtain ⟨a, F, n, rfl, _⟩ := h
    rfl
  · obtain ⟨a, F, n, rfl, ha, bF, n2, n9, nz, tg, q⟩ := h
    refine ⟨_, (PSs.nox (pss_cons (ps_set (i := 2) sc_entry_paper.nd rfl (.inl rfl) (pe_call G_laid_in hr (by rfl) T.g_laid_in T.F_laid_in.kp T.b_laid_in .nil pass0 (pa_cons (pv 0) (pa_cons (pv 0) (pa_cons (pv 1) pa_nil)))))
    (pss_cons (ps_set (i := 3) sc_entry_paper.nd rfl (.inl rfl) (pe_call G_first_index (hr.mono (by decide)) (by rfl) T.g_first_index T.F_first_index.kp T.b_first_index .nil pass0 (pa_cons (pv 2) pa_nil)))
    (pss_one (ps_ret (pe_tup (pa_cons (pe_glob (v := .str "entry") (by rfl) T.c_ENTRY.choose_spec ⟨_, rfl⟩) (pa_cons (pv 3) (pa_cons (pe_ix ix_tup (pv 2) (pv 3) (fun _ _ => rfl)) pa_nil))))))))), ?_⟩
    refine ⟨_, rfl, _, rfl, _, rfl, a, a, F, F, 2, rfl, ha, ha, ldOk9 bF n2 n9, fun p H1 s1 f1 => ⟨_, rfl, p, _, rfl, f1, tg.same s1, fun H2 s2 g2 => ?_⟩⟩
    rw [if_pos nz]
    have f2 := s2.tup (tg.same s1) f1
    refine ⟨_, rfl, _, rfl, _, rfl, p, _, fi (L 2 F F), _, rfl, rfl, SqT.of f2, atI_nat (get_int (fi_lt nz)), sz3, fun p2 hp2 => ?_⟩
    exact q p2 _ ((Sts.of s1).trans (s2.trans (Sts.of (same_upd0 hp2)))) (g2.same (same_upd0 hp2)) upd_same
/-- the told paper -/
def PP (H : Hp) (p : Addr) (F : List Int) (n : Nat) : Prop := (2 ≤ n ∧ nzr (L 2 F F) = true ∧ H p = some (entO F)) ∨
  ((n < 2 ∨ nzr (L 2 F F) = false) ∧ ∃ t c u v, H p = some (.tup [.str "power", .int c, .ref t]) ∧ H t = some (tp [u, v]) ∧ Pw F n c u v ∧ c.natAbs ≤ 2 ^ 100 ∧ u.natAbs ≤ 2 ^ 104 ∧ v.natAbs ≤ 2 ^ 104)
theorem nzr_zer {l : List Int} (h : nzr l = false) (x y : Int) : ev l x y = 0 := ev_zero (fun z hz => Classical.byContradiction fun c => by
  have : nzr l = true := List.any_eq_true.mpr ⟨z, hz, by simpa using c⟩
  rw [h] at this
  cases this) x y
def spPap (C : Addr) (Ps : List Addr) : Sp := fun vs H Q _ => ∃ (a : Addr) (F : List Int) (n : Nat), vs = [.ref a] ∧ Fo C H a F ∧ Bd F n (2 ^ 100) ∧ n ≤ 9 ∧ Tg Ps H ∧ ∀ p H', Sts Ps H H' → Tg Ps H' → PP H' p F n → Q (.ref p) H'
theorem ok_power_paper (T : Facts K mg) (TB_first_index : TabB base mg T.c_first_index T.P_first_index) (hP : T.P_first_index ∈ Ps) : FnOk P w K mg base CX0 5 T.f_power_paper T.fd_power_paper ["form"] (spPap T.C_Form Ps) := by
  have G_require_form := ok_require_form (P := P) (w := w) (base := base) T
  have G_Form_entries : FnOk P w K mg base CX0 1 T.f_Form_entries T.fd_Form_entries ["self"] (spEnt T.C_Form) := ok_Form_entries T
  have G_Form_degree := ok_Form_degree (P := P) (w := w) (base := base) T
  have G_Form_is_zero := ok_Form_is_zero (P := P) (w := w) (base := base) T
  have G_is_power_in := ok_is_power_in (P := P) (w := w) (base := base) T
  have G_entry_paper := ok_entry_paper (P := P) (w := w) (base := base) T TB_first_index hP
  have G_power_told := ok_power_told (P := P) (w := w) (base := base) T TB_first_index hP
  refine T.F_power_paper.ok sc_power_paper (fun vs H Q E h => ?_) (fun cdv A outer s H vs Q E hr h => ?_)
  · obtain ⟨a, F, n, rfl, _⟩ := h
    rfl
  · obtain ⟨a, F, n, rfl, fa, bF, n9, tg, q⟩ := h
    refine ⟨_, (PSs.nox (pss_cons (ps_expr (pe_call G_require_form (hr.mono (by decide)) (by rfl) T.g_require_form T.F_require_form.kp T.b_require_form .nil pass0 (pa_cons (pv 0) pa_nil)))
    (pss_cons (ps_set (i := 1) sc_power_paper.nd rfl (.inl rfl) (pe_prp (pv 0) T.oc_Form T.pr_Form_entries G_Form_entries T.b_Form_entries (hr.mono (by decide))))
    (pss_cons (ps_if (pt_not (pt_val (pe_call G_is_power_in hr (by rfl) T.g_is_power_in T.F_is_power_in.kp T.b_is_power_in .nil pass0 (pa_cons (pv 1) pa_nil))))
      (pss_one (ps_ret (pe_call G_entry_paper hr (by rfl) T.g_entry_paper T.F_entry_paper.kp T.b_entry_paper .nil pass0 (pa_cons (pv 1) (pa_cons pe_int pa_nil)))))
      pss_nil)
    (pss_cons (ps_if (pw_or (pt_cmpR op_eq (pe_prp (pv 0) T.oc_Form T.pr_Form_degree G_Form_degree T.b_Form_degree (hr.mono (by decide))) pe_int (nomark _)) (pw_or1 (pt_val (pe_prp (pv 0) T.oc_Form T.pr_Form_is_zero G_Form_is_zero T.b_Form_is_zero (hr.mono (by decide)))))).pt
      (pss_one (ps_ret (pe_tup (pa_cons (pe_glob (v := .str "power") (by rfl) T.c_POWER.choose_spec ⟨_, rfl⟩) (pa_cons (pe_ix ix_tup (pv 1) pe_int (fun _ _ => rfl)) (pa_cons (pe_tup (pa_cons pe_int (pa_cons pe_int pa_nil))) pa_nil))))))
      pss_nil)
    (pss_one (ps_ret (pe_tup (pa_cons (pe_glob (v := .str "power") (by rfl) T.c_POWER.choose_spec ⟨_, rfl⟩) (pa_star (pe_call G_power_told hr (by rfl) T.g_power_told T.F_power_told.kp T.b_power_told .nil pass0 (pa_cons (pv 1) pa_nil)) pa_nil)))))))))), ?_⟩
    have lF := bF.len
    refine ⟨_, rfl, a, F, rfl, fa, _, rfl, prop_ent fa fun t ht => ⟨_, rfl, t, F, n, rfl, ht, bF, n9, fun H1 s1 => ?_⟩⟩
    by_cases c : 2 ≤ n ∧ nzr (L 2 F F) = true
    · obtain ⟨n2, nz⟩ := c
      rw [decide_eq_false (show ¬ n < 2 by omega), nz]
      refine ⟨false, rfl, iteT ⟨_, rfl, t, F, n, rfl, s1 _ _ ht, bF, n2, n9, nz, tg.same s1, fun p H2 s2 g2 f2 => ?_⟩⟩
      exact q p H2 ((Sts.of s1).trans s2) g2 (.inl ⟨n2, nz, f2⟩)
    · have cn : n < 2 ∨ nzr (L 2 F F) = false := by
        by_cases d : n < 2
        · exact .inl d
        · refine .inr ?_
          cases e : nzr (L 2 F F) with
          | false => rfl
          | true => exact absurd ⟨by omega, e⟩ c
      have hb : (decide (n < 2) || !nzr (L 2 F F)) = true := by
        rcases cn with d | d
        · rw [decide_eq_true d]; rfl
        · rw [d]; exact Bool.or_true _
      have hz : 2 ≤ n → ∀ x y, ev (L 2 F F) x y = 0 := fun n2 => nzr_zer (cn.resolve_left (by omega))
      rw [hb]
      have ht1 := s1 _ _ ht
      have fa1 := fa.same s1
      have g1 := tg.same s1
      have f0b : (co F 0).natAbs ≤ 2 ^ 100 := bF.mem _ (by rw [co_get (by omega)]; exact List.getElem_mem _)
      have plain : (n = 0 ∨ nzr F = false) → Pw F n (co F 0) 1 0 := fun d => ⟨pt10, by
        refine co_inj (by rw [List.length_map, pow_len rfl, lF]) fun k => ?_
        rw [co_map]
        rcases d with d | d
        · subst d
          by_cases k0 : k = 0
          · subst k0
            show _ = co F 0 * 1
            omega
          · rw [co_far (l := F) (by omega), co_far (l := pow [0, -1] 0) (by show 1 ≤ k; omega), Int.mul_zero]
        · rw [nzr_co d k, nzr_co d 0, Int.zero_mul]⟩
      refine ⟨true, rfl, iteF ⟨_, rfl, prop_deg fa1 ⟨rfl, _, rfl, ?_⟩⟩⟩
      have fin : (n = 0 ∨ nzr F = false) → ∀ p0, H1 p0 = none → ∀ H2, Same H1 H2 → H2 p0 = some (tp [1, 0]) → ∀ p, H2 p = none → Q (.ref p) (upd H2 p (.tup [.str "power", .int (co F 0), .ref p0])) := fun d p0 _ H2 s2 f2 p hp => by
        have s3 := same_upd0 (o := HO.tup [.str "power", .int (co F 0), .ref p0]) hp
        exact q p _ (Sts.of (s1.trans (s2.trans s3))) (g1.same (s2.trans s3)) (.inr ⟨cn, p0, co F 0, 1, 0, upd_same, s3 _ _ f2, plain d, f0b, by decide +kernel, by decide +kernel⟩)
      by_cases n0 : n = 0
      · rw [decide_eq_true (congrArg V.int (show ((F.length : Nat) : Int) - 1 = 0 by omega))]
        exact iteT (iteT ⟨_, rfl, t, _, 0, _, rfl, rfl, SqT.of ht1, atI_nat (j := 0) (get_int (by omega)), sz2, fun p0 hp0 => ⟨sz3, fun p hp => fin (.inl n0) p0 hp0 _ (same_upd0 hp0) upd_same p hp⟩⟩)
      · rw [decide_eq_false (fun z => n0 (by have := V.int.inj z; omega))]
        refine iteF ⟨_, rfl, prop_zero fa1 ⟨_, rfl, ?_⟩⟩
        cases e : nzr F with
        | false =>
          rw [show (F.any (· != 0)) = false from e]
          exact iteT ⟨_, rfl, t, _, 0, _, rfl, rfl, SqT.of ht1, atI_nat (j := 0) (get_int (by omega)), sz2, fun p0 hp0 => ⟨sz3, fun p hp => fin (.inr e) p0 hp0 _ (same_upd0 hp0) upd_same p hp⟩⟩
        | true =>
          rw [show (F.any (· != 0)) = true from e]
          refine iteF ⟨_, rfl, t, F, n, rfl, ht1, bF, by omega, n9, ⟨fi F, fi_ne e⟩, hz, g1, fun p2 t2 c2 u2 v2 H2 s2 g2 f2 f3 pw cb ub vb => ⟨p2, _, rfl, .inl (SqT.of f2), sz3, fun p hp => ?_⟩⟩
          have s3 := same_upd0 (o := HO.tup [.str "power", .int c2, .ref t2]) hp
          exact q p _ ((Sts.of s1).trans (s2.trans (Sts.of s3))) (g2.same s3) (.inr ⟨cn, t2, c2, u2, v2, upd_same, s3 _ _ f3, pw, cb, ub, vb⟩)
end
end K59

set_option Elab.async false
set_option linter.all false
set_option maxRecDepth 100000
set_option maxHeartbeats 2000000
set_option exponentiation.threshold 10000
/-! judgements of any value -/
namespace K59
open PySem PySem.Spec PyProof.Rows L2 StX RZ MyR SlX OwnR OwnF EnumT SeqE GxR GenNx FDivQ
abbrev BV : Nat := 2 ^ 230
def intB : PyData → Bool
  | .int _ => true
  | .bool _ => true
  | _ => false
def boolB : PyData → Bool
  | .bool _ => true
  | _ => false
def tupB : PyData → Bool
  | .tuple _ => true
  | _ => false
def strB : PyData → Bool
  | .str _ => true
  | _ => false
def wh : PyData → Bool
  | .int _ => true
  | _ => false
theorem ki_int : ∀ d : PyData, kitB (tyN d) "int" = some (intB d)
  | .none => (by decide +kernel : kitB "NoneType" "int" = some false)
  | .bool _ => (by decide +kernel : kitB "bool" "int" = some true)
  | .int _ => (by decide +kernel : kitB "int" "int" = some true)
  | .str _ => (by decide +kernel : kitB "str" "int" = some false)
  | .list _ => (by decide +kernel : kitB "list" "int" = some false)
  | .tuple _ => (by decide +kernel : kitB "tuple" "int" = some false)
  | .dict _ => (by decide +kernel : kitB "dict" "int" = some false)
theorem ki_bool : ∀ d : PyData, kitB (tyN d) "bool" = some (boolB d)
  | .none => (by decide +kernel : kitB "NoneType" "bool" = some false)
  | .bool _ => (by decide +kernel : kitB "bool" "bool" = some true)
  | .int _ => (by decide +kernel : kitB "int" "bool" = some false)
  | .str _ => (by decide +kernel : kitB "str" "bool" = some false)
  | .list _ => (by decide +kernel : kitB "list" "bool" = some false)
  | .tuple _ => (by decide +kernel : kitB "tuple" "bool" = some false)
  | .dict _ => (by decide +kernel : kitB "dict" "bool" = some false)
theorem ki_tup : ∀ d : PyData, kitB (tyN d) "tuple" = some (tupB d)
  | .none => (by decide +kernel : kitB "NoneType" "tuple" = some false)
  | .bool _ => (by decide +kernel : kitB "bool" "tuple" = some false)
  | .int _ => (by decide +kernel : kitB "int" "tuple" = some false)
  | .str _ => (by decide +kernel : kitB "str" "tuple" = some false)
  | .list _ => (by decide +kernel : kitB "list" "tuple" = some false)
  | .tuple _ => (by decide +kernel : kitB "tuple" "tuple" = some true)
  | .dict _ => (by decide +kernel : kitB "dict" "tuple" = some false)
theorem ki_str : ∀ d : PyData, kitB (tyN d) "str" = some (strB d)
  | .none => (by decide +kernel : kitB "NoneType" "str" = some false)
  | .bool _ => (by decide +kernel : kitB "bool" "str" = some false)
  | .int _ => (by decide +kernel : kitB "int" "str" = some false)
  | .str _ => (by decide +kernel : kitB "str" "str" = some true)
  | .list _ => (by decide +kernel : kitB "list" "str" = some false)
  | .tuple _ => (by decide +kernel : kitB "tuple" "str" = some false)
  | .dict _ => (by decide +kernel : kitB "dict" "str" = some false)
theorem isi_v {B : Nat} {K : PySem.W.Frag} {H : Hp} {v : V} {d : PyData} {c : String} {b : Bool} {Q : VK} (h : Vx B H v d) (k : kitB (tyN d) c = some b) (q : Q (.bl b) H) : rIsi K [v, .ty c] H Q :=
  ⟨v, .ty c, .type (tyN d), .type c, b, rfl, .ty c, h.ty, kit_ty k, q⟩
section
variable {P : Program} {w : World} {K : PySem.W.Frag} {mg : Str → Option Value} {base : Heap} {Ps : List Addr}
def spWh : Sp := fun vs H Q _ => ∃ (v : V) (d : PyData), vs = [v] ∧ Vx BV H v d ∧ Q (.bl (wh d)) H
theorem ok_is_wholeV (T : Facts K mg) : FnOk P w K mg base CX0 1 T.f_is_whole T.fd_is_whole ["value"] spWh := by
  refine T.F_is_whole.ok sc_is_whole (fun vs H Q E h => ?_) (fun cdv A outer s H vs Q E hr h => ?_)
  · obtain ⟨v, d, rfl, _⟩ := h
    rfl
  · obtain ⟨v, d, rfl, hv, q⟩ := h
    refine ⟨_, (PSs.nox (pss_one (ps_ret (pe_and (pe_callB call_isi (by rfl) T.z_isinstance (by decide +kernel) (pa_cons (pv 0) (pa_cons (pe_bltn (v := .ty "int") (by rfl) T.z_int (by decide +kernel) rfl) pa_nil))) (pe_one (pe_not (pe_callB call_isi (by rfl) T.z_isinstance (by decide +kernel) (pa_cons (pv 0) (pa_cons (pe_bltn (v := .ty "bool") (by rfl) T.z_bool (by decide +kernel) rfl) pa_nil))))))))), ?_⟩
    refine ⟨_, rfl, ?_⟩
    dsimp only [tCons, tC, tNil]
    refine isi_v hv (ki_int d) ⟨_, rfl, ?_⟩
    cases e : intB d with
    | false =>
      have : wh d = false := by cases d <;> first | rfl | cases e
      rw [this] at q
      exact iteF q
    | true =>
      refine iteT ⟨_, rfl, ?_⟩
      dsimp only [tCons, tC, tNil]
      refine isi_v hv (ki_bool d) ?_
      refine ⟨_, rfl, ?_⟩
      have : wh d = !boolB d := by cases d <;> first | rfl | cases e
      rw [this] at q
      exact q
theorem ok_law_is_whole (T : Facts K mg) : FnOk P w K mg base CX0 1 T.f_law_is_whole T.fd_law_is_whole ["_law_value"] spWh := by
  refine T.F_law_is_whole.ok sc_law_is_whole (fun vs H Q E h => ?_) (fun cdv A outer s H vs Q E hr h => ?_)
  · obtain ⟨v, d, rfl, _⟩ := h
    rfl
  · obtain ⟨v, d, rfl, hv, q⟩ := h
    refine ⟨_, (PSs.nox (pss_one (ps_ret (pe_and (pe_callB call_isi (by rfl) T.z_isinstance (by decide +kernel) (pa_cons (pv 0) (pa_cons (pe_bltn (v := .ty "int") (by rfl) T.z_int (by decide +kernel) rfl) pa_nil))) (pe_one (pe_not (pe_callB call_isi (by rfl) T.z_isinstance (by decide +kernel) (pa_cons (pv 0) (pa_cons (pe_bltn (v := .ty "bool") (by rfl) T.z_bool (by decide +kernel) rfl) pa_nil))))))))), ?_⟩
    refine ⟨_, rfl, ?_⟩
    dsimp only [tCons, tC, tNil]
    refine isi_v hv (ki_int d) ⟨_, rfl, ?_⟩
    cases e : intB d with
    | false =>
      have : wh d = false := by cases d <;> first | rfl | cases e
      rw [this] at q
      exact iteF q
    | true =>
      refine iteT ⟨_, rfl, ?_⟩
      dsimp only [tCons, tC, tNil]
      refine isi_v hv (ki_bool d) ?_
      refine ⟨_, rfl, ?_⟩
      have : wh d = !boolB d := by cases d <;> first | rfl | cases e
      rw [this] at q
      exact q
def aw : PyData → Bool
  | .tuple ds => ds.all wh
  | _ => false
theorem aw_tup {d : PyData} (h : tupB d = false) : aw d = false := by cases d <;> first | rfl | cases h
def spAwV : Sp := fun vs H Q _ => ∃ (v : V) (d : PyData), vs = [v] ∧ Vx BV H v d ∧ (∀ ds, d = .tuple ds → ds.length ≤ 1000) ∧ ∀ H', Same H H' → Q (.bl (aw d)) H'
theorem all_id : ∀ l : List PyData, (l.map wh).all id = l.all wh
  | [] => rfl
  | x :: l => by rw [List.map_cons, List.all_cons, List.all_cons, all_id l]; rfl
theorem ok_are_wholesV (T : Facts K mg) : FnOk P w K mg base CX0 2 T.f_are_wholes T.fd_are_wholes ["value"] spAwV := by
  have G_is_whole := ok_is_wholeV (P := P) (w := w) (base := base) T
  refine T.F_are_wholes.ok sc_are_wholes (fun vs H Q E h => ?_) (fun cdv A outer s H vs Q E hr h => ?_)
  · obtain ⟨v, d, rfl, _⟩ := h
    rfl
  · obtain ⟨v, d, rfl, hv, hl, q⟩ := h
    refine ⟨_, (PSs.nox (pss_one (ps_ret (pe_and (pe_callB call_isi (by rfl) T.z_isinstance (by decide +kernel) (pa_cons (pv 0) (pa_cons (pe_bltn (v := .ty "tuple") (by rfl) T.z_tuple (by decide +kernel) rfl) pa_nil))) (pe_one (pe_callB (cr_all (by rfl)) (by rfl) T.z_all (by decide +kernel) (pa_cons (pe_lc (own := [("entry", 1)]) (g := (gName 1)) (tt := tYes) (by rfl) sc_are_wholes.nd (pi_tup (pv 0)) (blkOk_by (N := N_are_wholes) (sc := defScope s_are_wholes) (by decide +kernel)) (fun _ _ _ _ _ => (pg_name (i := 1) sc_are_wholes.nd rfl (.inl rfl))) (fun _ _ _ _ _ => pts_nil) (fun _ _ _ _ _ => (pe_call G_is_whole hr (by rfl) T.g_is_whole T.F_is_whole.kp T.b_is_whole .nil pass0 (pa_cons (pv 1) pa_nil)))) pa_nil))))))), ?_⟩
    refine ⟨_, rfl, ?_⟩
    dsimp only [tCons, tC, tNil]
    refine isi_v hv (ki_tup d) ⟨_, rfl, ?_⟩
    cases e : tupB d with
    | false =>
      have q := q H (Same.rf H)
      rw [aw_tup e] at q
      exact iteF q
    | true =>
      rcases hv with hv | ⟨_, _, _, rfl⟩
      case inr => cases e
      cases hv with
      | @tup a xs ds ea hd =>
        have ll := VdA.len ds xs hd
        have l1 := hl ds rfl
        refine iteT ⟨_, rfl, a, rfl, ⟨_, SqT.of ea⟩, fun D hD => lc_tup (xs := xs) (fun i H' => H' = upd H D (.lst (((ds.take i).map wh).map V.bl))) rfl (fun i H' hi hP => ?_) (fun i x H' hi hP => ?_) (fun H' hP => ?_)⟩
        · rw [hP]
          exact SqT.of (same_upd0 hD _ _ ea)
        · subst hP
          obtain ⟨d, hd1, hd2⟩ := VdA.get ds xs i x hd hi
          have hlt : i < ds.length := (List.getElem?_eq_some_iff.mp hd1).1
          refine ⟨rfl, ⟨_, rfl, x, d, rfl, .inl (hd2.same (same_upd0 hD)), _, upd_same, ?_, ?_⟩⟩
          · rw [List.length_map, List.length_map, List.length_take]
            exact small1000 (by omega)
          · rw [upd_upd, List.take_add_one, hd1, List.map_append, List.map_append]
            rfl
        · subst hP
          rw [ll, List.take_length]
          refine ⟨D, ds.map wh, rfl, SqL.of upd_same, ?_⟩
          rw [all_id]
          exact q _ (same_upd0 hD)
      | non => cases e
      | bl b => cases e
      | int i h => cases e
      | str x => cases e
      | lst a b => cases e
/-- the point that is told -/
def ptB (u v : Int) : Bool := decide (Nat.gcd u.natAbs v.natAbs = 1) && decide (0 < fo [u, v])
theorem ptB_iff {u v : Int} : ptB u v = true ↔ Pt u v := by
  unfold ptB
  rw [Bool.and_eq_true, decide_eq_true_eq, decide_eq_true_eq]
  exact ⟨fun h => ⟨h.1, h.2⟩, fun h => ⟨h.cop, h.pos⟩⟩
def pvD : PyData → Bool
  | .tuple [.int u, .int v] => ptB u v
  | _ => false
def spPtV (Ps : List Addr) : Sp := fun vs H Q _ => ∃ (v : V) (d : PyData), vs = [v] ∧ Vx BV H v d ∧ (∀ ds, d = .tuple ds → ds.length ≤ 1000) ∧ Tg Ps H ∧ ∀ H', Sts Ps H H' → Tg Ps H' → Q (.bl (pvD d)) H'
theorem aw_ints : ∀ {ds : List PyData} {xs : List V} {H : Hp}, VdA BV H xs ds → ds.all wh = true → ∃ ns : List Int, ds = ns.map PyData.int ∧ xs = ns.map V.int ∧ ∀ x ∈ ns, x.natAbs < BV
  | [], _, H, h, _ => by cases h; exact ⟨[], rfl, rfl, fun x hx => (nomatch hx)⟩
  | d :: ds, _, H, h, e => by
    cases h with
    | cons h t =>
      rw [List.all_cons, Bool.and_eq_true] at e
      obtain ⟨ns, e1, e2, e3⟩ := aw_ints t e.2
      cases h with
      | int i hi =>
        refine ⟨i :: ns, by rw [e1]; rfl, by rw [e2]; rfl, fun x hx => ?_⟩
        rcases List.mem_cons.mp hx with z | z
        · rw [z]; exact hi
        · exact e3 x z
      | non => cases e.1
      | bl b => cases e.1
      | str x => cases e.1
      | lst a b => cases e.1
      | tup a b => cases e.1
theorem pvD_aw : ∀ {d : PyData}, aw d = false → pvD d = false
  | .tuple [.int u, .int v], h => by cases h
  | .none, _ => rfl
  | .bool _, _ => rfl
  | .int _, _ => rfl
  | .str _, _ => rfl
  | .list _, _ => rfl
  | .dict _, _ => rfl
  | .tuple ds, h => by
    unfold pvD
    split
    · rename_i u v e
      cases e
      cases h
    · rfl
theorem pvD_len {ns : List Int} (h : ns.length ≠ 2) : pvD (.tuple (ns.map PyData.int)) = false := by
  match ns, h with
  | [], _ => rfl
  | [_], _ => rfl
  | [_, _], h => exact absurd rfl h
  | _ :: _ :: _ :: _, _ => rfl
theorem ok_is_point_any (T : Facts K mg) (TB_first_of : TabB base mg T.c_first_of T.P_first_of) (hP : T.P_first_of ∈ Ps) : FnOk P w K mg base CX0 3 T.f_is_point_any T.fd_is_point_any ["value"] (spPtV Ps) := by
  have G_are_wholes := ok_are_wholesV (P := P) (w := w) (base := base) T
  have G_first_of := ok_first_of (P := P) (w := w) (base := base) T TB_first_of hP
  refine T.F_is_point_any.ok sc_is_point_any (fun vs H Q E h => ?_) (fun cdv A outer s H vs Q E hr h => ?_)
  · obtain ⟨v, d, rfl, _⟩ := h
    rfl
  · obtain ⟨v, d, rfl, hv, hl, tg, q⟩ := h
    refine ⟨_, (PSs.nox (pss_cons (ps_if (pw_or (pt_not (pt_val (pe_call G_are_wholes hr (by rfl) T.g_are_wholes T.F_are_wholes.kp T.b_are_wholes .nil pass0 (pa_cons (pv 0) pa_nil)))) (pw_or (pt_cmpR op_ne (pe_callB call_len_seq (by rfl) T.z_len (by decide +kernel) (pa_cons (pv 0) pa_nil)) pe_int (nomark _)) (pw_or1 (pt_cmpR (op_eqD (hu64 hr)) (pv 0) (pe_tup (pa_cons pe_int (pa_cons pe_int pa_nil))) (nomark _))))).pt
      (pss_one (ps_ret pe_bl))
      pss_nil)
    (pss_one (ps_ret (pe_and (pe_cmpR op_eq (pe_callBfun cr_gcd (by rfl) T.m_gcd (pa_cons (pe_ix ix_tup (pv 0) pe_int (fun _ _ => rfl)) (pa_cons (pe_ix ix_tup (pv 0) pe_int (fun _ _ => rfl)) pa_nil))) pe_int (nomark _)) (pe_one (pe_cmpR op_gt (pe_call G_first_of (hr.mono (by decide)) (by rfl) T.g_first_of T.F_first_of.kp T.b_first_of .nil pass0 (pa_cons (pv 0) pa_nil)) pe_int (nomark _)))))))), ?_⟩
    refine ⟨_, rfl, v, d, rfl, hv, hl, fun H1 s1 => ⟨_, rfl, ?_⟩⟩
    cases e : aw d with
    | false =>
      have q := q H1 (Sts.of s1) (tg.same s1)
      rw [pvD_aw e] at q
      exact iteT (iteT q)
    | true =>
      rcases hv with hv | ⟨_, _, _, rfl⟩
      case inr => cases e
      cases hv with
      | @tup a xs ds ea hd =>
        obtain ⟨ns, rfl, rfl, hb⟩ := aw_ints hd e
        have ht1 := s1 _ _ ea
        refine iteF ⟨_, rfl, a, _, rfl, .inr (SqT.of ht1), rfl, _, rfl, ?_⟩
        by_cases l2 : ns.length = 2
        case neg =>
          have q := q H1 (Sts.of s1) (tg.same s1)
          rw [pvD_len l2] at q
          rw [decide_eq_false (fun z => l2 (by have := V.int.inj z; rw [List.length_map] at this; omega))]
          exact iteT (iteT q)
        case pos =>
          match ns, l2 with
          | [u, v], _ =>
            have q : ∀ H', Sts Ps H H' → Tg Ps H' → Q (.bl (ptB u v)) H' := q
            refine iteF ⟨_, rfl, sz2, fun p n => gen_upd H1 p (tp [0, 0]) n fun H2 s2 f2 => eq_ints (SqT.of (s2 _ _ ht1)) (SqT.of f2) ?_⟩
            have s02 := s1.trans s2
            have ht2 := s02 _ _ ea
            by_cases z : [u, v] = [0, 0]
            · rw [decide_eq_true z]
              have pz : ptB u v = false := by
                cases z
                decide
              have q := q H2 (Sts.of s02) (tg.same s02)
              rw [pz] at q
              exact ⟨_, rfl, iteT q⟩
            · rw [decide_eq_false z]
              refine ⟨_, rfl, iteF ⟨_, rfl, a, _, 0, _, rfl, rfl, SqT.of ht2, atI_nat (j := 0) rfl, _, rfl, a, _, 1, _, rfl, rfl, SqT.of ht2, atI_nat (j := 1) rfl, u, v, rfl, rfl, ?_⟩⟩
              by_cases g1 : Nat.gcd u.natAbs v.natAbs = 1
              · rw [decide_eq_true (show V.int ((Nat.gcd u.natAbs v.natAbs : Nat) : Int) = V.int 1 by rw [g1]; rfl)]
                refine ⟨true, rfl, iteT ⟨_, rfl, a, _, rfl, ht2, tg.same s02, fun H3 s3 g3 => ⟨_, _, rfl, rfl, ?_⟩⟩⟩
                have q := q H3 ((Sts.of s02).trans s3) g3
                unfold ptB at q
                rw [decide_eq_true g1, Bool.true_and] at q
                exact q
              · rw [decide_eq_false (show ¬ V.int ((Nat.gcd u.natAbs v.natAbs : Nat) : Int) = V.int 1 from fun z => g1 (by have := V.int.inj z; omega))]
                have q := q H2 (Sts.of s02) (tg.same s02)
                unfold ptB at q
                rw [decide_eq_false g1, Bool.false_and] at q
                exact ⟨false, rfl, iteF q⟩
      | non => cases e
      | bl b => cases e
      | int i h => cases e
      | str x => cases e
      | lst a b => cases e
end
end K59

set_option Elab.async false
set_option linter.all false
set_option maxRecDepth 100000
set_option maxHeartbeats 2000000
set_option exponentiation.threshold 10000
/-! the program's judges -/
namespace K59
open PySem PySem.Spec PyProof.Rows L2 StX RZ MyR SlX OwnR OwnF EnumT SeqE GxR GenNx FDivQ
def Ok1 (d : PyData) : Prop := ∀ ds, d = .tuple ds → ds.length ≤ 1000
structure NV (d : PyData) : Prop where
  ok : Ok1 d
  it : ∀ ds, d = .tuple ds → ∀ x ∈ ds, Ok1 x
  hd : ∀ ds, d = .tuple ds → ds = [] ∨ ∃ s r, ds = .str s :: r
  sh : ∀ ds, d = .tuple ds → SeqAt.shaped (.tuple ds) = true
abbrev sPow : Str := Str.ofString "power"
abbrev sEnt : Str := Str.ofString "entry"
/-- the word of a paper -/
def wd : PyData → Str
  | .tuple (.str s :: _) => s
  | _ => Str.ofString ""
def frD (lo hi : Int) : PyData → Bool
  | .int i => decide (lo ≤ i) && decide (i ≤ hi)
  | _ => false
def pwD (F : List Int) (n : Nat) (k : Int) : PyData → Bool
  | .tuple [.int u, .int v] => ptB u v && decide ((pow [v, -u] n).map (k * ·) = F)
  | _ => false
def tpD (F : List Int) (n : Nat) : List PyData → Bool
  | [.int k, b] => pwD F n k b
  | _ => false
def enD (F : List Int) : List PyData → Bool
  | [.int i, .int e] => decide (0 ≤ i) && (decide (i ≤ ((L 2 F F).length : Int) - 1) && (decide (e ≠ 0) && decide (co (L 2 F F) i.toNat = e)))
  | _ => false
/-- whether a value is a right paper -/
def ipp (F : List Int) (n : Nat) : PyData → Bool
  | .tuple (.str s :: r) => if s = sPow then tpD F n r else if s = sEnt then decide (2 ≤ n) && enD F r else false
  | _ => false
section
variable {P : Program} {w : World} {K : PySem.W.Frag} {mg : Str → Option Value} {base : Heap} {Ps : List Addr}
def spFromV : Sp := fun vs H Q _ => ∃ (v : V) (d : PyData) (lo hi : Int), vs = [v, .int lo, .int hi] ∧ Vx BV H v d ∧ Q (.bl (frD lo hi d)) H
theorem ok_is_fromV (T : Facts K mg) : FnOk P w K mg base CX0 2 T.f_is_from T.fd_is_from ["value", "least", "most"] spFromV := by
  have G_is_whole := ok_is_wholeV (P := P) (w := w) (base := base) T
  refine T.F_is_from.ok sc_is_from (fun vs H Q E h => ?_) (fun cdv A outer s H vs Q E hr h => ?_)
  · obtain ⟨v, d, lo, hi, rfl, _⟩ := h
    rfl
  · obtain ⟨v, d, lo, hi, rfl, hv, q⟩ := h
    refine ⟨_, (PSs.nox (pss_one (ps_ret (pe_and (pe_call G_is_whole hr (by rfl) T.g_is_whole T.F_is_whole.kp T.b_is_whole .nil pass0 (pa_cons (pv 0) pa_nil)) (pe_one (pe_chain op_le op_le (pv 1) (pv 0) (pv 2))))))), ?_⟩
    refine ⟨_, rfl, v, d, rfl, hv, _, rfl, ?_⟩
    cases e : wh d with
    | false =>
      have : frD lo hi d = false := by cases d <;> first | rfl | cases e
      rw [this] at q
      exact iteF q
    | true =>
      rcases hv with hv | ⟨_, _, _, rfl⟩
      case inr => cases e
      cases hv with
      | int i hi' =>
        refine iteT ⟨_, rfl, _, rfl, _, _, rfl, rfl, _, rfl, ?_⟩
        have q : Q (.bl (decide (lo ≤ i) && decide (i ≤ hi))) H := q
        by_cases c : lo ≤ i
        · rw [decide_eq_true c] at q ⊢
          rw [Bool.true_and] at q
          exact iteT ⟨_, rfl, _, _, rfl, rfl, q⟩
        · rw [decide_eq_false c] at q ⊢
          exact iteF q
      | non => cases e
      | bl b => cases e
      | tup a b => cases e
      | str x => cases e
      | lst a b => cases e
def spTimes : Sp := fun vs H Q _ => ∃ (k u v : Int) (t : Addr) (n : Nat), vs = [.int k, .ref t, .int n] ∧ H t = some (tp [u, v]) ∧ k.natAbs < BV ∧ u.natAbs < BV ∧ v.natAbs < BV ∧ n ≤ 9 ∧ ∀ p H', Same H H' → H' p = some (tp ((pow [v, -u] n).map (k * ·))) → Q (.ref p) H'
theorem pw_sm {u v : Int} {n : Nat} (hu : u.natAbs < BV) (hv : v.natAbs < BV) (n9 : n ≤ 9) : (∀ x ∈ [v, -u], sm x) ∧ ∀ i, i ≤ n → pow [v, -u] i ≠ [] ∧ (pow [v, -u] i).length ≤ 100 ∧ ∀ x ∈ pow [v, -u] i, sm x := by
  have bl := bd_lineN (b := BV) (Nat.le_of_lt hu) (Nat.le_of_lt hv)
  refine ⟨fun x hx => Nat.lt_of_le_of_lt (bl.mem x hx) (by decide +kernel), fun i hi => ?_⟩
  have bp := bd_point (u := u) (v := v) (Nat.le_of_lt hu) (Nat.le_of_lt hv) i
  exact ⟨bp.ne, by rw [bp.len]; omega, fun x hx => Nat.lt_of_le_of_lt (bp.mem x hx) (Nat.lt_of_le_of_lt (Nat.pow_le_pow_right (by decide +kernel) (show i ≤ 9 by omega)) (by decide +kernel))⟩
theorem ok_times_power (T : Facts K mg) : FnOk P w K mg base CX0 4 T.f_times_power T.fd_times_power ["number", "point", "degree"] spTimes := by
  have G_power_in := ok_power_in (P := P) (w := w) (base := base) T
  have G_line_in := ok_line_in (P := P) (w := w) (base := base) T
  refine T.F_times_power.ok sc_times_power (fun vs H Q E h => ?_) (fun cdv A outer s H vs Q E hr h => ?_)
  · obtain ⟨k, u, v, t, n, rfl, _⟩ := h
    rfl
  · obtain ⟨k, u, v, t, n, rfl, ht, hk, hu, hv, n9, q⟩ := h
    refine ⟨_, (PSs.nox (pss_one (ps_ret (pe_tupleOf (by rfl) T.z_tuple (pe_lc (own := [("entry", 3)]) (g := (gName 3)) (tt := tYes) (by rfl) sc_times_power.nd (pi_tup (pe_call G_power_in hr (by rfl) T.g_power_in T.F_power_in.kp T.b_power_in .nil pass0 (pa_cons (pe_call G_line_in (hr.mono (by decide)) (by rfl) T.g_line_in T.F_line_in.kp T.b_line_in .nil pass0 (pa_cons (pv 1) pa_nil)) (pa_cons (pv 2) pa_nil)))) (blkOk_by (N := N_times_power) (sc := defScope s_times_power) (by decide +kernel)) (fun _ _ _ _ _ => (pg_name (i := 3) sc_times_power.nd rfl (.inl rfl))) (fun _ _ _ _ _ => pts_nil) (fun _ _ _ _ _ => (pe_op op_mulW (pv 0) (pv 3)))))))), ?_⟩
    obtain ⟨sl, sp⟩ := pw_sm hu hv n9
    obtain ⟨n1, n2, n3⟩ := sp n (Nat.le_refl n)
    refine ⟨_, rfl, t, u, v, rfl, ht, fun l H2 s2 f2 => ⟨_, rfl, l, [v, -u], n, rfl, f2, by simp, by show 2 ≤ 100; decide, sl, fun i hi => sp i (by omega), by omega, fun m H3 s3 f3 => ?_⟩⟩
    refine ⟨m, rfl, ⟨_, SqT.of f3⟩, fun D hD => lc_tup (xs := (pow [v, -u] n).map V.int) (fun i H' => H' = upd H3 D (.lst ((((pow [v, -u] n).take i).map (k * ·)).map V.int))) rfl (fun i H' hi hP => ?_) (fun i x H' hi hP => ?_) (fun H' hP => ?_)⟩
    · rw [hP]
      exact SqT.of (same_upd0 hD _ _ f3)
    · subst hP
      obtain ⟨hi2, rfl⟩ := int_get hi
      refine ⟨rfl, ⟨_, rfl, _, rfl, _, _, rfl, rfl, sm_mul (Nat.lt_trans hk (by decide +kernel)) (n3 _ (by rw [co_get hi2]; exact List.getElem_mem _)), _, upd_same, ?_, ?_⟩⟩
      · rw [List.length_map, List.length_map, List.length_take]
        exact small1000 (by omega)
      · rw [upd_upd, take_snoc hi2, List.map_append, List.map_append]
        rfl
    · subst hP
      rw [List.length_map, List.take_length]
      refine .inl ⟨D, _, rfl, SqL.of upd_same, fun p hp2 => ?_⟩
      exact q p _ ((s2.trans s3).trans ((same_upd0 hD).trans (same_upd0 hp2))) upd_same
theorem nil_ne {ds : List PyData} : PyData.eqv (.tuple ds) (.tuple []) = ds.isEmpty := by cases ds <;> rfl
def spWord : Sp := fun vs H Q _ => ∃ (v : V) (d : PyData), vs = [v] ∧ Vx BV H v d ∧ NV d ∧ ∀ H', Same H H' → Q (.str (wd d)) H'
theorem wd_no {d : PyData} (h : tupB d = false) : wd d = Str.ofString "" := by
  cases d <;> first | rfl | cases h
theorem ok_paper_word (T : Facts K mg) : FnOk P w K mg base CX0 1 T.f_paper_word T.fd_paper_word ["value"] spWord := by
  refine T.F_paper_word.ok sc_paper_word (fun vs H Q E h => ?_) (fun cdv A outer s H vs Q E hr h => ?_)
  · obtain ⟨v, d, rfl, _⟩ := h
    rfl
  · obtain ⟨v, d, rfl, hv, nv, q⟩ := h
    refine ⟨_, (PSs.nox (pss_one (ps_ret (pe_ifExp (pw_and (pt_val (pe_callB call_isi (by rfl) T.z_isinstance (by decide +kernel) (pa_cons (pv 0) (pa_cons (pe_bltn (v := .ty "tuple") (by rfl) T.z_tuple (by decide +kernel) rfl) pa_nil)))) (pw_and (pt_cmpR (op_neD (hu64 hr)) (pv 0) (pe_tup pa_nil) (nomark _)) (pw_and1 (pt_val (pe_callB call_isi (by rfl) T.z_isinstance (by decide +kernel) (pa_cons (pe_ix ix_tup (pv 0) pe_int (fun _ _ => rfl)) (pa_cons (pe_bltn (v := .ty "str") (by rfl) T.z_str (by decide +kernel) rfl) pa_nil))))))).pt (pe_ix ix_tup (pv 0) pe_int (fun _ _ => rfl)) pe_str)))), ?_⟩
    refine ⟨_, rfl, ?_⟩
    dsimp only [tCons, tC, tNil]
    refine isi_v hv (ki_tup d) ⟨_, rfl, ?_⟩
    cases e : tupB d with
    | false =>
      have q := q H (Same.rf H)
      rw [wd_no e] at q
      exact iteF (iteF q)
    | true =>
      rcases hv with hv | ⟨_, _, _, rfl⟩
      case inr => cases e
      cases hv with
      | @tup a xs ds ea hd =>
        refine iteT ⟨_, rfl, sz0, fun p n => gen_upd H p (.tup []) n fun H1 s1 f1 => ?_⟩
        have ea1 := s1 _ _ ea
        refine ⟨.tuple ds, .tuple [], .tup (SqT.of ea1) (VdA.dp ds xs (hd.same s1)), .tup (SqT.of f1) .nil, nv.sh ds rfl, by decide +kernel, ?_⟩
        rw [nil_ne]
        have q := q H1 s1
        rcases nv.hd ds rfl with rfl | ⟨w1, r, rfl⟩
        · exact ⟨_, rfl, iteF (iteF q)⟩
        · cases hd with
          | cons h1 h2 =>
            cases h1 with
            | str x =>
              refine ⟨_, rfl, iteT ⟨_, rfl, a, _, 0, _, rfl, rfl, SqT.of ea1, atI_nat (j := 0) rfl, ?_⟩⟩
              dsimp only [tCons, tC, tNil]
              refine isi_v (B := BV) (.inl (.str w1)) (ki_str _) ⟨_, rfl, iteT ⟨_, rfl, a, _, 0, _, rfl, rfl, SqT.of ea1, atI_nat (j := 0) rfl, q⟩⟩
      | non => cases e
      | bl b => cases e
      | int i h => cases e
      | str x => cases e
      | lst a b => cases e
/-- what stands behind the word -/
def spToldP (Ps : List Addr) : Sp := fun vs H Q _ => ∃ (a b : Addr) (F : List Int) (n : Nat) (x : V) (xs : List V) (d : PyData) (ds : List PyData), vs = [.ref a, .ref b] ∧ H a = some (tp F) ∧ F.length = n + 1 ∧ n ≤ 9 ∧ H b = some (.tup (x :: xs)) ∧ VdA BV H xs ds ∧ (∀ y ∈ ds, Ok1 y) ∧ Tg Ps H ∧ ∀ H', Sts Ps H H' → Tg Ps H' → Q (.bl (tpD F n ds)) H'
theorem tpD_len {F : List Int} {n : Nat} : ∀ {ds : List PyData}, ds.length ≠ 2 → tpD F n ds = false
  | [], _ => rfl
  | [_], _ => by unfold tpD; split <;> first | rfl | (rename_i e; cases e)
  | [_, _], h => absurd rfl h
  | _ :: _ :: _ :: _, _ => by unfold tpD; split <;> first | rfl | (rename_i e; cases e)
theorem tpD_wh {F : List Int} {n : Nat} {d e : PyData} (h : wh d = false) : tpD F n [d, e] = false := by
  cases d <;> first | rfl | cases h
theorem pwD_no {F : List Int} {n : Nat} {k : Int} {d : PyData} (h : pvD d = false) : pwD F n k d = false := by
  unfold pwD
  split
  · rename_i u v
    have : ptB u v = false := h
    rw [this]
    rfl
  · rfl
theorem pvD_of : ∀ {d : PyData}, pvD d = true → ∃ u v, d = .tuple [.int u, .int v] ∧ ptB u v = true := by
  intro d h
  unfold pvD at h
  split at h
  · rename_i u v
    exact ⟨u, v, rfl, h⟩
  · cases h
theorem ok_is_told_power (T : Facts K mg) (TB_first_of : TabB base mg T.c_first_of T.P_first_of) (hP : T.P_first_of ∈ Ps) : FnOk P w K mg base CX0 5 T.f_is_told_power T.fd_is_told_power ["entries", "value"] (spToldP Ps) := by
  have G_is_whole := ok_is_wholeV (P := P) (w := w) (base := base) T
  have G_is_point_any := ok_is_point_any (P := P) (w := w) (base := base) T TB_first_of hP
  have G_times_power := ok_times_power (P := P) (w := w) (base := base) T
  refine T.F_is_told_power.ok sc_is_told_power (fun vs H Q E h => ?_) (fun cdv A outer s H vs Q E hr h => ?_)
  · obtain ⟨a, b, F, n, x, xs, d, ds, rfl, _⟩ := h
    rfl
  · obtain ⟨a, b, F, n, x, xs, d, ds, rfl, ha, lF, n9, hb, hd, ok, tg, q⟩ := h
    refine ⟨_, (PSs.nox (pss_cons (ps_if (pw_or (pt_cmpR op_ne (pe_callB call_len_seq (by rfl) T.z_len (by decide +kernel) (pa_cons (pv 1) pa_nil)) (pe_glob (v := .int 3) (by rfl) T.c_SHORT_PAPER.choose_spec ⟨_, rfl⟩) (nomark _)) (pw_or (pt_not (pt_val (pe_call G_is_whole (hr.mono (by decide)) (by rfl) T.g_is_whole T.F_is_whole.kp T.b_is_whole .nil pass0 (pa_cons (pe_ix ix_tup (pv 1) pe_int (fun _ _ => rfl)) pa_nil)))) (pw_or1 (pt_not (pt_val (pe_call G_is_point_any (hr.mono (by decide)) (by rfl) T.g_is_point_any T.F_is_point_any.kp T.b_is_point_any .nil pass0 (pa_cons (pe_ix ix_tup (pv 1) pe_int (fun _ _ => rfl)) pa_nil))))))).pt
      (pss_one (ps_ret pe_bl))
      pss_nil)
    (pss_one (ps_ret (pe_cmpR (op_eqD (hu64 hr)) (pe_call G_times_power hr (by rfl) T.g_times_power T.F_times_power.kp T.b_times_power .nil pass0 (pa_cons (pe_ix ix_tup (pv 1) pe_int (fun _ _ => rfl)) (pa_cons (pe_ix ix_tup (pv 1) pe_int (fun _ _ => rfl)) (pa_cons (pe_op op_sub (pe_callB call_len_seq (by rfl) T.z_len (by decide +kernel) (pa_cons (pv 0) pa_nil)) pe_int) pa_nil)))) (pv 0) (nomark _)))))), ?_⟩
    have ll := VdA.len ds xs hd
    refine ⟨_, rfl, b, _, rfl, .inr (SqT.of hb), rfl, _, rfl, ?_⟩
    by_cases l2 : ds.length = 2
    case neg =>
      have q := q H (Sts.rf Ps H) tg
      rw [tpD_len l2] at q
      rw [decide_eq_false (fun z => l2 (by have := V.int.inj z; rw [List.length_cons] at this; omega))]
      exact iteT (iteT q)
    case pos =>
      rw [decide_eq_true (congrArg V.int (show (((x :: xs).length : Nat) : Int) = 3 by rw [List.length_cons, ll, l2]; rfl))]
      match ds, l2, hd, ok with
      | [d1, d2], _, .cons h1 (.cons h2 .nil), ok =>
        rename_i v1 v2
        refine iteF ⟨_, rfl, b, _, 1, _, rfl, rfl, SqT.of hb, atI_nat (j := 1) rfl, v1, d1, rfl, .inl h1, ⟨_, rfl, ?_⟩⟩
        cases e : wh d1 with
        | false =>
          have q := q H (Sts.rf Ps H) tg
          rw [tpD_wh e] at q
          exact iteT (iteT q)
        | true =>
          cases h1 with
          | int k hk =>
            refine iteF ⟨_, rfl, b, _, 2, _, rfl, rfl, SqT.of hb, atI_nat (j := 2) rfl, v2, d2, rfl, .inl h2, ok d2 (.tail _ (.head _)), tg, fun H1 s1 g1 => ⟨_, rfl, ?_⟩⟩
            cases e2 : pvD d2 with
            | false =>
              have q := q H1 s1 g1
              rw [show tpD F n [.int k, d2] = pwD F n k d2 from rfl, pwD_no e2] at q
              exact iteT q
            | true =>
              obtain ⟨u, v, rfl, pt⟩ := pvD_of e2
              cases h2 with
              | @tup c ys es ec hc =>
                cases hc with
                | cons c1 c2 =>
                  cases c1 with
                  | int u hu =>
                    cases c2 with
                    | cons c3 c4 =>
                      cases c3 with
                      | int v hv =>
                        cases c4
                        have hb1 := s1.tup tg hb
                        have ec1 := s1.tup tg ec
                        have ha1 := s1.tup tg ha
                        refine iteF ⟨_, rfl, b, _, 1, _, rfl, rfl, SqT.of hb1, atI_nat (j := 1) rfl, _, rfl, b, _, 2, _, rfl, rfl, SqT.of hb1, atI_nat (j := 2) rfl, _, rfl, a, _, rfl, .inr (SqT.of ha1), _, _, rfl, rfl, k, u, v, c, n, ?_, ec1, hk, hu, hv, n9, fun p H2 s2 f2 => ⟨_, rfl, ?_⟩⟩
                        · show [V.int k, V.ref c, V.int (((F.map V.int).length : Int) - 1)] = _
                          rw [show ((F.map V.int).length : Int) - 1 = n by rw [List.length_map, lF]; omega]
                        · refine eq_ints (SqT.of f2) (SqT.of (s2 _ _ ha1)) ?_
                          have q := q H2 (s1.trans (Sts.of s2)) (g1.same s2)
                          rw [show tpD F n [.int k, .tuple [.int u, .int v]] = (ptB u v && decide ((pow [v, -u] n).map (k * ·) = F)) from rfl, pt, Bool.true_and] at q
                          exact q
          | non => cases e
          | bl b => cases e
          | tup a b => cases e
          | str x => cases e
          | lst a b => cases e
def spEntOf : Sp := fun vs H Q _ => ∃ (a b : Addr) (F : List Int) (n : Nat) (x y : V) (d e : PyData), vs = [.ref a, .int 2, .ref b] ∧ H a = some (tp F) ∧ Bd F n (2 ^ 100) ∧ 2 ≤ n ∧ n ≤ 9 ∧ H b = some (.tup [x, y]) ∧ Vd BV H x d ∧ Vd BV H y e ∧ ∀ H', Same H H' → Q (.bl (enD F [d, e])) H'
theorem enD_fr {F : List Int} {d e : PyData} (h : frD 0 (((L 2 F F).length : Int) - 1) d = false) : enD F [d, e] = false := by
  unfold enD
  split
  · rename_i i e' q
    cases q
    have h : (decide (0 ≤ i) && decide (i ≤ ((L 2 F F).length : Int) - 1)) = false := h
    rw [← Bool.and_assoc, h]
    rfl
  · rfl
theorem enD_wh {F : List Int} {d e : PyData} (h : wh e = false) : enD F [d, e] = false := by
  unfold enD
  split
  · rename_i i e' q
    cases q
    cases h
  · rfl
theorem frD_of {lo hi : Int} : ∀ {d : PyData}, frD lo hi d = true → ∃ i, d = .int i ∧ lo ≤ i ∧ i ≤ hi := by
  intro d h
  unfold frD at h
  split at h
  · rename_i i
    rw [Bool.and_eq_true, decide_eq_true_eq, decide_eq_true_eq] at h
    exact ⟨i, rfl, h.1, h.2⟩
  · cases h
theorem wh_of : ∀ {d : PyData}, wh d = true → ∃ i, d = .int i := by
  intro d h
  unfold wh at h
  split at h
  · rename_i i
    exact ⟨i, rfl⟩
  · cases h
theorem ok_is_entry_of (T : Facts K mg) : FnOk P w K mg base CX0 4 T.f_is_entry_of T.fd_is_entry_of ["entries", "times", "value"] spEntOf := by
  have G_is_whole := ok_is_wholeV (P := P) (w := w) (base := base) T
  have G_is_from := ok_is_fromV (P := P) (w := w) (base := base) T
  have G_laid_in := ok_laid_in (P := P) (w := w) (base := base) T
  refine T.F_is_entry_of.ok sc_is_entry_of (fun vs H Q E h => ?_) (fun cdv A outer s H vs Q E hr h => ?_)
  · obtain ⟨a, b, F, n, x, y, d, e, rfl, _⟩ := h
    rfl
  · obtain ⟨a, b, F, n, x, y, d, e, rfl, ha, bF, n2, n9, hb, hx, hy, q⟩ := h
    refine ⟨_, (PSs.nox (pss_cons (ps_asg (pv 2) (pg_tup (by rfl) (pgs_cons (pg_name (i := 3) sc_is_entry_of.nd rfl (.inl rfl)) (pgs_cons (pg_name (i := 4) sc_is_entry_of.nd rfl (.inl rfl)) pgs_nil))))
    (pss_cons (ps_set (i := 5) sc_is_entry_of.nd rfl (.inl rfl) (pe_call G_laid_in hr (by rfl) T.g_laid_in T.F_laid_in.kp T.b_laid_in .nil pass0 (pa_cons (pv 0) (pa_cons (pv 0) (pa_cons (pv 1) pa_nil)))))
    (pss_one (ps_ret (pe_and (pe_call G_is_from (hr.mono (by decide)) (by rfl) T.g_is_from T.F_is_from.kp T.b_is_from .nil pass0 (pa_cons (pv 3) (pa_cons pe_int (pa_cons (pe_op op_sub (pe_callB call_len_seq (by rfl) T.z_len (by decide +kernel) (pa_cons (pv 5) pa_nil)) pe_int) pa_nil)))) (pe_and (pe_call G_is_whole (hr.mono (by decide)) (by rfl) T.g_is_whole T.F_is_whole.kp T.b_is_whole .nil pass0 (pa_cons (pv 4) pa_nil)) (pe_and (pe_cmpR op_ne (pv 4) pe_int (nomark _)) (pe_one (pe_cmpR op_eq (pe_ix ix_tup (pv 5) (pv 3) (fun _ _ => rfl)) (pv 4) (nomark _))))))))))), ?_⟩
    have lF := bF.len
    refine ⟨_, rfl, b, [x, y], rfl, SqT.of hb, rfl, x, [y], rfl, y, [], rfl, rfl, ?_⟩
    refine ⟨_, rfl, _, rfl, _, rfl, a, a, F, F, 2, rfl, ha, ha, ldOk9 bF n2 n9, fun p H1 s1 f1 => ?_⟩
    have q := q H1 s1
    refine ⟨_, rfl, _, rfl, p, _, rfl, .inr (SqT.of f1), _, _, rfl, rfl, x, d, 0, _, rfl, .inl (hx.same s1), _, rfl, ?_⟩
    rw [List.length_map]
    cases e1 : frD 0 (((L 2 F F).length : Int) - 1) d with
    | false =>
      rw [enD_fr e1] at q
      exact iteF q
    | true =>
      obtain ⟨i, rfl, i0, i1⟩ := frD_of e1
      refine iteT ⟨_, rfl, y, e, rfl, .inl (hy.same s1), _, rfl, ?_⟩
      cases e2 : wh e with
      | false =>
        rw [enD_wh e2] at q
        exact iteF q
      | true =>
        obtain ⟨j, rfl⟩ := wh_of e2
        cases hx
        cases hy
        have q : Q (.bl (decide (0 ≤ i) && (decide (i ≤ ((L 2 F F).length : Int) - 1) && (decide (j ≠ 0) && decide (co (L 2 F F) i.toNat = j))))) H1 := q
        rw [decide_eq_true i0, decide_eq_true i1, Bool.true_and, Bool.true_and] at q
        refine iteT ⟨_, rfl, rfl, _, rfl, ?_⟩
        by_cases j0 : j = 0
        · rw [decide_eq_false (fun z => z j0), Bool.false_and] at q
          rw [decide_eq_true (congrArg V.int j0)]
          exact iteF q
        · rw [decide_eq_true j0, Bool.true_and] at q
          rw [decide_eq_false (fun z => j0 (V.int.inj z))]
          have il : i.toNat < (L 2 F F).length := by omega
          refine iteT ⟨_, rfl, _, rfl, p, _, i, V.int (co (L 2 F F) i.toNat), rfl, rfl, SqT.of f1, ?_, _, rfl, rfl, ?_⟩
          · have := atI_nat (get_int il)
            rw [Int.toNat_of_nonneg i0] at this
            exact this
          · rw [show decide (V.int (co (L 2 F F) i.toNat) = V.int j) = decide (co (L 2 F F) i.toNat = j) from decide_eq_decide.mpr ⟨fun z => V.int.inj z, fun z => congrArg V.int z⟩]
            exact q
def spIsPP (C : Addr) (Ps : List Addr) : Sp := fun vs H Q _ => ∃ (a : Addr) (F : List Int) (n : Nat) (v : V) (d : PyData), vs = [.ref a, v] ∧ Fo C H a F ∧ Bd F n (2 ^ 100) ∧ n ≤ 9 ∧ Vx BV H v d ∧ NV d ∧ Tg Ps H ∧ ∀ H', Sts Ps H H' → Tg Ps H' → Q (.bl (ipp F n d)) H'
theorem wd_pow {d : PyData} {w : Str} (h : wd d = w) (h0 : w ≠ Str.ofString "") : ∃ r, d = .tuple (.str w :: r) := by
  unfold wd at h
  split at h
  · rename_i s r
    rw [h]
    exact ⟨r, rfl⟩
  · exact absurd h.symm h0
theorem ipp_no {F : List Int} {n : Nat} {d : PyData} (h1 : wd d ≠ sPow) (h2 : wd d ≠ sEnt) : ipp F n d = false := by
  unfold ipp
  split
  · rename_i s r
    rw [if_neg (show s ≠ sPow from h1), if_neg (show s ≠ sEnt from h2)]
  · rfl
theorem ipp_pow {F : List Int} {n : Nat} {r : List PyData} : ipp F n (.tuple (.str sPow :: r)) = tpD F n r := by
  show (if sPow = sPow then tpD F n r else if sPow = sEnt then decide (2 ≤ n) && enD F r else false) = _
  rw [if_pos rfl]
theorem ipp_ent {F : List Int} {n : Nat} {r : List PyData} : ipp F n (.tuple (.str sEnt :: r)) = (decide (2 ≤ n) && enD F r) := by
  show (if sEnt = sPow then tpD F n r else if sEnt = sEnt then decide (2 ≤ n) && enD F r else false) = _
  rw [if_neg (by decide +kernel), if_pos rfl]
theorem enD_len {F : List Int} : ∀ {ds : List PyData}, ds.length ≠ 2 → enD F ds = false
  | [], _ => rfl
  | [_], _ => by unfold enD; split <;> first | rfl | (rename_i e; cases e)
  | [_, _], h => absurd rfl h
  | _ :: _ :: _ :: _, _ => by unfold enD; split <;> first | rfl | (rename_i e; cases e)
theorem ok_is_power_paper (T : Facts K mg) (TB_first_of : TabB base mg T.c_first_of T.P_first_of) (hP : T.P_first_of ∈ Ps) : FnOk P w K mg base CX0 6 T.f_is_power_paper T.fd_is_power_paper ["form", "value"] (spIsPP T.C_Form Ps) := by
  have G_require_form := ok_require_form (P := P) (w := w) (base := base) T
  have G_Form_entries : FnOk P w K mg base CX0 1 T.f_Form_entries T.fd_Form_entries ["self"] (spEnt T.C_Form) := ok_Form_entries T
  have G_Form_degree := ok_Form_degree (P := P) (w := w) (base := base) T
  have G_paper_word := ok_paper_word (P := P) (w := w) (base := base) T
  have G_is_told_power := ok_is_told_power (P := P) (w := w) (base := base) T TB_first_of hP
  have G_is_entry_of := ok_is_entry_of (P := P) (w := w) (base := base) T
  refine T.F_is_power_paper.ok sc_is_power_paper (fun vs H Q E h => ?_) (fun cdv A outer s H vs Q E hr h => ?_)
  · obtain ⟨a, F, n, v, d, rfl, _⟩ := h
    rfl
  · obtain ⟨a, F, n, v, d, rfl, fa, bF, n9, hv, nv, tg, q⟩ := h
    refine ⟨_, (PSs.nox (pss_cons (ps_expr (pe_call G_require_form (hr.mono (by decide)) (by rfl) T.g_require_form T.F_require_form.kp T.b_require_form .nil pass0 (pa_cons (pv 0) pa_nil)))
    (pss_cons (ps_set (i := 2) sc_is_power_paper.nd rfl (.inl rfl) (pe_call G_paper_word (hr.mono (by decide)) (by rfl) T.g_paper_word T.F_paper_word.kp T.b_paper_word .nil pass0 (pa_cons (pv 1) pa_nil)))
    (pss_cons (ps_if (pt_cmpR op_eq (pv 2) (pe_glob (v := .str "power") (by rfl) T.c_POWER.choose_spec ⟨_, rfl⟩) (nomark _))
      (pss_one (ps_ret (pe_call G_is_told_power hr (by rfl) T.g_is_told_power T.F_is_told_power.kp T.b_is_told_power .nil pass0 (pa_cons (pe_prp (pv 0) T.oc_Form T.pr_Form_entries G_Form_entries T.b_Form_entries (hr.mono (by decide))) (pa_cons (pv 1) pa_nil)))))
      pss_nil)
    (pss_cons (ps_if (pw_or (pt_cmpR op_ne (pv 2) (pe_glob (v := .str "entry") (by rfl) T.c_ENTRY.choose_spec ⟨_, rfl⟩) (nomark _)) (pw_or (pt_cmpR op_ne (pe_callB call_len_seq (by rfl) T.z_len (by decide +kernel) (pa_cons (pv 1) pa_nil)) (pe_glob (v := .int 3) (by rfl) T.c_SHORT_PAPER.choose_spec ⟨_, rfl⟩) (nomark _)) (pw_or1 (pt_cmpR op_lt (pe_prp (pv 0) T.oc_Form T.pr_Form_degree G_Form_degree T.b_Form_degree (hr.mono (by decide))) pe_int (nomark _))))).pt
      (pss_one (ps_ret pe_bl))
      pss_nil)
    (pss_one (ps_ret (pe_call G_is_entry_of (hr.mono (by decide)) (by rfl) T.g_is_entry_of T.F_is_entry_of.kp T.b_is_entry_of .nil pass0 (pa_cons (pe_prp (pv 0) T.oc_Form T.pr_Form_entries G_Form_entries T.b_Form_entries (hr.mono (by decide))) (pa_cons pe_int (pa_cons (pe_slice sl_tupA (pv 1) (po_some pe_int) po_none) pa_nil))))))))))), ?_⟩
    have lF := bF.len
    refine ⟨_, rfl, a, F, rfl, fa, _, rfl, v, d, rfl, hv, nv, fun H1 s1 => ⟨_, rfl, rfl, _, rfl, ?_⟩⟩
    have fa1 := fa.same s1
    have g1 := tg.same s1
    by_cases c1 : wd d = sPow
    · rw [decide_eq_true (congrArg V.str c1)]
      obtain ⟨r, rfl⟩ := wd_pow c1 (by decide +kernel)
      rcases hv with hv | ⟨_, _, _, z⟩
      case inr => cases z
      cases hv with
      | @tup b xs _ eb hd =>
        cases hd with
        | cons h1 h2 =>
          refine iteT ⟨_, rfl, prop_ent fa1 fun t ht => ⟨_, rfl, t, b, F, n, _, _, .none, r, rfl, ht, lF, n9, s1 _ _ eb, h2.same s1, fun y hy => nv.it _ rfl y (.tail _ hy), g1, fun H2 s2 g2 => ?_⟩⟩
          have q := q H2 ((Sts.of s1).trans s2) g2
          rw [ipp_pow] at q
          exact q
    · rw [decide_eq_false (fun z => c1 (V.str.inj z))]
      refine iteF ⟨_, rfl, rfl, _, rfl, ?_⟩
      by_cases c2 : wd d = sEnt
      · rw [decide_eq_true (congrArg V.str c2)]
        obtain ⟨r, rfl⟩ := wd_pow c2 (by decide +kernel)
        rcases hv with hv | ⟨_, _, _, z⟩
        case inr => cases z
        cases hv with
        | @tup b xs _ eb hd =>
          cases hd with
          | cons h1 h2 =>
            rename_i v1 vs
            have lr := VdA.len r vs h2
            have eb1 := s1 _ _ eb
            refine iteF ⟨_, rfl, b, _, rfl, .inr (SqT.of eb1), rfl, _, rfl, ?_⟩
            by_cases l2 : r.length = 2
            case neg =>
              have q := q H1 (Sts.of s1) g1
              rw [ipp_ent, enD_len l2, Bool.and_false] at q
              rw [decide_eq_false (fun z => l2 (by have := V.int.inj z; rw [List.length_cons] at this; omega))]
              exact iteT (iteT q)
            case pos =>
              rw [decide_eq_true (congrArg V.int (show (((v1 :: vs).length : Nat) : Int) = 3 by rw [List.length_cons, lr, l2]; rfl))]
              refine iteF ⟨_, rfl, prop_deg fa1 ⟨_, _, rfl, rfl, _, rfl, ?_⟩⟩
              rw [show ((F.length : Nat) : Int) - 1 = (n : Int) by omega]
              by_cases n2 : 2 ≤ n
              case neg =>
                have q := q H1 (Sts.of s1) g1
                rw [ipp_ent, decide_eq_false n2, Bool.false_and] at q
                rw [decide_eq_true (show (n : Int) < 2 by omega)]
                exact iteT q
              case pos =>
                rw [decide_eq_false (show ¬ (n : Int) < 2 by omega)]
                match r, l2, h2 with
                | [d1, d2], _, .cons h3 (.cons h4 .nil) =>
                  rename_i v2 v3
                  refine iteF ⟨_, rfl, prop_ent fa1 fun t ht => ⟨_, rfl, ?_⟩⟩
                  refine ⟨1, rfl, b, [v1, v2, v3], rfl, SqT.of eb1, fun z => absurd z.1 (show ¬ HT.sIx 3 0 (some 1) = 0 by decide), fun _ p hp => ?_⟩
                  have s2 := same_upd0 (o := HO.tup (cutV [v1, v2, v3] (some 1) none)) hp
                  refine ⟨t, p, F, n, v2, v3, d1, d2, rfl, s2 _ _ ht, bF, n2, n9, upd_same, (h3.same s1).same s2, (h4.same s1).same s2, fun H3 s3 => ?_⟩
                  have s13 := s2.trans s3
                  have q := q H3 (Sts.of (s1.trans s13)) (g1.same s13)
                  rw [ipp_ent, decide_eq_true n2, Bool.true_and] at q
                  exact q
      · rw [decide_eq_false (fun z => c2 (V.str.inj z))]
        have q := q H1 (Sts.of s1) g1
        rw [ipp_no c1 c2] at q
        exact iteT (iteT q)
end
end K59

set_option Elab.async false
set_option linter.all false
set_option maxRecDepth 100000
set_option maxHeartbeats 2000000
set_option exponentiation.threshold 10000
/-! the law's judges -/
namespace K59
open PySem PySem.Spec PyProof.Rows L2 StX RZ MyR SlX OwnR OwnF EnumT SeqE GxR GenNx FDivQ
theorem prim_pt {u v : Int} (h : cont [u, v] = 1) : decide (prim [u, v] = [u, v]) = decide (0 < fo [u, v]) := by
  have ne : ¬ (u = 0 ∧ v = 0) := fun z => by
    rw [z.1, z.2] at h
    exact absurd h (by decide)
  have e : prim [u, v] = [u.fdiv (sg [u, v]), v.fdiv (sg [u, v])] := by
    have ep : part [u, v] = sg [u, v] := by
      unfold part
      rw [h]
      exact Int.one_mul _
    unfold prim
    rw [ep, if_neg (fun z => by rcases sg_cases [u, v] with c | c <;> rw [c] at z <;> cases z)]
    rfl
  rw [e, fo_pair]
  by_cases u0 : u = 0
  · subst u0
    rw [if_pos rfl]
    have v0 : v ≠ 0 := fun z => ne ⟨rfl, z⟩
    have s : sg [0, v] = if 0 < v then 1 else -1 := by
      show (if (0 : Int) = 0 then sg [v] else _) = _
      rw [if_pos rfl]
      show (if v = 0 then sg [] else if 0 < v then 1 else -1) = _
      rw [if_neg v0]
    rw [s]
    by_cases c : 0 < v
    · rw [if_pos c, decide_eq_true c, Int.fdiv_one, Int.fdiv_one]
      exact decide_eq_true rfl
    · rw [if_neg c, decide_eq_false c]
      refine decide_eq_false fun z => ?_
      have h2 := (List.cons.inj (List.cons.inj z).2).1
      rw [show v.fdiv (-1) = -v by rw [Int.fdiv_neg, Int.fdiv_one] <;> simp] at h2
      omega
  · rw [if_neg u0]
    have s : sg [u, v] = if 0 < u then 1 else -1 := by
      show (if u = 0 then sg [v] else if 0 < u then 1 else -1) = _
      rw [if_neg u0]
    rw [s]
    by_cases c : 0 < u
    · rw [if_pos c, decide_eq_true c, Int.fdiv_one, Int.fdiv_one]
      exact decide_eq_true rfl
    · rw [if_neg c, decide_eq_false c]
      refine decide_eq_false fun z => ?_
      have h2 := (List.cons.inj z).1
      rw [show u.fdiv (-1) = -u by rw [Int.fdiv_neg, Int.fdiv_one] <;> simp] at h2
      omega
theorem pvD_tup : ∀ {d : PyData}, tupB d = false → pvD d = false := by
  intro d h
  cases d <;> first | rfl | cases h
theorem pvD_lenD : ∀ {ds : List PyData}, ds.length ≠ 2 → pvD (.tuple ds) = false
  | [], _ => rfl
  | [_], _ => by unfold pvD; split <;> first | rfl | (rename_i e; cases e)
  | [_, _], h => absurd rfl h
  | _ :: _ :: _ :: _, _ => by unfold pvD; split <;> first | rfl | (rename_i e; cases e)
theorem pvD_w1 {d e : PyData} (h : wh d = false) : pvD (.tuple [d, e]) = false := by
  unfold pvD
  split
  · rename_i u v q
    cases q
    cases h
  · rfl
theorem pvD_w2 {d e : PyData} (h : wh e = false) : pvD (.tuple [d, e]) = false := by
  unfold pvD
  split
  · rename_i u v q
    cases q
    cases h
  · rfl
section
variable {P : Program} {w : World} {K : PySem.W.Frag} {mg : Str → Option Value} {base : Heap} {Ps : List Addr}
def spLPt : Sp := fun vs H Q _ => ∃ (v : V) (d : PyData), vs = [v] ∧ Vx BV H v d ∧ ∀ H', Same H H' → Q (.bl (pvD d)) H'
theorem ok_law_is_point (T : Facts K mg) : FnOk P w K mg base CX0 4 T.f_law_is_point T.fd_law_is_point ["_law_value"] spLPt := by
  have G_law_is_whole := ok_law_is_whole (P := P) (w := w) (base := base) T
  have G_law_gcd := ok_law_gcd (P := P) (w := w) (base := base) T
  have G_law_plain := ok_law_plain (P := P) (w := w) (base := base) T
  refine T.F_law_is_point.ok sc_law_is_point (fun vs H Q E h => ?_) (fun cdv A outer s H vs Q E hr h => ?_)
  · obtain ⟨v, d, rfl, _⟩ := h
    rfl
  · obtain ⟨v, d, rfl, hv, q⟩ := h
    refine ⟨_, (PSs.nox (pss_cons (ps_if (pw_or (pt_not (pt_val (pe_callB call_isi (by rfl) T.z_isinstance (by decide +kernel) (pa_cons (pv 0) (pa_cons (pe_bltn (v := .ty "tuple") (by rfl) T.z_tuple (by decide +kernel) rfl) pa_nil))))) (pw_or (pt_cmpR op_ne (pe_callB call_len_seq (by rfl) T.z_len (by decide +kernel) (pa_cons (pv 0) pa_nil)) pe_int (nomark _)) (pw_or (pt_not (pt_val (pe_call G_law_is_whole (hr.mono (by decide)) (by rfl) T.g_law_is_whole T.F_law_is_whole.kp T.b_law_is_whole .nil pass0 (pa_cons (pe_ix ix_tup (pv 0) pe_int (fun _ _ => rfl)) pa_nil)))) (pw_or1 (pt_not (pt_val (pe_call G_law_is_whole (hr.mono (by decide)) (by rfl) T.g_law_is_whole T.F_law_is_whole.kp T.b_law_is_whole .nil pass0 (pa_cons (pe_ix ix_tup (pv 0) pe_int (fun _ _ => rfl)) pa_nil)))))))).pt
      (pss_one (ps_ret pe_bl))
      pss_nil)
    (pss_one (ps_ret (pe_and (pe_cmpR op_eq (pe_call G_law_gcd (hr.mono (by decide)) (by rfl) T.g_law_gcd T.F_law_gcd.kp T.b_law_gcd .nil pass0 (pa_cons (pe_ix ix_tup (pv 0) pe_int (fun _ _ => rfl)) (pa_cons (pe_ix ix_tup (pv 0) pe_int (fun _ _ => rfl)) pa_nil))) pe_int (nomark _)) (pe_one (pe_cmpR (op_eqD (hu64 hr)) (pe_call G_law_plain hr (by rfl) T.g_law_plain T.F_law_plain.kp T.b_law_plain .nil pass0 (pa_cons (pv 0) pa_nil)) (pv 0) (nomark _)))))))), ?_⟩
    refine ⟨_, rfl, ?_⟩
    dsimp only [tCons, tC, tNil]
    refine isi_v hv (ki_tup d) ⟨_, rfl, ?_⟩
    cases e : tupB d with
    | false =>
      have q := q H (Same.rf H)
      rw [pvD_tup e] at q
      exact iteT (iteT q)
    | true =>
      rcases hv with hv | ⟨_, _, _, rfl⟩
      case inr => cases e
      cases hv with
      | @tup a xs ds ea hd =>
        have ll := VdA.len ds xs hd
        refine iteF ⟨_, rfl, a, _, rfl, .inr (SqT.of ea), rfl, _, rfl, ?_⟩
        by_cases l2 : ds.length = 2
        case neg =>
          have q := q H (Same.rf H)
          rw [pvD_lenD l2] at q
          rw [decide_eq_false (fun z => l2 (by have := V.int.inj z; omega))]
          exact iteT (iteT q)
        case pos =>
          rw [decide_eq_true (congrArg V.int (show ((xs.length : Nat) : Int) = 2 by rw [ll, l2]; rfl))]
          match ds, l2, hd with
          | [d1, d2], _, .cons h1 (.cons h2 .nil) =>
            rename_i v1 v2
            refine iteF ⟨_, rfl, a, _, 0, _, rfl, rfl, SqT.of ea, atI_nat (j := 0) rfl, v1, d1, rfl, .inl h1, ⟨_, rfl, ?_⟩⟩
            cases e1 : wh d1 with
            | false =>
              have q := q H (Same.rf H)
              rw [pvD_w1 e1] at q
              exact iteT (iteT q)
            | true =>
              refine iteF ⟨_, rfl, a, _, 1, _, rfl, rfl, SqT.of ea, atI_nat (j := 1) rfl, v2, d2, rfl, .inl h2, ⟨_, rfl, ?_⟩⟩
              cases e2 : wh d2 with
              | false =>
                have q := q H (Same.rf H)
                rw [pvD_w2 e2] at q
                exact iteT q
              | true =>
                obtain ⟨u, rfl⟩ := wh_of e1
                obtain ⟨v, rfl⟩ := wh_of e2
                cases h1 with
                | int u hu =>
                  cases h2 with
                  | int v hv =>
                    refine iteF ⟨_, rfl, a, _, 0, _, rfl, rfl, SqT.of ea, atI_nat (j := 0) rfl, _, rfl, a, _, 1, _, rfl, rfl, SqT.of ea, atI_nat (j := 1) rfl, u, v, rfl, rfl, _, rfl, ?_⟩
                    have q : ∀ H', Same H H' → Q (.bl (ptB u v)) H' := q
                    unfold ptB at q
                    by_cases g1 : Nat.gcd u.natAbs v.natAbs = 1
                    · rw [decide_eq_true (show V.int ((Nat.gcd u.natAbs v.natAbs : Nat) : Int) = V.int 1 by rw [g1]; rfl)]
                      rw [decide_eq_true g1] at q
                      have c1 : cont [u, v] = 1 := by rw [gl_cont, gl_two]; exact g1
                      refine iteT ⟨_, rfl, a, [u, v], rfl, ea, by show 2 ≤ 1000; decide, fun x hx => ?_, fun p H1 s1 f1 => ⟨_, rfl, eq_ints (ys := [u, v]) (SqT.of f1) (SqT.of (s1 _ _ ea)) ?_⟩⟩
                      · rcases List.mem_cons.mp hx with z | z
                        · rw [z]; exact Nat.lt_trans hu (by decide +kernel)
                        · rw [List.mem_singleton.mp z]; exact Nat.lt_trans hv (by decide +kernel)
                      · rw [prim_pt c1]
                        have q := q H1 s1
                        rw [Bool.true_and] at q
                        exact q
                    · rw [decide_eq_false (show ¬ V.int ((Nat.gcd u.natAbs v.natAbs : Nat) : Int) = V.int 1 from fun z => g1 (by have := V.int.inj z; omega))]
                      have q := q H (Same.rf H)
                      rw [decide_eq_false g1, Bool.false_and] at q
                      exact iteF q
      | non => cases e
      | bl b => cases e
      | int i h => cases e
      | str x => cases e
      | lst a b => cases e
theorem ipp_tup {F : List Int} {n : Nat} {d : PyData} (h : tupB d = false) : ipp F n d = false := by
  cases d <;> first | rfl | cases h
theorem ipp_len {F : List Int} {n : Nat} {ds : List PyData} (h : ds.length ≠ 3) : ipp F n (.tuple ds) = false := by
  unfold ipp
  split
  · rename_i s r e
    cases e
    rw [tpD_len (fun z => h (by rw [List.length_cons, z])), enD_len (fun z => h (by rw [List.length_cons, z])), Bool.and_false]
    by_cases c : s = sPow
    · rw [if_pos c]
    · rw [if_neg c]
      by_cases c : s = sEnt
      · rw [if_pos c]
      · rw [if_neg c]
  · rfl
theorem inV_no {w : Str} (h1 : w ≠ sPow) (h2 : w ≠ sEnt) : inV (V.str w) [V.str sPow, V.str sEnt] = false := by
  show (eqV (V.str sPow) (V.str w) || (eqV (V.str sEnt) (V.str w) || false)) = false
  have a : eqV (V.str sPow) (V.str w) = false := by
    show (sPow == w) = false
    exact beq_eq_false_iff_ne.mpr fun z => h1 z.symm
  have b : eqV (V.str sEnt) (V.str w) = false := by
    show (sEnt == w) = false
    exact beq_eq_false_iff_ne.mpr fun z => h2 z.symm
  rw [a, b]
  rfl
theorem enD_w1 {F : List Int} {d e : PyData} (h : wh d = false) : enD F [d, e] = false := by
  unfold enD
  split
  · rename_i i e' q
    cases q
    cases h
  · rfl
def spRightV : Sp := fun vs H Q _ => ∃ (a : Addr) (F : List Int) (n : Nat) (v : V) (d : PyData), vs = [.ref a, v] ∧ H a = some (tp F) ∧ Bd F n (2 ^ 100) ∧ n ≤ 9 ∧ Vx BV H v d ∧ NV d ∧ ∀ H', Same H H' → Q (.bl (ipp F n d)) H'
theorem ok_law_is_right (T : Facts K mg) : FnOk P w K mg base CX0 5 T.f_law_is_right T.fd_law_is_right ["_law_entries", "_law_value"] spRightV := by
  have G_law_is_whole := ok_law_is_whole (P := P) (w := w) (base := base) T
  have G_law_is_point := ok_law_is_point (P := P) (w := w) (base := base) T
  have G_law_scaled := ok_law_scaled (P := P) (w := w) (base := base) T
  have G_law_power := ok_law_power (P := P) (w := w) (base := base) T
  have G_law_line := ok_law_line (P := P) (w := w) (base := base) T
  have G_law_laid := ok_law_laid (P := P) (w := w) (base := base) T
  refine T.F_law_is_right.ok sc_law_is_right (fun vs H Q E h => ?_) (fun cdv A outer s H vs Q E hr h => ?_)
  · obtain ⟨a, F, n, v, d, rfl, _⟩ := h
    rfl
  · obtain ⟨a, F, n, v, d, rfl, ha, bF, n9, hv, nv, q⟩ := h
    refine ⟨_, (PSs.nox (pss_cons (ps_set (i := 2) sc_law_is_right.nd rfl (.inl rfl) (pe_op op_sub (pe_callB call_len_seq (by rfl) T.z_len (by decide +kernel) (pa_cons (pv 0) pa_nil)) pe_int))
    (pss_cons (ps_if (pw_or (pt_not (pt_val (pe_callB call_isi (by rfl) T.z_isinstance (by decide +kernel) (pa_cons (pv 1) (pa_cons (pe_bltn (v := .ty "tuple") (by rfl) T.z_tuple (by decide +kernel) rfl) pa_nil))))) (pw_or (pt_cmpR op_ne (pe_callB call_len_seq (by rfl) T.z_len (by decide +kernel) (pa_cons (pv 1) pa_nil)) pe_int (nomark _)) (pw_or1 (pt_cmpR op_notIn_seq (pe_ix ix_tup (pv 1) pe_int (fun _ _ => rfl)) (pe_tup (pa_cons pe_str (pa_cons pe_str pa_nil))) (by rfl))))).pt
      (pss_one (ps_ret pe_bl))
      pss_nil)
    (pss_cons (ps_if (pt_cmpR op_eq (pe_ix ix_tup (pv 1) pe_int (fun _ _ => rfl)) pe_str (nomark _))
      (pss_cons (ps_if (pw_or (pt_not (pt_val (pe_call G_law_is_whole (hr.mono (by decide)) (by rfl) T.g_law_is_whole T.F_law_is_whole.kp T.b_law_is_whole .nil pass0 (pa_cons (pe_ix ix_tup (pv 1) pe_int (fun _ _ => rfl)) pa_nil)))) (pw_or1 (pt_not (pt_val (pe_call G_law_is_point hr (by rfl) T.g_law_is_point T.F_law_is_point.kp T.b_law_is_point .nil pass0 (pa_cons (pe_ix ix_tup (pv 1) pe_int (fun _ _ => rfl)) pa_nil)))))).pt
        (pss_one (ps_ret pe_bl))
        pss_nil)
      (pss_one (ps_ret (pe_cmpR (op_eqD (hu64 hr)) (pe_call G_law_scaled (hr.mono (by decide)) (by rfl) T.g_law_scaled T.F_law_scaled.kp T.b_law_scaled .nil pass0 (pa_cons (pe_call G_law_power (hr.mono (by decide)) (by rfl) T.g_law_power T.F_law_power.kp T.b_law_power .nil pass0 (pa_cons (pe_call G_law_line (hr.mono (by decide)) (by rfl) T.g_law_line T.F_law_line.kp T.b_law_line .nil pass0 (pa_cons (pe_ix ix_tup (pv 1) pe_int (fun _ _ => rfl)) pa_nil)) (pa_cons (pv 2) pa_nil))) (pa_cons (pe_ix ix_tup (pv 1) pe_int (fun _ _ => rfl)) pa_nil))) (pv 0) (nomark _)))))
      pss_nil)
    (pss_cons (ps_if (pw_or (pt_cmpR op_lt (pv 2) pe_int (nomark _)) (pw_or (pt_not (pt_val (pe_call G_law_is_whole (hr.mono (by decide)) (by rfl) T.g_law_is_whole T.F_law_is_whole.kp T.b_law_is_whole .nil pass0 (pa_cons (pe_ix ix_tup (pv 1) pe_int (fun _ _ => rfl)) pa_nil)))) (pw_or1 (pt_not (pt_val (pe_call G_law_is_whole (hr.mono (by decide)) (by rfl) T.g_law_is_whole T.F_law_is_whole.kp T.b_law_is_whole .nil pass0 (pa_cons (pe_ix ix_tup (pv 1) pe_int (fun _ _ => rfl)) pa_nil))))))).pt
      (pss_one (ps_ret pe_bl))
      pss_nil)
    (pss_cons (ps_set (i := 3) sc_law_is_right.nd rfl (.inl rfl) (pe_call G_law_laid (hr.mono (by decide)) (by rfl) T.g_law_laid T.F_law_laid.kp T.b_law_laid .nil pass0 (pa_cons (pv 0) (pa_cons (pv 0) (pa_cons pe_int pa_nil)))))
    (pss_one (ps_ret (pe_and (pe_chain op_le op_lt pe_int (pe_ix ix_tup (pv 1) pe_int (fun _ _ => rfl)) (pe_callB call_len_seq (by rfl) T.z_len (by decide +kernel) (pa_cons (pv 3) pa_nil))) (pe_and (pe_cmpR op_eq (pe_ix ix_tup (pv 3) (pe_ix ix_tup (pv 1) pe_int (fun _ _ => rfl)) (fun _ _ => rfl)) (pe_ix ix_tup (pv 1) pe_int (fun _ _ => rfl)) (nomark _)) (pe_one (pe_cmpR op_ne (pe_ix ix_tup (pv 1) pe_int (fun _ _ => rfl)) pe_int (nomark _))))))))))))), ?_⟩
    have lF := bF.len
    refine ⟨_, rfl, a, _, rfl, .inr (SqT.of ha), _, _, rfl, rfl, ?_⟩
    dsimp only []
    rw [show ((F.map V.int).length : Int) - 1 = n by rw [List.length_map, lF]; omega]
    refine ⟨_, rfl, ?_⟩
    dsimp only [tCons, tC, tNil]
    refine isi_v hv (ki_tup d) ⟨_, rfl, ?_⟩
    cases e : tupB d with
    | false =>
      have q := q H (Same.rf H)
      rw [ipp_tup e] at q
      exact iteT (iteT q)
    | true =>
      rcases hv with hv | ⟨_, _, _, rfl⟩
      case inr => cases e
      cases hv with
      | @tup b xs ds eb hd =>
        have ll := VdA.len ds xs hd
        refine iteF ⟨_, rfl, b, _, rfl, .inr (SqT.of eb), rfl, _, rfl, ?_⟩
        by_cases l3 : ds.length = 3
        case neg =>
          have q := q H (Same.rf H)
          rw [ipp_len l3] at q
          rw [decide_eq_false (fun z => l3 (by have := V.int.inj z; omega))]
          exact iteT (iteT q)
        case pos =>
          rw [decide_eq_true (congrArg V.int (show ((xs.length : Nat) : Int) = 3 by rw [ll, l3]; rfl))]
          obtain ⟨w0, r, er⟩ := (nv.hd ds rfl).resolve_left (fun z => by rw [z] at l3; cases l3)
          subst er
          cases hd with
          | cons h0 hr' =>
            cases h0 with
            | str x =>
              match r, l3, hr' with
              | [d1, d2], _, .cons h1 (.cons h2 .nil) =>
                rename_i v1 v2
                refine iteF ⟨_, rfl, b, _, 0, _, rfl, rfl, SqT.of eb, atI_nat (j := 0) rfl, sz2, fun p0 hp0 => gen_upd H p0 (.tup [.str sPow, .str sEnt]) hp0 fun H1 s1 f1 => ?_⟩
                have eb1 := s1 _ _ eb
                have ha1 := s1 _ _ ha
                refine ⟨p0, _, rfl, .inr (SqT.of f1), rfl, rfl, ⟨_, rfl, ?_⟩⟩
                have q1 := fun H' s' => q H' s'
                by_cases c1 : w0 = sPow
                · subst c1
                  rw [show inV (V.str sPow) [V.str sPow, V.str sEnt] = true by decide +kernel]
                  refine iteF ⟨_, rfl, b, _, 0, _, rfl, rfl, SqT.of eb1, atI_nat (j := 0) rfl, rfl, _, rfl, ?_⟩
                  rw [decide_eq_true (rfl : V.str sPow = V.str sPow)]
                  refine iteT ⟨_, rfl, b, _, 1, _, rfl, rfl, SqT.of eb1, atI_nat (j := 1) rfl, v1, d1, rfl, .inl (h1.same s1), ⟨_, rfl, ?_⟩⟩
                  cases e1 : wh d1 with
                  | false =>
                    have q := q H1 s1
                    rw [ipp_pow, tpD_wh e1] at q
                    exact iteT (iteT q)
                  | true =>
                    obtain ⟨k, rfl⟩ := wh_of e1
                    cases h1 with
                    | int k hk =>
                      refine iteF ⟨_, rfl, b, _, 2, _, rfl, rfl, SqT.of eb1, atI_nat (j := 2) rfl, v2, d2, rfl, .inl (h2.same s1), fun H2 s2 => ⟨_, rfl, ?_⟩⟩
                      cases e2 : pvD d2 with
                      | false =>
                        have q := q H2 (s1.trans s2)
                        rw [ipp_pow, show tpD F n [.int k, d2] = pwD F n k d2 from rfl, pwD_no e2] at q
                        exact iteT q
                      | true =>
                        obtain ⟨u, v, rfl, pt⟩ := pvD_of e2
                        cases h2 with
                        | @tup c ys es ec hc =>
                          cases hc with
                          | cons c1 c2 =>
                            cases c1 with
                            | int u hu =>
                              cases c2 with
                              | cons c3 c4 =>
                                cases c3 with
                                | int v hv =>
                                  cases c4
                                  obtain ⟨sl, sp⟩ := pw_sm hu hv n9
                                  obtain ⟨n1, n2, n3⟩ := sp n (Nat.le_refl n)
                                  have s12 := s1.trans s2
                                  have eb2 := s12 _ _ eb
                                  refine iteF ⟨_, rfl, b, _, 2, _, rfl, rfl, SqT.of eb2, atI_nat (j := 2) rfl, c, u, v, rfl, s12 _ _ ec, fun p hp => gen_upd H2 p (tp [v, 0 - u]) hp fun H3 s3 f3 => ?_⟩
                                  rw [show (0 : Int) - u = -u by omega] at f3
                                  have s13 := s12.trans s3
                                  refine ⟨_, rfl, p, [v, -u], n, rfl, f3, by simp, by show 2 ≤ 100; decide, sl, fun i hi => sp i (by omega), by omega, fun m H4 s4 f4 => ?_⟩
                                  have s14 := s13.trans s4
                                  refine ⟨_, rfl, b, _, 1, _, rfl, rfl, SqT.of (s14 _ _ eb), atI_nat (j := 1) rfl, m, _, k, rfl, f4, n2, n3, Nat.lt_trans hk (by decide +kernel), fun p2 H5 s5 _ f5 => ⟨_, rfl, ?_⟩⟩
                                  refine eq_ints (SqT.of f5) (SqT.of ((s14.trans s5) _ _ ha)) ?_
                                  have q := q H5 (s14.trans s5)
                                  rw [ipp_pow, show tpD F n [.int k, .tuple [.int u, .int v]] = (ptB u v && decide ((pow [v, -u] n).map (k * ·) = F)) from rfl, pt, Bool.true_and] at q
                                  exact q
                · by_cases c2 : w0 = sEnt
                  · subst c2
                    rw [show inV (V.str sEnt) [V.str sPow, V.str sEnt] = true by decide +kernel]
                    refine iteF ⟨_, rfl, b, _, 0, _, rfl, rfl, SqT.of eb1, atI_nat (j := 0) rfl, rfl, _, rfl, ?_⟩
                    rw [decide_eq_false (show ¬ V.str sEnt = V.str sPow by decide +kernel)]
                    refine iteF ⟨_, rfl, _, _, rfl, rfl, _, rfl, ?_⟩
                    by_cases n2 : 2 ≤ n
                    case neg =>
                      have q := q H1 s1
                      rw [ipp_ent, decide_eq_false n2, Bool.false_and] at q
                      rw [decide_eq_true (show (n : Int) < 2 by omega)]
                      exact iteT (iteT q)
                    case pos =>
                      rw [decide_eq_false (show ¬ (n : Int) < 2 by omega)]
                      have q : ∀ H', Same H H' → Q (.bl (enD F [d1, d2])) H' := fun H' s' => by
                        have q := q H' s'
                        rw [ipp_ent, decide_eq_true n2, Bool.true_and] at q
                        exact q
                      refine iteF ⟨_, rfl, b, _, 1, _, rfl, rfl, SqT.of eb1, atI_nat (j := 1) rfl, v1, d1, rfl, .inl (h1.same s1), ⟨_, rfl, ?_⟩⟩
                      cases e1 : wh d1 with
                      | false =>
                        have q := q H1 s1
                        rw [show enD F [d1, d2] = false from enD_w1 e1] at q
                        exact iteT (iteT q)
                      | true =>
                        obtain ⟨i, rfl⟩ := wh_of e1
                        cases h1
                        refine iteF ⟨_, rfl, b, _, 2, _, rfl, rfl, SqT.of eb1, atI_nat (j := 2) rfl, v2, d2, rfl, .inl (h2.same s1), ⟨_, rfl, ?_⟩⟩
                        cases e2 : wh d2 with
                        | false =>
                          have q := q H1 s1
                          rw [enD_wh e2] at q
                          exact iteT q
                        | true =>
                          obtain ⟨j, rfl⟩ := wh_of e2
                          cases h2
                          refine iteF ⟨_, rfl, _, rfl, a, a, F, F, 2, rfl, ha1, ha1, ldOk9 bF n2 n9, fun p H2 s2 f2 => ?_⟩
                          have eb2 := s2 _ _ eb1
                          have q : Q (.bl (decide (0 ≤ i) && (decide (i ≤ ((L 2 F F).length : Int) - 1) && (decide (j ≠ 0) && decide (co (L 2 F F) i.toNat = j))))) H2 := q H2 (s1.trans s2)
                          refine ⟨_, rfl, b, _, 1, _, rfl, rfl, SqT.of eb2, atI_nat (j := 1) rfl, ?_⟩
                          refine ⟨_, _, rfl, rfl, _, rfl, ?_⟩
                          by_cases i0 : 0 ≤ i
                          case neg =>
                            rw [decide_eq_false i0, Bool.false_and] at q
                            rw [decide_eq_false i0]
                            exact iteF ⟨_, rfl, iteF q⟩
                          case pos =>
                            rw [decide_eq_true i0, Bool.true_and] at q
                            rw [decide_eq_true i0]
                            refine iteT ⟨_, rfl, p, _, rfl, .inr (SqT.of f2), _, _, rfl, rfl, _, rfl, ?_⟩
                            rw [List.length_map]
                            by_cases i1 : i ≤ ((L 2 F F).length : Int) - 1
                            case neg =>
                              rw [decide_eq_false i1, Bool.false_and] at q
                              rw [decide_eq_false (show ¬ i < ((L 2 F F).length : Int) by omega)]
                              exact iteF q
                            case pos =>
                              rw [decide_eq_true i1, Bool.true_and] at q
                              rw [decide_eq_true (show i < ((L 2 F F).length : Int) by omega)]
                              have il : i.toNat < (L 2 F F).length := by omega
                              refine iteT ⟨_, rfl, _, rfl, b, _, 1, _, rfl, rfl, SqT.of eb2, atI_nat (j := 1) rfl, p, _, i, V.int (co (L 2 F F) i.toNat), rfl, rfl, SqT.of f2, ?_, _, rfl, b, _, 2, _, rfl, rfl, SqT.of eb2, atI_nat (j := 2) rfl, rfl, _, rfl, ?_⟩
                              · have := atI_nat (get_int il)
                                rw [Int.toNat_of_nonneg i0] at this
                                exact this
                              · by_cases ce : co (L 2 F F) i.toNat = j
                                · rw [decide_eq_true ce, Bool.and_true] at q
                                  rw [decide_eq_true (congrArg V.int ce)]
                                  refine iteT ⟨_, rfl, b, _, 2, _, rfl, rfl, SqT.of eb2, atI_nat (j := 2) rfl, rfl, ?_⟩
                                  rw [show (!decide (V.int j = V.int 0)) = decide (j ≠ 0) by
                                    by_cases z : j = 0
                                    · rw [decide_eq_true (congrArg V.int z), decide_eq_false (fun y => y z)]; rfl
                                    · rw [decide_eq_false (fun y => z (V.int.inj y)), decide_eq_true z]; rfl]
                                  exact q
                                · rw [decide_eq_false ce, Bool.and_false] at q
                                  rw [decide_eq_false (fun y => ce (V.int.inj y))]
                                  exact iteF q
                  · rw [show inV (V.str w0) [V.str sPow, V.str sEnt] = false from inV_no c1 c2]
                    have q := q H1 s1
                    rw [ipp_no (d := .tuple [.str w0, d1, d2]) c1 c2] at q
                    exact iteT q
      | non => cases e
      | bl b => cases e
      | int i h => cases e
      | str x => cases e
      | lst a b => cases e
end
end K59

set_option Elab.async false
set_option linter.all false
set_option maxRecDepth 100000
set_option maxHeartbeats 4000000
set_option exponentiation.threshold 10000
/-! values near papers -/
namespace K59
open PySem PySem.Spec PyProof.Rows L2 StX RZ MyR SlX OwnR OwnF EnumT SeqE GxR GenNx FDivQ
/-- values that are judged -/
def VL (H : Hp) : List V → List PyData → Prop
  | [], [] => True
  | v :: vs, d :: ds => (Vx BV H v d ∧ NV d) ∧ VL H vs ds
  | _, _ => False
theorem VL.same {H H' : Hp} (s : Same H H') : ∀ {vs : List V} {ds : List PyData}, VL H vs ds → VL H' vs ds
  | [], [], _ => True.intro
  | _ :: _, _ :: _, h => ⟨⟨h.1.1.same s, h.1.2⟩, VL.same s h.2⟩
theorem VL.sts {H H' : Hp} {Ps : List Addr} (s : Sts Ps H H') (g : Tg Ps H) : ∀ {vs : List V} {ds : List PyData}, VL H vs ds → VL H' vs ds
  | [], [], _ => True.intro
  | _ :: _, _ :: _, h => ⟨⟨h.1.1.sts s g, h.1.2⟩, VL.sts s g h.2⟩
theorem VL.app {H : Hp} {vs' : List V} {ds' : List PyData} (k : VL H vs' ds') : ∀ {vs : List V} {ds : List PyData}, VL H vs ds → VL H (vs ++ vs') (ds ++ ds')
  | [], [], _ => k
  | _ :: _, _ :: _, h => ⟨h.1, VL.app k h.2⟩
theorem VL.len {H : Hp} : ∀ {vs : List V} {ds : List PyData}, VL H vs ds → vs.length = ds.length
  | [], [], _ => rfl
  | _ :: _, _ :: _, h => congrArg (· + 1) (VL.len h.2)
theorem VL.get {H : Hp} : ∀ {vs : List V} {ds : List PyData} {i : Nat} {v : V}, VL H vs ds → vs[i]? = some v → ∃ d, ds[i]? = some d ∧ Vx BV H v d ∧ NV d
  | [], [], i, v, _, e => by cases e
  | x :: _, d :: _, 0, v, h, e => by cases e; exact ⟨d, rfl, h.1.1, h.1.2⟩
  | _ :: vs, _ :: ds, i + 1, v, h, e => VL.get (i := i) h.2 e
theorem VL.one {H : Hp} {v : V} {d : PyData} (h : Vx BV H v d) (n : NV d) : VL H [v] [d] := ⟨⟨h, n⟩, True.intro⟩
theorem VL.snoc {H H' : Hp} {vs : List V} {ds : List PyData} {v : V} {d : PyData} (k : VL H vs ds) (s : Same H H') (h : Vx BV H' v d) (n : NV d) : VL H' (vs ++ [v]) (ds ++ [d]) := VL.app (VL.one h n) (k.same s)
theorem nv_no {d : PyData} (h : tupB d = false) : NV d := by
  have no : ∀ ds, d ≠ .tuple ds := fun ds e => by rw [e] at h; cases h
  exact ⟨fun ds e => absurd e (no ds), fun ds e => absurd e (no ds), fun ds e => absurd e (no ds), fun ds e => absurd e (no ds)⟩
theorem nv_tup {ds : List PyData} (l : ds.length ≤ 10) (it : ∀ x ∈ ds, Ok1 x) (hd : ds = [] ∨ ∃ s r, ds = .str s :: r) (sh : SeqAt.shaped (.tuple ds) = true) : NV (.tuple ds) :=
  ⟨fun es e => by cases e; exact Nat.le_trans l (by decide), fun es e => by cases e; exact it, fun es e => by cases e; exact hd, fun es e => by cases e; exact sh⟩
theorem ok1_no {d : PyData} (h : tupB d = false) : Ok1 d := (nv_no h).ok
theorem ok1_two (a b : PyData) : Ok1 (.tuple [a, b]) := fun ds e => by cases e; show 2 ≤ 1000; decide
/-- what papers hold -/
inductive Pd : PyData → Prop
  | int (i : Int) : Pd (.int i)
  | bl (b : Bool) : Pd (.bool b)
  | pt (u v : Int) : Pd (.tuple [.int u, .int v])
  | ls (u v : Int) : Pd (.list [.int u, .int v])
theorem Pd.ok {d : PyData} (h : Pd d) : Ok1 d := by
  cases h with
  | int i => exact ok1_no rfl
  | bl b => exact ok1_no rfl
  | pt u v => exact ok1_two _ _
  | ls u v => exact ok1_no rfl
theorem nv3 {w : Str} {d e : PyData} (hw : SeqAt.shaped (.str w) = true) (hd : Pd d) (he : Pd e) : NV (.tuple [.str w, d, e]) := by
  refine nv_tup (by show 3 ≤ 10; decide) (fun x hx => ?_) (.inr ⟨w, _, rfl⟩) ?_
  · rcases List.mem_cons.mp hx with z | hx
    · rw [z]; exact ok1_no rfl
    rcases List.mem_cons.mp hx with z | hx
    · rw [z]; exact hd.ok
    · rw [List.mem_singleton.mp hx]; exact he.ok
  · have hs : PyData.canLay0 (.str w) = true := by
      unfold SeqAt.shaped at hw
      exact (Bool.and_eq_true _ _ ▸ hw).1
    unfold SeqAt.shaped
    rw [show PyData.canLay0 (.tuple [.str w, d, e]) = (PyData.canLay0 (.str w) && (PyData.canLay0 d && (PyData.canLay0 e && true))) from rfl, hs]
    cases hd <;> cases he <;> rfl
section
variable {P : Program} {w : World} {K : PySem.W.Frag} {mg : Str → Option Value} {base : Heap} {Ps : List Addr}
/-- a paper -/
structure Pap (H : Hp) (p : Addr) (w0 : Str) (v1 v2 : V) (d1 d2 : PyData) : Prop where
  at_ : H p = some (.tup [.str w0, v1, v2])
  h1 : Vd BV H v1 d1
  h2 : Vd BV H v2 d2
  k1 : Pd d1
  k2 : Pd d2
  sh : SeqAt.shaped (.str w0) = true
theorem Pap.same {H H' : Hp} {p : Addr} {w0 : Str} {v1 v2 : V} {d1 d2 : PyData} (h : Pap H p w0 v1 v2 d1 d2) (s : Same H H') : Pap H' p w0 v1 v2 d1 d2 := ⟨s _ _ h.at_, h.h1.same s, h.h2.same s, h.k1, h.k2, h.sh⟩
theorem Pap.vx {H : Hp} {p : Addr} {w0 : Str} {v1 v2 : V} {d1 d2 : PyData} (h : Pap H p w0 v1 v2 d1 d2) : VL H [.ref p] [.tuple [.str w0, d1, d2]] := VL.one (.inl (.tup h.at_ (.cons (.str _) (.cons h.h1 (.cons h.h2 .nil))))) (nv3 h.sh h.k1 h.k2)
theorem shPow : SeqAt.shaped (.str sPow) = true := by decide +kernel
theorem shEnt : SeqAt.shaped (.str sEnt) = true := by decide +kernel
theorem ne_dice {H : Hp} {d p : Addr} {xs : List V} (hd : Dc H d) (h : H p = some (.tup xs)) : p ≠ d := fun z => by
  obtain ⟨x, y, q, e⟩ := hd
  rw [z, e] at h
  cases h
theorem PP.pap {H : Hp} {p : Addr} {F : List Int} {n : Nat} (h : PP H p F n) (bF : Bd F n (2 ^ 100)) (n9 : n ≤ 9) : ∃ w0 v1 v2 d1 d2, Pap H p w0 v1 v2 d1 d2 ∧ ((w0 = sPow ∧ ∃ t c u v, v1 = .int c ∧ d1 = .int c ∧ v2 = .ref t ∧ d2 = .tuple [.int u, .int v] ∧ H t = some (tp [u, v]) ∧ c.natAbs ≤ 2 ^ 100 ∧ u.natAbs ≤ 2 ^ 104 ∧ v.natAbs ≤ 2 ^ 104) ∨
    (w0 = sEnt ∧ ∃ i e : Int, v1 = .int i ∧ d1 = .int i ∧ v2 = .int e ∧ d2 = .int e ∧ 0 ≤ i ∧ i ≤ 100 ∧ e.natAbs ≤ 2 ^ 216)) := by
  rcases h with ⟨n2, nz, h⟩ | ⟨_, t, c, u, v, h, ht, pw, cb, ub, vb⟩
  · have B := hes_bd bF n2 n9
    have fl := fi_lt nz
    have lB := B.len
    have eb : (co (L 2 F F) (fi (L 2 F F))).natAbs ≤ 2 ^ 216 := B.mem _ (by rw [co_get fl]; exact List.getElem_mem _)
    have ib : ((fi (L 2 F F) : Nat) : Int).natAbs < BV := Nat.lt_of_le_of_lt (show ((fi (L 2 F F) : Nat) : Int).natAbs ≤ 100 by omega) (by decide +kernel)
    exact ⟨sEnt, _, _, _, _, ⟨h, .int _ ib, .int _ (Nat.lt_of_le_of_lt eb (by decide +kernel)), .int _, .int _, shEnt⟩, .inr ⟨rfl, _, _, rfl, rfl, rfl, rfl, by omega, by omega, eb⟩⟩
  · exact ⟨sPow, _, _, _, _, ⟨h, .int c (Nat.lt_of_le_of_lt cb (by decide +kernel)), .tup ht (.cons (.int u (Nat.lt_of_le_of_lt ub (by decide +kernel))) (.cons (.int v (Nat.lt_of_le_of_lt vb (by decide +kernel))) .nil)), .int _, .pt _ _, shPow⟩, .inl ⟨rfl, t, c, u, v, rfl, rfl, rfl, rfl, ht, cb, ub, vb⟩⟩
theorem Vd.sx {B : Nat} {a : Addr} {H H' : Hp} {v : V} {d : PyData} (h : Vd B H v d) (hd : Dc H a) (s : Sx a H H') (l : ∀ x : Addr, v = .ref x → ∀ ys, H x ≠ some (.lst ys)) (k : Pd d) : Vd B H' v d := by
  cases k with
  | int i => cases h with | int i h => exact .int i h
  | bl b => cases h; exact .bl b
  | pt u v =>
    cases h with
    | tup e t =>
      cases t with
      | cons a b =>
        cases a with
        | int _ ha =>
          cases b with
          | cons c d =>
            cases c with
            | int _ hc =>
              cases d
              exact .tup (s _ _ (ne_dice hd e) e) (.cons (.int _ ha) (.cons (.int _ hc) .nil))
  | ls u v =>
    cases h with
    | lst e t => exact absurd e (l _ rfl _)
theorem cat_v {K : PySem.W.Frag} {a b : Addr} {H : Hp} {xs ys : List V} {Q : VK} (ha : H a = some (.tup xs)) (hb : H b = some (.tup ys)) (nx : xs ≠ []) (ny : ys ≠ []) (hl : xs.length + ys.length ≤ 1000) (q : ∀ p, H p = none → Q (.ref p) (upd H p (.tup (xs ++ ys)))) : rCatA K (.ref a) (.ref b) H Q := by
  refine ⟨a, b, _, _, rfl, rfl, SqT.of ha, SqT.of hb, ?_, fun e => absurd e nx, fun _ e => absurd e ny, fun _ _ p hp => q p hp⟩
  have : 1000 ≤ sizeLine := by decide
  omega
theorem cut2_v {K : PySem.W.Frag} {a : Addr} {H : Hp} {x y z : V} {Q : VK} (ha : H a = some (.tup [x, y, z])) (q : ∀ p, H p = none → Q (.ref p) (upd H p (.tup [x, y]))) : rSlA K (.ref a) none (some 2) H Q :=
  ⟨a, [x, y, z], rfl, SqT.of ha, fun e => absurd e.2 (show ¬ HT.sIx 3 3 (some 2) = 3 by decide), fun _ p hp => q p hp⟩
theorem drop1_v {K : PySem.W.Frag} {a : Addr} {H : Hp} {x y z : V} {Q : VK} (ha : H a = some (.tup [x, y, z])) (q : ∀ p, H p = none → Q (.ref p) (upd H p (.tup [y, z]))) : rSlA K (.ref a) (some 1) none H Q :=
  ⟨a, [x, y, z], rfl, SqT.of ha, fun e => absurd e.1 (show ¬ HT.sIx 3 0 (some 1) = 0 by decide), fun _ p hp => q p hp⟩
abbrev sLine : Str := Str.ofString "line"
theorem shLine : SeqAt.shaped (.str sLine) = true := by decide +kernel
theorem sh_tup {w : Str} {ds : List PyData} (hw : SeqAt.shaped (.str w) = true) (h : PyData.canLayAll0 ds = true) (h2 : PyData.depthAll ds ≤ 5) : SeqAt.shaped (.tuple (.str w :: ds)) = true := by
  have hs : PyData.canLay0 (.str w) = true := by
    unfold SeqAt.shaped at hw
    exact (Bool.and_eq_true _ _ ▸ hw).1
  unfold SeqAt.shaped
  rw [show PyData.canLay0 (.tuple (.str w :: ds)) = (PyData.canLay0 (.str w) && PyData.canLayAll0 ds) from rfl, hs, h]
  rw [show PyData.depth (.tuple (.str w :: ds)) = max 0 (PyData.depthAll ds) + 1 from rfl, decide_eq_true (show max 0 (PyData.depthAll ds) + 1 ≤ 64 by omega)]
  rfl
theorem Pd.lay {d : PyData} (h : Pd d) : PyData.canLay0 d = true ∧ PyData.depth d ≤ 1 := by
  cases h <;> refine ⟨rfl, ?_⟩ <;> first | exact (by decide : 0 ≤ 1) | exact (by decide : 1 ≤ 1)
theorem v3x {H : Hp} {p : Addr} {w : Str} {v1 v2 : V} {d1 d2 : PyData} (h : H p = some (.tup [.str w, v1, v2])) (h1 : Vd BV H v1 d1) (h2 : Vd BV H v2 d2) : Vx BV H (.ref p) (.tuple [.str w, d1, d2]) := .inl (.tup h (.cons (.str _) (.cons h1 (.cons h2 .nil))))
theorem vpt {H : Hp} {p : Addr} {u v : Int} (h : H p = some (tp [u, v])) (hu : u.natAbs < BV) (hv : v.natAbs < BV) : Vd BV H (.ref p) (.tuple [.int u, .int v]) := .tup h (.cons (.int u hu) (.cons (.int v hv) .nil))
def spNearV (K : PySem.W.Frag) : Sp := fun vs H Q _ => ∃ (d p : Addr) (F : List Int) (n : Nat), vs = [.ref d, .ref p] ∧ Dc H d ∧ PP H p F n ∧ Bd F n (2 ^ 100) ∧ n ≤ 9 ∧
  ∀ l vs ds H', Sx d H H' → Dc H' d → H' l = some (.lst vs) → VL H' vs ds → vs.length ≤ 100 → Q (.ref l) H'
theorem ok_law_near_values (T : Facts K mg) : FnOk P w K mg base CX0 5 T.f_law_near_values T.fd_law_near_values ["_law_dice_here", "_law_paper"] (spNearV K) := by
  have G_law_point := ok_law_point (P := P) (w := w) (base := base) T
  refine T.F_law_near_values.ok sc_law_near_values (fun vs H Q E h => ?_) (fun cdv A outer s H vs Q E hr h => ?_)
  · obtain ⟨d, p, F, n, rfl, _⟩ := h
    rfl
  · obtain ⟨d, p, F, n, rfl, hd, pp, bF, n9, q⟩ := h
    refine ⟨_, (PSs.nox (pss_cons (ps_set (i := 2) sc_law_near_values.nd rfl (.inl rfl) (pe_call G_law_point hr (by rfl) T.g_law_point T.F_law_point.kp T.b_law_point .nil pass0 (pa_cons (pv 0) (pa_cons pe_int pa_nil))))
    (pss_cons (ps_set (i := 3) sc_law_near_values.nd rfl (.inl rfl) (pe_lst (pa_cons (pv 1) (pa_cons (pe_callTy call_list_of (by rfl) T.z_list (by decide +kernel) (pa_cons (pv 1) pa_nil)) (pa_cons (pe_op op_catA (pv 1) (pe_tup (pa_cons pe_int pa_nil))) (pa_cons (pe_slice sl_tupA (pv 1) po_none (po_some pe_int)) (pa_cons pe_non (pa_cons pe_str (pa_cons (pe_tup pa_nil) (pa_cons pe_dnewK (pa_cons (pe_tup (pa_cons pe_str pa_nil)) (pa_cons (pe_op op_catA (pe_tup (pa_cons pe_str pa_nil)) (pe_slice sl_tupA (pv 1) (po_some pe_int) po_none)) pa_nil))))))))))))
    (pss_cons (ps_set (i := 3) sc_law_near_values.nd rfl (.inl rfl) (pe_op op_cat (pv 3) (pe_lst (pa_cons (pe_tup (pa_cons pe_str (pa_cons pe_int (pa_cons (pv 2) pa_nil)))) (pa_cons (pe_tup (pa_cons pe_str (pa_cons pe_int (pa_cons (pv 2) pa_nil)))) (pa_cons (pe_tup (pa_cons pe_str (pa_cons (pe_un un_neg pe_int) (pa_cons (pe_tup (pa_cons pe_int (pa_cons pe_int pa_nil))) pa_nil)))) (pa_cons (pe_tup (pa_cons pe_str (pa_cons pe_int (pa_cons pe_int pa_nil)))) (pa_cons (pe_tup (pa_cons pe_str (pa_cons pe_int (pa_cons pe_int pa_nil)))) (pa_cons (pe_tup (pa_cons pe_str (pa_cons (pe_op op_pow pe_int pe_int) (pa_cons pe_int pa_nil)))) pa_nil)))))))))
    (pss_cons (ps_set (i := 3) sc_law_near_values.nd rfl (.inl rfl) (pe_op op_cat (pv 3) (pe_lst (pa_cons (pe_tup (pa_cons pe_str (pa_cons (pe_ix ix_tup (pv 1) pe_int (fun _ _ => rfl)) (pa_cons (pv 2) pa_nil)))) (pa_cons (pe_tup (pa_cons pe_str (pa_cons (pe_ix ix_tup (pv 1) pe_int (fun _ _ => rfl)) (pa_cons (pe_ix ix_tup (pv 1) pe_int (fun _ _ => rfl)) pa_nil)))) (pa_cons (pe_tup (pa_cons (pe_ix ix_tup (pv 1) pe_int (fun _ _ => rfl)) (pa_cons (pe_ix ix_tup (pv 1) pe_int (fun _ _ => rfl)) (pa_cons (pe_ix ix_tup (pv 1) pe_int (fun _ _ => rfl)) pa_nil)))) (pa_cons (pe_tup (pa_cons pe_str (pa_cons pe_bl (pa_cons (pe_tup (pa_cons pe_int (pa_cons pe_int pa_nil))) pa_nil)))) pa_nil)))))))
    (pss_cons (ps_if (pt_cmpR op_eq (pe_ix ix_tup (pv 1) pe_int (fun _ _ => rfl)) pe_str (nomark _))
      (pss_cons (ps_asg (pe_ix ix_tup (pv 1) pe_int (fun _ _ => rfl)) (pg_tup (by rfl) (pgs_cons (pg_name (i := 4) sc_law_near_values.nd rfl (.inl rfl)) (pgs_cons (pg_name (i := 5) sc_law_near_values.nd rfl (.inl rfl)) pgs_nil))))
      (pss_cons (ps_set (i := 3) sc_law_near_values.nd rfl (.inl rfl) (pe_op op_cat (pv 3) (pe_lst (pa_cons (pe_tup (pa_cons pe_str (pa_cons (pe_op op_sub pe_int (pe_ix ix_tup (pv 1) pe_int (fun _ _ => rfl))) (pa_cons (pe_ix ix_tup (pv 1) pe_int (fun _ _ => rfl)) pa_nil)))) (pa_cons (pe_tup (pa_cons pe_str (pa_cons (pe_ix ix_tup (pv 1) pe_int (fun _ _ => rfl)) (pa_cons (pe_tup (pa_cons (pv 5) (pa_cons (pv 4) pa_nil))) pa_nil)))) (pa_cons (pe_tup (pa_cons pe_str (pa_cons (pe_ix ix_tup (pv 1) pe_int (fun _ _ => rfl)) (pa_cons (pe_tup (pa_cons (pe_op op_sub pe_int (pv 4)) (pa_cons (pe_op op_sub pe_int (pv 5)) pa_nil))) pa_nil)))) pa_nil))))))
      (pss_one (ps_ret (pe_op op_cat (pv 3) (pe_lst (pa_cons (pe_tup (pa_cons pe_str (pa_cons (pe_op op_mulW pe_int (pe_ix ix_tup (pv 1) pe_int (fun _ _ => rfl))) (pa_cons (pe_ix ix_tup (pv 1) pe_int (fun _ _ => rfl)) pa_nil)))) (pa_cons (pe_tup (pa_cons pe_str (pa_cons (pe_ix ix_tup (pv 1) pe_int (fun _ _ => rfl)) (pa_cons (pe_lst (pa_cons (pv 4) (pa_cons (pv 5) pa_nil))) pa_nil)))) (pa_cons (pe_tup (pa_cons pe_str (pa_cons (pe_ix ix_tup (pv 1) pe_int (fun _ _ => rfl)) (pa_cons (pe_tup (pa_cons (pv 4) (pa_cons (pe_op op_sub pe_int (pv 5)) pa_nil))) pa_nil)))) pa_nil)))))))))
      pss_nil)
    (pss_one (ps_ret (pe_op op_cat (pv 3) (pe_lst (pa_cons (pe_tup (pa_cons pe_str (pa_cons (pe_ix ix_tup (pv 1) pe_int (fun _ _ => rfl)) (pa_cons (pe_op op_add (pe_ix ix_tup (pv 1) pe_int (fun _ _ => rfl)) pe_int) pa_nil)))) (pa_cons (pe_tup (pa_cons pe_str (pa_cons (pe_op op_add (pe_ix ix_tup (pv 1) pe_int (fun _ _ => rfl)) pe_int) (pa_cons (pe_ix ix_tup (pv 1) pe_int (fun _ _ => rfl)) pa_nil)))) (pa_cons (pe_tup (pa_cons pe_str (pa_cons (pe_op op_sub (pe_ix ix_tup (pv 1) pe_int (fun _ _ => rfl)) pe_int) (pa_cons (pe_ix ix_tup (pv 1) pe_int (fun _ _ => rfl)) pa_nil)))) (pa_cons (pe_tup (pa_cons pe_str (pa_cons (pe_un un_neg pe_int) (pa_cons (pe_ix ix_tup (pv 1) pe_int (fun _ _ => rfl)) pa_nil)))) pa_nil)))))))))))))), ?_⟩
    refine ⟨_, rfl, d, 4, rfl, hd, by decide, by decide, fun t H1 u v s1 d1 f1 hu hv => ?_⟩
    have pp1 : PP H1 p F n := by
      rcases pp with ⟨a1, a2, a3⟩ | ⟨a1, t', c', u', v', b1, b2, b3⟩
      · exact .inl ⟨a1, a2, s1 _ _ (ne_dice hd a3) a3⟩
      · exact .inr ⟨a1, t', c', u', v', s1 _ _ (ne_dice hd b1) b1, s1 _ _ (ne_dice hd b2) b2, b3⟩
    obtain ⟨w0, v1, v2, e1, e2, P1, kd⟩ := pp1.pap bF n9
    clear pp pp1
    have hu4 : u.natAbs < BV := Nat.lt_of_le_of_lt hu (by decide +kernel)
    have hv4 : v.natAbs < BV := Nat.lt_of_le_of_lt hv (by decide +kernel)
    have T1 : Vd BV H1 (.ref t) (.tuple [.int u, .int v]) := .tup f1 (.cons (.int u hu4) (.cons (.int v hv4) .nil))
    refine ⟨_, rfl, _, rfl, p, _, rfl, .inr (SqT.of P1.at_), fun l2 n2 => gen_upd H1 l2 (.lst [.str w0, v1, v2]) n2 fun H2 s2 f2 => ?_⟩
    have P2 := P1.same s2
    have W := VL.snoc P1.vx s2 (v := .ref l2) (d := .list [.str w0, e1, e2]) (.inl (.lst f2 (.cons (.str _) (.cons P2.h1 (.cons P2.h2 .nil))))) (nv_no rfl)
    refine ⟨_, rfl, sz1, fun z0 m0 => gen_upd H2 z0 (.tup [.int 0]) m0 fun H3 s3 f3 => ?_⟩
    have P3 := P2.same s3
    refine cat_v P3.at_ f3 (by simp) (by simp) (show 3 + 1 ≤ 1000 by decide) fun p3 m3 => gen_upd H3 p3 (.tup [.str w0, v1, v2, .int 0]) m3 fun H4 s4 f4 => ?_
    have P4 := P3.same s4
    have W := VL.snoc W (s3.trans s4) (v := .ref p3) (d := .tuple [.str w0, e1, e2, .int 0]) (.inl (.tup f4 (.cons (.str _) (.cons P4.h1 (.cons P4.h2 (.cons (.int 0 (by decide +kernel)) .nil))))))
      (nv_tup (by show 4 ≤ 10; decide) (fun x hx => by
        rcases List.mem_cons.mp hx with z | hx
        · rw [z]; exact ok1_no rfl
        rcases List.mem_cons.mp hx with z | hx
        · rw [z]; exact P4.k1.ok
        rcases List.mem_cons.mp hx with z | hx
        · rw [z]; exact P4.k2.ok
        · rw [List.mem_singleton.mp hx]; exact ok1_no rfl) (.inr ⟨_, _, rfl⟩) (sh_tup P4.sh (by
          show (PyData.canLay0 e1 && (PyData.canLay0 e2 && (true && true))) = true
          rw [P4.k1.lay.1, P4.k2.lay.1]; rfl) (by
          show max (PyData.depth e1) (max (PyData.depth e2) (max 0 0)) ≤ 5
          have := P4.k1.lay.2
          have := P4.k2.lay.2
          omega)))
    refine ⟨_, rfl, 2, rfl, cut2_v P4.at_ fun p4 m4 => gen_upd H4 p4 (.tup [.str w0, v1]) m4 fun H5 s5 f5 => ?_⟩
    have P5 := P4.same s5
    have W := VL.snoc W s5 (v := .ref p4) (d := .tuple [.str w0, e1]) (.inl (.tup f5 (.cons (.str _) (.cons P5.h1 .nil))))
      (nv_tup (by show 2 ≤ 10; decide) (fun x hx => by
        rcases List.mem_cons.mp hx with z | hx
        · rw [z]; exact ok1_no rfl
        · rw [List.mem_singleton.mp hx]; exact P5.k1.ok) (.inr ⟨_, _, rfl⟩) (sh_tup P5.sh (by
          show (PyData.canLay0 e1 && true) = true
          rw [P5.k1.lay.1]; rfl) (by
          show max (PyData.depth e1) 0 ≤ 5
          have := P5.k1.lay.2
          omega)))
    have W := VL.snoc W (Same.rf _) (v := .non) (d := .none) (.inl .non) (nv_no rfl)
    have W := VL.snoc W (Same.rf _) (v := .str sPow) (d := .str sPow) (.inl (.str _)) (nv_no rfl)
    refine ⟨sz0, fun p5 m5 => gen_upd H5 p5 (.tup []) m5 fun H6 s6 f6 => ?_⟩
    have W := VL.snoc W s6 (v := .ref p5) (d := .tuple []) (.inl (.tup f6 .nil)) (nv_tup (Nat.zero_le _) (fun x hx => (nomatch hx)) (.inl rfl) (by decide +kernel))
    refine fun p6 m6 => gen_upd H6 p6 (.dK []) m6 fun H7 s7 f7 => ?_
    have W := VL.snoc W s7 (v := .ref p6) (d := .dict []) (.inr ⟨p6, rfl, f7, rfl⟩) (nv_no rfl)
    refine ⟨sz1, fun p7 m7 => gen_upd H7 p7 (.tup [.str sPow]) m7 fun H8 s8 f8 => ?_⟩
    have W := VL.snoc W s8 (v := .ref p7) (d := .tuple [.str sPow]) (.inl (.tup f8 (.cons (.str _) .nil))) (nv_tup (by show 1 ≤ 10; decide) (fun x hx => by rw [List.mem_singleton.mp hx]; exact ok1_no rfl) (.inr ⟨_, _, rfl⟩) (by decide +kernel))
    refine ⟨sz1, fun p8 m8 => gen_upd H8 p8 (.tup [.str sLine]) m8 fun H9 s9 f9 => ?_⟩
    have P9 := P5.same (s6.trans (s7.trans (s8.trans s9)))
    refine ⟨_, rfl, 1, rfl, ?_⟩
    dsimp only [tNoPart]
    refine drop1_v P9.at_ fun p9 m9 => gen_upd H9 p9 (.tup [v1, v2]) m9 fun H10 s10 f10 => ?_
    refine cat_v (s10 _ _ f9) f10 (by simp) (by simp) (show 1 + 2 ≤ 1000 by decide) fun p10 m10 => gen_upd H10 p10 (.tup [.str sLine, v1, v2]) m10 fun H11 s11 f11 => ?_
    have P11 := P9.same (s10.trans s11)
    have W := VL.snoc W (s9.trans (s10.trans s11)) (v := .ref p10) (d := .tuple [.str sLine, e1, e2]) (.inl (.tup f11 (.cons (.str _) (.cons P11.h1 (.cons P11.h2 .nil))))) (nv3 shLine P11.k1 P11.k2)
    have T11 := T1.same (s2.trans (s3.trans (s4.trans (s5.trans (s6.trans (s7.trans (s8.trans (s9.trans (s10.trans s11)))))))))
    have S11 : Same H1 H11 := s2.trans (s3.trans (s4.trans (s5.trans (s6.trans (s7.trans (s8.trans (s9.trans (s10.trans s11))))))))
    clear P2 P3 P4 P5 P9 s2 s3 s4 s5 s6 s7 s8 s9 s10 s11 f2 f3 f4 f5 f6 f7 f8 f9 f10 f11 n2 m0 m3 m4 m5 m6 m7 m8 m9 m10 T1 P1
    refine ⟨show 10 ≤ sizeLine by decide, fun a1 b1 => gen_upd H11 a1 (.lst [.ref p, .ref l2, .ref p3, .ref p4, .non, .str sPow, .ref p5, .ref p6, .ref p7, .ref p10]) b1 fun H12 s12 g1 => ?_⟩
    have W : VL H12 [.ref p, .ref l2, .ref p3, .ref p4, .non, .str sPow, .ref p5, .ref p6, .ref p7, .ref p10] _ := W.same s12
    have T12 := T11.same s12
    refine ⟨_, rfl, ⟨_, rfl, sz3, fun q1 m1 => gen_upd H12 q1 (.tup [.str sPow, .int 1, .ref t]) m1 fun H13 s13 r1 => ?_⟩⟩
    have X := VL.one (v3x (w := sPow) r1 (.int 1 (by decide +kernel)) (T12.same s13)) (nv3 shPow (.int _) (.pt _ _))
    refine ⟨_, rfl, sz3, fun q2 m2 => gen_upd H13 q2 (.tup [.str sPow, .int 0, .ref t]) m2 fun H14 s14 r2 => ?_⟩
    have X := VL.snoc X s14 (v3x (w := sPow) r2 (.int 0 (by decide +kernel)) (T12.same (s13.trans s14))) (nv3 shPow (.int _) (.pt _ _))
    refine ⟨_, rfl, sz2, fun q3 m3 => gen_upd H14 q3 (tp [1, 0]) m3 fun H15 s15 r3 => ⟨sz3, fun q4 m4 => gen_upd H15 q4 (.tup [.str sPow, .int (-1), .ref q3]) m4 fun H16 s16 r4 => ?_⟩⟩
    have X := VL.snoc X (s15.trans s16) (v3x (w := sPow) r4 (.int (-1) (by decide +kernel)) (vpt (s16 _ _ r3) (by decide +kernel) (by decide +kernel))) (nv3 shPow (.int _) (.pt _ _))
    refine ⟨sz3, fun q5 m5 => gen_upd H16 q5 (.tup [.str sEnt, .int 0, .int 0]) m5 fun H17 s17 r5 => ?_⟩
    have X := VL.snoc X s17 (v3x (w := sEnt) r5 (.int 0 (by decide +kernel)) (.int 0 (by decide +kernel))) (nv3 shEnt (.int _) (.int _))
    refine ⟨sz3, fun q6 m6 => gen_upd H17 q6 (.tup [.str sEnt, .int 0, .int 1]) m6 fun H18 s18 r6 => ?_⟩
    have X := VL.snoc X s18 (v3x (w := sEnt) r6 (.int 0 (by decide +kernel)) (.int 1 (by decide +kernel))) (nv3 shEnt (.int _) (.int _))
    refine ⟨_, _, rfl, rfl, cp60, sz3, fun q7 m7 => gen_upd H18 q7 (.tup [.str sEnt, .int (10 ^ 60), .int 1]) m7 fun H19 s19 r7 => ?_⟩
    have X := VL.snoc X s19 (v3x (w := sEnt) r7 (.int (10 ^ 60) (by decide +kernel)) (.int 1 (by decide +kernel))) (nv3 shEnt (.int _) (.int _))
    refine ⟨show 6 ≤ sizeLine by decide, fun a2 b2 => gen_upd H19 a2 (.lst [.ref q1, .ref q2, .ref q4, .ref q5, .ref q6, .ref q7]) b2 fun H20 s20 g2 => ?_⟩
    have S20 : Same H12 H20 := s13.trans (s14.trans (s15.trans (s16.trans (s17.trans (s18.trans (s19.trans s20))))))
    have X : VL H20 [.ref q1, .ref q2, .ref q4, .ref q5, .ref q6, .ref q7] _ := X.same s20
    have W := VL.app X (W.same S20)
    have T20 := T12.same S20
    have P20 := P11.same (s12.trans S20)
    have g1' := S20 _ _ g1
    have S20 : Same H1 H20 := S11.trans (s12.trans S20)
    refine ⟨a1, a2, _, _, rfl, rfl, g1', g2, by show 10 + 6 ≤ sizeLine; decide, fun a3 b3 => ?_⟩
    have s21 := same_upd0 (o := HO.lst ([.ref p, .ref l2, .ref p3, .ref p4, .non, .str sPow, .ref p5, .ref p6, .ref p7, .ref p10] ++ [.ref q1, .ref q2, .ref q4, .ref q5, .ref q6, .ref q7])) b3
    have g3 : (upd H20 a3 (HO.lst ([.ref p, .ref l2, .ref p3, .ref p4, .non, .str sPow, .ref p5, .ref p6, .ref p7, .ref p10] ++ [.ref q1, .ref q2, .ref q4, .ref q5, .ref q6, .ref q7]))) a3 = _ := upd_same
    generalize upd H20 a3 (HO.lst ([.ref p, .ref l2, .ref p3, .ref p4, .non, .str sPow, .ref p5, .ref p6, .ref p7, .ref p10] ++ [.ref q1, .ref q2, .ref q4, .ref q5, .ref q6, .ref q7])) = H21 at s21 g3 ⊢
    have W := W.same s21
    have T21 := T20.same s21
    have P21 := P20.same s21
    have S21 := S20.trans s21
    clear X T11 T12 T20 P11 P20 s12 s13 s14 s15 s16 s17 s18 s19 s20 s21 r1 r2 r3 r4 r5 r6 r7 g1 g2 g1' b1 b2 b3 m1 m2 m3 m4 m5 m6 m7 S11 S20
    generalize hL3 : ([V.ref p, .ref l2, .ref p3, .ref p4, .non, .str sPow, .ref p5, .ref p6, .ref p7, .ref p10] ++ [V.ref q1, .ref q2, .ref q4, .ref q5, .ref q6, .ref q7]) = L3 at W g3
    have l3 : L3.length = 16 := by rw [← hL3]; rfl
    clear hL3
    obtain ⟨D3, W⟩ : ∃ ds, VL H21 L3 ds := ⟨_, W⟩
    have p0 : ∀ {H' : Hp}, Pap H' p w0 v1 v2 e1 e2 → SqT K H' p [.str w0, v1, v2] := fun h => SqT.of h.at_
    refine ⟨_, rfl, ⟨_, rfl, p, _, 1, _, rfl, rfl, p0 P21, atI_nat (j := 1) rfl, _, rfl, sz3, fun q1 m1 => gen_upd H21 q1 (.tup [.str sPow, v1, .ref t]) m1 fun H22 s22 r1 => ?_⟩⟩
    have P22 := P21.same s22
    have X := VL.one (v3x (w := sPow) r1 P22.h1 (T21.same s22)) (nv3 shPow P22.k1 (.pt _ _))
    refine ⟨_, rfl, p, _, 1, _, rfl, rfl, p0 P22, atI_nat (j := 1) rfl, _, rfl, p, _, 2, _, rfl, rfl, p0 P22, atI_nat (j := 2) rfl, sz3, fun q2 m2 => gen_upd H22 q2 (.tup [.str sEnt, v1, v2]) m2 fun H23 s23 r2 => ?_⟩
    have P23 := P22.same s23
    have X := VL.snoc X s23 (v3x (w := sEnt) r2 P23.h1 P23.h2) (nv3 shEnt P23.k1 P23.k2)
    refine ⟨_, rfl, p, _, 0, _, rfl, rfl, p0 P23, atI_nat (j := 0) rfl, _, rfl, p, _, 2, _, rfl, rfl, p0 P23, atI_nat (j := 2) rfl, _, rfl, p, _, 1, _, rfl, rfl, p0 P23, atI_nat (j := 1) rfl, sz3, fun q3 m3 => gen_upd H23 q3 (.tup [.str w0, v2, v1]) m3 fun H24 s24 r3 => ?_⟩
    have P24 := P23.same s24
    have X := VL.snoc X s24 (v3x r3 P24.h2 P24.h1) (nv3 P24.sh P24.k2 P24.k1)
    refine ⟨sz2, fun q4 m4 => gen_upd H24 q4 (tp [1, 0]) m4 fun H25 s25 r4 => ⟨sz3, fun q5 m5 => gen_upd H25 q5 (.tup [.str sPow, .bl true, .ref q4]) m5 fun H26 s26 r5 => ?_⟩⟩
    have P26 := P24.same (s25.trans s26)
    have X := VL.snoc X (s25.trans s26) (v3x (w := sPow) r5 (.bl true) (vpt (s26 _ _ r4) (by decide +kernel) (by decide +kernel))) (nv3 shPow (.bl true) (.pt _ _))
    refine ⟨show 4 ≤ sizeLine by decide, fun a4 b4 => gen_upd H26 a4 (.lst [.ref q1, .ref q2, .ref q3, .ref q5]) b4 fun H27 s27 g4 => ?_⟩
    have S27 : Same H21 H27 := s22.trans (s23.trans (s24.trans (s25.trans (s26.trans s27))))
    have X : VL H27 [.ref q1, .ref q2, .ref q3, .ref q5] _ := X.same s27
    have W := VL.app X (W.same S27)
    have P27 := P26.same s27
    refine ⟨a3, a4, _, _, rfl, rfl, S27 _ _ g3, g4, by rw [l3]; show 16 + 4 ≤ sizeLine; decide, fun a5 b5 => ?_⟩
    have s28 := same_upd0 (o := HO.lst (L3 ++ [.ref q1, .ref q2, .ref q3, .ref q5])) b5
    have g5 : (upd H27 a5 (HO.lst (L3 ++ [.ref q1, .ref q2, .ref q3, .ref q5]))) a5 = _ := upd_same
    generalize upd H27 a5 (HO.lst (L3 ++ [.ref q1, .ref q2, .ref q3, .ref q5])) = H28 at s28 g5 ⊢
    have W := W.same s28
    have P28 := P27.same s28
    have S28 := S21.trans (S27.trans s28)
    clear X T21 P21 P22 P23 P24 P26 P27 s22 s23 s24 s25 s26 s27 s28 r1 r2 r3 r4 r5 g3 g4 b4 b5 m1 m2 m3 m4 m5 S27 S21
    have l4 : (L3 ++ [V.ref q1, .ref q2, .ref q3, .ref q5]).length = 20 := by rw [List.length_append, l3]; rfl
    clear l3
    generalize L3 ++ [V.ref q1, .ref q2, .ref q3, .ref q5] = L4 at W g5 l4
    obtain ⟨D4, W⟩ : ∃ ds, VL H28 L4 ds := ⟨_, W⟩
    have s18 : Sx d H1 H28 := Sx.of S28
    have s08 := s1.trans s18
    have d8 := d1.same S28
    refine ⟨_, rfl, p, _, 0, _, rfl, rfl, p0 P28, atI_nat (j := 0) rfl, ?_⟩
    rcases kd with ⟨rfl, tt, c, x, y, rfl, rfl, rfl, rfl, ht, cb, xb, yb⟩ | ⟨rfl, i, e, rfl, rfl, rfl, rfl, i0, i1, eb⟩
    · have ht := S28 _ _ ht
      have cB : c.natAbs < BV := Nat.lt_of_le_of_lt cb (by decide +kernel)
      have xB : x.natAbs < BV := Nat.lt_of_le_of_lt xb (by decide +kernel)
      have yB : y.natAbs < BV := Nat.lt_of_le_of_lt yb (by decide +kernel)
      have i1 : ∀ {H' : Hp}, Pap H' p sPow (.int c) (.ref tt) (.int c) (.tuple [.int x, .int y]) → atI [V.str sPow, .int c, .ref tt] 1 = some (.int c) := fun _ => atI_nat (j := 1) rfl
      refine ⟨rfl, _, rfl, iteT ⟨_, rfl, p, _, 2, _, rfl, rfl, p0 P28, atI_nat (j := 2) rfl, tt, [.int x, .int y], rfl, SqT.of ht, rfl, _, _, rfl, _, _, rfl, rfl, ?_⟩⟩
      refine ⟨_, rfl, ⟨_, rfl, p, _, 1, _, rfl, rfl, p0 P28, atI_nat (j := 1) rfl, _, _, rfl, rfl, _, rfl, p, _, 2, _, rfl, rfl, p0 P28, atI_nat (j := 2) rfl, sz3, fun q1 m1 => gen_upd H28 q1 (.tup [.str sPow, .int (0 - c), .ref tt]) m1 fun H29 s29 r1 => ?_⟩⟩
      have P29 := P28.same s29
      have X := VL.one (v3x (w := sPow) r1 (.int (0 - c) (by rw [Int.zero_sub, Int.natAbs_neg]; exact cB)) P29.h2) (nv3 shPow (.int _) (.pt _ _))
      refine ⟨_, rfl, p, _, 1, _, rfl, rfl, p0 P29, atI_nat (j := 1) rfl, _, rfl, _, rfl, sz2, fun q2 m2 => gen_upd H29 q2 (tp [y, x]) m2 fun H30 s30 r2 => ⟨sz3, fun q3 m3 => gen_upd H30 q3 (.tup [.str sPow, .int c, .ref q2]) m3 fun H31 s31 r3 => ?_⟩⟩
      have P31 := P29.same (s30.trans s31)
      have X := VL.snoc X (s30.trans s31) (v3x (w := sPow) r3 (.int c cB) (vpt (s31 _ _ r2) yB xB)) (nv3 shPow (.int _) (.pt _ _))
      refine ⟨_, rfl, p, _, 1, _, rfl, rfl, p0 P31, atI_nat (j := 1) rfl, _, rfl, _, _, rfl, rfl, _, rfl, _, _, rfl, rfl, sz2, fun q4 m4 => gen_upd H31 q4 (tp [0 - x, 0 - y]) m4 fun H32 s32 r4 => ⟨sz3, fun q5 m5 => gen_upd H32 q5 (.tup [.str sPow, .int c, .ref q4]) m5 fun H33 s33 r5 => ?_⟩⟩
      have P33 := P31.same (s32.trans s33)
      have X := VL.snoc X (s32.trans s33) (v3x (w := sPow) r5 (.int c cB) (vpt (s33 _ _ r4) (by rw [Int.zero_sub, Int.natAbs_neg]; exact xB) (by rw [Int.zero_sub, Int.natAbs_neg]; exact yB))) (nv3 shPow (.int _) (.pt _ _))
      refine ⟨sz3, fun a6 b6 => gen_upd H33 a6 (.lst [.ref q1, .ref q3, .ref q5]) b6 fun H34 s34 g6 => ?_⟩
      have S34 : Same H28 H34 := s29.trans (s30.trans (s31.trans (s32.trans (s33.trans s34))))
      have X : VL H34 [.ref q1, .ref q3, .ref q5] _ := X.same s34
      have W := VL.app X (W.same S34)
      have P34 := P33.same s34
      refine ⟨a5, a6, _, _, rfl, rfl, S34 _ _ g5, g6, by rw [l4]; show 20 + 3 ≤ sizeLine; decide, fun a7 b7 => ?_⟩
      have s35 := same_upd0 (o := HO.lst (L4 ++ [.ref q1, .ref q3, .ref q5])) b7
      have g7 : (upd H34 a7 (HO.lst (L4 ++ [.ref q1, .ref q3, .ref q5]))) a7 = _ := upd_same
      generalize upd H34 a7 (HO.lst (L4 ++ [.ref q1, .ref q3, .ref q5])) = H35 at s35 g7 ⊢
      have W := W.same s35
      have P35 := P34.same s35
      have S35 := S34.trans s35
      have l5 : (L4 ++ [V.ref q1, .ref q3, .ref q5]).length = 23 := by rw [List.length_append, l4]; rfl
      clear X P29 P31 P33 P34 s29 s30 s31 s32 s33 s34 s35 r1 r2 r3 r4 r5 g5 g6 b6 b7 m1 m2 m3 m4 m5 S34
      generalize L4 ++ [V.ref q1, .ref q3, .ref q5] = L5 at W g7 l5
      obtain ⟨D5, W⟩ : ∃ ds, VL H35 L5 ds := ⟨_, W⟩
      have c2 : CMulW 2 c := sm_mul (show (2 : Int).natAbs < 2 ^ 4000 by decide +kernel) (Nat.lt_trans cB (by decide +kernel))
      refine ⟨_, rfl, ⟨_, rfl, p, _, 1, _, rfl, rfl, p0 P35, atI_nat (j := 1) rfl, _, _, rfl, rfl, c2, _, rfl, p, _, 2, _, rfl, rfl, p0 P35, atI_nat (j := 2) rfl, sz3, fun q1 m1 => gen_upd H35 q1 (.tup [.str sPow, .int (2 * c), .ref tt]) m1 fun H36 s36 r1 => ?_⟩⟩
      have P36 := P35.same s36
      have X := VL.one (v3x (w := sPow) r1 (.int (2 * c) (by rw [Int.natAbs_mul]; exact Nat.lt_of_le_of_lt (Nat.mul_le_mul_left _ cb) (by decide +kernel))) P36.h2) (nv3 shPow (.int _) (.pt _ _))
      refine ⟨_, rfl, p, _, 1, _, rfl, rfl, p0 P36, atI_nat (j := 1) rfl, _, rfl, _, rfl, sz2, fun q2 m2 => gen_upd H36 q2 (.lst [.int x, .int y]) m2 fun H37 s37 r2 => ⟨sz3, fun q3 m3 => gen_upd H37 q3 (.tup [.str sPow, .int c, .ref q2]) m3 fun H38 s38 r3 => ?_⟩⟩
      have P38 := P36.same (s37.trans s38)
      have X := VL.snoc X (s37.trans s38) (v3x (w := sPow) r3 (.int c cB) (.lst (s38 _ _ r2) (.cons (.int x xB) (.cons (.int y yB) .nil)))) (nv3 shPow (.int _) (.ls _ _))
      refine ⟨_, rfl, p, _, 1, _, rfl, rfl, p0 P38, atI_nat (j := 1) rfl, _, rfl, _, rfl, _, _, rfl, rfl, sz2, fun q4 m4 => gen_upd H38 q4 (tp [x, 0 - y]) m4 fun H39 s39 r4 => ⟨sz3, fun q5 m5 => gen_upd H39 q5 (.tup [.str sPow, .int c, .ref q4]) m5 fun H40 s40 r5 => ?_⟩⟩
      have X := VL.snoc X (s39.trans s40) (v3x (w := sPow) r5 (.int c cB) (vpt (s40 _ _ r4) xB (by rw [Int.zero_sub, Int.natAbs_neg]; exact yB))) (nv3 shPow (.int _) (.pt _ _))
      refine ⟨sz3, fun a8 b8 => gen_upd H40 a8 (.lst [.ref q1, .ref q3, .ref q5]) b8 fun H41 s41 g8 => ?_⟩
      have S41 : Same H35 H41 := s36.trans (s37.trans (s38.trans (s39.trans (s40.trans s41))))
      have X : VL H41 [.ref q1, .ref q3, .ref q5] _ := X.same s41
      have W := VL.app X (W.same S41)
      refine ⟨a7, a8, _, _, rfl, rfl, S41 _ _ g7, g8, by rw [l5]; show 23 + 3 ≤ sizeLine; decide, fun a9 b9 => ?_⟩
      have s42 := same_upd0 (o := HO.lst (L5 ++ [.ref q1, .ref q3, .ref q5])) b9
      have S42 := S35.trans (S41.trans s42)
      exact q a9 _ _ _ (s08.trans (Sx.of S42)) (d8.same S42) upd_same (W.same s42) (by rw [List.length_append, l5]; show 23 + 3 ≤ 100; decide)
    · have iB : i.natAbs < BV := Nat.lt_of_le_of_lt (show i.natAbs ≤ 100 by omega) (by decide +kernel)
      have eB : e.natAbs < BV := Nat.lt_of_le_of_lt eb (by decide +kernel)
      have e1B : (e + 1).natAbs < BV := Nat.lt_of_le_of_lt (Nat.le_trans (Int.natAbs_add_le e 1) (Nat.add_le_add_right eb 1)) (by decide +kernel)
      refine ⟨rfl, _, rfl, iteF ?_⟩
      refine ⟨_, rfl, ⟨_, rfl, p, _, 1, _, rfl, rfl, p0 P28, atI_nat (j := 1) rfl, _, rfl, p, _, 2, _, rfl, rfl, p0 P28, atI_nat (j := 2) rfl, _, _, rfl, rfl, sz3, fun q1 m1 => gen_upd H28 q1 (.tup [.str sEnt, .int i, .int (e + 1)]) m1 fun H29 s29 r1 => ?_⟩⟩
      have P29 := P28.same s29
      have X := VL.one (v3x (w := sEnt) r1 (.int i iB) (.int (e + 1) e1B)) (nv3 shEnt (.int _) (.int _))
      refine ⟨_, rfl, p, _, 1, _, rfl, rfl, p0 P29, atI_nat (j := 1) rfl, _, _, rfl, rfl, _, rfl, p, _, 2, _, rfl, rfl, p0 P29, atI_nat (j := 2) rfl, sz3, fun q2 m2 => gen_upd H29 q2 (.tup [.str sEnt, .int (i + 1), .int e]) m2 fun H30 s30 r2 => ?_⟩
      have P30 := P29.same s30
      have X := VL.snoc X s30 (v3x (w := sEnt) r2 (.int (i + 1) (Nat.lt_of_le_of_lt (show (i + 1).natAbs ≤ 101 by omega) (by decide +kernel))) (.int e eB)) (nv3 shEnt (.int _) (.int _))
      refine ⟨_, rfl, p, _, 1, _, rfl, rfl, p0 P30, atI_nat (j := 1) rfl, _, _, rfl, rfl, _, rfl, p, _, 2, _, rfl, rfl, p0 P30, atI_nat (j := 2) rfl, sz3, fun q3 m3 => gen_upd H30 q3 (.tup [.str sEnt, .int (i - 1), .int e]) m3 fun H31 s31 r3 => ?_⟩
      have P31 := P30.same s31
      have X := VL.snoc X s31 (v3x (w := sEnt) r3 (.int (i - 1) (Nat.lt_of_le_of_lt (show (i - 1).natAbs ≤ 101 by omega) (by decide +kernel))) (.int e eB)) (nv3 shEnt (.int _) (.int _))
      refine ⟨_, rfl, _, rfl, p, _, 2, _, rfl, rfl, p0 P31, atI_nat (j := 2) rfl, sz3, fun q4 m4 => gen_upd H31 q4 (.tup [.str sEnt, .int (-1), .int e]) m4 fun H32 s32 r4 => ?_⟩
      have X := VL.snoc X s32 (v3x (w := sEnt) r4 (.int (-1) (by decide +kernel)) (.int e eB)) (nv3 shEnt (.int _) (.int _))
      refine ⟨show 4 ≤ sizeLine by decide, fun a6 b6 => gen_upd H32 a6 (.lst [.ref q1, .ref q2, .ref q3, .ref q4]) b6 fun H33 s33 g6 => ?_⟩
      have S33 : Same H28 H33 := s29.trans (s30.trans (s31.trans (s32.trans s33)))
      have X : VL H33 [.ref q1, .ref q2, .ref q3, .ref q4] _ := X.same s33
      have W := VL.app X (W.same S33)
      refine ⟨a5, a6, _, _, rfl, rfl, S33 _ _ g5, g6, by rw [l4]; show 20 + 4 ≤ sizeLine; decide, fun a7 b7 => ?_⟩
      have s34 := same_upd0 (o := HO.lst (L4 ++ [.ref q1, .ref q2, .ref q3, .ref q4])) b7
      have S34 := S33.trans s34
      exact q a7 _ _ _ (s08.trans (Sx.of S34)) (d8.same S34) upd_same (W.same s34) (by rw [List.length_append, l4]; show 20 + 4 ≤ 100; decide)
end
end K59

set_option Elab.async false
set_option linter.all false
set_option maxRecDepth 100000
set_option maxHeartbeats 4000000
set_option exponentiation.threshold 10000
/-! whether the paper of a form, and values near it, are told -/
namespace K59
open PySem PySem.Spec PyProof.Rows L2 StX RZ MyR SlX OwnR OwnF EnumT SeqE GxR GenNx FDivQ
theorem PP.ok {H : Hp} {p : Addr} {F : List Int} {n : Nat} (h : PP H p F n) (bF : Bd F n (2 ^ 100)) (n9 : n ≤ 9) : ∃ w0 v1 v2 d1 d2, Pap H p w0 v1 v2 d1 d2 ∧ ipp F n (.tuple [.str w0, d1, d2]) = true ∧ ((2 ≤ n ∧ nzr (L 2 F F) = true ∧ w0 = sEnt) ∨ ((n < 2 ∨ nzr (L 2 F F) = false) ∧ w0 = sPow)) := by
  rcases h with ⟨n2, nz, h⟩ | ⟨c1, t, c, u, v, h, ht, pw, cb, ub, vb⟩
  · have B := hes_bd bF n2 n9
    have fl := fi_lt nz
    have lB := B.len
    have eb : (co (L 2 F F) (fi (L 2 F F))).natAbs ≤ 2 ^ 216 := B.mem _ (by rw [co_get fl]; exact List.getElem_mem _)
    have ib : ((fi (L 2 F F) : Nat) : Int).natAbs < BV := Nat.lt_of_le_of_lt (show ((fi (L 2 F F) : Nat) : Int).natAbs ≤ 100 by omega) (by decide +kernel)
    refine ⟨sEnt, _, _, _, _, ⟨h, .int _ ib, .int _ (Nat.lt_of_le_of_lt eb (by decide +kernel)), .int _, .int _, shEnt⟩, ?_, .inl ⟨n2, nz, rfl⟩⟩
    rw [ipp_ent, decide_eq_true n2, Bool.true_and]
    show (decide (0 ≤ ((fi (L 2 F F) : Nat) : Int)) && (decide (((fi (L 2 F F) : Nat) : Int) ≤ ((L 2 F F).length : Int) - 1) && (decide (co (L 2 F F) (fi (L 2 F F)) ≠ 0) && decide (co (L 2 F F) ((fi (L 2 F F) : Nat) : Int).toNat = co (L 2 F F) (fi (L 2 F F)))))) = true
    rw [decide_eq_true (show 0 ≤ ((fi (L 2 F F) : Nat) : Int) by omega), decide_eq_true (show ((fi (L 2 F F) : Nat) : Int) ≤ ((L 2 F F).length : Int) - 1 by omega), decide_eq_true (fi_ne nz), Int.toNat_natCast, decide_eq_true rfl]
    rfl
  · refine ⟨sPow, _, _, _, _, ⟨h, .int c (Nat.lt_of_le_of_lt cb (by decide +kernel)), .tup ht (.cons (.int u (Nat.lt_of_le_of_lt ub (by decide +kernel))) (.cons (.int v (Nat.lt_of_le_of_lt vb (by decide +kernel))) .nil)), .int _, .pt _ _, shPow⟩, ?_, .inr ⟨c1, rfl⟩⟩
    rw [ipp_pow]
    show (ptB u v && decide ((pow [v, -u] n).map (c * ·) = F)) = true
    rw [ptB_iff.mpr pw.pt, decide_eq_true pw.eq.symm]
    rfl
theorem PP.same {H H' : Hp} {p : Addr} {F : List Int} {n : Nat} (h : PP H p F n) (s : Same H H') : PP H' p F n := by
  rcases h with ⟨a1, a2, a3⟩ | ⟨a1, t', c', u', v', b1, b2, b3⟩
  · exact .inl ⟨a1, a2, s _ _ a3⟩
  · exact .inr ⟨a1, t', c', u', v', s _ _ b1, s _ _ b2, b3⟩
section
variable {P : Program} {w : World} {K : PySem.W.Frag} {mg : Str → Option Value} {base : Heap} {Ps : List Addr}
def spPForm : Sp := fun vs H Q _ => ∃ d : Addr, vs = [.ref d] ∧ Dc H d ∧ ∀ p F n H', Sx d H H' → Dc H' d → H' p = some (tp F) → Bd F n (2 ^ 100) → n ≤ 9 → Q (.ref p) H'
theorem ok_law_power_form (T : Facts K mg) : FnOk P w K mg base CX0 5 T.f_law_power_form T.fd_law_power_form ["_law_dice_here"] spPForm := by
  have G_law_point := ok_law_point (P := P) (w := w) (base := base) T
  have G_law_line := ok_law_line (P := P) (w := w) (base := base) T
  have G_law_pick : FnOk P w K mg base CX0 2 T.f_law_pick T.fd_law_pick ["_law_dice_here", "_law_items"] spPick2 := (ok_law_pick T).imp pick2
  have G_law_roll : FnOk P w K mg base CX0 1 T.f_law_roll T.fd_law_roll ["_law_dice_here", "_law_total"] spRoll2 := (ok_law_roll T).imp roll2
  have G_law_scaled := ok_law_scaled (P := P) (w := w) (base := base) T
  have G_law_power := ok_law_power (P := P) (w := w) (base := base) T
  refine T.F_law_power_form.ok sc_law_power_form (fun vs H Q E h => ?_) (fun cdv A outer s H vs Q E hr h => ?_)
  · obtain ⟨d, rfl, _⟩ := h
    rfl
  · obtain ⟨d, rfl, hd, q⟩ := h
    refine ⟨_, (PSs.nox (pss_cons (ps_par (i := 1) (j := 2) (by rfl) sc_law_power_form.nd rfl rfl (by decide) rfl rfl (pa_cons (pe_call G_law_line (hr.mono (by decide)) (by rfl) T.g_law_line T.F_law_line.kp T.b_law_line .nil pass0 (pa_cons (pe_call G_law_point hr (by rfl) T.g_law_point T.F_law_point.kp T.b_law_point .nil pass0 (pa_cons (pv 0) (pa_cons pe_int pa_nil))) pa_nil)) (pa_cons (pe_call G_law_pick (hr.mono (by decide)) (by rfl) T.g_law_pick T.F_law_pick.kp T.b_law_pick .nil pass0 (pa_cons (pv 0) (pa_cons (pe_lst (pa_cons pe_int (pa_cons (pe_un un_neg pe_int) (pa_cons pe_int (pa_cons (pe_un un_neg pe_int) (pa_cons (pe_op op_add (pe_op op_pow pe_int pe_int) pe_int) (pa_cons pe_int pa_nil))))))) pa_nil))) pa_nil)) (by rfl))
    (pss_one (ps_ret (pe_call G_law_scaled (hr.mono (by decide)) (by rfl) T.g_law_scaled T.F_law_scaled.kp T.b_law_scaled .nil pass0 (pa_cons (pe_call G_law_power (hr.mono (by decide)) (by rfl) T.g_law_power T.F_law_power.kp T.b_law_power .nil pass0 (pa_cons (pv 1) (pa_cons (pe_call G_law_roll (hr.mono (by decide)) (by rfl) T.g_law_roll T.F_law_roll.kp T.b_law_roll .nil pass0 (pa_cons (pv 0) (pa_cons pe_int pa_nil))) pa_nil))) (pa_cons (pv 2) pa_nil))))))), ?_⟩
    refine ⟨_, rfl, d, 6, rfl, hd, by decide, by decide, fun t H1 u v s1 d1 f1 hu hv => ?_⟩
    refine ⟨t, u, v, rfl, f1, fun l nl => gen_upd H1 l (tp [v, 0 - u]) nl fun H2 s2 f2 => ?_⟩
    have d2 := d1.same s2
    rw [show (0 : Int) - u = -u by omega] at f2
    have cp20 : CPow 10 20 := ⟨by decide, by decide, by decide⟩
    refine ⟨_, rfl, _, rfl, _, rfl, _, _, rfl, rfl, cp20, _, _, rfl, rfl, show 6 ≤ sizeLine by decide, fun b nb => gen_upd H2 b (.lst [.int 1, .int (-1), .int 2, .int (-12), .int (10 ^ 20 + 7), .int 0]) nb fun H3 s3 f3 => ?_⟩
    have d3 := d2.same s3
    have nbd : b ≠ d := fun z => by
      obtain ⟨x, y, w', e⟩ := d2
      rw [← z, nb] at e
      cases e
    refine ⟨d, b, _, rfl, d3, f3, nbd, by show 0 < 6; decide, by show 6 < 1000; decide, fun k H4 hk s4 d4 => ⟨_, _, rfl, ?_⟩⟩
    obtain ⟨c, rfl, cb⟩ : ∃ c : Int, k = .int c ∧ c.natAbs ≤ 2 ^ 67 := by
      have key : ∀ x ∈ [V.int 1, .int (-1), .int 2, .int (-12), .int (10 ^ 20 + 7), .int 0], ∃ c : Int, x = .int c ∧ c.natAbs ≤ 2 ^ 67 := fun x hx => by
        rcases List.mem_cons.mp hx with z | hx
        · exact ⟨_, z, by decide +kernel⟩
        rcases List.mem_cons.mp hx with z | hx
        · exact ⟨_, z, by decide +kernel⟩
        rcases List.mem_cons.mp hx with z | hx
        · exact ⟨_, z, by decide +kernel⟩
        rcases List.mem_cons.mp hx with z | hx
        · exact ⟨_, z, by decide +kernel⟩
        rcases List.mem_cons.mp hx with z | hx
        · exact ⟨_, z, by decide +kernel⟩
        · exact ⟨_, List.mem_singleton.mp hx, by decide +kernel⟩
      exact key k hk
    have s14 : Sx d H1 H4 := (Sx.of (s2.trans s3)).trans s4
    have f4 : H4 l = some (tp [v, -u]) := s4 _ _ (ne_dice d3 (s3 _ _ f2)) (s3 _ _ f2)
    refine ⟨_, rfl, _, rfl, d, 10, rfl, d4, by decide, by decide, fun n H5 hn s5 d5 => ?_⟩
    have hn : n ≤ 9 := by omega
    have f5 : H5 l = some (tp [v, -u]) := s5 _ _ (ne_dice d4 f4) f4
    have bl := bd_lineN (b := 6) hu hv
    have bp := fun i => bd_point (u := u) (v := v) hu hv i
    have smp : ∀ i, i ≤ n → pow [v, -u] i ≠ [] ∧ (pow [v, -u] i).length ≤ 100 ∧ ∀ x ∈ pow [v, -u] i, sm x := fun i hi => ⟨(bp i).ne, by rw [(bp i).len]; omega, fun x hx => Nat.lt_of_le_of_lt ((bp i).mem x hx) (Nat.lt_of_le_of_lt (Nat.pow_le_pow_right (by decide +kernel) (show i ≤ 9 by omega)) (by decide +kernel))⟩
    refine ⟨l, [v, -u], n, rfl, f5, by simp, by show 2 ≤ 100; decide, fun x hx => Nat.lt_of_le_of_lt (bl.mem x hx) (by decide +kernel), fun i hi => smp i (by omega), by omega, fun m H6 s6 f6 => ?_⟩
    obtain ⟨n1, n2, n3⟩ := smp n (Nat.le_refl n)
    refine ⟨_, rfl, m, _, c, rfl, f6, n2, n3, Nat.lt_of_le_of_lt cb (by decide +kernel), fun p H7 s7 _ f7 => ?_⟩
    have B := bd_scale (c := c) (bp n) cb
    refine q p _ n H7 (s1.trans (s14.trans (s5.trans (Sx.of (s6.trans s7))))) (d5.same (s6.trans s7)) f7 (B.mono ?_) hn
    exact Nat.le_trans (Nat.mul_le_mul_left _ (Nat.pow_le_pow_right (by decide) hn)) (by decide +kernel)
def spRightF (Ps : List Addr) : Sp := fun vs H Q _ => ∃ (d a : Addr) (F : List Int) (n : Nat), vs = [.ref d, .ref a] ∧ Dc H d ∧ H a = some (tp F) ∧ Bd F n (2 ^ 100) ∧ n ≤ 9 ∧ Tg Ps H ∧ ∀ H', Sy d Ps H H' → Tg Ps H' → Dc H' d → Q (.bl true) H'
theorem ok_law_right (T : Facts K mg) (TB_first_of : TabB base mg T.c_first_of T.P_first_of) (hP : T.P_first_of ∈ Ps) (TB_first_index : TabB base mg T.c_first_index T.P_first_index) (hP2 : T.P_first_index ∈ Ps) : FnOk P w K mg base CX0 7 T.f_law_right T.fd_law_right ["_law_dice_here", "_law_entries"] (spRightF Ps) := by
  have G_Form_init := ok_Form_init (P := P) (w := w) (base := base) T
  have G_power_paper := ok_power_paper (P := P) (w := w) (base := base) T TB_first_index hP2
  have G_law_shared := ok_law_shared (P := P) (w := w) (base := base) T
  have G_law_laid := ok_law_laid (P := P) (w := w) (base := base) T
  have G_law_is_right := ok_law_is_right (P := P) (w := w) (base := base) T
  have G_law_near_values := ok_law_near_values (P := P) (w := w) (base := base) T
  have G_is_power_paper := ok_is_power_paper (P := P) (w := w) (base := base) T TB_first_of hP
  refine T.F_law_right.ok sc_law_right (fun vs H Q E h => ?_) (fun cdv A outer s H vs Q E hr h => ?_)
  · obtain ⟨d, a, F, n, rfl, _⟩ := h
    rfl
  · obtain ⟨d, a, F, n, rfl, hd, ha, bF, n9, tg, q⟩ := h
    refine ⟨_, (PSs.nox (pss_cons (ps_asg (pe_tup (pa_cons (pe_make T.mk_Form G_Form_init (hr.mono (by decide)) (by rfl) T.g_Form T.b_Form_init .nil pass0 (pa_cons (pv 1) pa_nil)) (pa_cons (pe_op op_sub (pe_callB call_len_seq (by rfl) T.z_len (by decide +kernel) (pa_cons (pv 1) pa_nil)) pe_int) pa_nil))) (pg_tup (by rfl) (pgs_cons (pg_name (i := 2) sc_law_right.nd rfl (.inr rfl)) (pgs_cons (pg_name (i := 3) sc_law_right.nd rfl (.inl rfl)) pgs_nil))))
    (pss_cons (ps_set (i := 4) sc_law_right.nd rfl (.inl rfl) (pe_call G_power_paper (hr.mono (by decide)) (by rfl) T.g_power_paper T.F_power_paper.kp T.b_power_paper .nil pass0 (pa_cons (pv 2) pa_nil)))
    (pss_cons (ps_set (i := 5) sc_law_right.nd rfl (.inl rfl) (pe_or (pe_cmpR op_lt (pv 3) pe_int (nomark _)) (pe_one (pe_cmpR op_eq (pe_call G_law_shared (hr.mono (by decide)) (by rfl) T.g_law_shared T.F_law_shared.kp T.b_law_shared .nil pass0 (pa_cons (pe_call G_law_laid (hr.mono (by decide)) (by rfl) T.g_law_laid T.F_law_laid.kp T.b_law_laid .nil pass0 (pa_cons (pv 1) (pa_cons (pv 1) (pa_cons pe_int pa_nil)))) pa_nil)) pe_int (nomark _)))))
    (pss_cons (ps_if (pw_or (pt_not (pt_val (pe_call G_law_is_right (hr.mono (by decide)) (by rfl) T.g_law_is_right T.F_law_is_right.kp T.b_law_is_right .nil pass0 (pa_cons (pv 1) (pa_cons (pv 4) pa_nil))))) (pw_or1 (pt_cmpR op_ne (pe_ix ix_tup (pv 4) pe_int (fun _ _ => rfl)) (pe_ifExp (pt_val (pv 5)) pe_str pe_str) (nomark _)))).pt
      (pss_one (ps_ret pe_bl))
      pss_nil)
    (pss_cons (ps_set (i := 6) sc_law_right.nd rfl (.inl rfl) (pe_call G_law_near_values (hr.mono (by decide)) (by rfl) T.g_law_near_values T.F_law_near_values.kp T.b_law_near_values .nil pass0 (pa_cons (pv 0) (pa_cons (pv 4) pa_nil))))
    (pss_one (ps_ret (pe_cmpR (op_eqD (hu64 hr)) (pe_lc (own := [("_law_value", 7)]) (g := (gName 7)) (by rfl) sc_law_right.nd (pi_list (pv 6)) (blkOk_by (N := N_law_right) (sc := defScope s_law_right) (by decide +kernel)) (fun _ _ _ _ _ => (pg_name (i := 7) sc_law_right.nd rfl (.inl rfl))) (fun _ _ _ _ _ => (pts_one (pt_cmpR op_ne (pe_callB call_reprB (by rfl) T.z_repr (by decide +kernel) (pa_cons (pe_call G_is_power_paper hr (by rfl) T.g_is_power_paper T.F_is_power_paper.kp T.b_is_power_paper .nil pass0 (pa_cons (pv 2) (pa_cons (pv 7) pa_nil))) pa_nil)) (pe_callB call_reprB (by rfl) T.z_repr (by decide +kernel) (pa_cons (pe_call G_law_is_right (hr.mono (by decide)) (by rfl) T.g_law_is_right T.F_law_is_right.kp T.b_law_is_right .nil pass0 (pa_cons (pv 1) (pa_cons (pv 7) pa_nil))) pa_nil)) (nomark _)))) (fun _ _ _ _ _ => (pv 7))) (pe_lst pa_nil) (nomark _)))))))))), ?_⟩
    have lF := bF.len
    refine ⟨_, rfl, fun fa fd x1 x2 x3 => mkB x1 x2 x3 ha bF (by omega) (by decide +kernel) fun H1 s1 f1 => ?_⟩
    have ha1 := s1 _ _ ha
    refine ⟨_, rfl, a, _, rfl, .inr (SqT.of ha1), _, _, rfl, rfl, sz2, fun tt nt => ?_⟩
    have s2 := same_upd0 (o := HO.tup [.ref fa, .int (((F.map V.int).length : Int) - 1)]) nt
    have ft : (upd H1 tt (HO.tup [.ref fa, .int (((F.map V.int).length : Int) - 1)])) tt = some (HO.tup [.ref fa, .int (((F.map V.int).length : Int) - 1)]) := upd_same
    refine ⟨tt, [.ref fa, .int (((F.map V.int).length : Int) - 1)], rfl, SqT.of ft, rfl, _, _, rfl, _, _, rfl, rfl, ?_⟩
    dsimp only []
    generalize upd H1 tt (HO.tup [.ref fa, .int (((F.map V.int).length : Int) - 1)]) = H2 at s2 ft ⊢
    rw [show (((F.map V.int).length : Nat) : Int) - 1 = (n : Int) by rw [List.length_map, lF]; omega]
    have ha2 := s2 _ _ ha1
    have f2 := f1.same s2
    have d2 := hd.same (s1.trans s2)
    have tg2 := tg.same (s1.trans s2)
    refine ⟨_, rfl, fa, F, n, rfl, f2, bF, n9, tg2, fun p H3 s3 g3 pp => ?_⟩
    refine ⟨_, rfl, _, _, rfl, rfl, ?_⟩
    dsimp only []
    by_cases c2 : n < 2
    · rw [decide_eq_true (show (n : Int) < 2 by omega)]
      refine ⟨true, rfl, iteT ?_⟩
      have tg5 := g3.same (Same.rf H3)
      have ha5 := s3.tup tg2 ha2
      have ha5 := (Same.rf H3) _ _ ha5
      have fa5 := (s3.fo tg2 f2).same (Same.rf H3)
      have d5 := (s3.dc tg2 d2).same (Same.rf H3)
      have pp5 := pp.same (Same.rf H3)
      obtain ⟨w0, v1, v2, e1, e2, PA, ok, kd⟩ := pp5.ok bF n9
      have ew : w0 = sPow := (kd.resolve_left fun z => by omega).2
      subst ew
      refine ⟨_, rfl, _, rfl, a, F, n, .ref p, _, rfl, ha5, bF, n9, PA.vx.1.1, PA.vx.1.2, fun H6 s6 => ⟨_, rfl, ?_⟩⟩
      rw [ok]
      have PA6 := PA.same s6
      refine iteF ⟨_, rfl, p, _, 0, _, rfl, rfl, SqT.of PA6.at_, atI_nat (j := 0) rfl, _, rfl, _, rfl, iteT ⟨rfl, _, rfl, ?_⟩⟩
      rw [decide_eq_true (rfl : V.str sPow = V.str sPow)]
      refine iteF ⟨_, rfl, _, rfl, d, p, F, n, rfl, d5.same s6, pp5.same s6, bF, n9, fun l vs ds H7 s7 d7 f7 vl lv => ?_⟩
      have ha7 := s7 _ _ (ne_dice (d5.same s6) (s6 _ _ ha5)) (s6 _ _ ha5)
      have fa7 := (fa5.same s6).sx (d5.same s6) s7
      have tg7 := (tg5.same s6).sx s7 (d5.same s6)
      have S07 : Sy d Ps H H7 := (Sy.of (s1.trans s2)).trans ((Sy.ofP s3).trans ((Sy.of ((Same.rf H3).trans s6)).trans (Sy.ofD s7)))
      refine ⟨_, rfl, l, rfl, ⟨_, SqL.of f7⟩, fun D hD => lc_list (xs := vs) (fun j H' => Sts Ps H7 H' ∧ Tg Ps H' ∧ H' D = some (.lst [])) ⟨Sts.of (same_upd0 hD), tg7.same (same_upd0 hD), upd_same⟩ (fun j H' _ hP => ?_) (fun j x H' hx hP => ?_) (fun H8 hP => ?_)⟩
      · exact SqL.of (hP.1.lst tg7 f7)
      · obtain ⟨t1, t2, t3⟩ := hP
        obtain ⟨dx, hx1, hx2, hx3⟩ := vl.get hx
        refine ⟨rfl, _, rfl, _, rfl, fa, F, n, x, dx, rfl, t1.fo tg7 fa7, bF, n9, hx2.sts t1 tg7, hx3, t2, fun H9 s9 g9 => ⟨_, rfl, _, rfl, _, rfl, a, F, n, x, dx, rfl, (t1.trans s9).tup tg7 ha7, bF, n9, hx2.sts (t1.trans s9) tg7, hx3, fun H10 s10 => ⟨_, rfl, rfl, ?_⟩⟩⟩
        rw [decide_eq_true rfl]
        exact ⟨_, rfl, iteF ⟨t1.trans (s9.trans (Sts.of s10)), g9.same s10, s10 _ _ (s9.lst t2 t3)⟩⟩
      · obtain ⟨t1, t2, t3⟩ := hP
        refine ⟨show 0 ≤ sizeLine from Nat.zero_le _, fun z nz => gen_upd H8 z (.lst []) nz fun H9 s9 f9 => ?_⟩
        refine ⟨.list [], .list [], .lst (SqL.of (s9 _ _ t3)) .nil, .lst (SqL.of f9) .nil, by decide +kernel, by decide +kernel, ?_⟩
        exact q H9 (S07.trans (Sy.ofP (t1.trans (Sts.of s9)))) (t2.same s9) (((d7.same (Same.rf H7)) |> t1.dc tg7).same s9)
    · rw [decide_eq_false (show ¬ (n : Int) < 2 by omega)]
      refine ⟨false, rfl, iteF ?_⟩
      have ha3 := s3.tup tg2 ha2
      refine ⟨_, rfl, _, rfl, a, a, F, F, 2, rfl, ha3, ha3, ldOk9 bF (by omega) n9, fun q1 H4 s4 f4 => ⟨q1, _, rfl, f4, rfl, ?_⟩⟩
      cases e : nzr (L 2 F F) with
      | false =>
        rw [decide_eq_true (congrArg V.int (show ((cont (L 2 F F) : Nat) : Int) = 0 by rw [(cont_nzr _).mpr e]; rfl))]
        have tg5 := g3.same s4
        have ha5 := s3.tup tg2 ha2
        have ha5 := s4 _ _ ha5
        have fa5 := (s3.fo tg2 f2).same s4
        have d5 := (s3.dc tg2 d2).same s4
        have pp5 := pp.same s4
        obtain ⟨w0, v1, v2, e1, e2, PA, ok, kd⟩ := pp5.ok bF n9
        have ew : w0 = sPow := (kd.resolve_left fun z => by rw [e] at z; cases z.2.1).2
        subst ew
        refine ⟨_, rfl, _, rfl, a, F, n, .ref p, _, rfl, ha5, bF, n9, PA.vx.1.1, PA.vx.1.2, fun H6 s6 => ⟨_, rfl, ?_⟩⟩
        rw [ok]
        have PA6 := PA.same s6
        refine iteF ⟨_, rfl, p, _, 0, _, rfl, rfl, SqT.of PA6.at_, atI_nat (j := 0) rfl, _, rfl, _, rfl, iteT ⟨rfl, _, rfl, ?_⟩⟩
        rw [decide_eq_true (rfl : V.str sPow = V.str sPow)]
        refine iteF ⟨_, rfl, _, rfl, d, p, F, n, rfl, d5.same s6, pp5.same s6, bF, n9, fun l vs ds H7 s7 d7 f7 vl lv => ?_⟩
        have ha7 := s7 _ _ (ne_dice (d5.same s6) (s6 _ _ ha5)) (s6 _ _ ha5)
        have fa7 := (fa5.same s6).sx (d5.same s6) s7
        have tg7 := (tg5.same s6).sx s7 (d5.same s6)
        have S07 : Sy d Ps H H7 := (Sy.of (s1.trans s2)).trans ((Sy.ofP s3).trans ((Sy.of (s4.trans s6)).trans (Sy.ofD s7)))
        refine ⟨_, rfl, l, rfl, ⟨_, SqL.of f7⟩, fun D hD => lc_list (xs := vs) (fun j H' => Sts Ps H7 H' ∧ Tg Ps H' ∧ H' D = some (.lst [])) ⟨Sts.of (same_upd0 hD), tg7.same (same_upd0 hD), upd_same⟩ (fun j H' _ hP => ?_) (fun j x H' hx hP => ?_) (fun H8 hP => ?_)⟩
        · exact SqL.of (hP.1.lst tg7 f7)
        · obtain ⟨t1, t2, t3⟩ := hP
          obtain ⟨dx, hx1, hx2, hx3⟩ := vl.get hx
          refine ⟨rfl, _, rfl, _, rfl, fa, F, n, x, dx, rfl, t1.fo tg7 fa7, bF, n9, hx2.sts t1 tg7, hx3, t2, fun H9 s9 g9 => ⟨_, rfl, _, rfl, _, rfl, a, F, n, x, dx, rfl, (t1.trans s9).tup tg7 ha7, bF, n9, hx2.sts (t1.trans s9) tg7, hx3, fun H10 s10 => ⟨_, rfl, rfl, ?_⟩⟩⟩
          rw [decide_eq_true rfl]
          exact ⟨_, rfl, iteF ⟨t1.trans (s9.trans (Sts.of s10)), g9.same s10, s10 _ _ (s9.lst t2 t3)⟩⟩
        · obtain ⟨t1, t2, t3⟩ := hP
          refine ⟨show 0 ≤ sizeLine from Nat.zero_le _, fun z nz => gen_upd H8 z (.lst []) nz fun H9 s9 f9 => ?_⟩
          refine ⟨.list [], .list [], .lst (SqL.of (s9 _ _ t3)) .nil, .lst (SqL.of f9) .nil, by decide +kernel, by decide +kernel, ?_⟩
          exact q H9 (S07.trans (Sy.ofP (t1.trans (Sts.of s9)))) (t2.same s9) (((d7.same (Same.rf H7)) |> t1.dc tg7).same s9)
      | true =>
        rw [decide_eq_false (show ¬ V.int ((cont (L 2 F F) : Nat) : Int) = V.int 0 from fun z => by
          have := (cont_nzr _).mp (show cont (L 2 F F) = 0 by have := V.int.inj z; omega)
          rw [e] at this
          cases this)]
        have tg5 := g3.same s4
        have ha5 := s3.tup tg2 ha2
        have ha5 := s4 _ _ ha5
        have fa5 := (s3.fo tg2 f2).same s4
        have d5 := (s3.dc tg2 d2).same s4
        have pp5 := pp.same s4
        obtain ⟨w0, v1, v2, e1, e2, PA, ok, kd⟩ := pp5.ok bF n9
        have ew : w0 = sEnt := (kd.resolve_right fun z => z.1.elim (fun z => absurd z c2) fun z => by rw [e] at z; cases z).2.2
        subst ew
        refine ⟨_, rfl, _, rfl, a, F, n, .ref p, _, rfl, ha5, bF, n9, PA.vx.1.1, PA.vx.1.2, fun H6 s6 => ⟨_, rfl, ?_⟩⟩
        rw [ok]
        have PA6 := PA.same s6
        refine iteF ⟨_, rfl, p, _, 0, _, rfl, rfl, SqT.of PA6.at_, atI_nat (j := 0) rfl, _, rfl, _, rfl, iteF ⟨rfl, _, rfl, ?_⟩⟩
        rw [decide_eq_true (rfl : V.str sEnt = V.str sEnt)]
        refine iteF ⟨_, rfl, _, rfl, d, p, F, n, rfl, d5.same s6, pp5.same s6, bF, n9, fun l vs ds H7 s7 d7 f7 vl lv => ?_⟩
        have ha7 := s7 _ _ (ne_dice (d5.same s6) (s6 _ _ ha5)) (s6 _ _ ha5)
        have fa7 := (fa5.same s6).sx (d5.same s6) s7
        have tg7 := (tg5.same s6).sx s7 (d5.same s6)
        have S07 : Sy d Ps H H7 := (Sy.of (s1.trans s2)).trans ((Sy.ofP s3).trans ((Sy.of (s4.trans s6)).trans (Sy.ofD s7)))
        refine ⟨_, rfl, l, rfl, ⟨_, SqL.of f7⟩, fun D hD => lc_list (xs := vs) (fun j H' => Sts Ps H7 H' ∧ Tg Ps H' ∧ H' D = some (.lst [])) ⟨Sts.of (same_upd0 hD), tg7.same (same_upd0 hD), upd_same⟩ (fun j H' _ hP => ?_) (fun j x H' hx hP => ?_) (fun H8 hP => ?_)⟩
        · exact SqL.of (hP.1.lst tg7 f7)
        · obtain ⟨t1, t2, t3⟩ := hP
          obtain ⟨dx, hx1, hx2, hx3⟩ := vl.get hx
          refine ⟨rfl, _, rfl, _, rfl, fa, F, n, x, dx, rfl, t1.fo tg7 fa7, bF, n9, hx2.sts t1 tg7, hx3, t2, fun H9 s9 g9 => ⟨_, rfl, _, rfl, _, rfl, a, F, n, x, dx, rfl, (t1.trans s9).tup tg7 ha7, bF, n9, hx2.sts (t1.trans s9) tg7, hx3, fun H10 s10 => ⟨_, rfl, rfl, ?_⟩⟩⟩
          rw [decide_eq_true rfl]
          exact ⟨_, rfl, iteF ⟨t1.trans (s9.trans (Sts.of s10)), g9.same s10, s10 _ _ (s9.lst t2 t3)⟩⟩
        · obtain ⟨t1, t2, t3⟩ := hP
          refine ⟨show 0 ≤ sizeLine from Nat.zero_le _, fun z nz => gen_upd H8 z (.lst []) nz fun H9 s9 f9 => ?_⟩
          refine ⟨.list [], .list [], .lst (SqL.of (s9 _ _ t3)) .nil, .lst (SqL.of f9) .nil, by decide +kernel, by decide +kernel, ?_⟩
          exact q H9 (S07.trans (Sy.ofP (t1.trans (Sts.of s9)))) (t2.same s9) (((d7.same (Same.rf H7)) |> t1.dc tg7).same s9)
end
end K59

set_option Elab.async false
set_option linter.all false
set_option maxRecDepth 100000
set_option maxHeartbeats 4000000
set_option exponentiation.threshold 10000
namespace K59
open PySem PySem.Spec PyProof.Rows L2 StX RZ MyR SlX OwnR OwnF EnumT SeqE GxR GenNx FDivQ
theorem pt_same {u v u' v' : Int} (h : Pt u v) (h' : Pt u' v') (e : u * v' = v * u') : u = u' ∧ v = v' := by
  have en : u.natAbs * v'.natAbs = v.natAbs * u'.natAbs := by rw [← Int.natAbs_mul, e, Int.natAbs_mul]
  have d1 : u.natAbs ∣ u'.natAbs := Nat.Coprime.dvd_of_dvd_mul_left h.cop ⟨_, en.symm⟩
  have d2 : u'.natAbs ∣ u.natAbs := Nat.Coprime.dvd_of_dvd_mul_right h'.cop ⟨v.natAbs, by rw [en, Nat.mul_comm]⟩
  have eu := Nat.dvd_antisymm d1 d2
  have p1 := h.pos
  have p2 := h'.pos
  rw [fo_pair] at p1 p2
  by_cases c : u = 0
  · have c' : u' = 0 := by omega
    rw [if_pos c] at p1
    rw [if_pos c'] at p2
    have g1 := h.cop
    have g2 := h'.cop
    rw [c] at g1
    rw [c'] at g2
    have g1 : v.natAbs = 1 := by
      rw [show (0 : Int).natAbs = 0 from rfl, Nat.gcd_zero_left] at g1
      exact g1
    have g2 : v'.natAbs = 1 := by
      rw [show (0 : Int).natAbs = 0 from rfl, Nat.gcd_zero_left] at g2
      exact g2
    omega
  · have c' : u' ≠ 0 := by omega
    rw [if_neg c] at p1
    rw [if_neg c'] at p2
    have e1 : u = u' := by omega
    refine ⟨e1, ?_⟩
    rw [← e1, Int.mul_comm v u] at e
    exact (Int.eq_of_mul_eq_mul_left c e).symm
theorem int_pow_ne {x : Int} (h : x ≠ 0) : ∀ m : Nat, x ^ m ≠ 0
  | 0 => by rw [Int.pow_zero]; decide
  | m + 1 => by
    rw [Int.pow_succ]
    intro w
    rcases Int.mul_eq_zero.mp w with w | w
    · exact int_pow_ne h m w
    · exact h w
theorem pw_root {F : List Int} {n : Nat} {c u v x y : Int} (pw : Pw F n c u v) (hxy : Pt x y) (c0 : c ≠ 0) (z : ev F x y = 0) : u = x ∧ v = y := by
  refine pt_same pw.pt hxy ?_
  rw [pw.eq, ev_map, ev_pow (by simp), ev2] at z
  have z := (Int.mul_eq_zero.mp z).resolve_left c0
  have : v * x + -u * y = 0 := Classical.byContradiction fun q => int_pow_ne q n z
  grind
theorem told1 {H : Hp} {p : Addr} (h : PP H p [1, 8, 24, 32, 16] 4) : ∃ t, H p = some (.tup [.str sPow, .int 1, .ref t]) ∧ H t = some (tp [2, -1]) := by
  rcases h with ⟨_, nz, _⟩ | ⟨_, t, c, u, v, h1, h2, pw, _⟩
  · exact absurd nz (by decide +kernel)
  · have e0 : ev [1, 8, 24, 32, 16] 1 0 = c * v ^ 4 := by
      rw [pw.eq, ev_map, ev_pow (by simp), ev2]
      congr 2
      omega
    have l0 : ev [1, 8, 24, 32, 16] 1 0 = 1 := by decide +kernel
    have c0 : c ≠ 0 := fun z => by rw [l0, z] at e0; omega
    obtain ⟨rfl, rfl⟩ := pw_root pw (x := 2) (y := -1) ⟨by decide, by decide⟩ c0 (by decide +kernel)
    have : c = 1 := by
      rw [l0, show ((-1 : Int)) ^ 4 = 1 by decide] at e0
      omega
    subst this
    exact ⟨t, h1, h2⟩
theorem told2 {H : Hp} {p : Addr} (h : PP H p [1, 0, -2] 2) : H p = some (.tup [.str sEnt, .int 0, .int (-16)]) := by
  rcases h with ⟨_, nz, h⟩ | ⟨h, _⟩
  · rw [h]
    have e1 : fi (L 2 [1, 0, -2] [1, 0, -2]) = 0 := by decide +kernel
    unfold entO
    rw [e1, show co (L 2 [1, 0, -2] [1, 0, -2]) 0 = -16 by decide +kernel]
    rfl
  · rcases h with h | h
    · omega
    · exact absurd h (by decide +kernel)
theorem told3 {H : Hp} {p : Addr} (h : PP H p [4, -6] 1) : ∃ t, H p = some (.tup [.str sPow, .int 2, .ref t]) ∧ H t = some (tp [3, 2]) := by
  rcases h with ⟨n2, _⟩ | ⟨_, t, c, u, v, h1, h2, pw, _⟩
  · omega
  · have e0 : ev [4, -6] 1 0 = c * v ^ 1 := by
      rw [pw.eq, ev_map, ev_pow (by simp), ev2]
      congr 2
      omega
    have l0 : ev [4, -6] 1 0 = 4 := by decide +kernel
    have c0 : c ≠ 0 := fun z => by rw [l0, z] at e0; omega
    obtain ⟨rfl, rfl⟩ := pw_root pw (x := 3) (y := 2) ⟨by decide, by decide⟩ c0 (by decide +kernel)
    have : c = 2 := by
      rw [l0, show ((2 : Int)) ^ 1 = 2 by decide] at e0
      omega
    subst this
    exact ⟨t, h1, h2⟩
def toldD : List PyData := [.tuple [.str sPow, .int 1, .tuple ([2, -1].map PyData.int)], .tuple [.str sEnt, .int 0, .int (-16)], .tuple [.str sPow, .int 2, .tuple ([3, 2].map PyData.int)]]
section
variable {P : Program} {w : World} {K : PySem.W.Frag} {mg : Str → Option Value} {base : Heap}
theorem ok_law (T : Facts K mg) (TB_first_index : TabB base mg T.c_first_index T.P_first_index) (TB_first_of : TabB base mg T.c_first_of T.P_first_of) : FnOk P w K mg base CX0 8 T.f_law T.fd_law ["_law_script"] (spLawT K [T.P_first_index, T.P_first_of]) := by
  obtain ⟨Ps, ePs⟩ : ∃ Ps, [T.P_first_index, T.P_first_of] = Ps := ⟨_, rfl⟩
  have hP : T.P_first_index ∈ Ps := by rw [← ePs]; simp
  have hP2 : T.P_first_of ∈ Ps := by rw [← ePs]; simp
  rw [ePs]
  have G_law_dice := ok_law_dice (P := P) (w := w) (base := base) T
  have G_law_roll : FnOk P w K mg base CX0 1 T.f_law_roll T.fd_law_roll ["_law_dice_here", "_law_total"] spRoll2 := (ok_law_roll T).imp roll2
  have G_law_right := ok_law_right (P := P) (w := w) (base := base) T TB_first_of hP2 TB_first_index hP
  have G_law_power_form := ok_law_power_form (P := P) (w := w) (base := base) T
  have G_law_form := ok_law_form (P := P) (w := w) (base := base) T
  have G_law_line := ok_law_line (P := P) (w := w) (base := base) T
  have G_law_point := ok_law_point (P := P) (w := w) (base := base) T
  have G_law_product := ok_law_product (P := P) (w := w) (base := base) T
  have G_law_power := ok_law_power (P := P) (w := w) (base := base) T
  have G_law_small_form := ok_law_small_form (P := P) (w := w) (base := base) T
  have G_power_paper := ok_power_paper (P := P) (w := w) (base := base) T TB_first_index hP
  have G_Form_init : FnOk P w K mg base CX0 5 T.f_Form_init T.fd_Form_init ["self", "entries"] (spForm T.C_Told T.C_Form) := ok_Form_init T
  refine T.F_law.ok sc_law (fun vs H Q E h => ?_) (fun cdv A outer s H vs Q E hr h => ?_)
  · obtain ⟨a, ns, rfl, _⟩ := h
    rfl
  · obtain ⟨a, ns, rfl, ha, hn, hG, q⟩ := h
    refine ⟨_, (PSs.nox (pss_cons (ps_for PassesOwn.never (by rfl) (pi_range1 (by rfl) T.z_range (pa_cons (pe_callB (call_max2 (by rfl)) (by rfl) T.z_max (by decide +kernel) (pa_cons pe_int (pa_cons (pe_callB (call_min2 (by rfl)) (by rfl) T.z_min (by decide +kernel) (pa_cons pe_int (pa_cons (pe_callB call_len_seq (by rfl) T.z_len (by decide +kernel) (pa_cons (pv 0) pa_nil)) pa_nil))) pa_nil))) pa_nil)) (pg_name (i := 1) sc_law.nd rfl (.inl rfl))
      (pss_cons (ps_set (i := 2) sc_law.nd rfl (.inl rfl) (pe_call G_law_dice (hr.mono (by decide)) (by rfl) T.g_law_dice T.F_law_dice.kp T.b_law_dice .nil pass0 (pa_cons (pv 0) (pa_cons (pv 1) pa_nil))))
      (pss_cons (ps_if (pw_or (pt_not (pt_val (pe_call G_law_right hr (by rfl) T.g_law_right T.F_law_right.kp T.b_law_right .nil pass0 (pa_cons (pv 2) (pa_cons (pe_call G_law_power_form (hr.mono (by decide)) (by rfl) T.g_law_power_form T.F_law_power_form.kp T.b_law_power_form .nil pass0 (pa_cons (pv 2) pa_nil)) pa_nil))))) (pw_or1 (pt_not (pt_val (pe_call G_law_right hr (by rfl) T.g_law_right T.F_law_right.kp T.b_law_right .nil pass0 (pa_cons (pv 2) (pa_cons (pe_call G_law_form (hr.mono (by decide)) (by rfl) T.g_law_form T.F_law_form.kp T.b_law_form .nil pass0 (pa_cons (pv 2) (pa_cons (pe_call G_law_roll (hr.mono (by decide)) (by rfl) T.g_law_roll T.F_law_roll.kp T.b_law_roll .nil pass0 (pa_cons (pv 2) (pa_cons pe_int pa_nil))) pa_nil))) pa_nil))))))).pt
        (pss_one (ps_ret pe_bl))
        pss_nil)
      (pss_cons (ps_par (i := 3) (j := 4) (by rfl) sc_law.nd rfl rfl (by decide) rfl rfl (pa_cons (pe_call G_law_line (hr.mono (by decide)) (by rfl) T.g_law_line T.F_law_line.kp T.b_law_line .nil pass0 (pa_cons (pe_call G_law_point (hr.mono (by decide)) (by rfl) T.g_law_point T.F_law_point.kp T.b_law_point .nil pass0 (pa_cons (pv 2) (pa_cons pe_int pa_nil))) pa_nil)) (pa_cons (pe_op op_add pe_int (pe_call G_law_roll (hr.mono (by decide)) (by rfl) T.g_law_roll T.F_law_roll.kp T.b_law_roll .nil pass0 (pa_cons (pv 2) (pa_cons pe_int pa_nil)))) pa_nil)) (by rfl))
      (pss_one (ps_if (pt_not (pt_val (pe_call G_law_right hr (by rfl) T.g_law_right T.F_law_right.kp T.b_law_right .nil pass0 (pa_cons (pv 2) (pa_cons (pe_call G_law_product (hr.mono (by decide)) (by rfl) T.g_law_product T.F_law_product.kp T.b_law_product .nil pass0 (pa_cons (pe_call G_law_power (hr.mono (by decide)) (by rfl) T.g_law_power T.F_law_power.kp T.b_law_power .nil pass0 (pa_cons (pv 3) (pa_cons (pv 4) pa_nil))) (pa_cons (pe_call G_law_small_form (hr.mono (by decide)) (by rfl) T.g_law_small_form T.F_law_small_form.kp T.b_law_small_form .nil pass0 (pa_cons (pv 2) (pa_cons (pe_op op_add pe_int (pe_call G_law_roll (hr.mono (by decide)) (by rfl) T.g_law_roll T.F_law_roll.kp T.b_law_roll .nil pass0 (pa_cons (pv 2) (pa_cons pe_int pa_nil)))) (pa_cons pe_int pa_nil)))) pa_nil))) pa_nil)))))
        (pss_one (ps_ret pe_bl))
        pss_nil))))))
    (pss_cons (ps_set (i := 5) sc_law.nd rfl (.inl rfl) (pe_lst (pa_cons (pe_call G_power_paper (hr.mono (by decide)) (by rfl) T.g_power_paper T.F_power_paper.kp T.b_power_paper .nil pass0 (pa_cons (pe_make T.mk_Form G_Form_init (hr.mono (by decide)) (by rfl) T.g_Form T.b_Form_init .nil pass0 (pa_cons (pe_tup (pa_cons pe_int (pa_cons pe_int (pa_cons pe_int (pa_cons pe_int (pa_cons pe_int pa_nil)))))) pa_nil)) pa_nil)) (pa_cons (pe_call G_power_paper (hr.mono (by decide)) (by rfl) T.g_power_paper T.F_power_paper.kp T.b_power_paper .nil pass0 (pa_cons (pe_make T.mk_Form G_Form_init (hr.mono (by decide)) (by rfl) T.g_Form T.b_Form_init .nil pass0 (pa_cons (pe_tup (pa_cons pe_int (pa_cons pe_int (pa_cons (pe_un un_neg pe_int) pa_nil)))) pa_nil)) pa_nil)) (pa_cons (pe_call G_power_paper (hr.mono (by decide)) (by rfl) T.g_power_paper T.F_power_paper.kp T.b_power_paper .nil pass0 (pa_cons (pe_make T.mk_Form G_Form_init (hr.mono (by decide)) (by rfl) T.g_Form T.b_Form_init .nil pass0 (pa_cons (pe_tup (pa_cons pe_int (pa_cons (pe_un un_neg pe_int) pa_nil))) pa_nil)) pa_nil)) pa_nil)))))
    (pss_one (ps_ret (pe_cmpR (op_eqD (hu64 hr)) (pv 5) (pe_lst (pa_cons (pe_tup (pa_cons pe_str (pa_cons pe_int (pa_cons (pe_tup (pa_cons pe_int (pa_cons (pe_un un_neg pe_int) pa_nil))) pa_nil)))) (pa_cons (pe_tup (pa_cons pe_str (pa_cons pe_int (pa_cons (pe_un un_neg pe_int) pa_nil)))) (pa_cons (pe_tup (pa_cons pe_str (pa_cons pe_int (pa_cons (pe_tup (pa_cons pe_int (pa_cons pe_int pa_nil))) pa_nil)))) pa_nil)))) (nomark _))))))), ?_⟩
    refine ⟨_, rfl, a, _, rfl, .inl ha, 4, _, rfl, 1, _, rfl, ?_⟩
    rw [List.length_map]
    obtain ⟨n, hn1, hn0⟩ : ∃ n : Int, (if (if ((ns.length : Nat) : Int) < 4 then ((ns.length : Nat) : Int) else 4) > 1 then (if ((ns.length : Nat) : Int) < 4 then ((ns.length : Nat) : Int) else 4) else 1) = n ∧ 0 ≤ n ∧ n ≤ 4 := ⟨_, rfl, by split <;> split <;> omega, by split <;> split <;> omega⟩
    rw [hn1]
    refine ⟨_, rfl, by omega, by omega, for_range (n := n.toNat) (fun i σ H' => ∃ y1 y2 y3 y4, σ = [some (.ref a), y1, y2, y3, y4, none] ∧ SqL K H' a (ns.map V.int) ∧ Tg Ps H') ⟨none, none, none, none, rfl, ha, hG⟩ (fun i σ H1 hi hP => ?_) (fun σ H1 hP => ?_)⟩
    · obtain ⟨y1, y2, y3, y4, rfl, h1, p1⟩ := hP
      refine ⟨_, rfl, _, rfl, a, ns, i, ?_, h1, fun d x y z nd => ?_⟩
      · show [V.ref a, V.int (0 + (i : Int))] ++ [] = _
        rw [Int.zero_add]
        rfl
      have D1 : Dc (upd H1 d (dice x y z)) d := ⟨x, y, z, upd_same⟩
      have t1 : Tg Ps (upd H1 d (dice x y z)) := p1.same (same_upd0 nd)
      refine ⟨_, rfl, _, rfl, d, rfl, D1, fun f1 F1 n1 H2 s2 d2 e2 b2 l2 => ⟨d, f1, F1, n1, rfl, d2, e2, b2, l2, t1.sx s2 D1, fun H3 s3 t3 d3 => ⟨_, rfl, iteF ?_⟩⟩⟩
      refine ⟨_, rfl, _, rfl, _, rfl, d, 9, rfl, d3, by decide, by decide, fun k H4 hk s4 d4 => ⟨d, k, rfl, d4, by omega, fun f2 H5 F2 s5 d5 e5 b5 => ⟨d, f2, F2, k, rfl, d5, e5, b5.mono (by decide +kernel), by omega, (t3.sx s4 d3).sx s5 d4, fun H6 s6 t6 d6 => ⟨_, rfl, iteF ?_⟩⟩⟩⟩
      have S16 : Sy d Ps (upd H1 d (dice x y z)) H6 := (Sy.ofD s2).trans (s3.trans ((Sy.ofD (s4.trans s5)).trans s6))
      refine ⟨_, rfl, d, 3, rfl, d6, by decide, by decide, fun tp1 H7 u v s7 d7 e7 hu hv => ⟨tp1, u, v, rfl, e7, fun l nl => gen_upd H7 l (tp [v, 0 - u]) nl fun H8 s8 e8 => ?_⟩⟩
      have d8 := d7.same s8
      rw [show (0 : Int) - u = -u by omega] at e8
      refine ⟨_, rfl, d, 5, rfl, d8, by decide, by decide, fun o H9 ho s9 d9 => ⟨_, _, rfl, rfl, _, _, rfl, ?_⟩⟩
      have e9 : H9 l = some (tp [v, -u]) := s9 _ _ (ne_dice d8 e8) e8
      have bl := bd_lineN (b := 3) hu hv
      have bp := fun i => bd_point (u := u) (v := v) hu hv i
      have smp : ∀ i, i ≤ 5 → pow [v, -u] i ≠ [] ∧ (pow [v, -u] i).length ≤ 100 ∧ ∀ x ∈ pow [v, -u] i, sm x := fun i hi => ⟨(bp i).ne, by rw [(bp i).len]; omega, fun x hx => Nat.lt_of_le_of_lt ((bp i).mem x hx) (Nat.lt_of_le_of_lt (Nat.pow_le_pow_right (by decide +kernel) hi) (by decide +kernel))⟩
      refine ⟨_, rfl, _, rfl, _, rfl, l, [v, -u], o + 1, ?_, e9, by simp, by show 2 ≤ 100; decide, fun x hx => Nat.lt_of_le_of_lt (bl.mem x hx) (by decide +kernel), fun i hi => smp i (by omega), by omega, fun m1 H10 s10 f10 => ?_⟩
      · show [V.ref l, V.int (1 + (o : Int))] ++ [] = [V.ref l, V.int ((o + 1 : Nat) : Int)]
        rw [show ((o + 1 : Nat) : Int) = 1 + (o : Int) by omega]
        rfl
      have d10 := d9.same s10
      refine ⟨_, rfl, _, rfl, d, 2, rfl, d10, by decide, by decide, fun o2 H11 ho2 s11 d11 => ⟨_, _, rfl, rfl, d, o2 + 1, 2, ?_, d11, by omega, by decide, fun m2 H12 G s12 d12 f12 lG bG => ?_⟩⟩
      · show [V.ref d, V.int (1 + (o2 : Int)), V.int 2] ++ [] = [V.ref d, V.int ((o2 + 1 : Nat) : Int), V.int ((2 : Nat) : Int)]
        rw [show ((o2 + 1 : Nat) : Int) = 1 + (o2 : Int) by omega]
        rfl
      have f12' : H12 m1 = some (tp (pow [v, -u] (o + 1))) := s12 _ _ (ne_dice d11 (s11 _ _ (ne_dice d10 f10) f10)) (s11 _ _ (ne_dice d10 f10) f10)
      obtain ⟨n1, n2, n3⟩ := smp (o + 1) (by omega)
      have nG : G ≠ [] := fun z => by rw [z] at lG; cases lG
      have BG : Bd G (o2 + 1) 6 := ⟨lG, Nat.le_trans (nm_le bG) (by rw [lG]; omega)⟩
      refine ⟨m1, m2, _, _, rfl, f12', f12, n1, nG, n2, by rw [lG]; omega, n3, fun x hx => Nat.lt_of_le_of_lt (bG x hx) (by decide +kernel), fun m3 H13 s13 _ f13 => ?_⟩
      have B13 := bd_ml (bp (o + 1)) BG
      have B13 := B13.mono (c := 2 ^ 100) (Nat.le_trans (Nat.mul_le_mul_right _ (Nat.pow_le_pow_right (by decide) (show o + 1 ≤ 5 by omega))) (by decide +kernel))
      have d13 := d12.same s13
      have sx613 : Sx d H6 H13 := s7.trans ((Sx.of s8).trans (s9.trans ((Sx.of s10).trans (s11.trans (s12.trans (Sx.of s13))))))
      have t13 := t6.sx sx613 d6
      refine ⟨d, m3, _, _, rfl, d13, f13, B13, by omega, t13, fun H14 s14 t14 d14 => ⟨_, rfl, iteF ?_⟩⟩
      exact ⟨_, _, _, _, rfl, script_Sy (S16.trans ((Sy.ofD sx613).trans s14)) nd p1 h1, t14⟩
    · obtain ⟨y1, y2, y3, y4, rfl, h1, t1⟩ := hP
      clear h1
      refine ⟨by decide, fun u0 m0 => gen_upd H1 u0 (tp [1, 8, 24, 32, 16]) m0 fun H2 s2 e2 => fun fa fd x1 x2 x3 => mkF x1 x2 x3 e2 (by decide) (by decide) ?_ fun H3 s3 f3 => ?_⟩
      · intro z hz
        have : z.natAbs ≤ 32 := by
          have key : ∀ z ∈ ([1, 8, 24, 32, 16] : List Int), z.natAbs ≤ 32 := by decide
          exact key z hz
        exact Nat.lt_of_le_of_lt this (by decide +kernel)
      have t3 := t1.same (s2.trans s3)
      refine ⟨fa, _, 4, rfl, f3, ⟨rfl, by decide +kernel⟩, by decide, t3, fun p1 H4 s4 t4 pp1 => ?_⟩
      obtain ⟨q1, a1, b1⟩ := told1 pp1
      refine ⟨_, rfl, sz3, fun u1 m1 => gen_upd H4 u1 (tp [1, 0, -2]) m1 fun H5 s5 e5 => fun fb fe y1 y2 y3 => mkF y1 y2 y3 e5 (by decide) (by decide) ?_ fun H6 s6 f6 => ?_⟩
      · intro z hz
        have : z.natAbs ≤ 32 := by
          have key : ∀ z ∈ ([1, 0, -2] : List Int), z.natAbs ≤ 32 := by decide
          exact key z hz
        exact Nat.lt_of_le_of_lt this (by decide +kernel)
      have t6 := t4.same (s5.trans s6)
      refine ⟨fb, _, 2, rfl, f6, ⟨rfl, by decide +kernel⟩, by decide, t6, fun p2 H7 s7 t7 pp2 => ?_⟩
      have a2 := told2 pp2
      refine ⟨_, rfl, sz2, fun u2 m2 => gen_upd H7 u2 (tp [4, -6]) m2 fun H8 s8 e8 => fun fc ff z1 z2 z3 => mkF z1 z2 z3 e8 (by decide) (by decide) ?_ fun H9 s9 f9 => ?_⟩
      · intro z hz
        have : z.natAbs ≤ 32 := by
          have key : ∀ z ∈ ([4, -6] : List Int), z.natAbs ≤ 32 := by decide
          exact key z hz
        exact Nat.lt_of_le_of_lt this (by decide +kernel)
      have t9 := t7.same (s8.trans s9)
      refine ⟨fc, _, 1, rfl, f9, ⟨rfl, by decide +kernel⟩, by decide, t9, fun p3 H10 s10 t10 pp3 => ?_⟩
      obtain ⟨q3, a3, b3⟩ := told3 pp3
      have S47 : Sts Ps H4 H7 := (Sts.of (s5.trans s6)).trans s7
      have S70 : Sts Ps H7 H10 := (Sts.of (s8.trans s9)).trans s10
      have a1 := S70.tup t7 (S47.tup t4 a1)
      have b1 := S70.tup t7 (S47.tup t4 b1)
      have a2 := S70.tup t7 a2
      clear S47 S70 s2 s3 s4 s5 s6 s7 s8 s9 s10 e2 e5 e8 f3 f6 f9 m0 m1 m2 pp1 pp2 pp3 t3 t6 t9 t7 t4
      refine ⟨show 3 ≤ sizeLine by decide, fun L1 n1 => gen_upd H10 L1 (.lst [.ref p1, .ref p2, .ref p3]) n1 fun H11 s11 g1 => ?_⟩
      refine ⟨_, rfl, ⟨_, rfl, sz2, fun r1 m1 => gen_upd H11 r1 (tp [2, -1]) m1 fun H12 s12 h1 => ⟨sz3, fun r2 m2 => gen_upd H12 r2 (.tup [.str sPow, .int 1, .ref r1]) m2 fun H13 s13 h2 => ?_⟩⟩⟩
      refine ⟨_, rfl, sz3, fun r3 m3 => gen_upd H13 r3 (.tup [.str sEnt, .int 0, .int (-16)]) m3 fun H14 s14 h3 => ?_⟩
      refine ⟨sz2, fun r4 m4 => gen_upd H14 r4 (tp [3, 2]) m4 fun H15 s15 h4 => ⟨sz3, fun r5 m5 => gen_upd H15 r5 (.tup [.str sPow, .int 2, .ref r4]) m5 fun H16 s16 h5 => ?_⟩⟩
      refine ⟨show 3 ≤ sizeLine by decide, fun L2 n2 => gen_upd H16 L2 (.lst [.ref r2, .ref r3, .ref r5]) n2 fun H17 s17 g2 => ?_⟩
      have k16 := s17
      have k15 := s16.trans k16
      have k14 := s15.trans k15
      have k13 := s14.trans k14
      have k12 := s13.trans k13
      have k11 := s12.trans k12
      have k10 := s11.trans k11
      have dd1 : DpAll K H17 [.ref p1, .ref p2, .ref p3] toldD :=
        .cons (.tup (SqT.of (k10 _ _ a1)) (.cons (.str _) (.cons (.int _) (.cons (.tup (SqT.of (k10 _ _ b1)) (dpAll_ints [2, -1])) .nil))))
        (.cons (.tup (SqT.of (k10 _ _ a2)) (.cons (.str _) (.cons (.int _) (.cons (.int _) .nil))))
        (.cons (.tup (SqT.of (k10 _ _ a3)) (.cons (.str _) (.cons (.int _) (.cons (.tup (SqT.of (k10 _ _ b3)) (dpAll_ints [3, 2])) .nil)))) .nil))
      have dd2 : DpAll K H17 [.ref r2, .ref r3, .ref r5] toldD :=
        .cons (.tup (SqT.of (k13 _ _ h2)) (.cons (.str _) (.cons (.int _) (.cons (.tup (SqT.of (k12 _ _ h1)) (dpAll_ints [2, -1])) .nil))))
        (.cons (.tup (SqT.of (k14 _ _ h3)) (.cons (.str _) (.cons (.int _) (.cons (.int _) .nil))))
        (.cons (.tup (SqT.of (k16 _ _ h5)) (.cons (.str _) (.cons (.int _) (.cons (.tup (SqT.of (k15 _ _ h4)) (dpAll_ints [3, 2])) .nil)))) .nil))
      refine ⟨.list toldD, .list toldD, .lst (SqL.of (k11 _ _ g1)) dd1, .lst (SqL.of g2) dd2, by decide +kernel, by decide +kernel, ?_⟩
      rw [show PyData.eqv (.list toldD) (.list toldD) = true by decide +kernel]
      exact q H17
end
end K59

set_option Elab.async false
set_option linter.all false
set_option maxRecDepth 100000
set_option maxHeartbeats 0
namespace K59
open PySem PySem.Spec PyProof.Rows L2
theorem facts {l : PySem.W.OpenLaw} {w : World} {K : PySem.W.Frag} {h : Heap} {mg : Str → Option Value} {f : Addr} (X : K.In h) (G : h.Ns mainGlobals mg) (hfa : mg ("law" : Str) = some (.ref f)) (c : HookT.SaysGT faL fnL tfL exL h K) :
    LamX.LawAtS l w K CX0 8 63 "_law_script" mg f h := by
  obtain ⟨T⟩ := facts_of X G c.g
  have e := hfa.symm.trans T.g_law
  cases e
  have b := FunD.bindsA (ps := ["_law_script"]) T.F_law fun _ _ _ _ _ _ us hl => match us, hl with | [_], _ => rfl
  have key : ∀ p ∈ ([(T.c_first_index, T.P_first_index), (T.c_first_of, T.P_first_of)] : List (Addr × Addr)), ∃ q ∈ tfL, p = HookT.cTA K q := fun p hp => by
    simp only [List.mem_cons, List.not_mem_nil, or_false] at hp
    rcases hp with rfl | rfl
    · exact ⟨(HookG.At.glo "first_index"), by unfold tfL; simp, T.tab_first_index⟩
    · exact ⟨(HookG.At.glo "first_of"), by unfold tfL; simp, T.tab_first_of⟩
  refine ⟨T.fd_law, [(T.c_first_index, T.P_first_index), (T.c_first_of, T.P_first_of)], spLawT K [T.P_first_index, T.P_first_of], fun p hp => ?_, fun p hp => ?_, fun p hp => ?_, fun s v => b s [v] rfl, fun H a ns hl _ hH hS => ⟨a, ns, rfl, hS, hl, (fun P hP => by simp only [List.mem_cons, List.not_mem_nil, or_false] at hP; rcases hP with e | e <;> first | exact e ▸ HookT.tabG0 (hH (T.c_first_index, T.P_first_index) (by simp)) | exact e ▸ HookT.tabG0 (hH (T.c_first_of, T.P_first_of) (by simp))), fun _ => rfl⟩, fun base _ _ TB => ok_law T (have t := TB (T.c_first_index, T.P_first_index) (by simp); ⟨t.code, t.bm, t.gP⟩) (have t := TB (T.c_first_of, T.P_first_of) (by simp); ⟨t.code, t.bm, t.gP⟩)⟩
  · obtain ⟨q, hq, rfl⟩ := key p hp
    exact c.empty q hq
  · obtain ⟨q, hq, rfl⟩ := key p hp
    exact c.out q hq
  · obtain ⟨q, hq, rfl⟩ := key p hp
    exact PySem.W.codeHd_of_K X (c.hd q hq)
end K59
open PySem PySem.W PySem.Calls PyProof.Rows
theorem PySem.Challenge.cw_sourceforms_k59_whole_powers_by_second_l_holds : PySem.Challenge.rw_sourceforms_k59_whole_powers_by_second_l.Holds := by
  w_on; o_law
  refine HandSHeadRun.head_imp (r := OpenLaw.row PySem.Challenge.rw_sourceforms_k59_whole_powers_by_second_l) (q := view (OpenLaw.row PySem.Challenge.rw_sourceforms_k59_whole_powers_by_second_l).prog [0, 89]) (H := K59.hk) (ob := K59.ob) (M := 12000) (loose := K59.loose) (d := HandSHeadRun.topDef (OpenLaw.row PySem.Challenge.rw_sourceforms_k59_whole_powers_by_second_l).prog 89) (kwd := []) K59.ob_eq K59.run (by kernel_rfl) (by kernel_rfl) (by kernel_rfl) (by rfl) (by first | assumption | decide +kernel) (by decide +kernel) ⟨rfl, rfl, rfl, rfl, rfl, by decide +kernel⟩ ?hw ?hc
  case hw => w_witness2
  case hc =>
    refine LamX.walk_ofTsE (l := PySem.Challenge.rw_sourceforms_k59_whole_powers_by_second_l) (n := 63) (k := 8) (x := "_law_script") (CX := fun _ => L2.CX0) rfl (by decide) (by kernel_rfl) ⟨rfl, by decide, by decide⟩ ?F (fun _ _ _ _ _ z => z)
    intro w mg fa h Y G hmg0
    obtain ⟨K, KX, c⟩ := Y
    have hmg : mg ("law" : PySem.Str) = some (.ref fa) := by
      have e : (HandSHeadRun.topDef (OpenLaw.row PySem.Challenge.rw_sourceforms_k59_whole_powers_by_second_l).prog 89).name = ("law" : PySem.Str) := by kernel_rfl
      rw [← e]
      exact hmg0
    exact ⟨K, KX, K59.facts KX G hmg c⟩
