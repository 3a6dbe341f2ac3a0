import PyProof.Rows.All
import Wide.All
import OpenK.AllK
import Wide.FinOn
import KE.KTupSum
import HandS.ForMost
import HandS.Wide
import HandS.Style
import HandS.Gcd
import KE.KMathG
import Flt.RightSqrt
import HandS.SlotsOwn
import HandS.IsInst
import KE.KOpsOwn
import KE.KCallOwn
import KE.KOwnIter
import OpenK.KMeth
import OpenK.KOps
import PyProof.InstNe
import HandS.OwnIter
import HandS.IterNext
import HandS.Defaults
import HandS.HeadHook2
import HandS.HeadNt
import HandS.Codes
import HandS.Words
import HandS.Slots
import HandS.ClsMeth
import PyProof.ListIndex
import HandS.Iter
import KE.GoesMore
import HandS.List
import HandS.AnyAll
import HandS.ExcOwn
import KE.KDictIter
import PyProof.GenCompT
import HandS.HeadHook4
import HandS.HeadWalk
import PyProof.TupleOfGen
import HandS.TupMul
import HandS.Zip
import HandS.Comp
import KE.GoesZip
import HandS.Deep
import HandS.TupSets
import HandS.Sort
import KE.DataFind
import PyProof.MinMaxWalk
import PyProof.WalkInts
import PyProof.TupleOps
import PyProof.WalksMore
import HandS.Conv
import HandS.Star
import HandS.TupAny
import HandS.Evl
import HandS.WordsExc
import HandS.Head0
import HandS.Head1
import HandS.Head2
import HandS.Head3
import HandS.HeadEnd
import HandS.HeadHook1
import HandS.HeadHook3
import HandS.FStr
import KE.KEqSeq
import HandS.Flt
import HandS.TupLe
import HandS.Base
import PySem.Challenge.RW_sourceforms_k76_whole_bezout_tables

set_option Elab.async false
set_option linter.all false
set_option maxRecDepth 100000
set_option maxHeartbeats 4000000
/-! rules of mine: a tuple turned round by a slice, the sum of a tuple -/
namespace MyR
open PySem PySem.Spec PyProof.Rows L2 HT
section
variable {prog : Program} {w : World} {A : Around} {E : Value → Shared → Prop} {s : Shared}
end
section
variable {X : Cx}
/-- // by any int other than 0 -/
def CDivZ (_ j : Int) : Prop := j ≠ 0 ∧ j.natAbs.log2 < 9000
theorem op_fdivZ : OpR X (binaryOp .FloorDiv) (rI CDivZ fun i j => .int (i.fdiv j)) := opI fun i j _ _ _ _ _ hc q =>
  floordiv_int hc.1 q (.inl (PyProof.noPylong_of_log2 hc.2))
end
end MyR

set_option Elab.async false
set_option linter.all false
set_option maxRecDepth 100000
set_option maxHeartbeats 2000000
/-! rules for instances with slots: own +, -, *, unary -, ==, !=, len, str -/
namespace OwnR
open PySem PySem.Spec PyProof.Rows L2 SlX
section
variable {X : Cx} {CX : CXT} {C g : Addr} {n : Nat} {sp : Sp} {E : XK}
end
end OwnR

set_option Elab.async false
set_option linter.all false
set_option maxRecDepth 100000
set_option maxHeartbeats 2000000
/-! list(x) of an instance with own __iter__ (an iterator over a tuple) and own __len__; iter of a tuple -/
namespace OwnR
open PySem PySem.Spec PyProof.Rows L2 SlX
/-- at it an iterator over the tuple at t, the next place is i -/
def ItT (t it : Addr) (i : Nat) : HO := .ext fun h => IsTupIter h it t i
section
variable {X : Cx} {CX : CXT} {pins : List (Addr × Obj)} {σ : L2.St} {H : Hp} {s : Shared} {C g gl t it q : Addr} {n i : Nat} {sp spl : Sp} {E : XK}
/-- what stands while the iterator's items are taken -/
structure Tk (K : PySem.W.Frag) (H0 H : Hp) (t it q : Addr) (ys : List V) (i : Nat) : Prop where
  at_ : H it = some (ItT t it i)
  tu : SqT K H t ys
  li : H q = some (.lst (ys.take i))
  st : ∀ b o, b ≠ it → b ≠ q → H0 b = some o → H b = some o
theorem slt_upd {a dx q : Addr} {vs : List (Option V)} {o : HO} (h : Slt H a C dx vs) (n : H q = none) : Slt (upd H q o) a C dx vs := by
  rcases h with ⟨h1, h2⟩ | ⟨h1, h2⟩
  · exact .inl ⟨by rw [upd_ne (ne_of_none h1 n)]; exact h1, h2⟩
  · exact .inr ⟨by rw [upd_ne (ne_of_none h1 n)]; exact h1, by rw [upd_ne (ne_of_none h2 n)]; exact h2⟩
end
end OwnR

set_option Elab.async false
set_option linter.all false
set_option maxRecDepth 100000
set_option maxHeartbeats 2000000
/-! a Hook that tells of defs found anywhere (a global, a class's method, a property's getter), and of classes with slots -/
namespace HookG
open PySem PySem.Spec PyProof.Rows L2 He
/-- the property f of the class at C -/
def prA (K : PySem.W.Frag) (C : Addr) (f : Str) : Addr := match PySem.W.recIn K (ma K C f) "property" with
  | some (.ref g :: _) => g
  | _ => 0
/-- where a def stands: a global; a method; a property's getter; a classmethod -/
inductive At where
  | glo (x : Str)
  | met (C m : Str)
  | prp (C f : Str)
  | cms (C m : Str)
def At.adr (K : PySem.W.Frag) : At → Addr
  | .glo x => ga K x
  | .met C m => ma K (ga K C) m
  | .prp C f => prA K (ga K C) f
  | .cms C m => He5.wf K (ga K C) "classmethod" m
structure GD where
  at_ : At
  name : Str
  qual : Str
  params : Arguments
  body : List Stmt
  scope : Scope
def fnA (K : PySem.W.Frag) (a : Addr) : FnW := match K.lookup a with
  | some ⟨_, _, .func fd, _⟩ => some (fd.name, fd.qualname, fd.params, fd.body, fd.scope, fd.globals, fd.closure, fd.builtins)
  | _ => none
def GD.val (d : GD) : FnW := some (d.name, d.qual, d.params, .stmts d.body, d.scope, mainGlobals, [], builtinsNs)
def GD.ok (K : PySem.W.Frag) (d : GD) : Bool := PySem.W.keepIn K (.ref (d.at_.adr K)) && (match K.lookup (d.at_.adr K) with
  | some ⟨_, _, .func fd, _⟩ => PySem.W.codeIn K fd.code d.qual && (dflB K fd.defaults [] && kwdB K fd.kwdefaults [])
  | _ => false)
theorem GD.funD {K : PySem.W.Frag} {d : GD} (e : fnA K (d.at_.adr K) = d.val) (c : d.ok K = true) : ∃ fd, FunD K d.name d.qual d.params d.body d.scope [] [] (d.at_.adr K) fd := by
  obtain ⟨kp, c2⟩ := ba c
  unfold fnA at e
  cases q : K.lookup (d.at_.adr K) with
  | none => rw [q] at c2; cases c2
  | some o =>
    obtain ⟨oc, od, dt, osl⟩ := o
    rw [q] at c2 e
    cases dt with
    | func fd =>
      obtain ⟨n1, n2, n3, n4, n5, n6, n7, n8, n9, n10, n11, n12, n13, n14, n15⟩ := fd
      have e2 : (some (n1, n2, n3, n4, n5, n6, n7, n15) : FnW) = some (d.name, d.qual, d.params, .stmts d.body, d.scope, mainGlobals, [], builtinsNs) := e
      simp only [Option.some.injEq, Prod.mk.injEq] at e2
      obtain ⟨h1, h2, h3, h4, h5, h6, h7, h8⟩ := e2
      subst h1 h2 h3 h4 h5 h6 h7 h8
      have c3 : (PySem.W.codeIn K n13 d.qual && (dflB K n8 [] && kwdB K n9 [])) = true := c2
      obtain ⟨k1, k2⟩ := ba c3
      obtain ⟨k3, k4⟩ := ba k2
      exact ⟨_, ⟨oc, od, n8, n9, n10, n11, n12, n13, n14, osl, rfl, q, k1, dflB_ok k3, kwdB_ok k4⟩, kp⟩
    | _ => cases c2
/-! ### facts of classes with slots -/
def dO {α : Type} [DecidableEq α] (a b : Option α) : Bool := decide (a = b)
theorem dO_ok {α : Type} [DecidableEq α] {a b : Option α} (h : dO a b = true) : a = b := of_decide_eq_true h
/-- the class at the module's name x: plain, with slots -/
def sclB (K : PySem.W.Frag) (x : Str) : Bool := PySem.W.plainGet K (ga K x) Str.empty && (PySem.W.isClsIn K (ga K x) && (PySem.W.plainOver K (ga K x) && eqO (PySem.W.findIn K (.ref (ga K x)) "__setattr__") (some (some (.builtin "object.__setattr__")))))
theorem sclB_ok {K : PySem.W.Frag} {x : Str} (h : sclB K x = true) : SlX.SCls K (ga K x) := by
  obtain ⟨c1, c⟩ := ba h
  obtain ⟨c2, c⟩ := ba c
  obtain ⟨c3, c4⟩ := ba c
  exact ⟨c1, c2, c3, eqO_ok c4⟩
def slotB (K : PySem.W.Frag) (x f : Str) (i : Nat) : Bool := eqO (PySem.W.findIn K (.ref (ga K x)) f) (some (some (.ref (ma K (ga K x) f)))) && (eqO (PySem.W.specialIn K (.ref (ma K (ga K x) f)) "__get__") (some (some (.builtin "member_descriptor.__get__"))) && (dO (PySem.W.takesIn K (.ref (ma K (ga K x) f))) (some true) && (dO (PySem.W.typeIn K (.ref (ma K (ga K x) f))) (some (.type "member_descriptor")) && dO (PySem.W.slotIn K (ma K (ga K x) f) (ga K x)) (some i))))
theorem slotB_ok {K : PySem.W.Frag} {x f : Str} {i : Nat} (h : slotB K x f i = true) (hi : i < 1000) : SlX.Slot1 K (ga K x) f (ma K (ga K x) f) i := by
  obtain ⟨c1, c⟩ := ba h
  obtain ⟨c2, c⟩ := ba c
  obtain ⟨c3, c⟩ := ba c
  obtain ⟨c4, c5⟩ := ba c
  exact ⟨eqO_ok c1, eqO_ok c2, dO_ok c3, dO_ok c4, dO_ok c5, hi⟩
def sisB (K : PySem.W.Frag) (x : Str) : Bool := eqO (PySem.W.findIn K (.ref (ga K x)) "__class__") (some (some (.builtin "object.__class__"))) && (eqO (PySem.W.specialIn K (.builtin "object.__class__") "__get__") (some (some (.builtin "getset_descriptor.__get__"))) && (dO (PySem.W.takesIn K (.builtin "object.__class__")) (some true) && dO (PySem.W.mroIn K (ga K x) (.type "object")) (some true)))
theorem sisB_ok {K : PySem.W.Frag} {x : Str} (h : sisB K x = true) : SlX.SIsi K (ga K x) := by
  obtain ⟨c1, c⟩ := ba h
  obtain ⟨c2, c⟩ := ba c
  obtain ⟨c3, c4⟩ := ba c
  exact ⟨eqO_ok c1, eqO_ok c2, dO_ok c3, dO_ok c4⟩
/-- a method: found in the class, a function -/
structure Mt (K : PySem.W.Frag) (C : Addr) (m : Str) (g : Addr) : Prop where
  at_ : PySem.W.findIn K (.ref C) m = some (some (.ref g))
  fn : PySem.W.isFn K (.ref g) = true
def mtB (K : PySem.W.Frag) (x m : Str) : Bool := eqO (PySem.W.findIn K (.ref (ga K x)) m) (some (some (.ref (ma K (ga K x) m)))) && PySem.W.isFn K (.ref (ma K (ga K x) m))
theorem mtB_ok {K : PySem.W.Frag} {x m : Str} (h : mtB K x m = true) : Mt K (ga K x) m (ma K (ga K x) m) := by
  obtain ⟨c1, c2⟩ := ba h
  exact ⟨eqO_ok c1, c2⟩
/-- a property, its getter at g -/
structure Pr (K : PySem.W.Frag) (C : Addr) (f : Str) (p g : Addr) : Prop where
  at_ : PySem.W.findIn K (.ref C) f = some (some (.ref p))
  get : PySem.W.specialIn K (.ref p) "__get__" = some (some (.builtin "property.__get__"))
  tk : PySem.W.takesIn K (.ref p) = some true
  rc : ∃ rest, PySem.W.recIn K p "property" = some (.ref g :: rest)
def recB (K : PySem.W.Frag) (p g : Addr) : Bool := match PySem.W.recIn K p "property" with
  | some (.ref a :: _) => decide (a = g)
  | _ => false
def prB (K : PySem.W.Frag) (x f : Str) : Bool := eqO (PySem.W.findIn K (.ref (ga K x)) f) (some (some (.ref (ma K (ga K x) f)))) && (eqO (PySem.W.specialIn K (.ref (ma K (ga K x) f)) "__get__") (some (some (.builtin "property.__get__"))) && (dO (PySem.W.takesIn K (.ref (ma K (ga K x) f))) (some true) && recB K (ma K (ga K x) f) (prA K (ga K x) f)))
theorem prB_ok {K : PySem.W.Frag} {x f : Str} (h : prB K x f = true) : Pr K (ga K x) f (ma K (ga K x) f) (prA K (ga K x) f) := by
  obtain ⟨c1, c⟩ := ba h
  obtain ⟨c2, c⟩ := ba c
  obtain ⟨c3, c4⟩ := ba c
  refine ⟨eqO_ok c1, eqO_ok c2, dO_ok c3, ?_⟩
  unfold recB at c4
  cases q : PySem.W.recIn K (ma K (ga K x) f) "property" with
  | none => rw [q] at c4; cases c4
  | some l =>
    rw [q] at c4
    cases l with
    | nil => cases c4
    | cons a r =>
      cases a with
      | ref b =>
        have e : b = prA K (ga K x) f := of_decide_eq_true c4
        rw [← e]
        exact ⟨r, rfl⟩
      | _ => cases c4
/-! ### the Hook -/
abbrev AlG : Type := Bool × List FnW
def obsG (fa : List Fa) (fn : List GD) (ex : PySem.W.Frag → Bool) (K : PySem.W.Frag) : AlG := ((fa.all fun f => f.ok K) && ((fn.all fun d => d.ok K) && ex K), fn.map fun d => fnA K (d.at_.adr K))
def valG (fn : List GD) : AlG := (true, fn.map GD.val)
def SaysG (fa : List Fa) (fn : List GD) (ex : PySem.W.Frag → Bool) (K : PySem.W.Frag) : Prop := obsG fa fn ex K = valG fn
section
variable {fa : List Fa} {fn : List GD} {ex : PySem.W.Frag → Bool} {K : PySem.W.Frag}
theorem SaysG.all (c : SaysG fa fn ex K) : ((fa.all fun f => f.ok K) && ((fn.all fun d => d.ok K) && ex K)) = true := congrArg (fun z : AlG => z.1) c
theorem SaysG.fact (c : SaysG fa fn ex K) (i : Nat) {f : Fa} (h : fa[i]? = some f := by rfl) : f.ok K = true := List.all_eq_true.mp (ba c.all).1 f (List.mem_of_getElem? h)
theorem SaysG.more (c : SaysG fa fn ex K) : ex K = true := (ba (ba c.all).2).2
theorem SaysG.def_ (c : SaysG fa fn ex K) (i : Nat) {d : GD} (h : fn[i]? = some d := by rfl) : ∃ fd, FunD K d.name d.qual d.params d.body d.scope [] [] (d.at_.adr K) fd := by
  have c2 := (ba (ba c.all).2).1
  have e : fn.map (fun d => fnA K (d.at_.adr K)) = fn.map GD.val := congrArg (fun z : AlG => z.2) c
  have e2 : (fn.map fun d => fnA K (d.at_.adr K))[i]? = (fn.map GD.val)[i]? := by rw [e]
  rw [List.getElem?_map, List.getElem?_map, h] at e2
  exact GD.funD (Option.some.inj e2) (List.all_eq_true.mp c2 d (List.mem_of_getElem? h))
end
end HookG

set_option Elab.async false
set_option linter.all false
set_option maxRecDepth 100000
set_option maxHeartbeats 2000000
/-! the rules of OwnR, OwnL, over the facts of HookG -/
namespace OwnF
open PySem PySem.Spec PyProof.Rows L2 He SlX OwnR HookG
/-- what is asked of a class with slots -/
structure OC (K : PySem.W.Frag) (C : Addr) : Prop where
  scl : SCls K C
  sis : SIsi K C
  first : PySem.W.selfFirst K C = true
  ne : PySem.W.findIn K (.ref C) "__ne__" = some (some (.builtin "object.__ne__"))
  ntup : PySem.W.notFirst K C (.type "tuple") = true
  rmul : PySem.W.findIn K (.ref C) "__rmul__" = some none
  imul : PySem.W.findIn K (.type "int") "__mul__" = some (some (.builtin "int.__mul__"))
  irmul : PySem.W.findIn K (.type "int") "__rmul__" = some (some (.builtin "int.__rmul__"))
  isub : PySem.W.subIn K (.type "int") (.ref C) = some false
  kself : PySem.W.kitOne K (.ref C) (.ref C) = some true
  ktup : PySem.W.kitOne K (.type "tuple") (.ref C) = some false
  kint : PySem.W.kitOne K (.type "int") (.ref C) = some false
def ocB (K : PySem.W.Frag) (x : Str) : Bool := sclB K x && (sisB K x && (PySem.W.selfFirst K (ga K x) && (eqO (PySem.W.findIn K (.ref (ga K x)) "__ne__") (some (some (.builtin "object.__ne__"))) && (PySem.W.notFirst K (ga K x) (.type "tuple") && (eqO (PySem.W.findIn K (.ref (ga K x)) "__rmul__") (some none) && (eqO (PySem.W.findIn K (.type "int") "__mul__") (some (some (.builtin "int.__mul__"))) && (eqO (PySem.W.findIn K (.type "int") "__rmul__") (some (some (.builtin "int.__rmul__"))) && (dO (PySem.W.subIn K (.type "int") (.ref (ga K x))) (some false) && (dO (PySem.W.kitOne K (.ref (ga K x)) (.ref (ga K x))) (some true) && (dO (PySem.W.kitOne K (.type "tuple") (.ref (ga K x))) (some false) && dO (PySem.W.kitOne K (.type "int") (.ref (ga K x))) (some false)))))))))))
theorem ocB_ok {K : PySem.W.Frag} {x : Str} (h : ocB K x = true) : OC K (ga K x) := by
  obtain ⟨c1, c⟩ := ba h
  obtain ⟨c2, c⟩ := ba c
  obtain ⟨c3, c⟩ := ba c
  obtain ⟨c4, c⟩ := ba c
  obtain ⟨c5, c⟩ := ba c
  obtain ⟨c6, c⟩ := ba c
  obtain ⟨c7, c⟩ := ba c
  obtain ⟨c8, c⟩ := ba c
  obtain ⟨c9, c⟩ := ba c
  obtain ⟨c10, c⟩ := ba c
  obtain ⟨c11, c12⟩ := ba c
  exact ⟨sclB_ok c1, sisB_ok c2, c3, eqO_ok c4, c5, eqO_ok c6, eqO_ok c7, eqO_ok c8, dO_ok c9, dO_ok c10, dO_ok c11, dO_ok c12⟩
theorem raw0 {P : Program} {w : World} {K : PySem.W.Frag} {mg : Str → Option Value} {base : Heap} {CX : CXT} {k : Nat} {f : Addr} {sp : Sp} {fd : FuncData} {ps : List Str} (F : FnOk P w K mg base CX k f fd ps sp) (hb : Binds K fd ps []) : FnR P w K mg base CX k f sp :=
  (F.raw hb .nil).imp fun vs H Q E h => by rw [List.append_nil]; exact h
section
variable {X : Cx} {C g gl pp : Addr} {n : Nat} {sp spl : Sp} {fd fdl : FuncData} {ps psl : List Str} {f : Str} {e : Expr} {pos : Pos} {ta : TE}
theorem hx0 : ∀ (H : Hp) (s : Shared) (e : Value) (s' : Shared), CX0 X.stack H s E0 e s' → False := fun _ _ _ _ h => h
theorem pe_prp (he : PE X e ta) (c : OC X.K C) (p : Pr X.K C f pp g) (F : FnOk X.prog X.w X.K X.mg X.base CX0 n g fd ps sp) (hb : Binds X.K fd ps []) (hr : Room (n + 1) X.A) (hb2 : attributeBase e f X.env (eval e X.env) = eval e X.env := by rfl) : PE X (.Attribute e f pos) (tPropSl C sp E0 ta) :=
  pe_propSl he c.scl p.at_ p.get p.tk p.rc (raw0 F hb) hr hx0 hb2
theorem iter_anyT {prog : Program} {w : World} {A : Around} {E : Value → Shared → Prop} {s : Shared} {l : Addr} {items : Array Value} {Q : Value → Shared → Prop} (hl : s.heap.IsTuple l items)
    (h : ∀ s₂ : Shared, s₂ = { s with heap := s.heap.push { cls := .type "tuple_iterator", data := .fields #[.ref l, .int 0 0] } } →
      (s₂.heap.IsTupleIter s.heap.objs.size l 0 ∧ s₂.heap.IsTuple l items) → l ≠ s.heap.objs.size → Q (.ref s.heap.objs.size) s₂) : wpAny (model prog w) A (pyIter (.ref l)) Q E s := by
  have hlt : l < s.heap.objs.size := by obtain ⟨_, e, _⟩ := hl; exact Heap.lt_size e
  exact wpAny_pyIter_tuple hl (h _ rfl ⟨⟨_, Heap.get?_push_size _ rfl, rfl, rfl⟩, hl.push _⟩ (Nat.ne_of_lt hlt))
theorem truth_ints {prog : Program} {w : World} {A : Around} {ns : List Int} {its : List Value} (r : Vals (ns.map V.int) its) :
    TruthOf prog w A (fun i v => its.toArray[i]? = some v) (fun i => ns.getD i 0 != 0) := fun i v s Q E hv hq => by
  have hv' : its[i]? = some v := by simpa using hv
  have hlen := r.length
  rw [List.length_map] at hlen
  have hlt : i < ns.length := by
    have := (List.getElem?_eq_some_iff.mp hv').1
    omega
  obtain ⟨u, hu, t, ru⟩ := r.get (show (ns.map V.int)[i]? = some (.int ns[i]) by rw [List.getElem?_map, List.getElem?_eq_getElem hlt]; rfl)
  rw [hv'] at hu
  cases hu
  subst ru
  have hg : ns.getD i 0 = ns[i] := by rw [List.getD_eq_getElem?_getD, List.getElem?_eq_getElem hlt] <;> rfl
  have hq' : Q (ns.getD i 0 != 0) s := hq
  rw [hg] at hq'
  exact truthy_int hq'
theorem any_rangeI : ∀ ns : List Int, (List.range ns.length).any (fun i => ns.getD i 0 != 0) = ns.any (· != 0)
  | [] => rfl
  | b :: bs => by
    rw [List.length_cons, List.range_succ_eq_map, List.any_cons, List.any_map, List.any_cons, ← any_rangeI bs]
    all_goals rfl
/-- any of a tuple of ints -/
def rAnyTI (K : PySem.W.Frag) : List V → Hp → VK → Prop := fun vs H Q => ∃ (a : Addr) (ns : List Int), vs = [V.ref a] ∧ SqT K H a (ns.map V.int) ∧ Q (.bl (ns.any (· != 0))) H
theorem cr_anyTI (hc : X.calm = true) : CallR X (.builtin "any") (rAnyTI X.K) := by
  intro pins s σ H vs us Q I r h
  obtain ⟨a, ns, rfl, hs, q⟩ := h
  obtain ⟨its, rv, hl, _⟩ := I.tuple hs
  rw [Vals.ref1 r]
  have hlen := rv.length
  rw [List.length_map] at hlen
  refine call_any_walk (iter_anyT (show s.heap.IsTuple a its.toArray from hl) fun s₂ e2 st hne => ?_)
  subst e2
  refine ⟨_, _, _, _, _, _, _, rfl, Walks.tuple (A := X.A.in1) (I.ok.hd hc) _ a hne its.toArray, st, truth_ints rv, fun h' tk hk => ?_⟩
  refine ⟨.bl _, H, I.kept fun b o eo => hk b o (fun hmem => ?_) (Heap.get?_push_of_some _ eo), ?_, q⟩
  · rcases List.mem_cons.mp hmem with e1 | hmem
    · exact absurd (e1 ▸ Heap.lt_size eo) (Nat.lt_irrefl _)
    · cases hmem
  · show Value.bool _ = Value.bool _
    rw [← any_rangeI, List.size_toArray, ← hlen]
/-- isinstance(x, C): x of a plain type, or an instance -/
theorem call_isiF (C : Addr) : CallR X (.builtin "isinstance") (fun xs H Q => rIsi X.K xs H Q ∨ rIsiSl X.K (.ref C) xs H Q) := call_isi.or (call_isiSl (.ref C))
end
end OwnF

set_option Elab.async false
set_option linter.all false
set_option maxRecDepth 100000
set_option maxHeartbeats 2000000
/-! a method of an instance with slots -/
namespace OwnF
open PySem PySem.Spec PyProof.Rows L2 He SlX OwnR HookG
section
variable {X : Cx} {C g : Addr} {n : Nat} {sp : Sp} {fd : FuncData} {ps : List Str} {o e : Expr} {es : List Expr} {x : Str} {pos apos : Pos} {ta : TE} {t : TA}
end
end OwnF

set_option Elab.async false
set_option linter.all false
set_option maxRecDepth 100000
set_option maxHeartbeats 2000000
/-! classmethods, classes in local names, xs[i] op= e -/
namespace OwnC
open PySem PySem.Spec PyProof.Rows L2 He SlX OwnR HookG OwnF
/-- C.m is a classmethod: its record at p, its def at g -/
structure Cm (K : PySem.W.Frag) (C : Addr) (m : Str) (p g : Addr) : Prop where
  rd : ClX.CRead K C (.type "type")
  cm : ClX.CMet K C (.type "type") m p g
section
variable {X : Cx} {C p g f : Addr} {n i : Nat} {sp : Sp} {fd : FuncData} {ps : List Str} {o e : Expr} {es : List Expr} {m x : Str} {pos apos pp : Pos} {ta : TE} {t : TA}
end
end OwnC

set_option Elab.async false
set_option linter.all false
set_option maxRecDepth 100000
set_option maxHeartbeats 2000000
/-! enumerate(t), t a tuple -/
namespace EnumT
open PySem PySem.Spec PyProof.Rows L2
open AutoSeq1 (wpAny_loadPart')
theorem meets_newT (l : Addr) (items : Array Value) (n : Nat) (dct : Option Addr) (sl : Array (Option Value)) :
    Meets (Builtin.«enumerate.__new__» ⟨[.type "enumerate", .ref l], []⟩) (fun _ R s => s.heap.get? l = some { cls := .type "tuple", dict := dct, data := .seq items n, slots := sl } ∧
      R (.ok (.ret (.ref (s.heap.push { cls := .type "tuple_iterator", data := .fields #[.ref l, .int 0 0] }).objs.size)))
        { s with heap := (s.heap.push { cls := .type "tuple_iterator", data := .fields #[.ref l, .int 0 0] }).push { cls := .type "enumerate", data := .fields #[.none, .bool false, .ref s.heap.objs.size, rawInt 0, .none, .none] } }) :=
  .of_wp fun prog w A R s h => by
    obtain ⟨hp, g, d, tk, os⟩ := s; obtain ⟨hl, h⟩ := h
    have hsub := sub_enumerate
    have hL : Heap.IsTuple (Shared.heap ⟨hp, g, d, tk, os⟩) l items := ⟨_, hl, rfl, n, rfl⟩
    wp_walk using wpAny_loadPart' hl
    refine wpAny_stack_any fun st => wpAny_pure ?_
    split
    · rename_i c _ _ _ _ _
      cases (c == Value.type "enumerate")
      · wp_walk using wpAny_loadPart' hl, wpAny_pyIter_tuple hL
        exact ⟨_, rfl, h⟩
      · wp_walk using wpAny_loadPart' hl, wpAny_pyIter_tuple hL
        exact ⟨_, rfl, h⟩
    · wp_walk using wpAny_loadPart' hl, wpAny_pyIter_tuple hL
      exact ⟨_, rfl, h⟩
section
variable {prog : Program} {w : World} {A : Around} {E : Value → Shared → Prop} {s : Shared}
theorem call_enumT {l : Addr} {items : Array Value} {Q : Value → Shared → Prop} (hL : s.heap.IsTuple l items)
    (h : ∀ h', IsEnum h' (s.heap.objs.size + 1) s.heap.objs.size 0 .none → h'.IsTupleIter s.heap.objs.size l 0 → h'.objs.size = s.heap.objs.size + 2 →
      (∀ b o, s.heap.get? b = some o → h'.get? b = some o) → Q (.ref (s.heap.objs.size + 1)) { s with heap := h' }) :
    wpAny (model prog w) A (call (.type "enumerate") [.ref l]) Q E s := by
  obtain ⟨⟨c, dct, dt, sl⟩, hl, hc, n, hd⟩ := hL
  replace hc : c = .type "tuple" := hc
  replace hd : dt = .seq items n := hd
  subst hc hd
  refine callType_new F.called_enumerate (by decide) (F.typeCall_enumerate_1 _) (F.newCall_enumerate_1 _) (fun obj => F.args_object_init_2 obj _) F.entry_enumerate_new
    (meets_newT l items n dct sl) ⟨hl, ?_⟩
  have hz : (s.heap.push { cls := .type "tuple_iterator", data := .fields #[.ref l, .int 0 0] }).objs.size = s.heap.objs.size + 1 := Heap.size_push ..
  show _ ∧ _
  rw [hz]
  have he : IsEnum ((s.heap.push { cls := .type "tuple_iterator", data := .fields #[.ref l, .int 0 0] }).push
      { cls := .type "enumerate", data := .fields #[.none, .bool false, .ref s.heap.objs.size, rawInt 0, .none, .none] }) (s.heap.objs.size + 1) s.heap.objs.size 0 .none := by
    have := Heap.get?_push_size (s.heap.push { cls := .type "tuple_iterator", data := .fields #[.ref l, .int 0 0] })
      (o := { cls := .type "enumerate", data := .fields #[.none, .bool false, .ref s.heap.objs.size, rawInt 0, .none, .none] }) rfl
    rw [hz] at this; exact this
  refine ⟨⟨_, he, rfl⟩, h _ he ⟨_, Heap.get?_push_of_some _ (Heap.get?_push_size _ rfl), rfl, rfl⟩ (by rw [Heap.size_push, hz]) fun b o x => Heap.get?_push_of_some _ (Heap.get?_push_of_some _ x)⟩
end
/-- the tuple at a, each item in a new pair -/
def IteT (K : PySem.W.Frag) (a : Addr) : It :=
  ⟨fun i H => ∃ (xs : List V) (x : V), SqT K H a xs ∧ xs[i]? = some x, fun i H v H' => ∃ T x, v = .ref T ∧ H T = none ∧ H' = upd H T (.tup [.int (i : Nat), x]) ∧ ∀ xs, SqT K H a xs → xs[i]? = some x, fun i H => ∃ xs : List V, SqT K H a xs ∧ xs.length = i⟩
theorem turn_enumT {P : Program} {w : World} {K : PySem.W.Frag} {elts : List Expr} {kk : Nat} {tpos : Pos} (a e it : Addr) (hait : a ≠ it) (hae : a ≠ e) :
    Turn P w K (.Tuple elts kk tpos) (IteT K a) [e, it] e (fun i h => (∃ old, IsEnum h e it ((i : Nat) : Int) old) ∧ h.IsTupleIter it a i ∧ e ≠ it) where
  mem := by simp
  obj := fun i h st b hb => by
    obtain ⟨⟨old, he⟩, ⟨o, ho, hc, hd⟩, _⟩ := st
    have e' : b = e ∨ b = it := by simpa using hb
    rcases e' with z | z
    · rw [z]; exact ⟨_, he, fun v q => nomatch q⟩
    · rw [z]; exact ⟨o, ho, fun v q => by rw [hd] at q; cases q⟩
  keep := fun i h h' st k => let ⟨⟨old, he⟩, hi, hne⟩ := st; ⟨⟨old, k e (by simp) _ he⟩, hi.at fun o q => k it (by simp) o q, hne⟩
  item := by
    intro X hP hw hK hc i pins s σ H E I hf st hg
    subst hP hw hK
    obtain ⟨⟨old, he⟩, hit, hne⟩ := st
    obtain ⟨xs, x, hq, hx⟩ := hg
    obtain ⟨its, rv, p, hz⟩ := I.tuple hq
    obtain ⟨u, hu, ru⟩ := rv.get hx
    have hel : e < s.heap.objs.size := Heap.lt_size he
    have hil : it < s.heap.objs.size := by obtain ⟨_, q, _⟩ := hit; exact Heap.lt_size q
    have pT : s.heap.IsTuple a its.toArray := p
    have hlt : i < its.toArray.size := by
      have := (List.getElem?_eq_some_iff.mp hu).1
      simpa using this
    refine wpAny_pyNext_enum_itemD (Draws.tuple (A := X.A.in1) (I.ok.hd hc) it a hait its.toArray) he ⟨hit, pT⟩ hlt hne (by simp [Ne.symm hae, hne]) fun x' h' tk hx' ho hit' hT hsz hk => ?_
    have hux : x' = u := by
      have h1 : its[i]? = some x' := by simpa using hx'
      rw [hu] at h1
      exact (Option.some.inj h1).symm
    subst hux
    refine ⟨_, rfl, wpAny_letOwnedTupleGo_enum (s := { s with heap := h', toks := tk + 1 }) ho fun h'' he' sb => ?_⟩
    have hT2 : h''.get? s.heap.objs.size = some { cls := .type "tuple", data := .seq #[.int i tk, x'] } := (sb.2 _ (Nat.ne_of_gt hel)).trans hT
    have new : ObjOk X.prog X.w (upd H s.heap.objs.size (.tup [.int (i : Nat), x])) h'' s.heap.objs.size (.tup [.int (i : Nat), x]) :=
      ⟨by show 2 ≤ sizeLine; decide, [.int i tk, x'], .cons ⟨_, rfl⟩ (.cons ru .nil), ⟨_, hT2, rfl, _, rfl⟩⟩
    have I1 : Inv X pins σ (upd H s.heap.objs.size (.tup [.int (i : Nat), x])) { s with heap := h'', toks := tk + 1 } :=
      I.turnedNew (ch := [e, it]) (fun b ob hb q => (sb.2 b (fun z => hb (by simp [z]))).trans (hk b ob (fun z => hb (by simp [z])) (fun z => hb (by simp [z])) q)) hf (Nat.le_refl _) new
    refine ⟨.ref s.heap.objs.size, _, I1, rfl, ⟨_, x, rfl, I.hok.fresh (Nat.le_refl _), rfl, fun ys hy => ?_⟩, ⟨⟨x', ?_⟩, hit'.1.at fun o q => (sb.2 it (Ne.symm hne)).trans q, hne⟩, fun b hb => ?_⟩
    · rw [show ys = xs from I.tuple_inj hy hq]
      exact hx
    · have e1 : ((i + 1 : Nat) : Int) = (i : Int) + 1 := by omega
      rw [e1]; exact he'
    · have hb' : b < s.heap.objs.size := by
        have e' : b = e ∨ b = it := by simpa using hb
        rcases e' with z | z
        · rw [z]; exact hel
        · rw [z]; exact hil
      rw [upd_ne (Nat.ne_of_lt hb')]
      exact (hf b hb).1
  done := by
    intro X hP hw hK hc i pins s σ H E I hf st hg
    subst hP hw hK
    obtain ⟨⟨old, he⟩, hit, hne⟩ := st
    obtain ⟨xs, hq, hx⟩ := hg
    obtain ⟨its, rv, p, hz⟩ := I.tuple hq
    obtain ⟨f0, f1, f2, f3, f4, f5⟩ := hf it (by simp)
    have hl := rv.length
    have hz2 : i = its.toArray.size := by rw [List.size_toArray]; omega
    subst hz2
    exact wpAny_pyNext_enum_endD (Draws.tuple (A := X.A.in1) (I.ok.hd hc) it a hait its.toArray) he ⟨hit, show s.heap.IsTuple a its.toArray from p⟩ fun h' eb => ⟨rfl, I.turned (t' := s.toks) (fun b o hb q => eb b o hb q) f0 f1 f3 f4 f5⟩
  self := fun A i s Q E st h => let ⟨⟨_, he⟩, _⟩ := st; wpAny_pyIter_enum he h
def iEnumT (K : PySem.W.Frag) (ta : TA) : TI := fun σ H R => ta σ H fun vs H1 => ∃ a xs, vs = [.ref a] ∧ SqT K H1 a xs ∧ R (IteT K a) H1
theorem pi_enumT {X : Cx} {e : Expr} {ta : TA} {p pos tpos : Pos} {elts : List Expr} {kk : Nat} (hg : Gl X "enumerate") (hm : X.mg "enumerate" = none) (ha : PA X [e] ta) (hs : starEach [e] X.env = [(false, eval e X.env)] := by rfl) :
    PI X (.Tuple elts kk tpos) (.Call (.Name "enumerate" p) [e] [] pos) (iEnumT X.K ta) := by
  refine ⟨fun pins s σ H R I h => ?_⟩
  refine Call_ (ld_blt I hg hm boot_enumerate (PyProof.Rows.callWith_type1 (thn (ha.run pos pins s σ H _ I h) fun us s1 ⟨vs, H1, I1, r1, q1⟩ => ?_) hs rfl))
  obtain ⟨a, xs, ex, hq, q⟩ := q1
  subst ex
  cases r1 with
  | cons r rr =>
    cases rr
    cases r
    obtain ⟨its, rv, p', hz⟩ := I1.tuple hq
    have hlt : a < s1.heap.objs.size := by obtain ⟨_, ho, _⟩ := p'; exact Heap.lt_size ho
    refine call_enumT (show s1.heap.IsTuple a its.toArray from p') fun h' he hit hsz hk => wpAny_pyIter_enum he ?_
    have I2 : Inv X pins σ H1 { s1 with heap := h' } := I1.kept (t' := s1.toks) hk
    refine ⟨s1.heap.objs.size + 1, [s1.heap.objs.size + 1, s1.heap.objs.size], _, _, H1, rfl, I2, turn_enumT a (s1.heap.objs.size + 1) s1.heap.objs.size (Nat.ne_of_lt hlt) (Nat.ne_of_lt (Nat.lt_succ_of_lt hlt)), ⟨⟨.none, he⟩, hit, Nat.succ_ne_self _⟩, fun b hb => ?_, q⟩
    have e' : b = s1.heap.objs.size + 1 ∨ b = s1.heap.objs.size := by simpa using hb
    have hle : s1.heap.objs.size ≤ b := by
      rcases e' with z | z
      · rw [z]; exact Nat.le_add_right _ _
      · rw [z]; exact Nat.le_refl _
    exact I1.fpOk hle (I1.hok.fresh hle)
/-- a loop over enumerate of a tuple -/
theorem for_enumT {K : PySem.W.Frag} {a : Addr} {xs : List V} {g : TG} {tb : TS} {D : Ends} {σ : L2.St} {H : Hp} (Pv : Nat → L2.St → Hp → Prop) (h0 : Pv 0 σ H) (hq : ∀ i σ H, Pv i σ H → SqT K H a xs)
    (hs : ∀ (i : Nat) (x : V) (T : Addr) (σ : L2.St) (H : Hp), xs[i]? = some x → Pv i σ H → H T = none → g (.ref T) σ (upd H T (.tup [.int (i : Nat), x])) fun σ2 H2 => tb { D with nx := Pv (i + 1), ct := Pv (i + 1), bk := D.nx } σ2 H2) (hd : ∀ σ H, Pv xs.length σ H → D.nx σ H) :
    ∃ W : Nat → Nat → L2.St → Hp → Prop, (∃ m, W 0 m σ H) ∧ ∀ i m σ H, W i m σ H →
      ((IteT K a).stop i H ∧ D.nx σ H) ∨ ((IteT K a).go i H ∧ ∃ N : L2.St → Hp → Prop, (∀ σ' H', N σ' H' → ∃ m', m' < m ∧ W (i + 1) m' σ' H') ∧ ∀ v H', (IteT K a).yld i H v H' → g v σ H' fun σ2 H2 => tb { D with nx := N, ct := N, bk := D.nx } σ2 H2) := by
  refine ⟨fun i m σ H => m = xs.length - i ∧ i ≤ xs.length ∧ Pv i σ H, ⟨xs.length, rfl, Nat.zero_le _, h0⟩, ?_⟩
  rintro i m σ H ⟨rfl, hi, p⟩
  have qx := hq i σ H p
  by_cases hlt : i < xs.length
  · have hx : xs[i]? = some xs[i] := List.getElem?_eq_getElem hlt
    refine .inr ⟨⟨xs, _, qx, hx⟩, Pv (i + 1), fun σ' H' p' => ⟨xs.length - (i + 1), by omega, rfl, hlt, p'⟩, fun v H' y => ?_⟩
    obtain ⟨T, x', rfl, hT, rfl, f1⟩ := y
    exact hs i x' T σ H (f1 xs qx) p hT
  · have e : i = xs.length := by omega
    subst e
    exact .inl ⟨⟨xs, qx, rfl⟩, hd σ H p⟩
end EnumT

set_option Elab.async false
set_option linter.all false
set_option maxRecDepth 100000
set_option maxHeartbeats 2000000
/-! sequences that may be a list or a tuple: len, index, enumerate -/
namespace SeqE
open PySem PySem.Spec PyProof.Rows L2
/-- at a a list or a tuple with these items -/
def Sq (H : Hp) (a : Addr) (xs : List V) : Prop := H a = some (.tup xs) ∨ H a = some (.lst xs)
theorem Sq.same {H H' : Hp} {a : Addr} {xs : List V} (h : Sq H a xs) (s : Same H H') : Sq H' a xs := h.elim (fun e => .inl (s _ _ e)) fun e => .inr (s _ _ e)
theorem Sq.upd {H : Hp} {a p : Addr} {o : HO} {xs : List V} (h : Sq H a xs) (hp : H p = none) : Sq (upd H p o) a xs := by
  refine h.elim (fun e => .inl ?_) fun e => .inr ?_ <;> rw [upd_ne (ne_of_none e hp)] <;> exact e
theorem ix_sq {K : PySem.W.Frag} {H : Hp} {a : Addr} {xs : List V} {i : Int} {v : V} {Q : VK} (h : Sq H a xs) (e : atI xs i = some v) (q : Q v H) : rIx K (.ref a) (.int i) H Q :=
  h.elim (fun x => .inr (.inl ⟨a, xs, i, v, rfl, rfl, SqT.of x, e, q⟩)) fun x => .inl ⟨a, xs, i, v, rfl, rfl, SqL.of x, e, q⟩
theorem PI_or {X : Cx} {tg it : Expr} {t1 t2 : TI} (h1 : PI X tg it t1) (h2 : PI X tg it t2) : PI X tg it (fun σ H R => t1 σ H R ∨ t2 σ H R) :=
  ⟨fun pins s σ H R I h => h.elim (h1.run pins s σ H R I) (h2.run pins s σ H R I)⟩
end SeqE

set_option Elab.async false
set_option linter.all false
set_option maxRecDepth 100000
set_option maxHeartbeats 2000000
/-! next(.. for .. in .. if .., default) -/
namespace GenNx
open PySem PySem.Spec PyProof.Rows L2 GxR EnumT
section
variable {prog : Program} {w : World} {A : Around} {E : Value → Shared → Prop} {s : Shared} {I : Addr} {fp wr : List Addr} {G : Array GenState → Array GenState → Prop} {n : Nat} {Pv : Nat → Value → Prop} {St : Nat → Shared → Prop}
/-- next(generator, default): the first item, or the default -/
theorem call_next_walkS {d : Value} {Q : Value → Shared → Prop} (W : WalksS prog w A.in1 I fp wr G n Pv St) (hT : s.TypeIs (.ref I) "generator") (st : St 0 s)
    (h1 : ∀ v s', 0 < n → Pv 0 v → Moved wr G s s' → Q v s') (h2 : ∀ s', n = 0 → Moved wr G s s' → Q d s') : wpAny (model prog w) A (call (.builtin "next") [.ref I, d]) Q E s := by
  refine Calls.call_function_entry (by decide +kernel) (by decide +kernel) PySem.W.kdk_entry_next (PySem.W.kdk_args_next2 _ _) ?_
  unfold Builtin.«next»
  refine wpAny_bind (m := someArgs "next" 1 2 _) (wpAny_of_eq (a := [Value.ref I, d]) (by first | rfl | kernel_rfl!) ?_)
  dsimp only
  refine wpAny_bind (wpAny_specialOf (name := Str.ofString "__next__") hT slot_gen_next.lookup ?_)
  refine wpAny_ite_split (fun hab => absurd hab (by decide)) (fun _ => ?_)
  by_cases hn : 0 < n
  · refine wpAny_bind (W.item 0 _ _ _ hn st fun v s' hv _ hm => ?_)
    exact wpAny_pure ⟨_, rfl, h1 v s' hn hv hm⟩
  · have e : n = 0 := by omega
    refine wpAny_bind (W.done _ _ _ (by rw [e]; exact st) fun s' hm => ?_)
    exact wpAny_pure ⟨_, rfl, h2 s' e hm⟩
end
/-- the generator expression's own scope: its names xa, xb -/
structure GenS2 (env : Env) (scope : Scope) (xa xb : Str) : Prop where
  kind : scope.kind = .function
  co : scope.isCoroutine = false
  cell : ∀ y ∈ scope.names, y.2 ≠ .cell
  dot : scope.names.lookup (".0" : Str) = some NameKind.local
  la : scope.names.lookup xa = some .local
  lb : scope.names.lookup xb = some .local
  ab : xa ≠ xb
  free : ∀ y ∈ scope.names, y.2 = .free → ∃ c, env.cells.lookup y.1 = some c
theorem GenS2.of {env : Env} {scope : Scope} {xa xb : Str} (h1 : scope.kind = .function) (h2 : scope.isCoroutine = false) (h3 : ∀ y ∈ scope.names, y.2 ≠ .cell ∧ y.2 ≠ .free) (h4 : scope.names.lookup (".0" : Str) = some NameKind.local) (h5 : scope.names.lookup xa = some .local) (h6 : scope.names.lookup xb = some .local) (h7 : xa ≠ xb) : GenS2 env scope xa xb :=
  ⟨h1, h2, fun y hy => (h3 y hy).1, h4, h5, h6, h7, fun y hy z => absurd z (h3 y hy).2⟩
theorem genS_of {env : Env} {scope : Scope} {x : Str} (h1 : scope.kind = .function) (h2 : scope.isCoroutine = false) (h3 : ∀ y ∈ scope.names, y.2 ≠ .cell ∧ y.2 ≠ .free) (h4 : scope.names.lookup (".0" : Str) = some NameKind.local) (h5 : scope.names.lookup x = some .local) : GxR.GenS env scope x :=
  ⟨h1, h2, fun y hy => (h3 y hy).1, h4, h5, fun y hy z => absurd z (h3 y hy).2⟩
/-- a test of the int in x -/
def TestI (prog : Program) (w : World) (scope : Scope) (x : Str) (c : Expr) (pb : Int → Bool) : Prop :=
  ∀ (cenv : Env) (A' : Around) (E' : Value → Shared → Prop) (i : Int) (t : Tok) (s₂ : Shared) (m₂ : Str → Option Value), cenv.scope = scope → s₂.heap.Ns cenv.locals m₂ → m₂ x = some (.int i t) →
    wpAny (model prog w) A' (isTrue c cenv (eval c cenv)) (fun ok s₃ => ok = pb i ∧ Keeps s₂ s₃) E' s₂
theorem test_ne0 {prog : Program} {w : World} {scope : Scope} {x : Str} {j : Nat} {p1 p2 p3 : Pos} (hk : scope.kind = .function) (hl : scope.names.lookup x = some .local) (hd : (x == ("__debug__" : Str)) = false := by decide) :
    TestI prog w scope x (.Compare (.Name x p1) [.NotEq] [.Constant (.int 0) j p2] p3) (fun i => i != 0) := by
  intro cenv A' E' i t s₂ m₂ hs hn hm
  refine wpAny_isTrue_Compare1 ?_
  refine wpAny_Name (wpAny_loadName_local (by rw [hs]; exact hk) (show cenv.scope.names.lookup x = some .local by rw [hs]; exact hl) hn hm ?_) hd
  refine wpAny_Constant_int ?_
  exact PySem.P.ne_int (wpAny_truthy_bool ⟨rfl, keeps_tok _ _⟩)
/-- the element is the int in x -/
theorem elt_name {prog : Program} {w : World} {cenv : Env} {A' : Around} {E' : Value → Shared → Prop} {x : Str} {p1 : Pos} {v : Value} {s₂ : Shared} {m₂ : Str → Option Value} {scope : Scope} (hs : cenv.scope = scope) (hk : scope.kind = .function) (hl : scope.names.lookup x = some .local) (hn : s₂.heap.Ns cenv.locals m₂) (hm : m₂ x = some v) (hd : (x == ("__debug__" : Str)) = false := by decide) :
    wpAny (model prog w) A' (eval (.Name x p1) cenv) (fun y s₃ => y = v ∧ Keeps s₂ s₃) E' s₂ :=
  wpAny_Name (wpAny_loadName_local (by rw [hs]; exact hk) (show cenv.scope.names.lookup x = some .local by rw [hs]; exact hl) hn hm ⟨rfl, keeps_refl _⟩) hd
theorem one_if {M : Model} {A : Around} {E : Value → Shared → Prop} {s : Shared} {c : Expr} {cenv : Env} {Q : Bool → Shared → Prop} (h : wpAny M A (isTrue c cenv (eval c cenv)) Q E s) :
    wpAny M A (forIn [c] true fun c r => if r = true then do let ok ← isTrue c cenv (eval c cenv); pure (ForInStep.yield ok) else pure (ForInStep.yield r)) Q E s := by
  simp only [List.forIn_cons, List.forIn_nil, if_true]
  exact wpAny_bind (wpAny_bind (wpAny_mono h (fun ok s' hq => wpAny_pure (wpAny_pure hq)) fun _ _ e => e))
section
variable {X : Cx} {pins : List (Addr × Obj)} {σ : L2.St} {H : Hp} {s : Shared}
/-- the generator g, ready to be asked, its j-th item is tied by F to the j-th place of js -/
def ReadyN (X : Cx) (pins : List (Addr × Obj)) (σ : L2.St) (H1 : Hp) (P : Addr) (js : List Nat) (F : Nat → Value → Prop) (g : Addr) (s5 : Shared) : Prop :=
  ∃ (fp wr : List Addr) (G : Array GenState → Array GenState → Prop) (St : Nat → Shared → Prop),
    WalksS X.prog X.w X.A.in1 g fp wr G js.length (fun j y => ∃ i, js[j]? = some i ∧ F i y) St ∧ St 0 s5 ∧ s5.TypeIs (.ref g) "generator" ∧
    ∀ s', Moved wr G s5 s' → ∃ H2, Tabbed P H1 H2 ∧ Inv X pins σ H2 s'
def pzL (pb : Int → Bool) (l : List Int) (i : Nat) : Bool := match l[i]? with
  | some z => pb z
  | none => false
theorem pzL_some {pb : Int → Bool} {l : List Int} {i : Nat} {z : Int} (h : l[i]? = some z) : pzL pb l i = pb z := by
  unfold pzL
  rw [h]
/-- an item of a row of ints, by values -/
theorem int_item {l : List Int} {its : List Value} (rv : Vals (l.map V.int) its) {i : Nat} {x : Value} (h : its[i]? = some x) : ∃ z t, l[i]? = some z ∧ x = .int z t := by
  have hl := rv.length
  have hi : i < its.length := (List.getElem?_eq_some_iff.mp h).1
  rw [List.length_map] at hl
  have hi2 : i < l.length := by omega
  obtain ⟨u, hu, ru⟩ := rv.get (i := i) (x := .int l[i]) (by rw [List.getElem?_map, List.getElem?_eq_getElem hi2]; rfl)
  obtain ⟨t, rfl⟩ := ru
  rw [h] at hu
  exact ⟨l[i], t, List.getElem?_eq_getElem hi2, Option.some.inj hu⟩
theorem passing_nil {pb : Int → Bool} {l : List Int} (h : (passing (pzL pb l) l.length 0).length = 0) : ∀ (j : Nat) (z : Int), l[j]? = some z → pb z = false := fun j z hj => by
  have e : passing (pzL pb l) l.length 0 = [] := List.eq_nil_of_length_eq_zero h
  have hlt : j < l.length := (List.getElem?_eq_some_iff.mp hj).1
  cases hb : pb z with
  | false => rfl
  | true =>
    have hm : j ∈ passing (pzL pb l) l.length 0 := by
      unfold passing
      rw [List.drop_zero]
      exact List.mem_filter.mpr ⟨List.mem_range.mpr hlt, by rw [pzL_some hj]; exact hb⟩
    rw [e] at hm
    cases hm
theorem passing_first {pb : Int → Bool} {l : List Int} {i : Nat} (h : (passing (pzL pb l) l.length 0)[0]? = some i) : ∃ z, l[i]? = some z ∧ pb z = true ∧ ∀ (j : Nat) (y : Int), j < i → l[j]? = some y → pb y = false := by
  unfold passing at h
  rw [List.drop_zero] at h
  have h2 : ((List.range l.length).filter (pzL pb l)).head? = some i := by rw [List.head?_eq_getElem?]; exact h
  rw [List.head?_filter] at h2
  have h3 := List.find?_eq_some_iff_getElem.mp h2
  obtain ⟨hp, k, hk, ek, hn⟩ := h3
  rw [List.getElem_range] at ek
  subst ek
  rw [List.length_range] at hk
  refine ⟨l[k], List.getElem?_eq_getElem hk, ?_, fun j y hj hy => ?_⟩
  · rw [pzL_some (List.getElem?_eq_getElem hk)] at hp
    exact hp
  · have := hn j hj
    rw [List.getElem_range, pzL_some hy] at this
    simpa using this
theorem gen_name {c P : Addr} {e ct : Expr} {x : Str} {px gpos : Pos} {scope : Scope} {pb : Int → Bool} {te : TE} {k : Nat} {p1 : Pos} {Q' : Value → Shared → Prop} {R : Addr → List Int → Hp → Prop}
    (hr : Room k X.A) (TB : TabB X.base X.mg c P) (hcode : X.env.code = .ref c) (S : GenS X.env scope x) (he : PE X e te)
    (htest : TestI X.prog X.w scope x ct pb) (hda : (x == ("__debug__" : Str)) = false)
    (hs : ∀ v, genFold e X.env v = pure v) (I : Inv X pins σ H s) (h : te σ H fun v H1 => ∃ (t : Addr) (l : List Int), v = .ref t ∧ SqT X.K H1 t (l.map V.int) ∧ TabG H1 P ∧ R t l H1)
    (hQ : ∀ t l H1 g s5, R t l H1 → ReadyN X pins σ H1 P (passing (pzL pb l) l.length 0) (fun i y => ∃ z u, l[i]? = some z ∧ y = .int z u) g s5 → Q' (.ref g) s5) :
    wpAny (model X.prog X.w) X.A (eval (.GeneratorExp (.Name x p1) [⟨.Name x px, e, [ct], 0⟩] scope gpos) X.env) Q' X.xe s := by
  refine wpAny_GeneratorExp_walksQ hr.hd S.co (closure_ok S.free) S.cell S.dot S.loc S.kind (by have := hr.dp; omega) ?_ hs
  refine thn (he.run pins s σ H _ I h) fun us s1 hv => ?_
  obtain ⟨vs, H1, I1, r1, t, l, rfl, hq, ⟨ps, hP, ht⟩, q1⟩ := hv
  obtain rfl : us = Value.ref t := r1
  · skip
    obtain ⟨its, rv, p', hz⟩ := I1.tuple hq
    have pT : s1.heap.IsTuple t its.toArray := p'
    have hlt : t < s1.heap.objs.size := by obtain ⟨_, ho, _⟩ := p'; exact Heap.lt_size ho
    refine wpAny_pyIter_tuple pT ?_
    have hk2 : ∀ b o, s1.heap.get? b = some o → (s1.heap.push { cls := .type "tuple_iterator", data := .fields #[.ref t, .int 0 0] }).get? b = some o := fun b o z => Heap.get?_push_of_some _ z
    have hit : (s1.heap.push { cls := .type "tuple_iterator", data := .fields #[.ref t, .int 0 0] }).IsTupleIter s1.heap.objs.size t 0 := ⟨_, Heap.get?_push_size _ rfl, rfl, rfl⟩
    have hsz2 : (s1.heap.push { cls := .type "tuple_iterator", data := .fields #[.ref t, .int 0 0] }).objs.size = s1.heap.objs.size + 1 := Heap.size_push ..
    generalize s1.heap.push { cls := .type "tuple_iterator", data := .fields #[.ref t, .int 0 0] } = h2 at hk2 hit hsz2 ⊢
    have hPs : s1.heap.get? P = some { cls := .none, data := .fields ps } := I1.hok P _ hP
    have hPlt : P < s1.heap.objs.size := Heap.lt_size hPs
    have hP2 : h2.get? P = some { cls := .none, data := .fields ps } := hk2 _ _ hPs
    have cd : PySem.W.CodeHd h2 c P := TB.code.keeps fun b u e => hk2 _ _ (I1.bk b u e)
    have lim2 : h2.NoLimit := I1.nolimit.keeps hk2
    have hll := rv.length
    rw [List.length_map] at hll
    have tP : t ≠ P := fun z => by
      obtain ⟨o, ho, _, n, hd⟩ := pT
      rw [z, hPs] at ho
      cases ho
      cases hd
    have hzn : its.toArray.size = l.length := by rw [List.size_toArray]; omega
    have WT : ∀ A' : Around, A'.handled = none → Walks X.prog X.w A' s1.heap.objs.size _ _ _ _ _ := fun A' hA => Walks.tuple (prog := X.prog) (w := X.w) (A := A') hA s1.heap.objs.size t (Nat.ne_of_lt hlt) its.toArray
    have cont : ∀ (code : Value) (h3 : Heap) (tk : Nat) (ps' : Array Value), Heap.ExtBut P h2 h3 → h2.objs.size ≤ h3.objs.size → h3.get? P = some { cls := .none, data := .fields ps' } → (∃ more, ps' = ps ++ more) → TriplesOk ps'.toList →
        wpAny (model X.prog X.w) X.A (builtinsFor X.env.globals X.env.builtins) (fun bi s₄ =>
          ∃ Ia fp wr n₀ Pf St₀ pz F, Value.ref s1.heap.objs.size = .ref Ia ∧ (∀ A' : Around, A'.handled = none → Walks X.prog X.w A' Ia fp wr n₀ Pf St₀) ∧ St₀ 0 s₄.heap ∧ (∀ b ∈ fp, b < s₄.heap.objs.size) ∧ s₄.heap.NoLimit ∧ cStatics ∉ wr ∧
            (∀ href : Heap, (∀ b o, s₄.heap.get? b = some o → href.get? b = some o) →
              QuietGen X.prog X.w (genEnv scope (cloFrom X.env.cells scope.names []) s₄.heap.objs.size code bi X.env) x [ct] (.Name x p1) (List.range s₄.heap.objs.size) wr Pf pz F href) ∧
            (∀ a h₅ tk gs, gs.bare = true → s₄.heap.objs.size < a → h₅.objs.size = a + 1 → (∀ b o, s₄.heap.get? b = some o → h₅.get? b = some o) →
              WalksS X.prog X.w X.A.in4 a (a :: s₄.heap.objs.size :: List.range s₄.heap.objs.size) (s₄.heap.objs.size :: wr) (GenOnlyQ s₄.gens.size) (passing pz n₀ 0).length
                (fun j y => ∃ i, (passing pz n₀ 0)[j]? = some i ∧ F i y) (GenAt X.prog X.w X.A.in4 a s₄.gens.size s₄.heap.objs.size (List.range s₄.heap.objs.size) wr pz n₀ F) →
              GenAt X.prog X.w X.A.in4 a s₄.gens.size s₄.heap.objs.size (List.range s₄.heap.objs.size) wr pz n₀ F 0 { s₄ with gens := s₄.gens.push gs, toks := tk, heap := h₅ } →
              Q' (.ref a) { s₄ with gens := s₄.gens.push gs, toks := tk, heap := h₅ })) X.xe { s1 with heap := h3, toks := tk } := by
      intro code h3 tk ps' hx hsz hP3 hmore ht3
      obtain ⟨bm, ob, e1, e2, e3, e4, e5, e6, e7, e8⟩ := TB.bm
      have hcP : cStatics ≠ P := fun e => by
        obtain ⟨_, hns, _⟩ := I1.nolimit
        obtain ⟨o', es, ep, ho, hd, _⟩ := hns
        rw [e, hPs] at ho
        cases ho
        cases hd
      have hcl : cStatics < s1.heap.objs.size := let ⟨_, hns, _⟩ := I1.nolimit; hns.lt
      have keep3 : ∀ b u, b ≠ P → s1.heap.get? b = some u → h3.get? b = some u := fun b u hb e => hx b u hb (hk2 _ _ e)
      have iP : s1.heap.objs.size ≠ P := fun z => Nat.lt_irrefl _ (z ▸ hPlt)
      have off : ∀ b, b < s1.heap.objs.size → b ∉ [s1.heap.objs.size] := fun b hb hm => by
        have hm' : b = s1.heap.objs.size := by simpa using hm
        exact Nat.ne_of_lt hb hm'
      refine wpAny_builtinsFor (m := X.mg) (by rw [I1.ok.glob]; exact (((I1.mod.glob.keeps I1.bk).keeps hk2).extBut hx TB.gP)) e1 e2 (keep3 _ _ e4 (I1.bk _ _ e5)) e6 e7 e8 ?_
      refine ⟨s1.heap.objs.size, _, _, _, _, _, pzL pb l, (fun i y => ∃ z u, l[i]? = some z ∧ y = .int z u), rfl, WT, ⟨hit.at fun o q => hx _ o iP q, pT.at fun o q => keep3 _ o tP q⟩, ?_, lim2.extBut hx hcP, off _ hcl, ?_, ?_⟩
      · intro b hb
        have hb' : b = s1.heap.objs.size ∨ b = t := by simpa using hb
        show b < h3.objs.size
        rcases hb' with z | z
        · rw [z]
          show s1.heap.objs.size < h3.objs.size
          omega
        · rw [z]
          exact Nat.lt_of_lt_of_le hlt (show s1.heap.objs.size ≤ h3.objs.size by omega)
      · intro href hhref
        refine ⟨fun A' E' i v s₂ m₂ hA hPv hn hm hk => ?_, fun A' E' i v s₂ m₂ hA hPv hp hn hm hk => ?_⟩
        · have hxi' : its[i]? = some v := by simpa using hPv
          obtain ⟨z, t2, hz1, rfl⟩ := int_item rv hxi'
          refine one_if (wpAny_mono (htest _ A' E' z t2 s₂ m₂ rfl hn hm) (fun ok s3 q => ⟨?_, q.2⟩) fun _ _ e => e)
          rw [pzL_some hz1]
          exact q.1
        · have hxi' : its[i]? = some v := by simpa using hPv
          obtain ⟨z, t2, hz1, rfl⟩ := int_item rv hxi'
          exact wpAny_mono (elt_name (scope := scope) rfl S.kind S.loc hn hm hda) (fun y s3 q => ⟨⟨z, t2, hz1, q.1⟩, q.2⟩) fun _ _ e => e
      · intro g h5 tk5 gs hgb hag hsz5 hk5 W5 hat
        rw [hzn] at W5
        refine hQ t l H1 g _ q1 ⟨_, _, _, _, W5.in4_1, ?_, hat.1.typeIs, fun s' hm => ?_⟩
        · rw [hzn] at hat
          exact hat
        · obtain ⟨more, em⟩ := hmore
          have nwr : ∀ b u, s1.heap.get? b = some u → b ∉ h3.objs.size :: [s1.heap.objs.size] := fun b u e hb => by
            have hl := Heap.lt_size e
            rcases List.mem_cons.mp hb with z | z
            · rw [z] at hl
              have h9 : (h3.objs.size : Nat) < s1.heap.objs.size := hl
              omega
            · exact off b hl z
          have J := inv_tab (more := more) (h' := s'.heap) (g' := s'.gens) (d' := s'.drawn) (t' := s'.toks) I1 hP (fun b u hb e => hm.heap b u (nwr b u e) (hk5 b u (keep3 b u hb e)))
            (by rw [← em]; exact hm.heap P _ (nwr P _ hPs) (hk5 P _ hP3)) (AllBare.movedS (I1.bare.push hgb) hm)
          rw [sh_eta s1 s' hm.os] at J
          refine ⟨upd H1 P (.tbl (ps ++ more)), ⟨⟨ps ++ more, upd_same, by rw [← em]; exact ht3⟩, fun b hb => upd_ne hb⟩, J⟩
    refine ⟨lim2, ?_⟩
    cases hf : codeAmong gpos ps.toList with
    | none =>
      refine wpAny_genexprCodeX hcode (cd.code hP2 ht) (cd.tab hP2) hf fun c' h' tk hx hge hlt hco' _ htab' _ => ?_
      obtain ⟨o1, vs, f1, tf, fl, tg, inF, tx, tt, op, _, _, _, _, _, _, _, _, _, htr, _⟩ := hco'
      exact cont _ h' tk _ hx (Nat.le_trans hge (Nat.le_of_lt hlt)) htab'.2 ⟨_, rfl⟩ htr
    | some cv =>
      refine wpAny_genexprCode_hit hcode (cd.code hP2 ht) hf ?_
      exact cont cv h2 s1.toks ps (Heap.ExtBut.refl _ _) (Nat.le_refl _) hP2 ⟨#[], by simp⟩ ht
/-- the first entry that the test lets pass, or the default -/
def FirstOf (pb : Int → Bool) (l : List Int) (d r : Int) : Prop :=
  ((∀ (j : Nat) (z : Int), l[j]? = some z → pb z = false) ∧ r = d) ∨ ∃ i : Nat, l[i]? = some r ∧ pb r = true ∧ ∀ (j : Nat) (y : Int), j < i → l[j]? = some y → pb y = false
end
end GenNx

set_option Elab.async false
set_option linter.all false
set_option maxRecDepth 100000
set_option maxHeartbeats 2000000
/-! next(x for x in xs if .., default), xs a list of ints -/
namespace GenNl
open PySem PySem.Spec PyProof.Rows L2 GxR EnumT GenNx
section
variable {X : Cx} {pins : List (Addr × Obj)} {σ : L2.St} {H : Hp} {s : Shared}
theorem gen_name {c P : Addr} {e ct : Expr} {x : Str} {px gpos : Pos} {scope : Scope} {pb : Int → Bool} {te : TE} {k : Nat} {p1 : Pos} {Q' : Value → Shared → Prop} {R : Addr → List Int → Hp → Prop}
    (hr : Room k X.A) (TB : TabB X.base X.mg c P) (hcode : X.env.code = .ref c) (S : GenS X.env scope x) (he : PE X e te)
    (htest : TestI X.prog X.w scope x ct pb) (hda : (x == ("__debug__" : Str)) = false)
    (hs : ∀ v, genFold e X.env v = pure v) (I : Inv X pins σ H s) (h : te σ H fun v H1 => ∃ (t : Addr) (l : List Int), v = .ref t ∧ SqL X.K H1 t (l.map V.int) ∧ TabG H1 P ∧ R t l H1)
    (hQ : ∀ t l H1 g s5, R t l H1 → ReadyN X pins σ H1 P (passing (pzL pb l) l.length 0) (fun i y => ∃ z u, l[i]? = some z ∧ y = .int z u) g s5 → Q' (.ref g) s5) :
    wpAny (model X.prog X.w) X.A (eval (.GeneratorExp (.Name x p1) [⟨.Name x px, e, [ct], 0⟩] scope gpos) X.env) Q' X.xe s := by
  refine wpAny_GeneratorExp_walksQ hr.hd S.co (closure_ok S.free) S.cell S.dot S.loc S.kind (by have := hr.dp; omega) ?_ hs
  refine thn (he.run pins s σ H _ I h) fun us s1 hv => ?_
  obtain ⟨vs, H1, I1, r1, t, l, rfl, hq, ⟨ps, hP, ht⟩, q1⟩ := hv
  obtain rfl : us = Value.ref t := r1
  · skip
    obtain ⟨its, rv, p0, hz⟩ := I1.list hq
    have p' := p0.isList
    have pT : s1.heap.IsList t its.toArray := p'
    have hlt : t < s1.heap.objs.size := by obtain ⟨_, ho, _⟩ := p'; exact Heap.lt_size ho
    refine wpAny_pyIter_list pT ?_
    have hk2 : ∀ b o, s1.heap.get? b = some o → (s1.heap.push { cls := .type "list_iterator", data := .fields #[.ref t, .int 0 0] }).get? b = some o := fun b o z => Heap.get?_push_of_some _ z
    have hit : (s1.heap.push { cls := .type "list_iterator", data := .fields #[.ref t, .int 0 0] }).IsListIter s1.heap.objs.size t 0 := ⟨_, Heap.get?_push_size _ rfl, rfl, rfl⟩
    have hsz2 : (s1.heap.push { cls := .type "list_iterator", data := .fields #[.ref t, .int 0 0] }).objs.size = s1.heap.objs.size + 1 := Heap.size_push ..
    generalize s1.heap.push { cls := .type "list_iterator", data := .fields #[.ref t, .int 0 0] } = h2 at hk2 hit hsz2 ⊢
    have hPs : s1.heap.get? P = some { cls := .none, data := .fields ps } := I1.hok P _ hP
    have hPlt : P < s1.heap.objs.size := Heap.lt_size hPs
    have hP2 : h2.get? P = some { cls := .none, data := .fields ps } := hk2 _ _ hPs
    have cd : PySem.W.CodeHd h2 c P := TB.code.keeps fun b u e => hk2 _ _ (I1.bk b u e)
    have lim2 : h2.NoLimit := I1.nolimit.keeps hk2
    have hll := rv.length
    rw [List.length_map] at hll
    have tP : t ≠ P := fun z => by
      obtain ⟨o, ho, _, n, hd⟩ := pT
      rw [z, hPs] at ho
      cases ho
      cases hd
    have hzn : its.toArray.size = l.length := by rw [List.size_toArray]; omega
    have WT : ∀ A' : Around, A'.handled = none → Walks X.prog X.w A' s1.heap.objs.size _ _ _ _ _ := fun A' hA => Walks.list (prog := X.prog) (w := X.w) (A := A') hA s1.heap.objs.size t (Nat.ne_of_lt hlt) its.toArray
    have cont : ∀ (code : Value) (h3 : Heap) (tk : Nat) (ps' : Array Value), Heap.ExtBut P h2 h3 → h2.objs.size ≤ h3.objs.size → h3.get? P = some { cls := .none, data := .fields ps' } → (∃ more, ps' = ps ++ more) → TriplesOk ps'.toList →
        wpAny (model X.prog X.w) X.A (builtinsFor X.env.globals X.env.builtins) (fun bi s₄ =>
          ∃ Ia fp wr n₀ Pf St₀ pz F, Value.ref s1.heap.objs.size = .ref Ia ∧ (∀ A' : Around, A'.handled = none → Walks X.prog X.w A' Ia fp wr n₀ Pf St₀) ∧ St₀ 0 s₄.heap ∧ (∀ b ∈ fp, b < s₄.heap.objs.size) ∧ s₄.heap.NoLimit ∧ cStatics ∉ wr ∧
            (∀ href : Heap, (∀ b o, s₄.heap.get? b = some o → href.get? b = some o) →
              QuietGen X.prog X.w (genEnv scope (cloFrom X.env.cells scope.names []) s₄.heap.objs.size code bi X.env) x [ct] (.Name x p1) (List.range s₄.heap.objs.size) wr Pf pz F href) ∧
            (∀ a h₅ tk gs, gs.bare = true → s₄.heap.objs.size < a → h₅.objs.size = a + 1 → (∀ b o, s₄.heap.get? b = some o → h₅.get? b = some o) →
              WalksS X.prog X.w X.A.in4 a (a :: s₄.heap.objs.size :: List.range s₄.heap.objs.size) (s₄.heap.objs.size :: wr) (GenOnlyQ s₄.gens.size) (passing pz n₀ 0).length
                (fun j y => ∃ i, (passing pz n₀ 0)[j]? = some i ∧ F i y) (GenAt X.prog X.w X.A.in4 a s₄.gens.size s₄.heap.objs.size (List.range s₄.heap.objs.size) wr pz n₀ F) →
              GenAt X.prog X.w X.A.in4 a s₄.gens.size s₄.heap.objs.size (List.range s₄.heap.objs.size) wr pz n₀ F 0 { s₄ with gens := s₄.gens.push gs, toks := tk, heap := h₅ } →
              Q' (.ref a) { s₄ with gens := s₄.gens.push gs, toks := tk, heap := h₅ })) X.xe { s1 with heap := h3, toks := tk } := by
      intro code h3 tk ps' hx hsz hP3 hmore ht3
      obtain ⟨bm, ob, e1, e2, e3, e4, e5, e6, e7, e8⟩ := TB.bm
      have hcP : cStatics ≠ P := fun e => by
        obtain ⟨_, hns, _⟩ := I1.nolimit
        obtain ⟨o', es, ep, ho, hd, _⟩ := hns
        rw [e, hPs] at ho
        cases ho
        cases hd
      have hcl : cStatics < s1.heap.objs.size := let ⟨_, hns, _⟩ := I1.nolimit; hns.lt
      have keep3 : ∀ b u, b ≠ P → s1.heap.get? b = some u → h3.get? b = some u := fun b u hb e => hx b u hb (hk2 _ _ e)
      have iP : s1.heap.objs.size ≠ P := fun z => Nat.lt_irrefl _ (z ▸ hPlt)
      have off : ∀ b, b < s1.heap.objs.size → b ∉ [s1.heap.objs.size] := fun b hb hm => by
        have hm' : b = s1.heap.objs.size := by simpa using hm
        exact Nat.ne_of_lt hb hm'
      refine wpAny_builtinsFor (m := X.mg) (by rw [I1.ok.glob]; exact (((I1.mod.glob.keeps I1.bk).keeps hk2).extBut hx TB.gP)) e1 e2 (keep3 _ _ e4 (I1.bk _ _ e5)) e6 e7 e8 ?_
      refine ⟨s1.heap.objs.size, _, _, _, _, _, pzL pb l, (fun i y => ∃ z u, l[i]? = some z ∧ y = .int z u), rfl, WT, ⟨hit.at fun o q => hx _ o iP q, pT.at fun o q => keep3 _ o tP q⟩, ?_, lim2.extBut hx hcP, off _ hcl, ?_, ?_⟩
      · intro b hb
        have hb' : b = s1.heap.objs.size ∨ b = t := by simpa using hb
        show b < h3.objs.size
        rcases hb' with z | z
        · rw [z]
          show s1.heap.objs.size < h3.objs.size
          omega
        · rw [z]
          exact Nat.lt_of_lt_of_le hlt (show s1.heap.objs.size ≤ h3.objs.size by omega)
      · intro href hhref
        refine ⟨fun A' E' i v s₂ m₂ hA hPv hn hm hk => ?_, fun A' E' i v s₂ m₂ hA hPv hp hn hm hk => ?_⟩
        · have hxi' : its[i]? = some v := by simpa using hPv
          obtain ⟨z, t2, hz1, rfl⟩ := int_item rv hxi'
          refine one_if (wpAny_mono (htest _ A' E' z t2 s₂ m₂ rfl hn hm) (fun ok s3 q => ⟨?_, q.2⟩) fun _ _ e => e)
          rw [pzL_some hz1]
          exact q.1
        · have hxi' : its[i]? = some v := by simpa using hPv
          obtain ⟨z, t2, hz1, rfl⟩ := int_item rv hxi'
          exact wpAny_mono (elt_name (scope := scope) rfl S.kind S.loc hn hm hda) (fun y s3 q => ⟨⟨z, t2, hz1, q.1⟩, q.2⟩) fun _ _ e => e
      · intro g h5 tk5 gs hgb hag hsz5 hk5 W5 hat
        rw [hzn] at W5
        refine hQ t l H1 g _ q1 ⟨_, _, _, _, W5.in4_1, ?_, hat.1.typeIs, fun s' hm => ?_⟩
        · rw [hzn] at hat
          exact hat
        · obtain ⟨more, em⟩ := hmore
          have nwr : ∀ b u, s1.heap.get? b = some u → b ∉ h3.objs.size :: [s1.heap.objs.size] := fun b u e hb => by
            have hl := Heap.lt_size e
            rcases List.mem_cons.mp hb with z | z
            · rw [z] at hl
              have h9 : (h3.objs.size : Nat) < s1.heap.objs.size := hl
              omega
            · exact off b hl z
          have J := inv_tab (more := more) (h' := s'.heap) (g' := s'.gens) (d' := s'.drawn) (t' := s'.toks) I1 hP (fun b u hb e => hm.heap b u (nwr b u e) (hk5 b u (keep3 b u hb e)))
            (by rw [← em]; exact hm.heap P _ (nwr P _ hPs) (hk5 P _ hP3)) (AllBare.movedS (I1.bare.push hgb) hm)
          rw [sh_eta s1 s' hm.os] at J
          refine ⟨upd H1 P (.tbl (ps ++ more)), ⟨⟨ps ++ more, upd_same, by rw [← em]; exact ht3⟩, fun b hb => upd_ne hb⟩, J⟩
    refine ⟨lim2, ?_⟩
    cases hf : codeAmong gpos ps.toList with
    | none =>
      refine wpAny_genexprCodeX hcode (cd.code hP2 ht) (cd.tab hP2) hf fun c' h' tk hx hge hlt hco' _ htab' _ => ?_
      obtain ⟨o1, vs, f1, tf, fl, tg, inF, tx, tt, op, _, _, _, _, _, _, _, _, _, htr, _⟩ := hco'
      exact cont _ h' tk _ hx (Nat.le_trans hge (Nat.le_of_lt hlt)) htab'.2 ⟨_, rfl⟩ htr
    | some cv =>
      refine wpAny_genexprCode_hit hcode (cd.code hP2 ht) hf ?_
      exact cont cv h2 s1.toks ps (Heap.ExtBut.refl _ _) (Nat.le_refl _) hP2 ⟨#[], by simp⟩ ht
/-- next((x for x in e if test of x), d) -/
def tNextL (K : PySem.W.Frag) (P : Addr) (pb : Int → Bool) (d : Int) (te : TE) : TE := fun σ H Q => te σ H fun v H1 => ∃ (t : Addr) (l : List Int), v = .ref t ∧ SqL K H1 t (l.map V.int) ∧ TabG H1 P ∧ ∀ r H2, FirstOf pb l d r → Tabbed P H1 H2 → Q (.int r) H2
theorem pe_nextL {c P : Addr} {e ct : Expr} {x : Str} {px gpos p pos dp : Pos} {jd : Nat} {scope : Scope} {pb : Int → Bool} {d : Int} {te : TE} {k : Nat} {p1 : Pos}
    (hr : Room k X.A) (hgn : Gl X "next") (hmn : X.mg "next" = none) (TB : TabB X.base X.mg c P) (hcode : X.env.code = .ref c) (S : GenS X.env scope x) (he0 : PE X e te)
    (htest : TestI X.prog X.w scope x ct pb) (hda : (x == ("__debug__" : Str)) = false := by decide)
    (hs : ∀ v, genFold e X.env v = pure v := by intro _; rfl)
    (he : starEach [.GeneratorExp (.Name x p1) [⟨.Name x px, e, [ct], 0⟩] scope gpos, .Constant (.int d) jd dp] X.env
      = (false, eval (.GeneratorExp (.Name x p1) [⟨.Name x px, e, [ct], 0⟩] scope gpos) X.env) :: starEach [.Constant (.int d) jd dp] X.env := by rfl)
    (he2 : starEach [.Constant (.int d) jd dp] X.env = [(false, eval (.Constant (.int d) jd dp) X.env)] := by rfl) :
    PE X (.Call (.Name "next" p) [.GeneratorExp (.Name x p1) [⟨.Name x px, e, [ct], 0⟩] scope gpos, .Constant (.int d) jd dp] [] pos) (tNextL X.K P pb d te) := by
  refine ⟨fun pins s σ H Q I h => ?_⟩
  refine wpAny_Call_Name_kw (ld_blt I hgn hmn boot_next ?_)
  refine PyProof.Rows.callWith_builtin1 ?_ he (by rw [he2]; rfl)
  rw [he, he2]
  show wpAny _ _ (spliced ((false, eval (.GeneratorExp (.Name x p1) [⟨.Name x px, e, [ct], 0⟩] scope gpos) X.env) :: (false, eval (.Constant (.int d) jd dp) X.env) :: [])) _ _ s
  refine Calls.spliced_cons (gen_name (R := fun t l H1 => ∀ r H2, FirstOf pb l d r → Tabbed P H1 H2 → Q (.int r) H2) hr TB hcode S he0 htest hda hs I h fun t l H1 g s5 hR hG => ?_)
  refine Calls.spliced_cons (wpAny_Constant_int (Calls.spliced_nil ?_))
  obtain ⟨fp, wr, G, St, W, hst5, hT, hI⟩ := hG
  have back : ∀ {s'}, Moved wr G { s5 with toks := s5.toks + 1 } s' → Moved wr G s5 s' := fun m => ⟨m.heap, m.gens, m.drawn, m.os, Nat.le_trans (Nat.le_succ _) m.toks⟩
  refine call_next_walkS W hT (W.frame 0 s5 s5.heap (s5.toks + 1) hst5 (Nat.le_succ _) fun _ _ _ z => z) (fun v s' hn hv hmv => ?_) (fun s' hn hmv => ?_)
  · obtain ⟨H2, hTb, J⟩ := hI s' (back hmv)
    obtain ⟨i, hi, y, u, hy, rfl⟩ := hv
    obtain ⟨z, hz1, hz2, hz3⟩ := passing_first hi
    rw [hy] at hz1
    cases hz1
    exact ⟨.int y, H2, J, ⟨u, rfl⟩, hR y H2 (.inr ⟨i, hy, hz2, hz3⟩) hTb⟩
  · obtain ⟨H2, hTb, J⟩ := hI s' (back hmv)
    exact ⟨.int d, H2, J, ⟨_, rfl⟩, hR d H2 (.inl ⟨passing_nil hn, rfl⟩) hTb⟩
end
end GenNl

set_option Elab.async false
set_option linter.all false
set_option maxRecDepth 100000
set_option maxHeartbeats 2000000
/-! HookG's Hook over a lesser fragment: what the globals name, what is named by that, and so on; a function names its code and its defaults only -/
namespace HookG
open PySem PySem.Spec PyProof.Rows L2 He
def refsW (o : Obj) : List Addr := match o.data with
  | .func fd => refV fd.code ++ refV fd.defaults ++ refV fd.kwdefaults
  | _ => refsD o
def nxtW (g : Addr → Option Obj) (as : List Addr) : List Addr := as.flatMap fun a => match g a with
  | some o => refsW o
  | none => []
def levW (g : Addr → Option Obj) : Nat → List Addr → List Addr
  | 0, as => as
  | n + 1, as => as ++ levW g n (nxtW g as)
def asW (g : Addr → Option Obj) (n : Nat) : List Addr := levW g n [mainGlobals] ++ [cStatics]
end HookG

set_option Elab.async false
set_option linter.all false
set_option maxRecDepth 100000
set_option maxHeartbeats 2000000
/-! HookW's Hook with defs that hold generator expressions: their code objects, the tables of these, empty at the start and left out of the fragment -/
namespace HookT
open PySem PySem.Spec PyProof.Rows L2 He HookG
/-- the code object of the function at a -/
def codA (K : PySem.W.Frag) (a : Addr) : Addr := match K.lookup a with
  | some ⟨_, _, .func fd, _⟩ => (match fd.code with
    | .ref c => c
    | _ => 0)
  | _ => 0
theorem code_of {K : PySem.W.Frag} {x qual : Str} {params : Arguments} {body : List Stmt} {scope : Scope} {dvs : List V} {kws : List (Str × V)} {f : Addr} {fd : FuncData} (F : FunD K x qual params body scope dvs kws f fd) : fd.code = .ref (codA K f) := by
  obtain ⟨oc, od, dV, kV, doc, pm, an, cdv, ct, osl, rfl, lk, hcd, _, _⟩ := F.ex
  obtain ⟨c, rfl⟩ := codeIn_ref hcd
  unfold codA
  rw [lk] <;> rfl
/-- FunD.ok with the code object known -/
theorem okC {P : Program} {w : World} {K : PySem.W.Frag} {mg : Str → Option Value} {base : Heap} {x qual : Str} {params : Arguments} {body : List Stmt} {scope : Scope} {dvs : List V} {kws : List (Str × V)} {f : Addr} {fd : FuncData} {CX : CXT} {N ps : List Str} {k : Nat} {sp : Sp}
    (F : FunD K x qual params body scope dvs kws f fd) (S : FnScope N ps scope) (len : ∀ vs H Q E, sp vs H Q E → vs.length = ps.length)
    (hbody : ∀ (A : Around) (outer : List Env) (s : Shared) (H : Hp) (vs : List V) (Q : VK) (E : XK), Room k (A.deeper (envOfC qual scope s.heap.objs.size f fd.code)) → sp vs H Q E →
      ∃ t, PSs (cxOf CX P w K mg base N qual scope f fd.code A outer s H E) body t ∧ t { nx := fun _ H' => Q .non H', rt := Q } (start N vs) H) : FnOk P w K mg base CX (k + 1) f fd ps sp := by
  obtain ⟨oc, od, dV, kV, doc, pm, an, cdv, ct, osl, rfl, lk, hcd, _, _⟩ := F.ex
  exact fn_of lk hcd S len fun A outer s H vs Q E hr hsp => hbody A outer s H vs Q E hr hsp
def cTA (K : PySem.W.Frag) (p : At) : Addr × Addr := (codA K (p.adr K), tabOf K (codA K (p.adr K)))
structure SaysGT (fa : List Fa) (fn : List GD) (tf : List At) (ex : PySem.W.Frag → Bool) (h : Heap) (K : PySem.W.Frag) : Prop where
  g : SaysG fa fn ex K
  hd : ∀ p ∈ tf, PySem.W.codeHdIn K (cTA K p).1 (cTA K p).2 = true
  out : ∀ p ∈ tf, K.lookup (cTA K p).2 = none
  empty : ∀ p ∈ tf, h.get? (cTA K p).2 = some { cls := .none, data := .fields #[] }
def tabsB (g : Addr → Option Obj) (tf : List At) (K : PySem.W.Frag) : Bool := tf.all fun p => PySem.W.codeHdIn K (cTA K p).1 (cTA K p).2 && (match g (cTA K p).2 with
  | some o => emptyTab o
  | none => false)
abbrev AlGT : Type := AlG × Bool
def obsGT (n : Nat) (fa : List Fa) (fn : List GD) (tf : List At) (ex : PySem.W.Frag → Bool) (g : Addr → Option Obj) : AlGT := (obsG fa fn ex (frT g (asW g n)), tabsB g tf (frT g (asW g n)))
theorem saysGT_of {n : Nat} {fa : List Fa} {fn : List GD} {tf : List At} {ex : PySem.W.Frag → Bool} {h : Heap} (e : obsGT n fa fn tf ex h.get? = (valG fn, true)) : SaysGT fa fn tf ex h (frT h.get? (asW h.get? n)) := by
  have e1 : obsG fa fn ex (frT h.get? (asW h.get? n)) = valG fn := congrArg (fun z : AlGT => z.1) e
  have e2 : tabsB h.get? tf (frT h.get? (asW h.get? n)) = true := congrArg (fun z : AlGT => z.2) e
  have key : ∀ p ∈ tf, PySem.W.codeHdIn (frT h.get? (asW h.get? n)) (cTA (frT h.get? (asW h.get? n)) p).1 (cTA (frT h.get? (asW h.get? n)) p).2 = true ∧ ∃ o, h.get? (cTA (frT h.get? (asW h.get? n)) p).2 = some o ∧ emptyTab o = true := fun p hp => by
    obtain ⟨h3, h4⟩ := ba (List.all_eq_true.mp e2 p hp)
    refine ⟨h3, ?_⟩
    cases q : h.get? (cTA (frT h.get? (asW h.get? n)) p).2 with
    | none =>
      rw [q] at h4
      cases h4
    | some o =>
      rw [q] at h4
      exact ⟨o, rfl, h4⟩
  exact ⟨e1, fun p hp => (key p hp).1, fun p hp => by
    obtain ⟨_, o, q, z⟩ := key p hp
    exact frT_none q z, fun p hp => by
    obtain ⟨_, o, q, z⟩ := key p hp
    rw [q, emptyTab_eq z]⟩
def hookT (n : Nat) (fa : List Fa) (fn : List GD) (tf : List At) (ex : PySem.W.Frag → Bool) : PySem.W.Hook where
  α := AlGT
  obs := fun s => obsGT n fa fn tf ex s.heap.get?
  val := fun _ => (valG fn, true)
  says := fun _ h => ∃ K : PySem.W.Frag, K.In h ∧ SaysGT fa fn tf ex h K
  of := fun _ _ e => ⟨_, frT_in, saysGT_of e⟩
  keeps := fun _ _ _ ⟨K, hK, c⟩ k => ⟨K, PySem.W.Frag.In.keeps hK k, ⟨c.g, c.hd, c.out, fun p hp => k _ _ (c.empty p hp)⟩⟩
theorem obsGT_eq {n : Nat} {fa : List Fa} {fn : List GD} {tf : List At} {ex : PySem.W.Frag → Bool} {g : Addr → Option Obj} {s : Shared} (h : ∀ a, g a = s.heap.get? a) : obsGT n fa fn tf ex g = (hookT n fa fn tf ex).obs s := by
  have e : g = s.heap.get? := funext h
  rw [e] <;> rfl
/-- a table at the start -/
theorem tabG0 {H : Hp} {P : Addr} (h : H P = some (.tbl #[])) : GxR.TabG H P := ⟨#[], h, True.intro⟩
end HookT

set_option Elab.async false
set_option linter.all false
set_option maxRecDepth 100000
set_option maxHeartbeats 2000000
/-! any of a list of ints -/
namespace OwnF
open PySem PySem.Spec PyProof.Rows L2 SlX OwnR
section
variable {X : Cx}
end
end OwnF

set_option Elab.async false
set_option linter.all false
set_option maxRecDepth 100000
set_option maxHeartbeats 2000000
/-! a comprehension over enumerate(t), t a tuple -/
namespace EnumT
open PySem PySem.Spec PyProof.Rows L2
end EnumT

set_option Elab.async false
set_option linter.all false
set_option maxRecDepth 100000
set_option maxHeartbeats 2000000
/-! tuple(x) of an instance with own __iter__ (an iterator over a tuple) and own __len__ -/
namespace OwnR
open PySem PySem.Spec PyProof.Rows L2 SlX
section
variable {X : Cx} {CX : CXT} {pins : List (Addr × Obj)} {σ : L2.St} {H : Hp} {s : Shared} {C g gl t it q : Addr} {n i : Nat} {sp spl : Sp} {E : XK}
end
section
variable {X : Cx} {C g gl : Addr} {n : Nat} {sp spl : Sp} {fd fdl : FuncData} {ps psl : List Str}
end
end OwnR

set_option Elab.async false
set_option linter.all false
set_option maxRecDepth 100000
set_option maxHeartbeats 4000000
/-! tuple * int, the int 1, too: the same tuple -/
namespace RepT
open PySem PySem.Spec PyProof.Rows L2
theorem tuple_mul1 (l : Addr) (items : Array Value) (n : Nat) (dd : Option Addr) (sl : Array (Option Value)) (u : Tok) :
    Meets (Builtin.«tuple.__mul__» ⟨[.ref l, .int 1 u], []⟩) (fun _ R s => s.heap.get? l = some { cls := .type "tuple", dict := dd, data := .seq items n, slots := sl } ∧ R (.ok (.ret (Value.ref l))) s) :=
  .of_wp fun prog w A R s h => by
    obtain ⟨hp, g, d, tk, os⟩ := s
    obtain ⟨hl, h⟩ := h
    have f1 := AutoSeq1.idx_int
    have hT : Shared.TypeIs ⟨hp, g, d, tk, os⟩ (.ref l) "tuple" := ⟨_, hl, rfl⟩
    have c1 : (items.isEmpty || (1 : Int) == 1) = true := by rw [show ((1 : Int) == 1) = true from rfl, Bool.or_true]
    wp_walk using AutoSeq1.wpAny_loadPart' hl, wpAny_typeOf hT
    repeat (first
      | (refine wpAny_ite_true (by rw [c1]) ?_; wp_walk using AutoSeq1.wpAny_loadPart' hl, wpAny_typeOf hT))
    exact ⟨_, rfl, h⟩
def rRep1 (K : PySem.W.Frag) : R2 := fun x y H Q => (∃ l xs, x = .ref l ∧ y = .int 1 ∧ SqT K H l xs ∧ Q (.ref l) H) ∨ rRepT K x y H Q
theorem op_rep1 {X : Cx} : OpR X (binaryOp .Mult) (rRep1 X.K) := by
  intro pins s σ H x y v u Q I rx ry h
  rcases h with h | h
  · obtain ⟨l, xs, rfl, rfl, hT, q⟩ := h
    cases rx
    obtain ⟨t, rfl⟩ := ry
    obtain ⟨its, r, ⟨⟨cls, dd, data, sl⟩, ho, hc, n, hd⟩, hs⟩ := I.tuple hT
    simp only at hc hd
    subst hc hd
    refine wpAny_binaryOp_repeat_ref (T := "tuple") (U := "int") (by decide) ⟨_, ho, rfl⟩ (fun s' => typeIs_int s' 1 t) noFill_tuple_mul F.fills_int_mul F.slot_int_rmul repeat_tuple F.slot_int_index.lookup
      (call_meets F.slot_int_rmul (typeIs_int s 1 t) F.entry_int_rmul (F.args_int_rmul_2 _ _) (int_rmul_tuple 1 t l its.toArray n dd sl)
        ⟨ho, rfl, ⟨_, ho, rfl⟩, call_meets F.slot_tuple_mul ⟨_, ho, rfl⟩ F.entry_tuple_mul (F.args_tuple_mul_2 _ _) (tuple_mul1 l its.toArray n dd sl t) ⟨ho, ?_⟩⟩)
    exact ⟨.ref l, H, I, rfl, q⟩
  · exact op_repT pins s σ H x y v u Q I rx ry h
end RepT

set_option Elab.async false
set_option linter.all false
set_option maxRecDepth 100000
set_option maxHeartbeats 4000000
/-! tuple * int, the int 0, too: an empty tuple -/
namespace RepZ
open PySem PySem.Spec PyProof.Rows L2 RepT
theorem tuple_mul0 (l : Addr) (items : Array Value) (n : Nat) (dd : Option Addr) (sl : Array (Option Value)) (u : Tok) (hne : items.isEmpty = false) :
    Meets (Builtin.«tuple.__mul__» ⟨[.ref l, .int 0 u], []⟩) (fun _ R s => s.heap.get? l = some { cls := .type "tuple", dict := dd, data := .seq items n, slots := sl } ∧
      R (.ok (.ret (Value.ref s.heap.objs.size))) { s with heap := s.heap.push { cls := Value.type "tuple", data := Data.seq #[] }, toks := s.toks }) :=
  .of_wp fun prog w A R s h => by
    obtain ⟨hp, g, d, tk, os⟩ := s
    obtain ⟨hl, h⟩ := h
    have f1 := AutoSeq1.idx_int
    have c1 : (items.isEmpty || (0 : Int) == 1) = false := by rw [hne]; rfl
    have c2 : (decide ((0 : Int) ≤ 0) || items.isEmpty) = true := by rw [decide_eq_true (Int.le_refl 0)]; rfl
    wp_walk using AutoSeq1.wpAny_loadPart' hl
    repeat (first
      | (refine wpAny_ite_false (decide_eq_false (by rw [c1]; exact Bool.false_ne_true)) ?_; wp_walk using AutoSeq1.wpAny_loadPart' hl)
      | (refine wpAny_ite_true (by rw [c2]) ?_; wp_walk using AutoSeq1.wpAny_loadPart' hl))
    exact ⟨_, rfl, h⟩
def rRep0 (K : PySem.W.Frag) : R2 := fun x y H Q => (∃ l xs, x = .ref l ∧ y = .int 0 ∧ SqT K H l xs ∧ xs ≠ [] ∧ ∀ p, H p = none → Q (.ref p) (upd H p (.tup []))) ∨ rRep1 K x y H Q
theorem op_rep0 {X : Cx} : OpR X (binaryOp .Mult) (rRep0 X.K) := by
  intro pins s σ H x y v u Q I rx ry h
  rcases h with h | h
  · obtain ⟨l, xs, rfl, rfl, hT, hne, q⟩ := h
    cases rx
    obtain ⟨t, rfl⟩ := ry
    obtain ⟨its, r, ⟨⟨cls, dd, data, sl⟩, ho, hc, n, hd⟩, hs⟩ := I.tuple hT
    simp only at hc hd
    subst hc hd
    have hl := r.length
    have he : its.toArray.isEmpty = false := by
      rw [List.isEmpty_toArray]
      cases its with
      | nil =>
        exact absurd (List.length_eq_zero_iff.mp (by simpa using hl)) hne
      | cons => rfl
    refine wpAny_binaryOp_repeat_ref (T := "tuple") (U := "int") (by decide) ⟨_, ho, rfl⟩ (fun s' => typeIs_int s' 0 t) noFill_tuple_mul F.fills_int_mul F.slot_int_rmul repeat_tuple F.slot_int_index.lookup
      (call_meets F.slot_int_rmul (typeIs_int s 0 t) F.entry_int_rmul (F.args_int_rmul_2 _ _) (int_rmul_tuple 0 t l its.toArray n dd sl)
        ⟨ho, rfl, ⟨_, ho, rfl⟩, call_meets F.slot_tuple_mul ⟨_, ho, rfl⟩ F.entry_tuple_mul (F.args_tuple_mul_2 _ _) (tuple_mul0 l its.toArray n dd sl t he) ⟨ho, ?_⟩⟩)
    refine ⟨.ref s.heap.objs.size, _, I.laid (t' := s.toks) (o := .tup []) (fun b ob q => Heap.get?_push_of_some _ q) (Nat.le_refl _) ?_, rfl, q _ (I.hok.fresh (Nat.le_refl _))⟩
    exact ⟨Nat.zero_le _, [], .nil, IsTup.new _ _⟩
  · exact op_rep1 pins s σ H x y v u Q I rx ry h
/-- (c,) * n -/
theorem rep_any {K : PySem.W.Frag} {p0 : Addr} {H : Hp} {n : Nat} {k c : Int} {Q : VK} (h0 : H p0 = some (.tup ([c].map V.int))) (hk : k = (n : Int)) (h2 : n ≤ 1000) (q : ∀ p H', (∀ b o, H b = some o → H' b = some o) → H' p = some (.tup ((List.replicate n c).map V.int)) → Q (.ref p) H') : rRep0 K (.ref p0) (.int k) H Q := by
  subst hk
  have h := SqT.of (K := K) h0
  have up : ∀ p o, H p = none → ∀ b u, H b = some u → upd H p o b = some u := fun p o hp b u e => by
    rw [upd_ne fun z => by rw [z, hp] at e; cases e]
    exact e
  by_cases e0 : n = 0
  · subst e0
    exact .inl ⟨p0, _, rfl, rfl, h, by simp, fun p hp => q p _ (up p _ hp) upd_same⟩
  by_cases e : n = 1
  · subst e
    exact .inr (.inl ⟨p0, _, rfl, rfl, h, q p0 H (fun _ _ e => e) h0⟩)
  · refine .inr (.inr ⟨p0, (n : Int), _, rfl, rfl, h, by simp, by omega, by omega, by simp, fun p hp => q p _ (up p _ hp) ?_⟩)
    rw [upd_same, Int.toNat_natCast]
    show some (HO.tup (List.replicate n [V.int c]).flatten) = some (HO.tup ((List.replicate n (c : Int)).map V.int))
    rw [List.flatten_replicate_singleton, List.map_replicate]
end RepZ

set_option Elab.async false
set_option linter.all false
set_option maxRecDepth 100000
set_option maxHeartbeats 2000000
/-! zip of a list and a tuple -/
namespace ZipX
open PySem PySem.Spec PyProof.Rows L2 RZ
def StX (a b z TI TO i1 i2 : Addr) (i : Nat) (h : Heap) : Prop := IsZip h z TI TO .none ∧ IsPair h TI (.ref i1) (.ref i2) ∧ (∃ x y, IsPair h TO x y) ∧ h.IsListIter i1 a i ∧ h.IsTupleIter i2 b i
section
variable {prog : Program} {w : World} {A : Around} {E : Value → Shared → Prop} {s : Shared}
end
end ZipX

set_option Elab.async false
set_option linter.all false
set_option maxRecDepth 100000
/-! x *= n for ints -/
namespace AugM
open PySem PySem.Spec PyProof.Rows L2 MyR
variable {X : Cx}
end AugM

set_option Elab.async false
set_option linter.all false
set_option maxRecDepth 100000
set_option maxHeartbeats 2000000
/-! l.count(x) of data, sorted(set) of pairs of ints -/
namespace TupC
open PySem PySem.Spec PyProof.Rows L2
section
variable {X : Cx}
end
section
variable {P : Program} {w : World} {A : Around} {E : Value → Shared → Prop} {s : Shared}
end
section
variable {X : Cx}
end
end TupC

set_option Elab.async false
set_option linter.all false
set_option maxRecDepth 100000
/-! max(t) of a tuple of ints -/
namespace MaxT
open PySem PySem.Spec PyProof.Rows L2
section
variable {prog : Program} {w : World} {A : Around} {E : Value → Shared → Prop} {s : Shared}
end
section
variable {X : Cx}
end
end MaxT

set_option Elab.async false
set_option linter.all false
set_option maxRecDepth 100000
set_option maxHeartbeats 4000000
namespace K76
open PySem PySem.Spec PyProof.Rows L2 SlX OwnR OwnF
theorem hu64 {k : Nat} {A : Around} (hr : Room k A) : A.units + 64 < cLine := hr.units
theorem same_upd0 {H : Hp} {p : Addr} {o : HO} (h : H p = none) : Same H (upd H p o) := fun b x e => by
  rw [upd_ne (ne_of_none e h)]
  exact e
def topS (i : Nat) : Stmt := PySem.Challenge.pw_sourceforms_k76_whole_bezout_tables.main.body.getD i (.Pass ⟨0, 0, 0, 0⟩)
abbrev FnM (K : PySem.W.Frag) (x q : Str) (st : Stmt) (f : Addr) (fd : FuncData) : Prop := FunD K x q (defArgs st) (defBody st) (defScope st) [] [] f fd
abbrev FnP (K : PySem.W.Frag) (x : Str) (st : Stmt) (f : Addr) (fd : FuncData) : Prop := FunD K x x (defArgs st) (defBody st) (defScope st) [] [] f fd
abbrev s_is_whole : Stmt := topS 11
abbrev N_is_whole : List Str := ["value"]
theorem sc_is_whole : FnScope N_is_whole ["value"] (defScope s_is_whole) := ⟨rfl, rfl, rfl, by decide +kernel, rfl, by decide +kernel, by decide +kernel⟩
abbrev s_is_short : Stmt := topS 12
abbrev N_is_short : List Str := ["value"]
theorem sc_is_short : FnScope N_is_short ["value"] (defScope s_is_short) := ⟨rfl, rfl, rfl, by decide +kernel, rfl, by decide +kernel, by decide +kernel⟩
abbrev s_are_short : Stmt := topS 14
abbrev N_are_short : List Str := ["value", "entry"]
theorem sc_are_short : FnScope N_are_short ["value"] (defScope s_are_short) := ⟨rfl, rfl, rfl, by decide +kernel, rfl, by decide +kernel, by decide +kernel⟩
abbrev s_shared_of : Stmt := topS 17
abbrev N_shared_of : List Str := ["numbers", "found", "number"]
theorem sc_shared_of : FnScope N_shared_of ["numbers"] (defScope s_shared_of) := ⟨rfl, rfl, rfl, by decide +kernel, rfl, by decide +kernel, by decide +kernel⟩
abbrev s_first_of : Stmt := topS 18
abbrev N_first_of : List Str := ["numbers"]
theorem sc_first_of : FnScope N_first_of ["numbers"] (defScope s_first_of) := ⟨rfl, rfl, rfl, by decide +kernel, rfl, by decide +kernel, by decide +kernel⟩
abbrev s_primitive_of : Stmt := topS 19
abbrev N_primitive_of : List Str := ["numbers", "part", "number"]
theorem sc_primitive_of : FnScope N_primitive_of ["numbers"] (defScope s_primitive_of) := ⟨rfl, rfl, rfl, by decide +kernel, rfl, by decide +kernel, by decide +kernel⟩
abbrev s_joined_entries : Stmt := topS 23
abbrev s_is_zero_in : Stmt := topS 26
abbrev N_is_zero_in : List Str := ["entries"]
theorem sc_is_zero_in : FnScope N_is_zero_in ["entries"] (defScope s_is_zero_in) := ⟨rfl, rfl, rfl, by decide +kernel, rfl, by decide +kernel, by decide +kernel⟩
abbrev s_are_entries : Stmt := topS 28
abbrev N_are_entries : List Str := ["value"]
theorem sc_are_entries : FnScope N_are_entries ["value"] (defScope s_are_entries) := ⟨rfl, rfl, rfl, by decide +kernel, rfl, by decide +kernel, by decide +kernel⟩
abbrev s_form_of : Stmt := topS 30
abbrev N_form_of : List Str := ["entries"]
theorem sc_form_of : FnScope N_form_of ["entries"] (defScope s_form_of) := ⟨rfl, rfl, rfl, by decide +kernel, rfl, by decide +kernel, by decide +kernel⟩
abbrev s_require_form : Stmt := topS 31
abbrev N_require_form : List Str := ["value"]
theorem sc_require_form : FnScope N_require_form ["value"] (defScope s_require_form) := ⟨rfl, rfl, rfl, by decide +kernel, rfl, by decide +kernel, by decide +kernel⟩
abbrev s_require_two : Stmt := topS 35
abbrev N_require_two : List Str := ["one", "other"]
theorem sc_require_two : FnScope N_require_two ["one", "other"] (defScope s_require_two) := ⟨rfl, rfl, rfl, by decide +kernel, rfl, by decide +kernel, by decide +kernel⟩
abbrev s_bezout_in : Stmt := topS 36
abbrev N_bezout_in : List Str := ["one", "other", "degree", "found", "above", "i", "row", "j"]
theorem sc_bezout_in : FnScope N_bezout_in ["one", "other"] (defScope s_bezout_in) := ⟨rfl, rfl, rfl, by decide +kernel, rfl, by decide +kernel, by decide +kernel⟩
abbrev s_bezout_table : Stmt := topS 37
abbrev N_bezout_table : List Str := ["one", "other", "row"]
theorem sc_bezout_table : FnScope N_bezout_table ["one", "other"] (defScope s_bezout_table) := ⟨rfl, rfl, rfl, by decide +kernel, rfl, by decide +kernel, by decide +kernel⟩
abbrev s_cut_line : Stmt := topS 38
abbrev N_cut_line : List Str := ["numbers", "place"]
theorem sc_cut_line : FnScope N_cut_line ["numbers"] (defScope s_cut_line) := ⟨rfl, rfl, rfl, by decide +kernel, rfl, by decide +kernel, by decide +kernel⟩
abbrev s_rest_of : Stmt := topS 39
abbrev N_rest_of : List Str := ["one", "other", "left", "first", "longer", "number", "taken"]
theorem sc_rest_of : FnScope N_rest_of ["one", "other"] (defScope s_rest_of) := ⟨rfl, rfl, rfl, by decide +kernel, rfl, by decide +kernel, by decide +kernel⟩
abbrev s_shared_part : Stmt := topS 40
abbrev N_shared_part : List Str := ["one", "other"]
theorem sc_shared_part : FnScope N_shared_part ["one", "other"] (defScope s_shared_part) := ⟨rfl, rfl, rfl, by decide +kernel, rfl, by decide +kernel, by decide +kernel⟩
abbrev s_ahead_of : Stmt := topS 41
abbrev N_ahead_of : List Str := ["entries"]
theorem sc_ahead_of : FnScope N_ahead_of ["entries"] (defScope s_ahead_of) := ⟨rfl, rfl, rfl, by decide +kernel, rfl, by decide +kernel, by decide +kernel⟩
abbrev s_common_in : Stmt := topS 42
abbrev N_common_in : List Str := ["one", "other", "ahead"]
theorem sc_common_in : FnScope N_common_in ["one", "other"] (defScope s_common_in) := ⟨rfl, rfl, rfl, by decide +kernel, rfl, by decide +kernel, by decide +kernel⟩
abbrev s_require_live : Stmt := topS 43
abbrev N_require_live : List Str := ["form"]
theorem sc_require_live : FnScope N_require_live ["form"] (defScope s_require_live) := ⟨rfl, rfl, rfl, by decide +kernel, rfl, by decide +kernel, by decide +kernel⟩
abbrev s_common_form : Stmt := topS 44
abbrev N_common_form : List Str := ["one", "other"]
theorem sc_common_form : FnScope N_common_form ["one", "other"] (defScope s_common_form) := ⟨rfl, rfl, rfl, by decide +kernel, rfl, by decide +kernel, by decide +kernel⟩
abbrev s_law_dice : Stmt := topS 46
abbrev N_law_dice : List Str := ["_law_script", "_law_spot", "_law_cell", "_law_left"]
theorem sc_law_dice : FnScope N_law_dice ["_law_script", "_law_spot"] (defScope s_law_dice) := ⟨rfl, rfl, rfl, by decide +kernel, rfl, by decide +kernel, by decide +kernel⟩
abbrev s_law_roll : Stmt := topS 47
abbrev N_law_roll : List Str := ["_law_dice_here", "_law_total", "_law_found", "_law_one", "_law_two"]
theorem sc_law_roll : FnScope N_law_roll ["_law_dice_here", "_law_total"] (defScope s_law_roll) := ⟨rfl, rfl, rfl, by decide +kernel, rfl, by decide +kernel, by decide +kernel⟩
abbrev s_law_near : Stmt := topS 48
abbrev N_law_near : List Str := ["_law_dice_here", "_law_most"]
theorem sc_law_near : FnScope N_law_near ["_law_dice_here", "_law_most"] (defScope s_law_near) := ⟨rfl, rfl, rfl, by decide +kernel, rfl, by decide +kernel, by decide +kernel⟩
abbrev s_law_gcd : Stmt := topS 49
abbrev N_law_gcd : List Str := ["_law_one", "_law_other"]
theorem sc_law_gcd : FnScope N_law_gcd ["_law_one", "_law_other"] (defScope s_law_gcd) := ⟨rfl, rfl, rfl, by decide +kernel, rfl, by decide +kernel, by decide +kernel⟩
abbrev s_law_shared : Stmt := topS 50
abbrev N_law_shared : List Str := ["_law_numbers", "_law_found", "_law_number"]
theorem sc_law_shared : FnScope N_law_shared ["_law_numbers"] (defScope s_law_shared) := ⟨rfl, rfl, rfl, by decide +kernel, rfl, by decide +kernel, by decide +kernel⟩
abbrev s_law_plus : Stmt := topS 51
abbrev N_law_plus : List Str := ["_law_one", "_law_other", "_law_first", "_law_second"]
theorem sc_law_plus : FnScope N_law_plus ["_law_one", "_law_other"] (defScope s_law_plus) := ⟨rfl, rfl, rfl, by decide +kernel, rfl, by decide +kernel, by decide +kernel⟩
abbrev s_law_scaled : Stmt := topS 52
abbrev N_law_scaled : List Str := ["_law_form_here", "_law_factor", "_law_entry"]
theorem sc_law_scaled : FnScope N_law_scaled ["_law_form_here", "_law_factor"] (defScope s_law_scaled) := ⟨rfl, rfl, rfl, by decide +kernel, rfl, by decide +kernel, by decide +kernel⟩
abbrev s_law_product : Stmt := topS 53
abbrev N_law_product : List Str := ["_law_one", "_law_other", "_law_found", "_law_place", "_law_at", "_law_first", "_law_second"]
theorem sc_law_product : FnScope N_law_product ["_law_one", "_law_other"] (defScope s_law_product) := ⟨rfl, rfl, rfl, by decide +kernel, rfl, by decide +kernel, by decide +kernel⟩
abbrev s_law_all_product : Stmt := topS 54
abbrev N_law_all_product : List Str := ["_law_forms", "_law_found", "_law_form_here"]
theorem sc_law_all_product : FnScope N_law_all_product ["_law_forms"] (defScope s_law_all_product) := ⟨rfl, rfl, rfl, by decide +kernel, rfl, by decide +kernel, by decide +kernel⟩
abbrev s_law_power : Stmt := topS 55
abbrev N_law_power : List Str := ["_law_pair", "_law_times", "_law_found", "_law_turn"]
theorem sc_law_power : FnScope N_law_power ["_law_pair", "_law_times"] (defScope s_law_power) := ⟨rfl, rfl, rfl, by decide +kernel, rfl, by decide +kernel, by decide +kernel⟩
abbrev s_law_plain : Stmt := topS 56
abbrev N_law_plain : List Str := ["_law_form_here", "_law_part", "_law_first", "_law_entry"]
theorem sc_law_plain : FnScope N_law_plain ["_law_form_here"] (defScope s_law_plain) := ⟨rfl, rfl, rfl, by decide +kernel, rfl, by decide +kernel, by decide +kernel⟩
abbrev s_law_line : Stmt := topS 57
abbrev N_law_line : List Str := ["_law_point_here"]
theorem sc_law_line : FnScope N_law_line ["_law_point_here"] (defScope s_law_line) := ⟨rfl, rfl, rfl, by decide +kernel, rfl, by decide +kernel, by decide +kernel⟩
abbrev s_law_point : Stmt := topS 58
abbrev N_law_point : List Str := ["_law_dice_here", "_law_most", "_law_one", "_law_other"]
theorem sc_law_point : FnScope N_law_point ["_law_dice_here", "_law_most"] (defScope s_law_point) := ⟨rfl, rfl, rfl, by decide +kernel, rfl, by decide +kernel, by decide +kernel⟩
abbrev s_law_small_form : Stmt := topS 59
abbrev N_law_small_form : List Str := ["_law_dice_here", "_law_degree", "_law_most", "_law_place"]
theorem sc_law_small_form : FnScope N_law_small_form ["_law_dice_here", "_law_degree", "_law_most"] (defScope s_law_small_form) := ⟨rfl, rfl, rfl, by decide +kernel, rfl, by decide +kernel, by decide +kernel⟩
abbrev s_law_form : Stmt := topS 60
abbrev N_law_form : List Str := ["_law_dice_here", "_law_degree", "_law_way", "_law_turn", "_law_line_here", "_law_often", "_law_found", "_law_place"]
theorem sc_law_form : FnScope N_law_form ["_law_dice_here", "_law_degree"] (defScope s_law_form) := ⟨rfl, rfl, rfl, by decide +kernel, rfl, by decide +kernel, by decide +kernel⟩
abbrev s_law_live_form : Stmt := topS 61
abbrev N_law_live_form : List Str := ["_law_dice_here", "_law_degree", "_law_found"]
theorem sc_law_live_form : FnScope N_law_live_form ["_law_dice_here", "_law_degree"] (defScope s_law_live_form) := ⟨rfl, rfl, rfl, by decide +kernel, rfl, by decide +kernel, by decide +kernel⟩
abbrev s_law_cleared : Stmt := topS 62
abbrev N_law_cleared : List Str := ["_law_rows", "_law_width", "_law_left", "_law_found", "_law_row", "_law_place", "_law_heads", "_law_at", "_law_head"]
theorem sc_law_cleared : FnScope N_law_cleared ["_law_rows", "_law_width"] (defScope s_law_cleared) := ⟨rfl, rfl, rfl, by decide +kernel, rfl, by decide +kernel, by decide +kernel⟩
abbrev s_law_less : Stmt := topS 63
abbrev N_law_less : List Str := ["_law_row", "_law_head", "_law_place", "_law_one", "_law_other", "_law_part", "_law_found", "_law_entry", "_law_taken", "_law_shared_here"]
theorem sc_law_less : FnScope N_law_less ["_law_row", "_law_head", "_law_place"] (defScope s_law_less) := ⟨rfl, rfl, rfl, by decide +kernel, rfl, by decide +kernel, by decide +kernel⟩
abbrev s_law_rank : Stmt := topS 64
abbrev N_law_rank : List Str := ["_law_rows", "_law_width"]
theorem sc_law_rank : FnScope N_law_rank ["_law_rows", "_law_width"] (defScope s_law_rank) := ⟨rfl, rfl, rfl, by decide +kernel, rfl, by decide +kernel, by decide +kernel⟩
abbrev s_law_det_of : Stmt := topS 65
abbrev N_law_det_of : List Str := ["_law_rows", "_law_left", "_law_sign", "_law_last", "_law_row", "_law_place", "_law_heads", "_law_at", "_law_head", "_law_to", "_law_top", "_law_lead", "_law_entry", "_law_taken"]
theorem sc_law_det_of : FnScope N_law_det_of ["_law_rows"] (defScope s_law_det_of) := ⟨rfl, rfl, rfl, by decide +kernel, rfl, by decide +kernel, by decide +kernel⟩
abbrev s_law_two_rows : Stmt := topS 66
abbrev N_law_two_rows : List Str := ["_law_one", "_law_other", "_law_m", "_law_n", "_law_found", "_law_at"]
theorem sc_law_two_rows : FnScope N_law_two_rows ["_law_one", "_law_other"] (defScope s_law_two_rows) := ⟨rfl, rfl, rfl, by decide +kernel, rfl, by decide +kernel, by decide +kernel⟩
abbrev s_law_crossed : Stmt := topS 67
abbrev N_law_crossed : List Str := ["_law_one", "_law_other", "_law_size", "_law_to", "_law_at"]
theorem sc_law_crossed : FnScope N_law_crossed ["_law_one", "_law_other"] (defScope s_law_crossed) := ⟨rfl, rfl, rfl, by decide +kernel, rfl, by decide +kernel, by decide +kernel⟩
abbrev s_law_is_told : Stmt := topS 68
abbrev N_law_is_told : List Str := ["_law_one", "_law_other", "_law_table", "_law_size", "_law_found", "_law_to", "_law_at"]
theorem sc_law_is_told : FnScope N_law_is_told ["_law_one", "_law_other", "_law_table"] (defScope s_law_is_told) := ⟨rfl, rfl, rfl, by decide +kernel, rfl, by decide +kernel, by decide +kernel⟩
abbrev s_law_drawn_pair : Stmt := topS 69
abbrev N_law_drawn_pair : List Str := ["_law_dice_here", "_law_degree", "_law_way", "_law_one", "_law_shared_here", "_law_less_here"]
theorem sc_law_drawn_pair : FnScope N_law_drawn_pair ["_law_dice_here"] (defScope s_law_drawn_pair) := ⟨rfl, rfl, rfl, by decide +kernel, rfl, by decide +kernel, by decide +kernel⟩
abbrev s_law_right : Stmt := topS 70
abbrev N_law_right : List Str := ["_law_dice_here", "_law_one", "_law_other", "_law_first", "_law_second", "_law_size", "_law_table", "_law_row", "_law_at", "_law_sign", "_law_third", "_law_more", "_law_line_here", "_law_rank_here"]
theorem sc_law_right : FnScope N_law_right ["_law_dice_here"] (defScope s_law_right) := ⟨rfl, rfl, rfl, by decide +kernel, rfl, by decide +kernel, by decide +kernel⟩
abbrev s_law : Stmt := topS 71
abbrev N_law : List Str := ["_law_script", "_law_spot", "_law_dice_here", "_law_quad"]
theorem sc_law : FnScope N_law ["_law_script"] (defScope s_law) := ⟨rfl, rfl, rfl, by decide +kernel, rfl, by decide +kernel, by decide +kernel⟩
abbrev s_Told_init : Stmt := inClass (topS 27) 1
abbrev N_Told_init : List Str := ["self", "row"]
theorem sc_Told_init : FnScope N_Told_init ["self", "row"] (defScope s_Told_init) := ⟨rfl, rfl, rfl, by decide +kernel, rfl, by decide +kernel, by decide +kernel⟩
abbrev s_Form_init : Stmt := inClass (topS 29) 1
abbrev N_Form_init : List Str := ["self", "entries"]
theorem sc_Form_init : FnScope N_Form_init ["self", "entries"] (defScope s_Form_init) := ⟨rfl, rfl, rfl, by decide +kernel, rfl, by decide +kernel, by decide +kernel⟩
abbrev s_Form_entries : Stmt := inClass (topS 29) 4
abbrev N_Form_entries : List Str := ["self"]
theorem sc_Form_entries : FnScope N_Form_entries ["self"] (defScope s_Form_entries) := ⟨rfl, rfl, rfl, by decide +kernel, rfl, by decide +kernel, by decide +kernel⟩
abbrev s_Form_degree : Stmt := inClass (topS 29) 5
abbrev N_Form_degree : List Str := ["self"]
theorem sc_Form_degree : FnScope N_Form_degree ["self"] (defScope s_Form_degree) := ⟨rfl, rfl, rfl, by decide +kernel, rfl, by decide +kernel, by decide +kernel⟩
abbrev s_Form_is_zero : Stmt := inClass (topS 29) 6
abbrev N_Form_is_zero : List Str := ["self"]
theorem sc_Form_is_zero : FnScope N_Form_is_zero ["self"] (defScope s_Form_is_zero) := ⟨rfl, rfl, rfl, by decide +kernel, rfl, by decide +kernel, by decide +kernel⟩
abbrev s_Form_eq : Stmt := inClass (topS 29) 18
abbrev s_Form_len : Stmt := inClass (topS 29) 19
abbrev s_Form_iter : Stmt := inClass (topS 29) 20
/-- where the defs stand, what the names of the module are -/
structure Facts (K : PySem.W.Frag) (mg : Str → Option Value) where
  f_is_whole : Addr
  fd_is_whole : FuncData
  F_is_whole : FnP K "is_whole" s_is_whole f_is_whole fd_is_whole
  g_is_whole : mg "is_whole" = some (.ref f_is_whole)
  b_is_whole : Binds K fd_is_whole ["value"] []
  f_is_short : Addr
  fd_is_short : FuncData
  F_is_short : FnP K "is_short" s_is_short f_is_short fd_is_short
  g_is_short : mg "is_short" = some (.ref f_is_short)
  b_is_short : Binds K fd_is_short ["value"] []
  f_are_short : Addr
  fd_are_short : FuncData
  F_are_short : FnP K "are_short" s_are_short f_are_short fd_are_short
  g_are_short : mg "are_short" = some (.ref f_are_short)
  b_are_short : Binds K fd_are_short ["value"] []
  f_shared_of : Addr
  fd_shared_of : FuncData
  F_shared_of : FnP K "shared_of" s_shared_of f_shared_of fd_shared_of
  g_shared_of : mg "shared_of" = some (.ref f_shared_of)
  b_shared_of : Binds K fd_shared_of ["numbers"] []
  f_first_of : Addr
  fd_first_of : FuncData
  F_first_of : FnP K "first_of" s_first_of f_first_of fd_first_of
  g_first_of : mg "first_of" = some (.ref f_first_of)
  b_first_of : Binds K fd_first_of ["numbers"] []
  f_primitive_of : Addr
  fd_primitive_of : FuncData
  F_primitive_of : FnP K "primitive_of" s_primitive_of f_primitive_of fd_primitive_of
  g_primitive_of : mg "primitive_of" = some (.ref f_primitive_of)
  b_primitive_of : Binds K fd_primitive_of ["numbers"] []
  f_joined_entries : Addr
  fd_joined_entries : FuncData
  F_joined_entries : FnP K "joined_entries" s_joined_entries f_joined_entries fd_joined_entries
  g_joined_entries : mg "joined_entries" = some (.ref f_joined_entries)
  b_joined_entries : Binds K fd_joined_entries ["one", "other"] []
  f_is_zero_in : Addr
  fd_is_zero_in : FuncData
  F_is_zero_in : FnP K "is_zero_in" s_is_zero_in f_is_zero_in fd_is_zero_in
  g_is_zero_in : mg "is_zero_in" = some (.ref f_is_zero_in)
  b_is_zero_in : Binds K fd_is_zero_in ["entries"] []
  f_are_entries : Addr
  fd_are_entries : FuncData
  F_are_entries : FnP K "are_entries" s_are_entries f_are_entries fd_are_entries
  g_are_entries : mg "are_entries" = some (.ref f_are_entries)
  b_are_entries : Binds K fd_are_entries ["value"] []
  f_form_of : Addr
  fd_form_of : FuncData
  F_form_of : FnP K "form_of" s_form_of f_form_of fd_form_of
  g_form_of : mg "form_of" = some (.ref f_form_of)
  b_form_of : Binds K fd_form_of ["entries"] []
  f_require_form : Addr
  fd_require_form : FuncData
  F_require_form : FnP K "require_form" s_require_form f_require_form fd_require_form
  g_require_form : mg "require_form" = some (.ref f_require_form)
  b_require_form : Binds K fd_require_form ["value"] []
  f_require_two : Addr
  fd_require_two : FuncData
  F_require_two : FnP K "require_two" s_require_two f_require_two fd_require_two
  g_require_two : mg "require_two" = some (.ref f_require_two)
  b_require_two : Binds K fd_require_two ["one", "other"] []
  f_bezout_in : Addr
  fd_bezout_in : FuncData
  F_bezout_in : FnP K "bezout_in" s_bezout_in f_bezout_in fd_bezout_in
  g_bezout_in : mg "bezout_in" = some (.ref f_bezout_in)
  b_bezout_in : Binds K fd_bezout_in ["one", "other"] []
  f_bezout_table : Addr
  fd_bezout_table : FuncData
  F_bezout_table : FnP K "bezout_table" s_bezout_table f_bezout_table fd_bezout_table
  g_bezout_table : mg "bezout_table" = some (.ref f_bezout_table)
  b_bezout_table : Binds K fd_bezout_table ["one", "other"] []
  f_cut_line : Addr
  fd_cut_line : FuncData
  F_cut_line : FnP K "cut_line" s_cut_line f_cut_line fd_cut_line
  g_cut_line : mg "cut_line" = some (.ref f_cut_line)
  b_cut_line : Binds K fd_cut_line ["numbers"] []
  f_rest_of : Addr
  fd_rest_of : FuncData
  F_rest_of : FnP K "rest_of" s_rest_of f_rest_of fd_rest_of
  g_rest_of : mg "rest_of" = some (.ref f_rest_of)
  b_rest_of : Binds K fd_rest_of ["one", "other"] []
  f_shared_part : Addr
  fd_shared_part : FuncData
  F_shared_part : FnP K "shared_part" s_shared_part f_shared_part fd_shared_part
  g_shared_part : mg "shared_part" = some (.ref f_shared_part)
  b_shared_part : Binds K fd_shared_part ["one", "other"] []
  f_ahead_of : Addr
  fd_ahead_of : FuncData
  F_ahead_of : FnP K "ahead_of" s_ahead_of f_ahead_of fd_ahead_of
  g_ahead_of : mg "ahead_of" = some (.ref f_ahead_of)
  b_ahead_of : Binds K fd_ahead_of ["entries"] []
  f_common_in : Addr
  fd_common_in : FuncData
  F_common_in : FnP K "common_in" s_common_in f_common_in fd_common_in
  g_common_in : mg "common_in" = some (.ref f_common_in)
  b_common_in : Binds K fd_common_in ["one", "other"] []
  f_require_live : Addr
  fd_require_live : FuncData
  F_require_live : FnP K "require_live" s_require_live f_require_live fd_require_live
  g_require_live : mg "require_live" = some (.ref f_require_live)
  b_require_live : Binds K fd_require_live ["form"] []
  f_common_form : Addr
  fd_common_form : FuncData
  F_common_form : FnP K "common_form" s_common_form f_common_form fd_common_form
  g_common_form : mg "common_form" = some (.ref f_common_form)
  b_common_form : Binds K fd_common_form ["one", "other"] []
  f_law_dice : Addr
  fd_law_dice : FuncData
  F_law_dice : FnP K "_law_dice" s_law_dice f_law_dice fd_law_dice
  g_law_dice : mg "_law_dice" = some (.ref f_law_dice)
  b_law_dice : Binds K fd_law_dice ["_law_script", "_law_spot"] []
  f_law_roll : Addr
  fd_law_roll : FuncData
  F_law_roll : FnP K "_law_roll" s_law_roll f_law_roll fd_law_roll
  g_law_roll : mg "_law_roll" = some (.ref f_law_roll)
  b_law_roll : Binds K fd_law_roll ["_law_dice_here", "_law_total"] []
  f_law_near : Addr
  fd_law_near : FuncData
  F_law_near : FnP K "_law_near" s_law_near f_law_near fd_law_near
  g_law_near : mg "_law_near" = some (.ref f_law_near)
  b_law_near : Binds K fd_law_near ["_law_dice_here", "_law_most"] []
  f_law_gcd : Addr
  fd_law_gcd : FuncData
  F_law_gcd : FnP K "_law_gcd" s_law_gcd f_law_gcd fd_law_gcd
  g_law_gcd : mg "_law_gcd" = some (.ref f_law_gcd)
  b_law_gcd : Binds K fd_law_gcd ["_law_one", "_law_other"] []
  f_law_shared : Addr
  fd_law_shared : FuncData
  F_law_shared : FnP K "_law_shared" s_law_shared f_law_shared fd_law_shared
  g_law_shared : mg "_law_shared" = some (.ref f_law_shared)
  b_law_shared : Binds K fd_law_shared ["_law_numbers"] []
  f_law_plus : Addr
  fd_law_plus : FuncData
  F_law_plus : FnP K "_law_plus" s_law_plus f_law_plus fd_law_plus
  g_law_plus : mg "_law_plus" = some (.ref f_law_plus)
  b_law_plus : Binds K fd_law_plus ["_law_one", "_law_other"] []
  f_law_scaled : Addr
  fd_law_scaled : FuncData
  F_law_scaled : FnP K "_law_scaled" s_law_scaled f_law_scaled fd_law_scaled
  g_law_scaled : mg "_law_scaled" = some (.ref f_law_scaled)
  b_law_scaled : Binds K fd_law_scaled ["_law_form_here", "_law_factor"] []
  f_law_product : Addr
  fd_law_product : FuncData
  F_law_product : FnP K "_law_product" s_law_product f_law_product fd_law_product
  g_law_product : mg "_law_product" = some (.ref f_law_product)
  b_law_product : Binds K fd_law_product ["_law_one", "_law_other"] []
  f_law_all_product : Addr
  fd_law_all_product : FuncData
  F_law_all_product : FnP K "_law_all_product" s_law_all_product f_law_all_product fd_law_all_product
  g_law_all_product : mg "_law_all_product" = some (.ref f_law_all_product)
  b_law_all_product : Binds K fd_law_all_product ["_law_forms"] []
  f_law_power : Addr
  fd_law_power : FuncData
  F_law_power : FnP K "_law_power" s_law_power f_law_power fd_law_power
  g_law_power : mg "_law_power" = some (.ref f_law_power)
  b_law_power : Binds K fd_law_power ["_law_pair", "_law_times"] []
  f_law_plain : Addr
  fd_law_plain : FuncData
  F_law_plain : FnP K "_law_plain" s_law_plain f_law_plain fd_law_plain
  g_law_plain : mg "_law_plain" = some (.ref f_law_plain)
  b_law_plain : Binds K fd_law_plain ["_law_form_here"] []
  f_law_line : Addr
  fd_law_line : FuncData
  F_law_line : FnP K "_law_line" s_law_line f_law_line fd_law_line
  g_law_line : mg "_law_line" = some (.ref f_law_line)
  b_law_line : Binds K fd_law_line ["_law_point_here"] []
  f_law_point : Addr
  fd_law_point : FuncData
  F_law_point : FnP K "_law_point" s_law_point f_law_point fd_law_point
  g_law_point : mg "_law_point" = some (.ref f_law_point)
  b_law_point : Binds K fd_law_point ["_law_dice_here", "_law_most"] []
  f_law_small_form : Addr
  fd_law_small_form : FuncData
  F_law_small_form : FnP K "_law_small_form" s_law_small_form f_law_small_form fd_law_small_form
  g_law_small_form : mg "_law_small_form" = some (.ref f_law_small_form)
  b_law_small_form : Binds K fd_law_small_form ["_law_dice_here", "_law_degree", "_law_most"] []
  f_law_form : Addr
  fd_law_form : FuncData
  F_law_form : FnP K "_law_form" s_law_form f_law_form fd_law_form
  g_law_form : mg "_law_form" = some (.ref f_law_form)
  b_law_form : Binds K fd_law_form ["_law_dice_here", "_law_degree"] []
  f_law_live_form : Addr
  fd_law_live_form : FuncData
  F_law_live_form : FnP K "_law_live_form" s_law_live_form f_law_live_form fd_law_live_form
  g_law_live_form : mg "_law_live_form" = some (.ref f_law_live_form)
  b_law_live_form : Binds K fd_law_live_form ["_law_dice_here", "_law_degree"] []
  f_law_cleared : Addr
  fd_law_cleared : FuncData
  F_law_cleared : FnP K "_law_cleared" s_law_cleared f_law_cleared fd_law_cleared
  g_law_cleared : mg "_law_cleared" = some (.ref f_law_cleared)
  b_law_cleared : Binds K fd_law_cleared ["_law_rows", "_law_width"] []
  f_law_less : Addr
  fd_law_less : FuncData
  F_law_less : FnP K "_law_less" s_law_less f_law_less fd_law_less
  g_law_less : mg "_law_less" = some (.ref f_law_less)
  b_law_less : Binds K fd_law_less ["_law_row", "_law_head", "_law_place"] []
  f_law_rank : Addr
  fd_law_rank : FuncData
  F_law_rank : FnP K "_law_rank" s_law_rank f_law_rank fd_law_rank
  g_law_rank : mg "_law_rank" = some (.ref f_law_rank)
  b_law_rank : Binds K fd_law_rank ["_law_rows", "_law_width"] []
  f_law_det_of : Addr
  fd_law_det_of : FuncData
  F_law_det_of : FnP K "_law_det_of" s_law_det_of f_law_det_of fd_law_det_of
  g_law_det_of : mg "_law_det_of" = some (.ref f_law_det_of)
  b_law_det_of : Binds K fd_law_det_of ["_law_rows"] []
  f_law_two_rows : Addr
  fd_law_two_rows : FuncData
  F_law_two_rows : FnP K "_law_two_rows" s_law_two_rows f_law_two_rows fd_law_two_rows
  g_law_two_rows : mg "_law_two_rows" = some (.ref f_law_two_rows)
  b_law_two_rows : Binds K fd_law_two_rows ["_law_one", "_law_other"] []
  f_law_crossed : Addr
  fd_law_crossed : FuncData
  F_law_crossed : FnP K "_law_crossed" s_law_crossed f_law_crossed fd_law_crossed
  g_law_crossed : mg "_law_crossed" = some (.ref f_law_crossed)
  b_law_crossed : Binds K fd_law_crossed ["_law_one", "_law_other"] []
  f_law_is_told : Addr
  fd_law_is_told : FuncData
  F_law_is_told : FnP K "_law_is_told" s_law_is_told f_law_is_told fd_law_is_told
  g_law_is_told : mg "_law_is_told" = some (.ref f_law_is_told)
  b_law_is_told : Binds K fd_law_is_told ["_law_one", "_law_other", "_law_table"] []
  f_law_drawn_pair : Addr
  fd_law_drawn_pair : FuncData
  F_law_drawn_pair : FnP K "_law_drawn_pair" s_law_drawn_pair f_law_drawn_pair fd_law_drawn_pair
  g_law_drawn_pair : mg "_law_drawn_pair" = some (.ref f_law_drawn_pair)
  b_law_drawn_pair : Binds K fd_law_drawn_pair ["_law_dice_here"] []
  f_law_right : Addr
  fd_law_right : FuncData
  F_law_right : FnP K "_law_right" s_law_right f_law_right fd_law_right
  g_law_right : mg "_law_right" = some (.ref f_law_right)
  b_law_right : Binds K fd_law_right ["_law_dice_here"] []
  f_law : Addr
  fd_law : FuncData
  F_law : FnP K "law" s_law f_law fd_law
  g_law : mg "law" = some (.ref f_law)
  b_law : Binds K fd_law ["_law_script"] []
  f_Told_init : Addr
  fd_Told_init : FuncData
  F_Told_init : FnM K "__init__" "Told.__init__" s_Told_init f_Told_init fd_Told_init
  b_Told_init : Binds K fd_Told_init ["self", "row"] []
  f_Form_init : Addr
  fd_Form_init : FuncData
  F_Form_init : FnM K "__init__" "Form.__init__" s_Form_init f_Form_init fd_Form_init
  b_Form_init : Binds K fd_Form_init ["self", "entries"] []
  f_Form_entries : Addr
  fd_Form_entries : FuncData
  F_Form_entries : FnM K "entries" "Form.entries" s_Form_entries f_Form_entries fd_Form_entries
  b_Form_entries : Binds K fd_Form_entries ["self"] []
  f_Form_degree : Addr
  fd_Form_degree : FuncData
  F_Form_degree : FnM K "degree" "Form.degree" s_Form_degree f_Form_degree fd_Form_degree
  b_Form_degree : Binds K fd_Form_degree ["self"] []
  f_Form_is_zero : Addr
  fd_Form_is_zero : FuncData
  F_Form_is_zero : FnM K "is_zero" "Form.is_zero" s_Form_is_zero f_Form_is_zero fd_Form_is_zero
  b_Form_is_zero : Binds K fd_Form_is_zero ["self"] []
  f_Form_eq : Addr
  fd_Form_eq : FuncData
  F_Form_eq : FnM K "__eq__" "Form.__eq__" s_Form_eq f_Form_eq fd_Form_eq
  b_Form_eq : Binds K fd_Form_eq ["self", "other"] []
  f_Form_len : Addr
  fd_Form_len : FuncData
  F_Form_len : FnM K "__len__" "Form.__len__" s_Form_len f_Form_len fd_Form_len
  b_Form_len : Binds K fd_Form_len ["self"] []
  f_Form_iter : Addr
  fd_Form_iter : FuncData
  F_Form_iter : FnM K "__iter__" "Form.__iter__" s_Form_iter f_Form_iter fd_Form_iter
  b_Form_iter : Binds K fd_Form_iter ["self"] []
  C_Told : Addr
  g_Told : mg "Told" = some (.ref C_Told)
  oc_Told : OwnF.OC K C_Told
  mk_Told : Mk K C_Told f_Told_init
  a_own_row : Addr
  sl_own_row : SlX.Slot1 K C_Told "own_row" a_own_row 0
  C_Form : Addr
  g_Form : mg "Form" = some (.ref C_Form)
  oc_Form : OwnF.OC K C_Form
  mk_Form : Mk K C_Form f_Form_init
  a_own_entries : Addr
  sl_own_entries : SlX.Slot1 K C_Form "own_entries" a_own_entries 0
  mt_Told_init : HookG.Mt K C_Told "__init__" f_Told_init
  mt_Form_init : HookG.Mt K C_Form "__init__" f_Form_init
  p_Form_entries : Addr
  pr_Form_entries : HookG.Pr K C_Form "entries" p_Form_entries f_Form_entries
  p_Form_degree : Addr
  pr_Form_degree : HookG.Pr K C_Form "degree" p_Form_degree f_Form_degree
  p_Form_is_zero : Addr
  pr_Form_is_zero : HookG.Pr K C_Form "is_zero" p_Form_is_zero f_Form_is_zero
  mt_Form_eq : HookG.Mt K C_Form "__eq__" f_Form_eq
  mt_Form_len : HookG.Mt K C_Form "__len__" f_Form_len
  mt_Form_iter : HookG.Mt K C_Form "__iter__" f_Form_iter
  kit_Told_Form : PySem.W.kitOne K (.ref C_Told) (.ref C_Form) = some false
  kit_Form_Told : PySem.W.kitOne K (.ref C_Form) (.ref C_Told) = some false
  z_abs : mg "abs" = none
  z_all : mg "all" = none
  z_any : mg "any" = none
  z_bool : mg "bool" = none
  z_enumerate : mg "enumerate" = none
  z_int : mg "int" = none
  z_isinstance : mg "isinstance" = none
  z_iter : mg "iter" = none
  z_len : mg "len" = none
  z_list : mg "list" = none
  z_max : mg "max" = none
  z_min : mg "min" = none
  z_next : mg "next" = none
  z_range : mg "range" = none
  z_tuple : mg "tuple" = none
  z_zip : mg "zip" = none
  m_gcd : mg "gcd" = some (.builtin "math.gcd")
  c_GREATEST : ∃ t, mg "GREATEST" = some (.int 1000000000000000000000000000000000000000000000000000000000000 t)
  c_MAX_DEGREE : ∃ t, mg "MAX_DEGREE" = some (.int 40 t)
  c_MAX_SUM : ∃ t, mg "MAX_SUM" = some (.int 24 t)
  c_first_of : Addr
  P_first_of : Addr
  code_first_of : fd_first_of.code = .ref c_first_of
  tab_first_of : (c_first_of, P_first_of) = HookT.cTA K (HookG.At.glo "first_of")
/-! ### for the head -/
def d_is_whole : HookG.GD := ⟨.glo "is_whole", "is_whole", "is_whole", defArgs s_is_whole, defBody s_is_whole, defScope s_is_whole⟩
def d_is_short : HookG.GD := ⟨.glo "is_short", "is_short", "is_short", defArgs s_is_short, defBody s_is_short, defScope s_is_short⟩
def d_are_short : HookG.GD := ⟨.glo "are_short", "are_short", "are_short", defArgs s_are_short, defBody s_are_short, defScope s_are_short⟩
def d_shared_of : HookG.GD := ⟨.glo "shared_of", "shared_of", "shared_of", defArgs s_shared_of, defBody s_shared_of, defScope s_shared_of⟩
def d_first_of : HookG.GD := ⟨.glo "first_of", "first_of", "first_of", defArgs s_first_of, defBody s_first_of, defScope s_first_of⟩
def d_primitive_of : HookG.GD := ⟨.glo "primitive_of", "primitive_of", "primitive_of", defArgs s_primitive_of, defBody s_primitive_of, defScope s_primitive_of⟩
def d_joined_entries : HookG.GD := ⟨.glo "joined_entries", "joined_entries", "joined_entries", defArgs s_joined_entries, defBody s_joined_entries, defScope s_joined_entries⟩
def d_is_zero_in : HookG.GD := ⟨.glo "is_zero_in", "is_zero_in", "is_zero_in", defArgs s_is_zero_in, defBody s_is_zero_in, defScope s_is_zero_in⟩
def d_are_entries : HookG.GD := ⟨.glo "are_entries", "are_entries", "are_entries", defArgs s_are_entries, defBody s_are_entries, defScope s_are_entries⟩
def d_form_of : HookG.GD := ⟨.glo "form_of", "form_of", "form_of", defArgs s_form_of, defBody s_form_of, defScope s_form_of⟩
def d_require_form : HookG.GD := ⟨.glo "require_form", "require_form", "require_form", defArgs s_require_form, defBody s_require_form, defScope s_require_form⟩
def d_require_two : HookG.GD := ⟨.glo "require_two", "require_two", "require_two", defArgs s_require_two, defBody s_require_two, defScope s_require_two⟩
def d_bezout_in : HookG.GD := ⟨.glo "bezout_in", "bezout_in", "bezout_in", defArgs s_bezout_in, defBody s_bezout_in, defScope s_bezout_in⟩
def d_bezout_table : HookG.GD := ⟨.glo "bezout_table", "bezout_table", "bezout_table", defArgs s_bezout_table, defBody s_bezout_table, defScope s_bezout_table⟩
def d_cut_line : HookG.GD := ⟨.glo "cut_line", "cut_line", "cut_line", defArgs s_cut_line, defBody s_cut_line, defScope s_cut_line⟩
def d_rest_of : HookG.GD := ⟨.glo "rest_of", "rest_of", "rest_of", defArgs s_rest_of, defBody s_rest_of, defScope s_rest_of⟩
def d_shared_part : HookG.GD := ⟨.glo "shared_part", "shared_part", "shared_part", defArgs s_shared_part, defBody s_shared_part, defScope s_shared_part⟩
def d_ahead_of : HookG.GD := ⟨.glo "ahead_of", "ahead_of", "ahead_of", defArgs s_ahead_of, defBody s_ahead_of, defScope s_ahead_of⟩
def d_common_in : HookG.GD := ⟨.glo "common_in", "common_in", "common_in", defArgs s_common_in, defBody s_common_in, defScope s_common_in⟩
def d_require_live : HookG.GD := ⟨.glo "require_live", "require_live", "require_live", defArgs s_require_live, defBody s_require_live, defScope s_require_live⟩
def d_common_form : HookG.GD := ⟨.glo "common_form", "common_form", "common_form", defArgs s_common_form, defBody s_common_form, defScope s_common_form⟩
def d_law_dice : HookG.GD := ⟨.glo "_law_dice", "_law_dice", "_law_dice", defArgs s_law_dice, defBody s_law_dice, defScope s_law_dice⟩
def d_law_roll : HookG.GD := ⟨.glo "_law_roll", "_law_roll", "_law_roll", defArgs s_law_roll, defBody s_law_roll, defScope s_law_roll⟩
def d_law_near : HookG.GD := ⟨.glo "_law_near", "_law_near", "_law_near", defArgs s_law_near, defBody s_law_near, defScope s_law_near⟩
def d_law_gcd : HookG.GD := ⟨.glo "_law_gcd", "_law_gcd", "_law_gcd", defArgs s_law_gcd, defBody s_law_gcd, defScope s_law_gcd⟩
def d_law_shared : HookG.GD := ⟨.glo "_law_shared", "_law_shared", "_law_shared", defArgs s_law_shared, defBody s_law_shared, defScope s_law_shared⟩
def d_law_plus : HookG.GD := ⟨.glo "_law_plus", "_law_plus", "_law_plus", defArgs s_law_plus, defBody s_law_plus, defScope s_law_plus⟩
def d_law_scaled : HookG.GD := ⟨.glo "_law_scaled", "_law_scaled", "_law_scaled", defArgs s_law_scaled, defBody s_law_scaled, defScope s_law_scaled⟩
def d_law_product : HookG.GD := ⟨.glo "_law_product", "_law_product", "_law_product", defArgs s_law_product, defBody s_law_product, defScope s_law_product⟩
def d_law_all_product : HookG.GD := ⟨.glo "_law_all_product", "_law_all_product", "_law_all_product", defArgs s_law_all_product, defBody s_law_all_product, defScope s_law_all_product⟩
def d_law_power : HookG.GD := ⟨.glo "_law_power", "_law_power", "_law_power", defArgs s_law_power, defBody s_law_power, defScope s_law_power⟩
def d_law_plain : HookG.GD := ⟨.glo "_law_plain", "_law_plain", "_law_plain", defArgs s_law_plain, defBody s_law_plain, defScope s_law_plain⟩
def d_law_line : HookG.GD := ⟨.glo "_law_line", "_law_line", "_law_line", defArgs s_law_line, defBody s_law_line, defScope s_law_line⟩
def d_law_point : HookG.GD := ⟨.glo "_law_point", "_law_point", "_law_point", defArgs s_law_point, defBody s_law_point, defScope s_law_point⟩
def d_law_small_form : HookG.GD := ⟨.glo "_law_small_form", "_law_small_form", "_law_small_form", defArgs s_law_small_form, defBody s_law_small_form, defScope s_law_small_form⟩
def d_law_form : HookG.GD := ⟨.glo "_law_form", "_law_form", "_law_form", defArgs s_law_form, defBody s_law_form, defScope s_law_form⟩
def d_law_live_form : HookG.GD := ⟨.glo "_law_live_form", "_law_live_form", "_law_live_form", defArgs s_law_live_form, defBody s_law_live_form, defScope s_law_live_form⟩
def d_law_cleared : HookG.GD := ⟨.glo "_law_cleared", "_law_cleared", "_law_cleared", defArgs s_law_cleared, defBody s_law_cleared, defScope s_law_cleared⟩
def d_law_less : HookG.GD := ⟨.glo "_law_less", "_law_less", "_law_less", defArgs s_law_less, defBody s_law_less, defScope s_law_less⟩
def d_law_rank : HookG.GD := ⟨.glo "_law_rank", "_law_rank", "_law_rank", defArgs s_law_rank, defBody s_law_rank, defScope s_law_rank⟩
def d_law_det_of : HookG.GD := ⟨.glo "_law_det_of", "_law_det_of", "_law_det_of", defArgs s_law_det_of, defBody s_law_det_of, defScope s_law_det_of⟩
def d_law_two_rows : HookG.GD := ⟨.glo "_law_two_rows", "_law_two_rows", "_law_two_rows", defArgs s_law_two_rows, defBody s_law_two_rows, defScope s_law_two_rows⟩
def d_law_crossed : HookG.GD := ⟨.glo "_law_crossed", "_law_crossed", "_law_crossed", defArgs s_law_crossed, defBody s_law_crossed, defScope s_law_crossed⟩
def d_law_is_told : HookG.GD := ⟨.glo "_law_is_told", "_law_is_told", "_law_is_told", defArgs s_law_is_told, defBody s_law_is_told, defScope s_law_is_told⟩
def d_law_drawn_pair : HookG.GD := ⟨.glo "_law_drawn_pair", "_law_drawn_pair", "_law_drawn_pair", defArgs s_law_drawn_pair, defBody s_law_drawn_pair, defScope s_law_drawn_pair⟩
def d_law_right : HookG.GD := ⟨.glo "_law_right", "_law_right", "_law_right", defArgs s_law_right, defBody s_law_right, defScope s_law_right⟩
def d_law : HookG.GD := ⟨.glo "law", "law", "law", defArgs s_law, defBody s_law, defScope s_law⟩
def d_Told_init : HookG.GD := ⟨.met "Told" "__init__", "__init__", "Told.__init__", defArgs s_Told_init, defBody s_Told_init, defScope s_Told_init⟩
def d_Form_init : HookG.GD := ⟨.met "Form" "__init__", "__init__", "Form.__init__", defArgs s_Form_init, defBody s_Form_init, defScope s_Form_init⟩
def d_Form_entries : HookG.GD := ⟨.prp "Form" "entries", "entries", "Form.entries", defArgs s_Form_entries, defBody s_Form_entries, defScope s_Form_entries⟩
def d_Form_degree : HookG.GD := ⟨.prp "Form" "degree", "degree", "Form.degree", defArgs s_Form_degree, defBody s_Form_degree, defScope s_Form_degree⟩
def d_Form_is_zero : HookG.GD := ⟨.prp "Form" "is_zero", "is_zero", "Form.is_zero", defArgs s_Form_is_zero, defBody s_Form_is_zero, defScope s_Form_is_zero⟩
def d_Form_eq : HookG.GD := ⟨.met "Form" "__eq__", "__eq__", "Form.__eq__", defArgs s_Form_eq, defBody s_Form_eq, defScope s_Form_eq⟩
def d_Form_len : HookG.GD := ⟨.met "Form" "__len__", "__len__", "Form.__len__", defArgs s_Form_len, defBody s_Form_len, defScope s_Form_len⟩
def d_Form_iter : HookG.GD := ⟨.met "Form" "__iter__", "__iter__", "Form.__iter__", defArgs s_Form_iter, defBody s_Form_iter, defScope s_Form_iter⟩
def fnL : List HookG.GD := [d_is_whole, d_is_short, d_are_short, d_shared_of, d_first_of, d_primitive_of, d_joined_entries, d_is_zero_in, d_are_entries, d_form_of, d_require_form, d_require_two, d_bezout_in, d_bezout_table, d_cut_line, d_rest_of, d_shared_part, d_ahead_of, d_common_in, d_require_live, d_common_form, d_law_dice, d_law_roll, d_law_near, d_law_gcd, d_law_shared, d_law_plus, d_law_scaled, d_law_product, d_law_all_product, d_law_power, d_law_plain, d_law_line, d_law_point, d_law_small_form, d_law_form, d_law_live_form, d_law_cleared, d_law_less, d_law_rank, d_law_det_of, d_law_two_rows, d_law_crossed, d_law_is_told, d_law_drawn_pair, d_law_right, d_law, d_Told_init, d_Form_init, d_Form_entries, d_Form_degree, d_Form_is_zero, d_Form_eq, d_Form_len, d_Form_iter]
def faL : List He.Fa := [.glo "is_whole", .glo "is_short", .glo "are_short", .glo "shared_of", .glo "first_of", .glo "primitive_of", .glo "joined_entries", .glo "is_zero_in", .glo "are_entries", .glo "form_of", .glo "require_form", .glo "require_two", .glo "bezout_in", .glo "bezout_table", .glo "cut_line", .glo "rest_of", .glo "shared_part", .glo "ahead_of", .glo "common_in", .glo "require_live", .glo "common_form", .glo "_law_dice", .glo "_law_roll", .glo "_law_near", .glo "_law_gcd", .glo "_law_shared", .glo "_law_plus", .glo "_law_scaled", .glo "_law_product", .glo "_law_all_product", .glo "_law_power", .glo "_law_plain", .glo "_law_line", .glo "_law_point", .glo "_law_small_form", .glo "_law_form", .glo "_law_live_form", .glo "_law_cleared", .glo "_law_less", .glo "_law_rank", .glo "_law_det_of", .glo "_law_two_rows", .glo "_law_crossed", .glo "_law_is_told", .glo "_law_drawn_pair", .glo "_law_right", .glo "law", .glo "Told", .glo "Form", .free "abs", .free "all", .free "any", .free "bool", .free "enumerate", .free "int", .free "isinstance", .free "iter", .free "len", .free "list", .free "max", .free "min", .free "next", .free "range", .free "tuple", .free "zip", .int "GREATEST" 1000000000000000000000000000000000000000000000000000000000000, .int "MAX_DEGREE" 40, .int "MAX_SUM" 24, .mkr "Told", .mkr "Form"]
def tfL : List HookG.At := [(HookG.At.glo "first_of")]
def exL (K : PySem.W.Frag) : Bool := He.eqO (PySem.W.nsIn K mainGlobals "gcd") (some (some (.builtin "math.gcd"))) && (OwnF.ocB K "Told" && (HookG.slotB K "Told" "own_row" 0 && (OwnF.ocB K "Form" && (HookG.slotB K "Form" "own_entries" 0 && (HookG.mtB K "Told" "__init__" && (HookG.mtB K "Form" "__init__" && (HookG.prB K "Form" "entries" && (HookG.prB K "Form" "degree" && (HookG.prB K "Form" "is_zero" && (HookG.mtB K "Form" "__eq__" && (HookG.mtB K "Form" "__len__" && (HookG.mtB K "Form" "__iter__" && (HookG.dO (PySem.W.kitOne K (.ref (He.ga K "Told")) (.ref (He.ga K "Form"))) (some false) && (HookG.dO (PySem.W.kitOne K (.ref (He.ga K "Form")) (.ref (He.ga K "Told"))) (some false)))))))))))))))
theorem facts_of {K : PySem.W.Frag} {h : Heap} {mg : Str → Option Value} (X : K.In h) (G : h.Ns mainGlobals mg) (c : HookG.SaysG faL fnL exL K) : Nonempty (Facts K mg) := by
  have ex := c.more
  unfold exL at ex
  obtain ⟨ex_0, ex⟩ := He.ba ex
  obtain ⟨ex_1, ex⟩ := He.ba ex
  obtain ⟨ex_2, ex⟩ := He.ba ex
  obtain ⟨ex_3, ex⟩ := He.ba ex
  obtain ⟨ex_4, ex⟩ := He.ba ex
  obtain ⟨ex_5, ex⟩ := He.ba ex
  obtain ⟨ex_6, ex⟩ := He.ba ex
  obtain ⟨ex_7, ex⟩ := He.ba ex
  obtain ⟨ex_8, ex⟩ := He.ba ex
  obtain ⟨ex_9, ex⟩ := He.ba ex
  obtain ⟨ex_10, ex⟩ := He.ba ex
  obtain ⟨ex_11, ex⟩ := He.ba ex
  obtain ⟨ex_12, ex⟩ := He.ba ex
  obtain ⟨ex_13, ex⟩ := He.ba ex
  obtain ⟨fd_is_whole, F_is_whole⟩ := c.def_ 0 (d := d_is_whole) rfl
  obtain ⟨fd_is_short, F_is_short⟩ := c.def_ 1 (d := d_is_short) rfl
  obtain ⟨fd_are_short, F_are_short⟩ := c.def_ 2 (d := d_are_short) rfl
  obtain ⟨fd_shared_of, F_shared_of⟩ := c.def_ 3 (d := d_shared_of) rfl
  obtain ⟨fd_first_of, F_first_of⟩ := c.def_ 4 (d := d_first_of) rfl
  obtain ⟨fd_primitive_of, F_primitive_of⟩ := c.def_ 5 (d := d_primitive_of) rfl
  obtain ⟨fd_joined_entries, F_joined_entries⟩ := c.def_ 6 (d := d_joined_entries) rfl
  obtain ⟨fd_is_zero_in, F_is_zero_in⟩ := c.def_ 7 (d := d_is_zero_in) rfl
  obtain ⟨fd_are_entries, F_are_entries⟩ := c.def_ 8 (d := d_are_entries) rfl
  obtain ⟨fd_form_of, F_form_of⟩ := c.def_ 9 (d := d_form_of) rfl
  obtain ⟨fd_require_form, F_require_form⟩ := c.def_ 10 (d := d_require_form) rfl
  obtain ⟨fd_require_two, F_require_two⟩ := c.def_ 11 (d := d_require_two) rfl
  obtain ⟨fd_bezout_in, F_bezout_in⟩ := c.def_ 12 (d := d_bezout_in) rfl
  obtain ⟨fd_bezout_table, F_bezout_table⟩ := c.def_ 13 (d := d_bezout_table) rfl
  obtain ⟨fd_cut_line, F_cut_line⟩ := c.def_ 14 (d := d_cut_line) rfl
  obtain ⟨fd_rest_of, F_rest_of⟩ := c.def_ 15 (d := d_rest_of) rfl
  obtain ⟨fd_shared_part, F_shared_part⟩ := c.def_ 16 (d := d_shared_part) rfl
  obtain ⟨fd_ahead_of, F_ahead_of⟩ := c.def_ 17 (d := d_ahead_of) rfl
  obtain ⟨fd_common_in, F_common_in⟩ := c.def_ 18 (d := d_common_in) rfl
  obtain ⟨fd_require_live, F_require_live⟩ := c.def_ 19 (d := d_require_live) rfl
  obtain ⟨fd_common_form, F_common_form⟩ := c.def_ 20 (d := d_common_form) rfl
  obtain ⟨fd_law_dice, F_law_dice⟩ := c.def_ 21 (d := d_law_dice) rfl
  obtain ⟨fd_law_roll, F_law_roll⟩ := c.def_ 22 (d := d_law_roll) rfl
  obtain ⟨fd_law_near, F_law_near⟩ := c.def_ 23 (d := d_law_near) rfl
  obtain ⟨fd_law_gcd, F_law_gcd⟩ := c.def_ 24 (d := d_law_gcd) rfl
  obtain ⟨fd_law_shared, F_law_shared⟩ := c.def_ 25 (d := d_law_shared) rfl
  obtain ⟨fd_law_plus, F_law_plus⟩ := c.def_ 26 (d := d_law_plus) rfl
  obtain ⟨fd_law_scaled, F_law_scaled⟩ := c.def_ 27 (d := d_law_scaled) rfl
  obtain ⟨fd_law_product, F_law_product⟩ := c.def_ 28 (d := d_law_product) rfl
  obtain ⟨fd_law_all_product, F_law_all_product⟩ := c.def_ 29 (d := d_law_all_product) rfl
  obtain ⟨fd_law_power, F_law_power⟩ := c.def_ 30 (d := d_law_power) rfl
  obtain ⟨fd_law_plain, F_law_plain⟩ := c.def_ 31 (d := d_law_plain) rfl
  obtain ⟨fd_law_line, F_law_line⟩ := c.def_ 32 (d := d_law_line) rfl
  obtain ⟨fd_law_point, F_law_point⟩ := c.def_ 33 (d := d_law_point) rfl
  obtain ⟨fd_law_small_form, F_law_small_form⟩ := c.def_ 34 (d := d_law_small_form) rfl
  obtain ⟨fd_law_form, F_law_form⟩ := c.def_ 35 (d := d_law_form) rfl
  obtain ⟨fd_law_live_form, F_law_live_form⟩ := c.def_ 36 (d := d_law_live_form) rfl
  obtain ⟨fd_law_cleared, F_law_cleared⟩ := c.def_ 37 (d := d_law_cleared) rfl
  obtain ⟨fd_law_less, F_law_less⟩ := c.def_ 38 (d := d_law_less) rfl
  obtain ⟨fd_law_rank, F_law_rank⟩ := c.def_ 39 (d := d_law_rank) rfl
  obtain ⟨fd_law_det_of, F_law_det_of⟩ := c.def_ 40 (d := d_law_det_of) rfl
  obtain ⟨fd_law_two_rows, F_law_two_rows⟩ := c.def_ 41 (d := d_law_two_rows) rfl
  obtain ⟨fd_law_crossed, F_law_crossed⟩ := c.def_ 42 (d := d_law_crossed) rfl
  obtain ⟨fd_law_is_told, F_law_is_told⟩ := c.def_ 43 (d := d_law_is_told) rfl
  obtain ⟨fd_law_drawn_pair, F_law_drawn_pair⟩ := c.def_ 44 (d := d_law_drawn_pair) rfl
  obtain ⟨fd_law_right, F_law_right⟩ := c.def_ 45 (d := d_law_right) rfl
  obtain ⟨fd_law, F_law⟩ := c.def_ 46 (d := d_law) rfl
  obtain ⟨fd_Told_init, F_Told_init⟩ := c.def_ 47 (d := d_Told_init) rfl
  obtain ⟨fd_Form_init, F_Form_init⟩ := c.def_ 48 (d := d_Form_init) rfl
  obtain ⟨fd_Form_entries, F_Form_entries⟩ := c.def_ 49 (d := d_Form_entries) rfl
  obtain ⟨fd_Form_degree, F_Form_degree⟩ := c.def_ 50 (d := d_Form_degree) rfl
  obtain ⟨fd_Form_is_zero, F_Form_is_zero⟩ := c.def_ 51 (d := d_Form_is_zero) rfl
  obtain ⟨fd_Form_eq, F_Form_eq⟩ := c.def_ 52 (d := d_Form_eq) rfl
  obtain ⟨fd_Form_len, F_Form_len⟩ := c.def_ 53 (d := d_Form_len) rfl
  obtain ⟨fd_Form_iter, F_Form_iter⟩ := c.def_ 54 (d := d_Form_iter) rfl
  exact ⟨{ f_is_whole := _, fd_is_whole := _, F_is_whole := F_is_whole, b_is_whole := (F_is_whole.bindsN fun _ _ _ _ _ _ us hl => match us, hl with | [_], _ => rfl), g_is_whole := He.glo_ok X G (c.fact 0 (f := .glo "is_whole") rfl), f_is_short := _, fd_is_short := _, F_is_short := F_is_short, b_is_short := (F_is_short.bindsN fun _ _ _ _ _ _ us hl => match us, hl with | [_], _ => rfl), g_is_short := He.glo_ok X G (c.fact 1 (f := .glo "is_short") rfl), f_are_short := _, fd_are_short := _, F_are_short := F_are_short, b_are_short := (F_are_short.bindsN fun _ _ _ _ _ _ us hl => match us, hl with | [_], _ => rfl), g_are_short := He.glo_ok X G (c.fact 2 (f := .glo "are_short") rfl), f_shared_of := _, fd_shared_of := _, F_shared_of := F_shared_of, b_shared_of := (F_shared_of.bindsN fun _ _ _ _ _ _ us hl => match us, hl with | [_], _ => rfl), g_shared_of := He.glo_ok X G (c.fact 3 (f := .glo "shared_of") rfl), f_first_of := _, fd_first_of := _, F_first_of := F_first_of, b_first_of := (F_first_of.bindsN fun _ _ _ _ _ _ us hl => match us, hl with | [_], _ => rfl), g_first_of := He.glo_ok X G (c.fact 4 (f := .glo "first_of") rfl), f_primitive_of := _, fd_primitive_of := _, F_primitive_of := F_primitive_of, b_primitive_of := (F_primitive_of.bindsN fun _ _ _ _ _ _ us hl => match us, hl with | [_], _ => rfl), g_primitive_of := He.glo_ok X G (c.fact 5 (f := .glo "primitive_of") rfl), f_joined_entries := _, fd_joined_entries := _, F_joined_entries := F_joined_entries, b_joined_entries := (F_joined_entries.bindsN fun _ _ _ _ _ _ us hl => match us, hl with | [_, _], _ => rfl), g_joined_entries := He.glo_ok X G (c.fact 6 (f := .glo "joined_entries") rfl), f_is_zero_in := _, fd_is_zero_in := _, F_is_zero_in := F_is_zero_in, b_is_zero_in := (F_is_zero_in.bindsN fun _ _ _ _ _ _ us hl => match us, hl with | [_], _ => rfl), g_is_zero_in := He.glo_ok X G (c.fact 7 (f := .glo "is_zero_in") rfl), f_are_entries := _, fd_are_entries := _, F_are_entries := F_are_entries, b_are_entries := (F_are_entries.bindsN fun _ _ _ _ _ _ us hl => match us, hl with | [_], _ => rfl), g_are_entries := He.glo_ok X G (c.fact 8 (f := .glo "are_entries") rfl), f_form_of := _, fd_form_of := _, F_form_of := F_form_of, b_form_of := (F_form_of.bindsN fun _ _ _ _ _ _ us hl => match us, hl with | [_], _ => rfl), g_form_of := He.glo_ok X G (c.fact 9 (f := .glo "form_of") rfl), f_require_form := _, fd_require_form := _, F_require_form := F_require_form, b_require_form := (F_require_form.bindsN fun _ _ _ _ _ _ us hl => match us, hl with | [_], _ => rfl), g_require_form := He.glo_ok X G (c.fact 10 (f := .glo "require_form") rfl), f_require_two := _, fd_require_two := _, F_require_two := F_require_two, b_require_two := (F_require_two.bindsN fun _ _ _ _ _ _ us hl => match us, hl with | [_, _], _ => rfl), g_require_two := He.glo_ok X G (c.fact 11 (f := .glo "require_two") rfl), f_bezout_in := _, fd_bezout_in := _, F_bezout_in := F_bezout_in, b_bezout_in := (F_bezout_in.bindsN fun _ _ _ _ _ _ us hl => match us, hl with | [_, _], _ => rfl), g_bezout_in := He.glo_ok X G (c.fact 12 (f := .glo "bezout_in") rfl), f_bezout_table := _, fd_bezout_table := _, F_bezout_table := F_bezout_table, b_bezout_table := (F_bezout_table.bindsN fun _ _ _ _ _ _ us hl => match us, hl with | [_, _], _ => rfl), g_bezout_table := He.glo_ok X G (c.fact 13 (f := .glo "bezout_table") rfl), f_cut_line := _, fd_cut_line := _, F_cut_line := F_cut_line, b_cut_line := (F_cut_line.bindsN fun _ _ _ _ _ _ us hl => match us, hl with | [_], _ => rfl), g_cut_line := He.glo_ok X G (c.fact 14 (f := .glo "cut_line") rfl), f_rest_of := _, fd_rest_of := _, F_rest_of := F_rest_of, b_rest_of := (F_rest_of.bindsN fun _ _ _ _ _ _ us hl => match us, hl with | [_, _], _ => rfl), g_rest_of := He.glo_ok X G (c.fact 15 (f := .glo "rest_of") rfl), f_shared_part := _, fd_shared_part := _, F_shared_part := F_shared_part, b_shared_part := (F_shared_part.bindsN fun _ _ _ _ _ _ us hl => match us, hl with | [_, _], _ => rfl), g_shared_part := He.glo_ok X G (c.fact 16 (f := .glo "shared_part") rfl), f_ahead_of := _, fd_ahead_of := _, F_ahead_of := F_ahead_of, b_ahead_of := (F_ahead_of.bindsN fun _ _ _ _ _ _ us hl => match us, hl with | [_], _ => rfl), g_ahead_of := He.glo_ok X G (c.fact 17 (f := .glo "ahead_of") rfl), f_common_in := _, fd_common_in := _, F_common_in := F_common_in, b_common_in := (F_common_in.bindsN fun _ _ _ _ _ _ us hl => match us, hl with | [_, _], _ => rfl), g_common_in := He.glo_ok X G (c.fact 18 (f := .glo "common_in") rfl), f_require_live := _, fd_require_live := _, F_require_live := F_require_live, b_require_live := (F_require_live.bindsN fun _ _ _ _ _ _ us hl => match us, hl with | [_], _ => rfl), g_require_live := He.glo_ok X G (c.fact 19 (f := .glo "require_live") rfl), f_common_form := _, fd_common_form := _, F_common_form := F_common_form, b_common_form := (F_common_form.bindsN fun _ _ _ _ _ _ us hl => match us, hl with | [_, _], _ => rfl), g_common_form := He.glo_ok X G (c.fact 20 (f := .glo "common_form") rfl), f_law_dice := _, fd_law_dice := _, F_law_dice := F_law_dice, b_law_dice := (F_law_dice.bindsN fun _ _ _ _ _ _ us hl => match us, hl with | [_, _], _ => rfl), g_law_dice := He.glo_ok X G (c.fact 21 (f := .glo "_law_dice") rfl), f_law_roll := _, fd_law_roll := _, F_law_roll := F_law_roll, b_law_roll := (F_law_roll.bindsN fun _ _ _ _ _ _ us hl => match us, hl with | [_, _], _ => rfl), g_law_roll := He.glo_ok X G (c.fact 22 (f := .glo "_law_roll") rfl), f_law_near := _, fd_law_near := _, F_law_near := F_law_near, b_law_near := (F_law_near.bindsN fun _ _ _ _ _ _ us hl => match us, hl with | [_, _], _ => rfl), g_law_near := He.glo_ok X G (c.fact 23 (f := .glo "_law_near") rfl), f_law_gcd := _, fd_law_gcd := _, F_law_gcd := F_law_gcd, b_law_gcd := (F_law_gcd.bindsN fun _ _ _ _ _ _ us hl => match us, hl with | [_, _], _ => rfl), g_law_gcd := He.glo_ok X G (c.fact 24 (f := .glo "_law_gcd") rfl), f_law_shared := _, fd_law_shared := _, F_law_shared := F_law_shared, b_law_shared := (F_law_shared.bindsN fun _ _ _ _ _ _ us hl => match us, hl with | [_], _ => rfl), g_law_shared := He.glo_ok X G (c.fact 25 (f := .glo "_law_shared") rfl), f_law_plus := _, fd_law_plus := _, F_law_plus := F_law_plus, b_law_plus := (F_law_plus.bindsN fun _ _ _ _ _ _ us hl => match us, hl with | [_, _], _ => rfl), g_law_plus := He.glo_ok X G (c.fact 26 (f := .glo "_law_plus") rfl), f_law_scaled := _, fd_law_scaled := _, F_law_scaled := F_law_scaled, b_law_scaled := (F_law_scaled.bindsN fun _ _ _ _ _ _ us hl => match us, hl with | [_, _], _ => rfl), g_law_scaled := He.glo_ok X G (c.fact 27 (f := .glo "_law_scaled") rfl), f_law_product := _, fd_law_product := _, F_law_product := F_law_product, b_law_product := (F_law_product.bindsN fun _ _ _ _ _ _ us hl => match us, hl with | [_, _], _ => rfl), g_law_product := He.glo_ok X G (c.fact 28 (f := .glo "_law_product") rfl), f_law_all_product := _, fd_law_all_product := _, F_law_all_product := F_law_all_product, b_law_all_product := (F_law_all_product.bindsN fun _ _ _ _ _ _ us hl => match us, hl with | [_], _ => rfl), g_law_all_product := He.glo_ok X G (c.fact 29 (f := .glo "_law_all_product") rfl), f_law_power := _, fd_law_power := _, F_law_power := F_law_power, b_law_power := (F_law_power.bindsN fun _ _ _ _ _ _ us hl => match us, hl with | [_, _], _ => rfl), g_law_power := He.glo_ok X G (c.fact 30 (f := .glo "_law_power") rfl), f_law_plain := _, fd_law_plain := _, F_law_plain := F_law_plain, b_law_plain := (F_law_plain.bindsN fun _ _ _ _ _ _ us hl => match us, hl with | [_], _ => rfl), g_law_plain := He.glo_ok X G (c.fact 31 (f := .glo "_law_plain") rfl), f_law_line := _, fd_law_line := _, F_law_line := F_law_line, b_law_line := (F_law_line.bindsN fun _ _ _ _ _ _ us hl => match us, hl with | [_], _ => rfl), g_law_line := He.glo_ok X G (c.fact 32 (f := .glo "_law_line") rfl), f_law_point := _, fd_law_point := _, F_law_point := F_law_point, b_law_point := (F_law_point.bindsN fun _ _ _ _ _ _ us hl => match us, hl with | [_, _], _ => rfl), g_law_point := He.glo_ok X G (c.fact 33 (f := .glo "_law_point") rfl), f_law_small_form := _, fd_law_small_form := _, F_law_small_form := F_law_small_form, b_law_small_form := (F_law_small_form.bindsN fun _ _ _ _ _ _ us hl => match us, hl with | [_, _, _], _ => rfl), g_law_small_form := He.glo_ok X G (c.fact 34 (f := .glo "_law_small_form") rfl), f_law_form := _, fd_law_form := _, F_law_form := F_law_form, b_law_form := (F_law_form.bindsN fun _ _ _ _ _ _ us hl => match us, hl with | [_, _], _ => rfl), g_law_form := He.glo_ok X G (c.fact 35 (f := .glo "_law_form") rfl), f_law_live_form := _, fd_law_live_form := _, F_law_live_form := F_law_live_form, b_law_live_form := (F_law_live_form.bindsN fun _ _ _ _ _ _ us hl => match us, hl with | [_, _], _ => rfl), g_law_live_form := He.glo_ok X G (c.fact 36 (f := .glo "_law_live_form") rfl), f_law_cleared := _, fd_law_cleared := _, F_law_cleared := F_law_cleared, b_law_cleared := (F_law_cleared.bindsN fun _ _ _ _ _ _ us hl => match us, hl with | [_, _], _ => rfl), g_law_cleared := He.glo_ok X G (c.fact 37 (f := .glo "_law_cleared") rfl), f_law_less := _, fd_law_less := _, F_law_less := F_law_less, b_law_less := (F_law_less.bindsN fun _ _ _ _ _ _ us hl => match us, hl with | [_, _, _], _ => rfl), g_law_less := He.glo_ok X G (c.fact 38 (f := .glo "_law_less") rfl), f_law_rank := _, fd_law_rank := _, F_law_rank := F_law_rank, b_law_rank := (F_law_rank.bindsN fun _ _ _ _ _ _ us hl => match us, hl with | [_, _], _ => rfl), g_law_rank := He.glo_ok X G (c.fact 39 (f := .glo "_law_rank") rfl), f_law_det_of := _, fd_law_det_of := _, F_law_det_of := F_law_det_of, b_law_det_of := (F_law_det_of.bindsN fun _ _ _ _ _ _ us hl => match us, hl with | [_], _ => rfl), g_law_det_of := He.glo_ok X G (c.fact 40 (f := .glo "_law_det_of") rfl), f_law_two_rows := _, fd_law_two_rows := _, F_law_two_rows := F_law_two_rows, b_law_two_rows := (F_law_two_rows.bindsN fun _ _ _ _ _ _ us hl => match us, hl with | [_, _], _ => rfl), g_law_two_rows := He.glo_ok X G (c.fact 41 (f := .glo "_law_two_rows") rfl), f_law_crossed := _, fd_law_crossed := _, F_law_crossed := F_law_crossed, b_law_crossed := (F_law_crossed.bindsN fun _ _ _ _ _ _ us hl => match us, hl with | [_, _], _ => rfl), g_law_crossed := He.glo_ok X G (c.fact 42 (f := .glo "_law_crossed") rfl), f_law_is_told := _, fd_law_is_told := _, F_law_is_told := F_law_is_told, b_law_is_told := (F_law_is_told.bindsN fun _ _ _ _ _ _ us hl => match us, hl with | [_, _, _], _ => rfl), g_law_is_told := He.glo_ok X G (c.fact 43 (f := .glo "_law_is_told") rfl), f_law_drawn_pair := _, fd_law_drawn_pair := _, F_law_drawn_pair := F_law_drawn_pair, b_law_drawn_pair := (F_law_drawn_pair.bindsN fun _ _ _ _ _ _ us hl => match us, hl with | [_], _ => rfl), g_law_drawn_pair := He.glo_ok X G (c.fact 44 (f := .glo "_law_drawn_pair") rfl), f_law_right := _, fd_law_right := _, F_law_right := F_law_right, b_law_right := (F_law_right.bindsN fun _ _ _ _ _ _ us hl => match us, hl with | [_], _ => rfl), g_law_right := He.glo_ok X G (c.fact 45 (f := .glo "_law_right") rfl), f_law := _, fd_law := _, F_law := F_law, b_law := (F_law.bindsN fun _ _ _ _ _ _ us hl => match us, hl with | [_], _ => rfl), g_law := He.glo_ok X G (c.fact 46 (f := .glo "law") rfl), f_Told_init := _, fd_Told_init := _, F_Told_init := F_Told_init, b_Told_init := (F_Told_init.bindsN fun _ _ _ _ _ _ us hl => match us, hl with | [_, _], _ => rfl), f_Form_init := _, fd_Form_init := _, F_Form_init := F_Form_init, b_Form_init := (F_Form_init.bindsN fun _ _ _ _ _ _ us hl => match us, hl with | [_, _], _ => rfl), f_Form_entries := _, fd_Form_entries := _, F_Form_entries := F_Form_entries, b_Form_entries := (F_Form_entries.bindsN fun _ _ _ _ _ _ us hl => match us, hl with | [_], _ => rfl), f_Form_degree := _, fd_Form_degree := _, F_Form_degree := F_Form_degree, b_Form_degree := (F_Form_degree.bindsN fun _ _ _ _ _ _ us hl => match us, hl with | [_], _ => rfl), f_Form_is_zero := _, fd_Form_is_zero := _, F_Form_is_zero := F_Form_is_zero, b_Form_is_zero := (F_Form_is_zero.bindsN fun _ _ _ _ _ _ us hl => match us, hl with | [_], _ => rfl), f_Form_eq := _, fd_Form_eq := _, F_Form_eq := F_Form_eq, b_Form_eq := (F_Form_eq.bindsN fun _ _ _ _ _ _ us hl => match us, hl with | [_, _], _ => rfl), f_Form_len := _, fd_Form_len := _, F_Form_len := F_Form_len, b_Form_len := (F_Form_len.bindsN fun _ _ _ _ _ _ us hl => match us, hl with | [_], _ => rfl), f_Form_iter := _, fd_Form_iter := _, F_Form_iter := F_Form_iter, b_Form_iter := (F_Form_iter.bindsN fun _ _ _ _ _ _ us hl => match us, hl with | [_], _ => rfl), C_Told := He.ga K "Told", g_Told := He.glo_ok X G (c.fact 47 (f := .glo "Told") rfl), mk_Told := He.mkr_ok (c.fact 68 (f := .mkr "Told") rfl), C_Form := He.ga K "Form", g_Form := He.glo_ok X G (c.fact 48 (f := .glo "Form") rfl), mk_Form := He.mkr_ok (c.fact 69 (f := .mkr "Form") rfl), z_abs := He.free_ok X G (c.fact 49 (f := .free "abs") rfl), z_all := He.free_ok X G (c.fact 50 (f := .free "all") rfl), z_any := He.free_ok X G (c.fact 51 (f := .free "any") rfl), z_bool := He.free_ok X G (c.fact 52 (f := .free "bool") rfl), z_enumerate := He.free_ok X G (c.fact 53 (f := .free "enumerate") rfl), z_int := He.free_ok X G (c.fact 54 (f := .free "int") rfl), z_isinstance := He.free_ok X G (c.fact 55 (f := .free "isinstance") rfl), z_iter := He.free_ok X G (c.fact 56 (f := .free "iter") rfl), z_len := He.free_ok X G (c.fact 57 (f := .free "len") rfl), z_list := He.free_ok X G (c.fact 58 (f := .free "list") rfl), z_max := He.free_ok X G (c.fact 59 (f := .free "max") rfl), z_min := He.free_ok X G (c.fact 60 (f := .free "min") rfl), z_next := He.free_ok X G (c.fact 61 (f := .free "next") rfl), z_range := He.free_ok X G (c.fact 62 (f := .free "range") rfl), z_tuple := He.free_ok X G (c.fact 63 (f := .free "tuple") rfl), z_zip := He.free_ok X G (c.fact 64 (f := .free "zip") rfl), c_GREATEST := He.int_ok X G (c.fact 65 (f := .int "GREATEST" 1000000000000000000000000000000000000000000000000000000000000) rfl), c_MAX_DEGREE := He.int_ok X G (c.fact 66 (f := .int "MAX_DEGREE" 40) rfl), c_MAX_SUM := He.int_ok X G (c.fact 67 (f := .int "MAX_SUM" 24) rfl), c_first_of := HookT.codA K ((HookG.At.glo "first_of").adr K), P_first_of := He.tabOf K (HookT.codA K ((HookG.At.glo "first_of").adr K)), code_first_of := HookT.code_of F_first_of, tab_first_of := rfl, m_gcd := PySem.W.mg_of X G (He.eqO_ok ex_0), oc_Told := OwnF.ocB_ok ex_1, a_own_row := _, sl_own_row := HookG.slotB_ok ex_2 (by decide), oc_Form := OwnF.ocB_ok ex_3, a_own_entries := _, sl_own_entries := HookG.slotB_ok ex_4 (by decide), mt_Told_init := HookG.mtB_ok ex_5, mt_Form_init := HookG.mtB_ok ex_6, p_Form_entries := _, pr_Form_entries := HookG.prB_ok ex_7, p_Form_degree := _, pr_Form_degree := HookG.prB_ok ex_8, p_Form_is_zero := _, pr_Form_is_zero := HookG.prB_ok ex_9, mt_Form_eq := HookG.mtB_ok ex_10, mt_Form_len := HookG.mtB_ok ex_11, mt_Form_iter := HookG.mtB_ok ex_12, kit_Told_Form := HookG.dO_ok ex_13, kit_Form_Told := HookG.dO_ok ex }⟩

end K76

set_option Elab.async false
set_option linter.all false
set_option maxRecDepth 100000
set_option maxHeartbeats 0
namespace K76
open PySem PySem.Spec PyProof.Rows L2
abbrev R : PySem.W.OpenRow := PySem.W.OpenLaw.row PySem.Challenge.rw_sourceforms_k76_whole_bezout_tables
abbrev hk : PySem.W.Hook := HookT.hookT 5 faL fnL tfL exL
def ob (s : PySem.W.SharedT) : HookT.AlGT := HookT.obsGT 5 faL fnL tfL exL (HandSHeadRun.getT s)
theorem ob_eq (s : PySem.W.SharedT) : ob s = hk.obs s.abs := HookT.obsGT_eq (HandSHeadRun.getT_eq s)
def loose0 : List Str := ["_wall", "LetterError", "InvalidForm", "InvalidPoint", "InvalidOperation", "InvalidNumber", "TooMany", "GREATEST", "is_whole", "is_short", "is_from", "are_short", "require_short", "require_from", "shared_of", "first_of", "primitive_of", "MAX_DEGREE", "product_in", "joined_entries", "power_in", "value_in", "is_zero_in", "Told", "are_entries", "Form", "form_of", "require_form", "sum_in", "MAX_SUM"]
def loose1 : List Str := ["require_two", "bezout_in", "bezout_table", "cut_line", "rest_of", "shared_part", "ahead_of", "common_in", "require_live", "common_form", "_law_dice", "_law_roll", "_law_near", "_law_gcd", "_law_shared", "_law_plus", "_law_scaled", "_law_product", "_law_all_product", "_law_power", "_law_plain", "_law_line", "_law_point", "_law_small_form", "_law_form", "_law_live_form", "_law_cleared", "_law_less", "_law_rank", "_law_det_of"]
def loose2 : List Str := ["_law_two_rows", "_law_crossed", "_law_is_told", "_law_drawn_pair", "_law_right"]
def loose : List Str := loose0 ++ loose1 ++ loose2
theorem run (w : World) : HandSHeadRun.RunEqI R (PySem.W.view R.prog [0, 71]) hk ob 12000 loose w := by
  show (_ : Option _) = _
  kernel_rfl
end K76

set_option Elab.async false
set_option linter.all false
set_option maxRecDepth 100000
/-! products of forms: the plain law -/
namespace K76
/-- the entry at a place, 0 behind the end -/
def co (l : List Int) (k : Nat) : Int := l.getD k 0
/-- the entries of a product -/
def cv : List Int → (Nat → Int) → Nat → Int
  | [], _, _ => 0
  | x :: xs, g, k => x * g k + (match k with
    | 0 => 0
    | k + 1 => cv xs g k)
theorem cv_nil (g : Nat → Int) (k : Nat) : cv [] g k = 0 := rfl
theorem cv_zero (x : Int) (xs : List Int) (g : Nat → Int) : cv (x :: xs) g 0 = x * g 0 := by show x * g 0 + 0 = _; omega
theorem cv_succ (x : Int) (xs : List Int) (g : Nat → Int) (k : Nat) : cv (x :: xs) g (k + 1) = x * g (k + 1) + cv xs g k := rfl
theorem cv_congr {g h : Nat → Int} : ∀ (l : List Int) (k : Nat), (∀ i, i ≤ k → g i = h i) → cv l g k = cv l h k
  | [], _, _ => rfl
  | x :: xs, 0, e => by rw [cv_zero, cv_zero, e 0 (Nat.le_refl _)]
  | x :: xs, k + 1, e => by rw [cv_succ, cv_succ, e (k + 1) (Nat.le_refl _), cv_congr xs k fun i hi => e i (by omega)]
theorem cv_ext {g h : Nat → Int} (l : List Int) (e : ∀ i, g i = h i) (k : Nat) : cv l g k = cv l h k := cv_congr l k fun i _ => e i
theorem cv_add (l : List Int) (g h : Nat → Int) : ∀ k, cv l (fun i => g i + h i) k = cv l g k + cv l h k := by
  induction l with
  | nil => intro k; rfl
  | cons x xs ih =>
    intro k
    cases k with
    | zero => rw [cv_zero, cv_zero, cv_zero, Int.mul_add]
    | succ k => rw [cv_succ, cv_succ, cv_succ, ih, Int.mul_add]; omega
theorem cv_mul (l : List Int) (c : Int) (g : Nat → Int) : ∀ k, cv l (fun i => c * g i) k = c * cv l g k := by
  induction l with
  | nil => intro k; show (0 : Int) = c * 0; rw [Int.mul_zero]
  | cons x xs ih =>
    intro k
    cases k with
    | zero => rw [cv_zero, cv_zero]; rw [← Int.mul_assoc, Int.mul_comm x c, Int.mul_assoc]
    | succ k => rw [cv_succ, cv_succ, ih, Int.mul_add, ← Int.mul_assoc, Int.mul_comm x c, Int.mul_assoc]
theorem cv_zeroF (l : List Int) : ∀ k, cv l (fun _ => 0) k = 0 := by
  induction l with
  | nil => intro k; rfl
  | cons x xs ih =>
    intro k
    cases k with
    | zero => rw [cv_zero, Int.mul_zero]
    | succ k => rw [cv_succ, ih, Int.mul_zero]; rfl
/-- what is moved by one place -/
def sh (g : Nat → Int) : Nat → Int
  | 0 => 0
  | k + 1 => g k
theorem cv_sh (l : List Int) (g : Nat → Int) : ∀ k, cv l (sh g) k = sh (cv l g) k := by
  induction l with
  | nil => intro k; cases k <;> rfl
  | cons x xs ih =>
    intro k
    cases k with
    | zero => rw [cv_zero]; show x * 0 = 0; rw [Int.mul_zero]
    | succ k =>
      rw [cv_succ, ih]
      show x * g k + sh (cv xs g) k = cv (x :: xs) g k
      cases k with
      | zero => rw [cv_zero]; show x * g 0 + 0 = x * g 0; omega
      | succ k => rw [cv_succ] <;> rfl
theorem cv_cons (x : Int) (xs : List Int) (g : Nat → Int) (k : Nat) : cv (x :: xs) g k = x * g k + sh (cv xs g) k := by
  cases k with
  | zero => rw [cv_zero]; show x * g 0 = x * g 0 + 0; omega
  | succ k => rw [cv_succ] <;> rfl
theorem co_cons (x : Int) (xs : List Int) (k : Nat) : co (x :: xs) k = (if k = 0 then x else 0) + sh (co xs) k := by
  cases k with
  | zero => show x = x + 0; omega
  | succ k =>
    show co xs k = (if k + 1 = 0 then x else 0) + co xs k
    rw [if_neg (by omega)]
    omega
/-- a constant times -/
theorem cv_one (l : List Int) : ∀ k, cv l (fun i => if i = 0 then 1 else 0) k = co l k := by
  induction l with
  | nil => intro k; rfl
  | cons x xs ih =>
    intro k
    cases k with
    | zero => rw [cv_zero, if_pos rfl, Int.mul_one]; rfl
    | succ k => rw [cv_succ, if_neg (by omega), Int.mul_zero, ih]; show 0 + co xs k = co xs k; omega
theorem cv_delta (l : List Int) (x : Int) (k : Nat) : cv l (fun i => if i = 0 then x else 0) k = x * co l k := by
  rw [← cv_one l k, ← cv_mul]
  refine cv_ext l (fun i => ?_) k
  by_cases h : i = 0
  · rw [if_pos h, if_pos h, Int.mul_one]
  · rw [if_neg h, if_neg h, Int.mul_zero]
theorem cv_comm (l m : List Int) : ∀ k, cv l (co m) k = cv m (co l) k := by
  induction l with
  | nil =>
    intro k
    rw [show cv m (co []) k = cv m (fun _ => 0) k from cv_ext m (fun i => rfl) k, cv_zeroF]
    rfl
  | cons x xs ih =>
    intro k
    rw [cv_cons, cv_ext m (h := fun i => (if i = 0 then x else 0) + sh (co xs) i) (fun i => co_cons x xs i), cv_add, cv_delta, cv_sh]
    congr 1
    cases k with
    | zero => rfl
    | succ k => exact ih k
theorem cv_far {g : Nat → Int} {b : Nat} (hb : 1 ≤ b) (hg : ∀ i, b ≤ i → g i = 0) : ∀ (l : List Int) (k : Nat), l.length + b ≤ k + 1 → cv l g k = 0
  | [], _, _ => rfl
  | x :: xs, 0, h => by rw [List.length_cons] at h; omega
  | x :: xs, k + 1, h => by
    rw [List.length_cons] at h
    rw [cv_succ, hg _ (by omega), Int.mul_zero, cv_far hb hg xs k (by omega)]
    rfl
/-- the first n values -/
def tb (n : Nat) (f : Nat → Int) : List Int := (List.range n).map f
theorem tb_len (n : Nat) (f : Nat → Int) : (tb n f).length = n := by
  unfold tb
  rw [List.length_map, List.length_range]
theorem co_tb {n : Nat} {f : Nat → Int} (k : Nat) : co (tb n f) k = if k < n then f k else 0 := by
  unfold co tb
  rw [List.getD_eq_getElem?_getD, List.getElem?_map]
  by_cases h : k < n
  · rw [List.getElem?_range h, if_pos h]
    rfl
  · rw [List.getElem?_eq_none (by rw [List.length_range]; omega), if_neg h]
    rfl
theorem co_far {l : List Int} {i : Nat} (h : l.length ≤ i) : co l i = 0 := by
  unfold co
  rw [List.getD_eq_getElem?_getD, List.getElem?_eq_none h]
  rfl
theorem co_get {l : List Int} {i : Nat} (h : i < l.length) : co l i = l[i] := by
  unfold co
  rw [List.getD_eq_getElem?_getD, List.getElem?_eq_getElem h]
  rfl
theorem co_inj {l m : List Int} (hl : l.length = m.length) (h : ∀ i, co l i = co m i) : l = m := by
  refine List.ext_getElem hl fun i h1 h2 => ?_
  rw [← co_get h1, ← co_get h2, h]
theorem tb_co (l : List Int) : tb l.length (co l) = l := co_inj (tb_len _ _) fun i => by
  rw [co_tb]
  split
  · rfl
  · exact (co_far (by omega)).symm
/-- the product of two forms -/
def ml (l m : List Int) : List Int := tb (l.length + m.length - 1) (cv l (co m))
theorem ml_len (l m : List Int) : (ml l m).length = l.length + m.length - 1 := tb_len _ _
theorem co_ml {l m : List Int} (hm : m ≠ []) (k : Nat) : co (ml l m) k = cv l (co m) k := by
  unfold ml
  rw [co_tb]
  by_cases h : k < l.length + m.length - 1
  · rw [if_pos h]
  · rw [if_neg h]
    have h1 : 0 < m.length := List.length_pos_iff.mpr hm
    exact (cv_far (b := m.length) (by omega) (fun i hi => co_far hi) l k (by omega)).symm
theorem ml_comm (l m : List Int) : ml l m = ml m l := by
  unfold ml
  rw [Nat.add_comm]
  unfold tb
  exact List.map_congr_left fun k _ => cv_comm l m k
/-- entry by entry -/
def pl (l m : List Int) : List Int := List.zipWith (· + ·) l m
theorem pl_len {l m : List Int} (h : l.length = m.length) : (pl l m).length = l.length := by
  unfold pl
  rw [List.length_zipWith, h, Nat.min_self]
end K76

set_option Elab.async false
set_option linter.all false
set_option maxRecDepth 100000
/-! the contents of forms -/
namespace K76
theorem least (P : Nat → Prop) (n : Nat) (h : P n) : ∃ m, P m ∧ ∀ k, P k → m ≤ k := by
  induction n using Nat.strongRecOn with
  | _ n ih =>
    by_cases c : ∃ k, k < n ∧ P k
    · obtain ⟨k, hk, pk⟩ := c
      exact ih k hk pk
    · exact ⟨n, h, fun k pk => Nat.le_of_not_lt fun z => c ⟨k, z, pk⟩⟩
structure Prm (p : Nat) : Prop where
  gt : 1 < p
  pr : ∀ a b : Nat, p ∣ a * b → p ∣ a ∨ p ∣ b
theorem prm_of {n : Nat} (h : n ≠ 1) : ∃ p, Prm p ∧ p ∣ n := by
  obtain ⟨d, ⟨d1, dn⟩, hmin⟩ := least (fun d => 1 < d ∧ d ∣ n) (if n = 0 then 2 else n) (by
    by_cases c : n = 0
    · rw [if_pos c, c]
      exact ⟨by omega, Nat.dvd_zero _⟩
    · rw [if_neg c]
      exact ⟨by omega, Nat.dvd_refl _⟩)
  refine ⟨d, ⟨d1, fun a b hab => ?_⟩, dn⟩
  by_cases c : d ∣ a
  · exact .inl c
  · refine .inr ?_
    have g0 : 0 < Nat.gcd d a := Nat.gcd_pos_of_pos_left a (by omega)
    have g1 : Nat.gcd d a ∣ n := Nat.dvd_trans (Nat.gcd_dvd_left d a) dn
    have g2 : Nat.gcd d a = 1 := by
      by_cases z : Nat.gcd d a = 1
      · exact z
      · have h1 := hmin _ ⟨show 1 < Nat.gcd d a by omega, g1⟩
        have h2 : Nat.gcd d a ≤ d := Nat.le_of_dvd (by omega) (Nat.gcd_dvd_left d a)
        have h3 : Nat.gcd d a = d := by omega
        exact absurd (h3 ▸ Nat.gcd_dvd_right d a) c
    have g3 : Nat.Coprime d a := g2
    exact g3.dvd_of_dvd_mul_left hab
theorem Prm.int {p : Nat} (h : Prm p) {x y : Int} (d : (p : Int) ∣ x * y) : (p : Int) ∣ x ∨ (p : Int) ∣ y := by
  have e := Int.natAbs_dvd_natAbs.mpr d
  rw [Int.natAbs_mul] at e
  rcases h.pr _ _ e with e | e
  · exact .inl (Int.natAbs_dvd_natAbs.mp e)
  · exact .inr (Int.natAbs_dvd_natAbs.mp e)
theorem cv_dvd {p : Int} {g : Nat → Int} : ∀ (l : List Int) (k : Nat), (∀ t, t ≤ k → p ∣ g t) → p ∣ cv l g k
  | [], _, _ => Int.dvd_zero p
  | x :: xs, 0, h => by
    rw [cv_zero]
    exact Int.dvd_mul_of_dvd_right (h 0 (Nat.le_refl _))
  | x :: xs, k + 1, h => by
    rw [cv_succ]
    exact Int.dvd_add (Int.dvd_mul_of_dvd_right (h _ (Nat.le_refl _))) (cv_dvd xs k fun t ht => h t (by omega))
theorem gauss {p : Nat} (hp : Prm p) {g : Nat → Int} {j : Nat} (h1 : ∀ t, t < j → (p : Int) ∣ g t) (h2 : ¬ (p : Int) ∣ g j) : ∀ l : List Int, (∃ x ∈ l, ¬ (p : Int) ∣ x) → ∃ k, ¬ (p : Int) ∣ cv l g k
  | [], h => by
    obtain ⟨x, hx, _⟩ := h
    cases hx
  | x :: xs, h => by
    by_cases c : (p : Int) ∣ x
    · obtain ⟨y, hy, hd⟩ := h
      have hy2 : y ∈ xs := by
        rcases List.mem_cons.mp hy with e | e
        · rw [e] at hd
          exact absurd c hd
        · exact e
      obtain ⟨k, hk⟩ := gauss hp h1 h2 xs ⟨y, hy2, hd⟩
      refine ⟨k + 1, fun z => hk ?_⟩
      rw [cv_succ] at z
      exact (Int.dvd_add_right (Int.dvd_mul_of_dvd_left c)).mp z
    · refine ⟨j, fun z => ?_⟩
      cases j with
      | zero =>
        rw [cv_zero] at z
        rcases hp.int z with e | e
        · exact c e
        · exact h2 e
      | succ j =>
        rw [cv_succ] at z
        have := (Int.dvd_add_left (cv_dvd xs j fun t ht => h1 t (by omega))).mp z
        rcases hp.int this with e | e
        · exact c e
        · exact h2 e
/-- the greatest common divisor of all -/
def cont : List Int → Nat
  | [] => 0
  | x :: xs => Nat.gcd x.natAbs (cont xs)
theorem cont_dvd : ∀ (l : List Int) (x : Int), x ∈ l → (cont l : Int) ∣ x
  | y :: ys, x, h => by
    rcases List.mem_cons.mp h with e | e
    · rw [e]
      exact Int.natAbs_dvd_natAbs.mp (by show Nat.gcd _ _ ∣ _; exact Nat.gcd_dvd_left _ _)
    · have := cont_dvd ys x e
      exact Int.dvd_trans (Int.natAbs_dvd_natAbs.mp (by show Nat.gcd _ _ ∣ cont ys; exact Nat.gcd_dvd_right _ _)) this
theorem dvd_cont {d : Nat} : ∀ l : List Int, (∀ x ∈ l, (d : Int) ∣ x) → d ∣ cont l
  | [], _ => Nat.dvd_zero d
  | y :: ys, h => Nat.dvd_gcd (Int.natAbs_dvd_natAbs.mpr (h y List.mem_cons_self)) (dvd_cont ys fun x hx => h x (List.mem_cons_of_mem _ hx))
theorem cont_scale (c : Int) : ∀ l : List Int, cont (l.map (c * ·)) = c.natAbs * cont l
  | [] => rfl
  | x :: xs => by
    show Nat.gcd (c * x).natAbs (cont (xs.map (c * ·))) = c.natAbs * Nat.gcd x.natAbs (cont xs)
    rw [cont_scale c xs, Int.natAbs_mul, Nat.gcd_mul_left]
theorem cont_zero {l : List Int} (h : cont l = 0) : ∀ x ∈ l, x = 0 := fun x hx => by
  have := cont_dvd l x hx
  rw [h] at this
  exact Int.zero_dvd.mp this
theorem co_mem {l : List Int} {k : Nat} : co l k = 0 ∨ co l k ∈ l := by
  by_cases h : k < l.length
  · rw [co_get h]
    exact .inr (List.getElem_mem h)
  · exact .inl (co_far (by omega))
theorem cont_one {l m : List Int} (hm : m ≠ []) (h1 : cont l = 1) (h2 : cont m = 1) : cont (ml l m) = 1 := by
  by_cases c : cont (ml l m) = 1
  · exact c
  · obtain ⟨p, hp, hd⟩ := prm_of c
    have key : ∀ n : List Int, cont n = 1 → ∃ x ∈ n, ¬ (p : Int) ∣ x := fun n hn => by
      by_cases z : ∃ x ∈ n, ¬ (p : Int) ∣ x
      · exact z
      · have h3 : p ∣ cont n := dvd_cont n fun x hx => Classical.byContradiction fun q => z ⟨x, hx, q⟩
        rw [hn] at h3
        have := Nat.le_of_dvd (by omega) h3
        have := hp.gt
        omega
    obtain ⟨y, hy, hyd⟩ := key m h2
    obtain ⟨j0, hj0, ej⟩ := List.mem_iff_getElem.mp hy
    obtain ⟨j, hj, hmin⟩ := least (fun j => ¬ (p : Int) ∣ co m j) j0 (by
      show ¬ (p : Int) ∣ co m j0
      rw [co_get hj0, ej]
      exact hyd)
    obtain ⟨k, hk⟩ := gauss hp (g := co m) (j := j) (fun t ht => Classical.byContradiction fun z => by
      have := hmin t z
      omega) hj l (key l h1)
    refine absurd ?_ hk
    rw [← co_ml hm]
    rcases co_mem (l := ml l m) (k := k) with e | e
    · rw [e]
      exact Int.dvd_zero _
    · exact Int.dvd_trans (Int.natCast_dvd_natCast.mpr hd) (cont_dvd _ _ e)
/-- each form is its content times a form of the content 1, or all 0 -/
theorem cont_split {l : List Int} {d : Int} (h : d.natAbs = cont l) (h0 : cont l ≠ 0) : ∃ m, l = m.map (d * ·) ∧ cont m = 1 := by
  have hd : ∀ x ∈ l, d ∣ x := fun x hx => Int.natAbs_dvd_natAbs.mp (by rw [h]; exact Int.natAbs_dvd_natAbs.mpr (cont_dvd l x hx))
  have d0 : d ≠ 0 := fun e => by rw [e] at h; exact h0 h.symm
  refine ⟨l.map (· / d), ?_, ?_⟩
  · rw [List.map_map]
    conv => lhs; rw [← List.map_id l]
    exact List.map_congr_left fun x hx => (Int.mul_ediv_cancel' (hd x hx)).symm
  · have e : l = (l.map (· / d)).map (d * ·) := by
      rw [List.map_map]
      conv => lhs; rw [← List.map_id l]
      exact List.map_congr_left fun x hx => (Int.mul_ediv_cancel' (hd x hx)).symm
    have e2 := cont_scale d (l.map (· / d))
    rw [← e, h] at e2
    have hp : 0 < cont l := by omega
    exact Nat.eq_of_mul_eq_mul_left hp (by rw [← e2, Nat.mul_one])
theorem co_map (c : Int) (l : List Int) (k : Nat) : co (l.map (c * ·)) k = c * co l k := by
  by_cases h : k < l.length
  · rw [co_get (by rw [List.length_map]; exact h), co_get h, List.getElem_map]
  · rw [co_far (by rw [List.length_map]; omega), co_far (by omega), Int.mul_zero]
theorem ml_scale (c : Int) {l m : List Int} (hm : m ≠ []) : ml (l.map (c * ·)) m = (ml l m).map (c * ·) :=
  co_inj (by rw [List.length_map, ml_len, ml_len, List.length_map]) fun k => by
    rw [co_map, co_ml hm, co_ml hm, cv_comm, cv_comm l, ← cv_mul]
    exact cv_ext m (fun i => co_map c l i) k
theorem cont_ml {l m : List Int} (hl : l ≠ []) (hm : m ≠ []) : cont (ml l m) = cont l * cont m := by
  have zer : ∀ a b : List Int, b ≠ [] → cont a = 0 → cont (ml a b) = 0 := fun a b hb ha => by
    have hz : a = a.map ((0 : Int) * ·) := by
      conv => lhs; rw [← List.map_id a]
      exact List.map_congr_left fun x hx => by rw [cont_zero ha x hx]; rfl
    rw [hz, ml_scale 0 hb, cont_scale]
    exact Nat.zero_mul _
  by_cases c1 : cont l = 0
  · rw [zer l m hm c1, c1, Nat.zero_mul]
  · by_cases c2 : cont m = 0
    · rw [ml_comm, zer m l hl c2, c2, Nat.mul_zero]
    · obtain ⟨a, ea, ca⟩ := cont_split (d := (cont l : Int)) rfl c1
      obtain ⟨b, eb, cb⟩ := cont_split (d := (cont m : Int)) rfl c2
      have hb : b ≠ [] := fun e => by rw [e] at eb; exact hm eb
      have ha : a ≠ [] := fun e => by rw [e] at ea; exact hl ea
      have e : ml l m = ((ml a b).map ((cont l : Int) * ·)).map ((cont m : Int) * ·) := by
        rw [← ml_scale _ hb, ← ea, ml_comm l b, ← ml_scale _ hl, ← eb, ml_comm]
      rw [e, cont_scale, cont_scale, cont_one hb ca cb, Nat.mul_one, Nat.mul_comm]
      rfl
end K76

set_option Elab.async false
set_option linter.all false
set_option maxRecDepth 100000
set_option maxHeartbeats 4000000
namespace K76
open PySem PySem.Spec PyProof.Rows L2 MyR SlX OwnR OwnF
/-- an int of at most sixty digits -/
def Sho (i : Int) : Prop := i.natAbs < 10 ^ 60
theorem Same.rf (H : Hp) : Same H H := fun _ _ h => h
@[elab_as_elim] theorem gen_upd {G : Hp → Prop} (H : Hp) (p : Addr) (o : HO) (n : H p = none) (h : ∀ H', Same H H' → H' p = some o → G H') : G (upd H p o) := h _ (same_upd0 n) upd_same
section
variable {P : Program} {w : World} {K : PySem.W.Frag} {mg : Str → Option Value} {base : Heap}
def spWhole : Sp := fun vs H Q _ => ∃ i : Int, vs = [.int i] ∧ Q (.bl true) H
theorem ok_is_whole (T : Facts K mg) : FnOk P w K mg base CX0 1 T.f_is_whole T.fd_is_whole ["value"] spWhole := by
  refine T.F_is_whole.ok sc_is_whole (fun vs H Q E h => ?_) (fun cdv A outer s H vs Q E hr h => ?_)
  · obtain ⟨i, rfl, _⟩ := h
    rfl
  · obtain ⟨i, rfl, q⟩ := h
    refine ⟨_, (PSs.nox (pss_one (ps_ret (pe_and (pe_callB call_isi (by rfl) T.z_isinstance (by decide +kernel) (pa_cons (pv 0) (pa_cons (pe_bltn (v := .ty "int") (by rfl) T.z_int (by decide +kernel) rfl) pa_nil))) (pe_one (pe_not (pe_callB call_isi (by rfl) T.z_isinstance (by decide +kernel) (pa_cons (pv 0) (pa_cons (pe_bltn (v := .ty "bool") (by rfl) T.z_bool (by decide +kernel) rfl) pa_nil))))))))), ?_⟩
    refine ⟨_, rfl, .int i, .ty "int", .type "int", .type "int", true, rfl, .ty "int", .base (.int i), kit_ty (show kitB "int" "int" = some true by decide +kernel), true, rfl, iteT ?_⟩
    exact ⟨_, rfl, .int i, .ty "bool", .type "int", .type "bool", false, rfl, .ty "bool", .base (.int i), kit_ty (show kitB "int" "bool" = some false by decide +kernel), false, rfl, q⟩
def spShort : Sp := fun vs H Q _ => ∃ i : Int, vs = [.int i] ∧ Sho i ∧ Q (.bl true) H
theorem ok_is_short (T : Facts K mg) : FnOk P w K mg base CX0 2 T.f_is_short T.fd_is_short ["value"] spShort := by
  have G_is_whole : FnOk P w K mg base CX0 1 T.f_is_whole T.fd_is_whole ["value"] spWhole := ok_is_whole T
  refine T.F_is_short.ok sc_is_short (fun vs H Q E h => ?_) (fun cdv A outer s H vs Q E hr h => ?_)
  · obtain ⟨i, rfl, _⟩ := h
    rfl
  · obtain ⟨i, rfl, hi, q⟩ := h
    have e60 : (10 : Nat) ^ 60 = 1000000000000000000000000000000000000000000000000000000000000 := by decide
    unfold Sho at hi
    rw [e60] at hi
    refine ⟨_, (PSs.nox (pss_one (ps_ret (pe_and (pe_call G_is_whole hr (by rfl) T.g_is_whole T.F_is_whole.kp T.b_is_whole .nil pass0 (pa_cons (pv 0) pa_nil)) (pe_one (pe_chain op_lt op_lt (pe_un un_neg (pe_glob (v := .int 1000000000000000000000000000000000000000000000000000000000000) (by rfl) T.c_GREATEST.choose_spec ⟨_, rfl⟩)) (pv 0) (pe_glob (v := .int 1000000000000000000000000000000000000000000000000000000000000) (by rfl) T.c_GREATEST.choose_spec ⟨_, rfl⟩))))))), ?_⟩
    refine ⟨_, rfl, i, rfl, true, rfl, iteT ⟨_, rfl, _, rfl, _, i, rfl, rfl, true, ?_, iteT ⟨i, _, rfl, rfl, ?_⟩⟩⟩
    · show V.bl (decide (-1000000000000000000000000000000000000000000000000000000000000 < i)) = V.bl true
      rw [decide_eq_true (by omega)]
    · show Q (V.bl (decide (i < 1000000000000000000000000000000000000000000000000000000000000))) H
      rw [decide_eq_true (by omega)]
      exact q
/-- a tuple of ints -/
abbrev tp (ns : List Int) : HO := .tup (ns.map V.int)
def spAreShort : Sp := fun vs H Q _ => ∃ (t : Addr) (ns : List Int), vs = [.ref t] ∧ H t = some (tp ns) ∧ ns.length ≤ 1000 ∧ (∀ x ∈ ns, Sho x) ∧ ∀ H', Same H H' → Q (.bl true) H'
theorem ok_are_short (T : Facts K mg) : FnOk P w K mg base CX0 3 T.f_are_short T.fd_are_short ["value"] spAreShort := by
  have G_is_short : FnOk P w K mg base CX0 2 T.f_is_short T.fd_is_short ["value"] spShort := ok_is_short T
  refine T.F_are_short.ok sc_are_short (fun vs H Q E h => ?_) (fun cdv A outer s H vs Q E hr h => ?_)
  · obtain ⟨t, ns, rfl, _⟩ := h
    rfl
  · obtain ⟨t, ns, rfl, ht, hl, hs, q⟩ := h
    refine ⟨_, (PSs.nox (pss_one (ps_ret (pe_and (pe_callB call_isi (by rfl) T.z_isinstance (by decide +kernel) (pa_cons (pv 0) (pa_cons (pe_bltn (v := .ty "tuple") (by rfl) T.z_tuple (by decide +kernel) rfl) pa_nil))) (pe_one (pe_callB (cr_all (by rfl)) (by rfl) T.z_all (by decide +kernel) (pa_cons (pe_lc (own := [("entry", 1)]) (g := (gName 1)) (tt := tYes) (by rfl) sc_are_short.nd (pi_tup (pv 0)) (blkOk_by (N := N_are_short) (sc := defScope s_are_short) (by decide +kernel)) (fun _ _ _ _ _ => (pg_name (i := 1) sc_are_short.nd rfl (.inl rfl))) (fun _ _ _ _ _ => pts_nil) (fun _ _ _ _ _ => (pe_call G_is_short hr (by rfl) T.g_is_short T.F_is_short.kp T.b_is_short .nil pass0 (pa_cons (pv 1) pa_nil)))) pa_nil))))))), ?_⟩
    refine ⟨_, rfl, .ref t, .ty "tuple", .type "tuple", .type "tuple", true, rfl, .ty "tuple", .base (.tup ht), kit_ty (show kitB "tuple" "tuple" = some true by decide +kernel), true, rfl, iteT ?_⟩
    refine ⟨_, rfl, t, rfl, ⟨_, SqT.of ht⟩, fun D hD => lc_tup (xs := ns.map V.int) (fun i H' => H' = upd H D (.lst (List.replicate i (V.bl true)))) rfl (fun i H' hi hP => ?_) (fun i x H' hi hP => ?_) (fun H' hP => ?_)⟩
    · rw [hP]
      exact SqT.of (same_upd0 hD _ _ ht)
    · subst hP
      rw [List.getElem?_map] at hi
      obtain ⟨y, hy, rfl⟩ := Option.map_eq_some_iff.mp hi
      have hlt : i < ns.length := (List.getElem?_eq_some_iff.mp hy).1
      refine ⟨rfl, ⟨_, rfl, y, rfl, hs y (List.mem_of_getElem? hy), _, upd_same, ?_, ?_⟩⟩
      · rw [List.length_replicate]
        exact small1000 (by omega)
      · rw [upd_upd, List.replicate_succ']
    · subst hP
      rw [List.length_map]
      refine ⟨D, List.replicate ns.length true, rfl, SqL.of (by rw [upd_same, List.map_replicate]), ?_⟩
      have e : (List.replicate ns.length true).all id = true := by
        rw [List.all_eq_true]
        intro x hx
        rw [(List.mem_replicate.mp hx).2]
        rfl
      rw [e]
      exact q _ (same_upd0 hD)
def spAreEntries : Sp := fun vs H Q _ => ∃ (t : Addr) (ns : List Int), vs = [.ref t] ∧ H t = some (tp ns) ∧ 1 ≤ ns.length ∧ ns.length ≤ 41 ∧ (∀ x ∈ ns, Sho x) ∧ ∀ H', Same H H' → Q (.bl true) H'
theorem ok_are_entries (T : Facts K mg) : FnOk P w K mg base CX0 4 T.f_are_entries T.fd_are_entries ["value"] spAreEntries := by
  have G_are_short : FnOk P w K mg base CX0 3 T.f_are_short T.fd_are_short ["value"] spAreShort := ok_are_short T
  refine T.F_are_entries.ok sc_are_entries (fun vs H Q E h => ?_) (fun cdv A outer s H vs Q E hr h => ?_)
  · obtain ⟨t, ns, rfl, _⟩ := h
    rfl
  · obtain ⟨t, ns, rfl, ht, h1, h41, hs, q⟩ := h
    refine ⟨_, (PSs.nox (pss_one (ps_ret (pe_and (pe_call G_are_short hr (by rfl) T.g_are_short T.F_are_short.kp T.b_are_short .nil pass0 (pa_cons (pv 0) pa_nil)) (pe_one (pe_chain op_le op_le pe_int (pe_callB call_len_seq (by rfl) T.z_len (by decide +kernel) (pa_cons (pv 0) pa_nil)) (pe_op op_add (pe_glob (v := .int 40) (by rfl) T.c_MAX_DEGREE.choose_spec ⟨_, rfl⟩) pe_int))))))), ?_⟩
    refine ⟨_, rfl, t, ns, rfl, ht, by omega, hs, fun H1 s1 => ⟨true, rfl, iteT ?_⟩⟩
    have ht1 := s1 _ _ ht
    refine ⟨_, rfl, t, _, rfl, .inr (SqT.of ht1), 1, _, rfl, rfl, true, ?_, iteT ⟨_, _, rfl, rfl, _, _, rfl, rfl, ?_⟩⟩
    · rw [List.length_map]
      show V.bl (decide ((1 : Int) ≤ (ns.length : Int))) = V.bl true
      rw [decide_eq_true (by omega)]
    · rw [List.length_map]
      show Q (V.bl (decide ((ns.length : Int) ≤ 40 + 1))) H1
      rw [decide_eq_true (by omega)]
      exact q H1 s1
/-! ### making a form -/
/-- a form with these entries -/
def Fo (C : Addr) (H : Hp) (a : Addr) (ns : List Int) : Prop := ∃ dx t, H a = some (SlO a C dx [some (.ref t)]) ∧ H dx = some (.xd []) ∧ H t = some (tp ns)
theorem Fo.same {C a : Addr} {H H' : Hp} {ns : List Int} (h : Fo C H a ns) (s : Same H H') : Fo C H' a ns := by
  obtain ⟨dx, t, h1, h2, h3⟩ := h
  exact ⟨dx, t, s _ _ h1, s _ _ h2, s _ _ h3⟩
theorem Fo.slt {C a : Addr} {H : Hp} {ns : List Int} (h : Fo C H a ns) : ∃ dx t, Slt H a C dx [some (.ref t)] ∧ H t = some (tp ns) := by
  obtain ⟨dx, t, h1, h2, h3⟩ := h
  exact ⟨dx, t, .inr ⟨h1, h2⟩, h3⟩
/-- Told(row) -/
def spTold (C : Addr) : Sp := fun vs H Q _ => ∃ (x dx : Addr) (v : V), vs = [.ref x, v] ∧ Slt H x C dx [] ∧ Q .non (slH H x C dx [some v])
theorem ok_Told_init (T : Facts K mg) : FnOk P w K mg base CX0 1 T.f_Told_init T.fd_Told_init ["self", "row"] (spTold T.C_Told) := by
  refine T.F_Told_init.ok sc_Told_init (fun vs H Q E h => ?_) (fun cdv A outer s H vs Q E hr h => ?_)
  · obtain ⟨x, dx, v, rfl, _⟩ := h
    rfl
  · obtain ⟨x, dx, v, rfl, hx, q⟩ := h
    refine ⟨_, (PSs.nox (pss_one (ps_sl (pv 0) (pv 1)))), ?_⟩
    exact ⟨_, rfl, _, rfl, x, T.C_Told, dx, T.a_own_row, [], 0, rfl, hx, T.oc_Told.scl, T.sl_own_row, q⟩
/-- Form(entries) -/
def spForm (CT CF : Addr) : Sp := fun vs H Q _ => ∃ (x dx y t : Addr), vs = [.ref x, .ref y] ∧ Slt H x CF dx [] ∧ ((∃ dy, Slt H y CT dy [some (.ref t)]) ∨ ∃ ns, y = t ∧ H t = some (tp ns) ∧ 1 ≤ ns.length ∧ ns.length ≤ 41 ∧ ∀ z ∈ ns, Sho z) ∧ ∀ H', Same H H' → Q .non (slH H' x CF dx [some (.ref t)])
theorem Slt.same {C a dx : Addr} {vs : List (Option V)} {H H' : Hp} (h : Slt H a C dx vs) (s : Same H H') : Slt H' a C dx vs := by
  rcases h with ⟨h1, h2⟩ | ⟨h1, h2⟩
  · exact .inl ⟨s _ _ h1, h2⟩
  · exact .inr ⟨s _ _ h1, s _ _ h2⟩
theorem ok_Form_init (T : Facts K mg) : FnOk P w K mg base CX0 5 T.f_Form_init T.fd_Form_init ["self", "entries"] (spForm T.C_Told T.C_Form) := by
  have G_are_entries : FnOk P w K mg base CX0 4 T.f_are_entries T.fd_are_entries ["value"] spAreEntries := ok_are_entries T
  refine T.F_Form_init.ok sc_Form_init (fun vs H Q E h => ?_) (fun cdv A outer s H vs Q E hr h => ?_)
  · obtain ⟨x, dx, y, t, rfl, _⟩ := h
    rfl
  · obtain ⟨x, dx, y, t, rfl, hx, hy, q⟩ := h
    refine ⟨_, (PSs.nox (pss_cons (ps_if (pw_and (pt_not (pt_val (pe_callB (call_isiF T.C_Told) (by rfl) T.z_isinstance (by decide +kernel) (pa_cons (pv 1) (pa_cons (pe_glob (v := .ref T.C_Told) (by rfl) T.g_Told rfl) pa_nil))))) (pw_and1 (pt_not (pt_val (pe_call G_are_entries hr (by rfl) T.g_are_entries T.F_are_entries.kp T.b_are_entries .nil pass0 (pa_cons (pv 1) pa_nil)))))).pt
      (pss_one ps_never)
      pss_nil)
    (pss_one (ps_sl (pv 0) (pe_ifExp (pt_val (pe_callB (call_isiF T.C_Told) (by rfl) T.z_isinstance (by decide +kernel) (pa_cons (pv 1) (pa_cons (pe_glob (v := .ref T.C_Told) (by rfl) T.g_Told rfl) pa_nil)))) (pe_sl (pv 1)) (pv 1)))))), ?_⟩
    rcases hy with ⟨dy, hy⟩ | ⟨ns, rfl, ht, h1, h41, hs⟩
    · refine ⟨_, rfl, .inr ⟨y, T.C_Told, dy, _, .ref T.C_Told, true, rfl, rfl, fun w r => r, hy, T.oc_Told.scl, T.oc_Told.sis, T.oc_Told.kself, true, rfl, iteF ?_⟩⟩
      refine ⟨_, rfl, .inr ⟨y, T.C_Told, dy, _, .ref T.C_Told, true, rfl, rfl, fun w r => r, hy, T.oc_Told.scl, T.oc_Told.sis, T.oc_Told.kself, true, rfl, iteT ?_⟩⟩
      refine ⟨_, rfl, y, T.C_Told, dy, T.a_own_row, _, 0, .ref t, rfl, hy, T.oc_Told.scl, T.sl_own_row, rfl, ?_⟩
      exact ⟨_, rfl, x, T.C_Form, dx, T.a_own_entries, [], 0, rfl, hx, T.oc_Form.scl, T.sl_own_entries, q H (Same.rf H)⟩
    · refine ⟨_, rfl, .inl ⟨.ref y, .ref T.C_Told, .type "tuple", .ref T.C_Told, false, rfl, .own _, .base (.tup ht), T.oc_Told.ktup, false, rfl, iteT ?_⟩⟩
      refine ⟨_, rfl, y, ns, rfl, ht, h1, h41, hs, fun H1 s1 => ⟨true, rfl, iteF ?_⟩⟩
      refine ⟨_, rfl, .inl ⟨.ref y, .ref T.C_Told, .type "tuple", .ref T.C_Told, false, rfl, .own _, .base (.tup (s1 _ _ ht)), T.oc_Told.ktup, false, rfl, iteF ?_⟩⟩
      exact ⟨_, rfl, _, rfl, x, T.C_Form, dx, T.a_own_entries, [], 0, rfl, Slt.same hx s1, T.oc_Form.scl, T.sl_own_entries, q H1 s1⟩
/-- what making leaves -/
theorem made {C x dx : Addr} {v : V} {H' H0 : Hp} (hx : H0 x = none) (hdx : H0 dx = none) (hne : dx ≠ x) (s : Same (upd (upd H0 dx (.own x)) x (.ins C dx [])) H') : Same H0 (slH H' x C dx [some v]) := fun b o e => by
  have h1 : b ≠ x := ne_of_none e hx
  have h2 : b ≠ dx := ne_of_none e hdx
  rw [slH_ne h1 h2]
  exact s _ _ (by rw [upd_ne h1, upd_ne h2]; exact e)
/-- what is made of a row -/
def spMake (C : Addr) : Sp := fun vs H Q _ => ∃ (t : Addr) (ns : List Int), vs = [.ref t] ∧ H t = some (tp ns) ∧ ∀ p H', Same H H' → H p = none → Fo C H' p ns → Q (.ref p) H'
theorem ok_form_of (T : Facts K mg) : FnOk P w K mg base CX0 7 T.f_form_of T.fd_form_of ["entries"] (spMake T.C_Form) := by
  have G_Told_init : FnOk P w K mg base CX0 1 T.f_Told_init T.fd_Told_init ["self", "row"] (spTold T.C_Told) := ok_Told_init T
  have G_Form_init : FnOk P w K mg base CX0 5 T.f_Form_init T.fd_Form_init ["self", "entries"] (spForm T.C_Told T.C_Form) := ok_Form_init T
  refine T.F_form_of.ok sc_form_of (fun vs H Q E h => ?_) (fun cdv A outer s H vs Q E hr h => ?_)
  · obtain ⟨t, ns, rfl, _⟩ := h
    rfl
  · obtain ⟨t, ns, rfl, ht, q⟩ := h
    refine ⟨_, (PSs.nox (pss_one (ps_ret (pe_make T.mk_Form G_Form_init (hr.mono (by decide)) (by rfl) T.g_Form T.b_Form_init .nil pass0 (pa_cons (pe_make T.mk_Told G_Told_init (hr.mono (by decide)) (by rfl) T.g_Told T.b_Told_init .nil pass0 (pa_cons (pv 0) pa_nil)) pa_nil))))), ?_⟩
    refine ⟨_, rfl, fun x dx hx hdx hne => ⟨x, dx, .ref t, rfl, .inl ⟨upd_same, rfl⟩, rfl, ?_⟩⟩
    have s1 : Same H (slH (upd (upd H dx (.own x)) x (.ins T.C_Told dx [])) x T.C_Told dx [some (.ref t)]) := made hx hdx hne (Same.rf _)
    have y1 : Slt (slH (upd (upd H dx (.own x)) x (.ins T.C_Told dx [])) x T.C_Told dx [some (.ref t)]) x T.C_Told dx [some (.ref t)] := slH_slt hne
    generalize slH (upd (upd H dx (.own x)) x (.ins T.C_Told dx [])) x T.C_Told dx [some (.ref t)] = H1 at s1 y1 ⊢
    refine fun x2 dx2 hx2 hdx2 hne2 => ⟨x2, dx2, x, t, rfl, .inl ⟨upd_same, rfl⟩, .inl ⟨dx, ?_⟩, fun H2 s2 => ⟨rfl, ?_⟩⟩
    · exact slt_upd (slt_upd y1 hdx2) (by rw [upd_ne (Ne.symm hne2)]; exact hx2)
    · have s3 : Same H1 (slH H2 x2 T.C_Form dx2 [some (.ref t)]) := made hx2 hdx2 hne2 s2
      have hx0 : H x2 = none := by
        cases e : H x2 with
        | none => rfl
        | some o =>
          have := s1 _ _ e
          rw [hx2] at this
          cases this
      refine q x2 _ (fun b o e => s3 _ _ (s1 _ _ e)) hx0 ⟨dx2, t, upd_same, ?_, s3 _ _ (s1 _ _ ht)⟩
      unfold slH
      rw [upd_ne hne2, upd_same]
end
end K76

set_option Elab.async false
set_option linter.all false
set_option maxRecDepth 100000
set_option maxHeartbeats 4000000
namespace K76
open PySem PySem.Spec PyProof.Rows L2 MyR SlX OwnR OwnF
theorem cv_snoc (x : Int) (g : Nat → Int) : ∀ (l : List Int) (k : Nat), cv (l ++ [x]) g k = cv l g k + (if l.length ≤ k then x * g (k - l.length) else 0)
  | [], k => by
    show cv (x :: []) g k = 0 + (if 0 ≤ k then x * g (k - 0) else 0)
    rw [if_pos (Nat.zero_le k), Nat.sub_zero]
    cases k with
    | zero => rw [cv_zero]; omega
    | succ k => rw [cv_succ]; show x * g (k + 1) + 0 = 0 + x * g (k + 1); omega
  | y :: ys, 0 => by
    show cv (y :: (ys ++ [x])) g 0 = cv (y :: ys) g 0 + (if ys.length + 1 ≤ 0 then _ else 0)
    rw [cv_zero, cv_zero, if_neg (by omega)]
    omega
  | y :: ys, k + 1 => by
    show cv (y :: (ys ++ [x])) g (k + 1) = cv (y :: ys) g (k + 1) + (if ys.length + 1 ≤ k + 1 then x * g (k + 1 - (ys.length + 1)) else 0)
    rw [cv_succ, cv_succ, cv_snoc x g ys k, Nat.add_sub_add_right]
    by_cases h : ys.length ≤ k
    · rw [if_pos h, if_pos (by omega)]; omega
    · rw [if_neg h, if_neg (by omega)]; omega
/-- the entries so far: i rows, and j places of the next one -/
def J (xs : List Int) (g : Nat → Int) (i j k : Nat) : Int := cv (xs.take i) g k + (if i ≤ k ∧ k < i + j then co xs i * g (k - i) else 0)
theorem J_0 {xs : List Int} {g : Nat → Int} {i k : Nat} : J xs g i 0 k = cv (xs.take i) g k := by
  unfold J
  rw [if_neg (by omega)]
  omega
theorem J_step {xs : List Int} {g : Nat → Int} {i j k : Nat} : (if k = i + j then J xs g i j (i + j) + co xs i * g j else J xs g i j k) = J xs g i (j + 1) k := by
  unfold J
  by_cases h : k = i + j
  · subst h
    rw [if_pos rfl, if_neg (by omega), if_pos (by omega), Nat.add_sub_cancel_left]
    omega
  · rw [if_neg h]
    by_cases c : i ≤ k ∧ k < i + j
    · rw [if_pos c, if_pos (by omega)]
    · rw [if_neg c, if_neg (by omega)]
theorem J_end {xs ys : List Int} {i k : Nat} (hi : i < xs.length) : J xs (co ys) i ys.length k = cv (xs.take (i + 1)) (co ys) k := by
  unfold J
  have e : xs.take (i + 1) = xs.take i ++ [xs[i]] := by rw [List.take_add_one, List.getElem?_eq_getElem hi]; rfl
  have hl : (xs.take i).length = i := by rw [List.length_take]; omega
  rw [e, cv_snoc, hl, co_get hi]
  congr 1
  by_cases c : i ≤ k
  · by_cases d : k < i + ys.length
    · rw [if_pos ⟨c, d⟩, if_pos c]
    · rw [if_neg (by omega), if_pos c, co_far (by omega), Int.mul_zero]
  · rw [if_neg (by omega), if_neg c]
def tab (L : Nat) (f : Nat → Int) : List V := (List.range L).map fun k => V.int (f k)
theorem tab_tb (L : Nat) (f : Nat → Int) : tab L f = (tb L f).map V.int := by
  unfold tab tb
  rw [List.map_map]
  rfl
theorem tab_len (L : Nat) (f : Nat → Int) : (tab L f).length = L := by
  unfold tab
  rw [List.length_map, List.length_range]
theorem tab_get {L : Nat} {f : Nat → Int} {k : Nat} (h : k < L) : (tab L f)[k]? = some (.int (f k)) := by
  unfold tab
  rw [List.getElem?_map, List.getElem?_range h]
  rfl
theorem tab_ext {L : Nat} {f g : Nat → Int} (h : ∀ k, k < L → f k = g k) : tab L f = tab L g := by
  unfold tab
  exact List.map_congr_left fun k hk => by rw [h k (List.mem_range.mp hk)]
theorem tab_none {L : Nat} {f : Nat → Int} {k : Nat} (h : L ≤ k) : (tab L f)[k]? = none := List.getElem?_eq_none (by rw [tab_len]; exact h)
theorem tab_set {L : Nat} {f : Nat → Int} {j : Nat} {v : Int} : (tab L f).set j (.int v) = tab L (fun k => if k = j then v else f k) := by
  apply List.ext_getElem?
  intro k
  by_cases hk : k < L
  · rw [tab_get hk]
    by_cases e : k = j
    · subst e
      rw [List.getElem?_set_self (by rw [tab_len]; exact hk), if_pos rfl]
    · rw [List.getElem?_set_ne (Ne.symm e), tab_get hk, if_neg e]
  · rw [tab_none (Nat.le_of_not_lt hk), List.getElem?_eq_none (by rw [List.length_set, tab_len]; exact Nat.le_of_not_lt hk)]
theorem tab_rep (n : Nat) : List.replicate n (V.int 0) = tab n fun _ => 0 := by
  unfold tab
  rw [List.map_const', List.length_range]
theorem ix_at {n : Nat} {z : Int} {j : Nat} (e : z = (j : Int)) (h : j < n) : ixN n z = some j := by
  rw [e]
  exact Evl.ixN_nat h
theorem at_of {xs : List V} {z : Int} {j : Nat} {v : V} (e : z = (j : Int)) (h : xs[j]? = some v) : atI xs z = some v := by
  rw [e]
  exact atI_nat h
/-- ints of less than 400 bits -/
def sm (x : Int) : Prop := x.natAbs < 2 ^ 4000
theorem sm_mul {x y : Int} (hx : sm x) (hy : sm y) : CMulW x y := wide_mul hx hy (by decide) (by decide) (by decide)
theorem get_int {xs : List Int} {i : Nat} (h : i < xs.length) : (xs.map V.int)[i]? = some (.int (co xs i)) := by
  rw [List.getElem?_map, List.getElem?_eq_getElem h, co_get h]
  rfl
theorem sm_co {xs : List Int} {i : Nat} (h : ∀ x ∈ xs, sm x) (hi : i < xs.length) : sm (co xs i) := by
  rw [co_get hi]
  exact h _ (List.getElem_mem hi)
section
variable {P : Program} {w : World} {K : PySem.W.Frag} {mg : Str → Option Value} {base : Heap}
end
end K76

set_option Elab.async false
set_option linter.all false
set_option maxRecDepth 100000
set_option maxHeartbeats 4000000
namespace K76
open PySem PySem.Spec PyProof.Rows L2 StX RZ MyR SlX OwnR OwnF
/-- a comprehension over zip of two tuples of one length -/
theorem lc_zipT {K : PySem.W.Frag} {a b : Addr} {xs ys : List V} {g : TG} {tt : TT} {te : TE} {vs : List Nat} {σ : L2.St} {H1 : Hp} {D : Addr} {Qd : Hp → Prop} (hl : xs.length = ys.length) (Pv : Nat → Hp → Prop) (h0 : Pv 0 (upd H1 D (.lst []))) (hq : ∀ i H, i ≤ xs.length → Pv i H → SqT K H a xs ∧ SqT K H b ys)
    (hs : ∀ (i : Nat) (x y : V) (T : Addr) (H : Hp), xs[i]? = some x → ys[i]? = some y → Pv i H → H T = none → g (.ref T) (wipe σ vs) (upd H T (.tup [x, y])) fun σ2 H2 => wipe σ2 vs = wipe σ vs ∧ tt σ2 H2 fun b H3 =>
      if b = true then te σ2 H3 fun y H4 => ∃ acc, H4 D = some (.lst acc) ∧ acc.length < sizeLine ∧ Pv (i + 1) (upd H4 D (.lst (acc ++ [y]))) else Pv (i + 1) H3) (hd : ∀ H, Pv xs.length H → Qd H) :
    ∃ W : Nat → Nat → Hp → Prop, (∃ m, W 0 m (upd H1 D (.lst []))) ∧ ∀ i m H, W i m H →
      ((ItzT K a b).stop i H ∧ Qd H) ∨ ((ItzT K a b).go i H ∧ ∃ Nx : Hp → Prop, (∀ H', Nx H' → ∃ m', m' < m ∧ W (i + 1) m' H') ∧ ∀ x H', (ItzT K a b).yld i H x H' → g x (wipe σ vs) H' fun σ2 H2 => wipe σ2 vs = wipe σ vs ∧ tt σ2 H2 fun b H3 =>
        if b = true then te σ2 H3 fun y H4 => ∃ acc, H4 D = some (.lst acc) ∧ acc.length < sizeLine ∧ Nx (upd H4 D (.lst (acc ++ [y]))) else Nx H3) := by
  refine ⟨fun i m H => m = xs.length - i ∧ i ≤ xs.length ∧ Pv i H, ⟨xs.length, by simp, Nat.zero_le _, h0⟩, ?_⟩
  rintro i m H ⟨rfl, hi, p⟩
  obtain ⟨qx, qy⟩ := hq i H hi p
  by_cases hlt : i < xs.length
  · have hlt2 : i < ys.length := by omega
    have hx : xs[i]? = some xs[i] := List.getElem?_eq_getElem hlt
    have hy : ys[i]? = some ys[i] := List.getElem?_eq_getElem hlt2
    refine .inr ⟨⟨xs, ys, _, _, qx, qy, hx, hy⟩, Pv (i + 1), fun H' p' => ⟨xs.length - (i + 1), by omega, rfl, hlt, p'⟩, fun v H' y => ?_⟩
    obtain ⟨T, x', y', rfl, hT, rfl, f1, f2⟩ := y
    exact hs i x' y' T H (f1 xs qx) (f2 ys qy) p hT
  · have e : i = xs.length := by omega
    subst e
    exact .inl ⟨⟨xs, ys, qx, qy, Or.inl (Nat.le_refl _)⟩, hd H p⟩
/-- the sign of the first entry that is not 0 -/
def sg : List Int → Int
  | [] => 1
  | x :: xs => if x = 0 then sg xs else if 0 < x then 1 else -1
theorem sg_cases : ∀ l : List Int, sg l = 1 ∨ sg l = -1
  | [] => .inl rfl
  | x :: xs => by
    unfold sg
    split
    · exact sg_cases xs
    · split
      · exact .inl rfl
      · exact .inr rfl
def part (l : List Int) : Int := (cont l : Int) * sg l
theorem part_abs (l : List Int) : (part l).natAbs = cont l := by
  unfold part
  rw [Int.natAbs_mul]
  rcases sg_cases l with e | e <;> rw [e] <;> simp
theorem sm_cont {l : List Int} (h : ∀ x ∈ l, sm x) : cont l < 2 ^ 4000 := by
  by_cases c : ∃ x ∈ l, x ≠ 0
  · obtain ⟨x, hx, h0⟩ := c
    have h1 := Int.natAbs_dvd_natAbs.mpr (cont_dvd l x hx)
    have h2 := Nat.le_of_dvd (Int.natAbs_pos.mpr h0) h1
    exact Nat.lt_of_le_of_lt h2 (h x hx)
  · have hz : ∀ l : List Int, (∀ x ∈ l, x = 0) → cont l = 0 := by
      intro l
      induction l with
      | nil => intro _; rfl
      | cons y ys ih =>
        intro hl
        show Nat.gcd y.natAbs (cont ys) = 0
        rw [ih fun x hx => hl x (List.mem_cons_of_mem _ hx), hl y List.mem_cons_self]
        rfl
    rw [hz l fun x hx => Classical.byContradiction fun q => c ⟨x, hx, q⟩]
    decide
theorem sm_part {l : List Int} (h : ∀ x ∈ l, sm x) : sm (part l) := by
  show (part l).natAbs < _
  rw [part_abs]
  exact sm_cont h
/-- divided by its content, the first entry that is not 0 above 0 -/
def prim (l : List Int) : List Int := if part l = 0 then l else l.map fun x => x.fdiv (part l)
theorem tb_map (f : Int → Int) (l : List Int) : (tb l.length fun k => f (co l k)) = l.map f := by
  conv => rhs; rw [← tb_co l]
  unfold tb
  rw [List.map_map]
  rfl
section
variable {P : Program} {w : World} {K : PySem.W.Frag} {mg : Str → Option Value} {base : Heap}
def spZero : Sp := fun vs H Q _ => ∃ (t : Addr) (ns : List Int), vs = [.ref t] ∧ H t = some (tp ns) ∧ Q (.bl (!ns.any (· != 0))) H
theorem ok_is_zero_in (T : Facts K mg) : FnOk P w K mg base CX0 1 T.f_is_zero_in T.fd_is_zero_in ["entries"] spZero := by
  refine T.F_is_zero_in.ok sc_is_zero_in (fun vs H Q E h => ?_) (fun cdv A outer s H vs Q E hr h => ?_)
  · obtain ⟨t, ns, rfl, _⟩ := h
    rfl
  · obtain ⟨t, ns, rfl, ht, q⟩ := h
    refine ⟨_, (PSs.nox (pss_one (ps_ret (pe_not (pe_callB (cr_anyTI (by rfl)) (by rfl) T.z_any (by decide +kernel) (pa_cons (pv 0) pa_nil)))))), ?_⟩
    exact ⟨_, rfl, t, ns, rfl, SqT.of ht, _, rfl, q⟩
def spPrim : Sp := fun vs H Q _ => ∃ (t : Addr) (ns : List Int), vs = [.ref t] ∧ H t = some (tp ns) ∧ ns.length ≤ 1000 ∧ (∀ x ∈ ns, sm x) ∧ ∀ p H', Same H H' → H' p = some (tp (prim ns)) → Q (.ref p) H'
/-- the sum of one row and a multiple of the other -/
def zs (c : Int) (xs ys : List Int) : List Int := List.zipWith (fun x y => x + c * y) xs ys
end
end K76

set_option Elab.async false
set_option linter.all false
set_option maxRecDepth 100000
set_option maxHeartbeats 4000000
namespace K76
open PySem PySem.Spec PyProof.Rows L2 StX RZ MyR SlX OwnR OwnF
/-! ### == of tuples of ints -/
theorem dpAll_ints {K : PySem.W.Frag} {H : Hp} : ∀ ns : List Int, DpAll K H (ns.map V.int) (ns.map PyData.int)
  | [] => .nil
  | n :: r => .cons (.int n) (dpAll_ints r)
theorem lay_ints : ∀ ns : List Int, PyData.canLayAll0 (ns.map PyData.int) = true
  | [] => rfl
  | n :: r => by
    show (PyData.canLay0 (.int n) && PyData.canLayAll0 (r.map PyData.int)) = true
    rw [lay_ints r]
    rfl
theorem depth_ints : ∀ ns : List Int, PyData.depthAll (ns.map PyData.int) = 0
  | [] => rfl
  | n :: r => by
    show max (PyData.depth (.int n)) (PyData.depthAll (r.map PyData.int)) = 0
    rw [depth_ints r]
    rfl
theorem shaped_tints (ns : List Int) : SeqAt.shaped (.tuple (ns.map PyData.int)) = true := by
  unfold SeqAt.shaped
  rw [show PyData.canLay0 (.tuple (ns.map PyData.int)) = PyData.canLayAll0 (ns.map PyData.int) from rfl, lay_ints]
  rw [show PyData.depth (.tuple (ns.map PyData.int)) = PyData.depthAll (ns.map PyData.int) + 1 from rfl, depth_ints]
  rfl
/-! ### the properties, the operators -/
section
variable {P : Program} {w : World} {K : PySem.W.Frag} {mg : Str → Option Value} {base : Heap}
def spEnt (C : Addr) : Sp := fun vs H Q _ => ∃ (a : Addr) (ns : List Int), vs = [.ref a] ∧ Fo C H a ns ∧ ∀ t, H t = some (tp ns) → Q (.ref t) H
theorem ok_Form_entries (T : Facts K mg) : FnOk P w K mg base CX0 1 T.f_Form_entries T.fd_Form_entries ["self"] (spEnt T.C_Form) := by
  refine T.F_Form_entries.ok sc_Form_entries (fun vs H Q E h => ?_) (fun cdv A outer s H vs Q E hr h => ?_)
  · obtain ⟨a, ns, rfl, _⟩ := h
    rfl
  · obtain ⟨a, ns, rfl, fa, q⟩ := h
    obtain ⟨dx, t, ha, ht⟩ := fa.slt
    refine ⟨_, (PSs.nox (pss_one (ps_ret (pe_sl (pv 0))))), ?_⟩
    exact ⟨_, rfl, a, T.C_Form, dx, T.a_own_entries, _, 0, .ref t, rfl, ha, T.oc_Form.scl, T.sl_own_entries, rfl, q t ht⟩
def spDeg (C : Addr) : Sp := fun vs H Q _ => ∃ (a : Addr) (ns : List Int), vs = [.ref a] ∧ Fo C H a ns ∧ Q (.int ((ns.length : Int) - 1)) H
theorem ok_Form_degree (T : Facts K mg) : FnOk P w K mg base CX0 1 T.f_Form_degree T.fd_Form_degree ["self"] (spDeg T.C_Form) := by
  refine T.F_Form_degree.ok sc_Form_degree (fun vs H Q E h => ?_) (fun cdv A outer s H vs Q E hr h => ?_)
  · obtain ⟨a, ns, rfl, _⟩ := h
    rfl
  · obtain ⟨a, ns, rfl, fa, q⟩ := h
    obtain ⟨dx, t, ha, ht⟩ := fa.slt
    refine ⟨_, (PSs.nox (pss_one (ps_ret (pe_op op_sub (pe_callB call_len_seq (by rfl) T.z_len (by decide +kernel) (pa_cons (pe_sl (pv 0)) pa_nil)) pe_int)))), ?_⟩
    refine ⟨_, rfl, a, T.C_Form, dx, T.a_own_entries, _, 0, .ref t, rfl, ha, T.oc_Form.scl, T.sl_own_entries, rfl, t, _, rfl, .inr (SqT.of ht), _, _, rfl, rfl, ?_⟩
    rw [List.length_map]
    exact q
def spIsZ (C : Addr) : Sp := fun vs H Q _ => ∃ (a : Addr) (ns : List Int), vs = [.ref a] ∧ Fo C H a ns ∧ Q (.bl (!ns.any (· != 0))) H
theorem ok_Form_is_zero (T : Facts K mg) : FnOk P w K mg base CX0 2 T.f_Form_is_zero T.fd_Form_is_zero ["self"] (spIsZ T.C_Form) := by
  have G_is_zero_in : FnOk P w K mg base CX0 1 T.f_is_zero_in T.fd_is_zero_in ["entries"] spZero := ok_is_zero_in T
  refine T.F_Form_is_zero.ok sc_Form_is_zero (fun vs H Q E h => ?_) (fun cdv A outer s H vs Q E hr h => ?_)
  · obtain ⟨a, ns, rfl, _⟩ := h
    rfl
  · obtain ⟨a, ns, rfl, fa, q⟩ := h
    obtain ⟨dx, t, ha, ht⟩ := fa.slt
    refine ⟨_, (PSs.nox (pss_one (ps_ret (pe_call G_is_zero_in hr (by rfl) T.g_is_zero_in T.F_is_zero_in.kp T.b_is_zero_in .nil pass0 (pa_cons (pe_sl (pv 0)) pa_nil))))), ?_⟩
    exact ⟨_, rfl, a, T.C_Form, dx, T.a_own_entries, _, 0, .ref t, rfl, ha, T.oc_Form.scl, T.sl_own_entries, rfl, t, ns, rfl, ht, q⟩
/-- what is asked of a form's row -/
structure Rw (ns : List Int) : Prop where
  ne : ns ≠ []
  len : ns.length ≤ 100
  sm : ∀ x ∈ ns, sm x
/-- isinstance(x, Form), x a form -/
theorem isi_form {X : Cx} {C b dy : Addr} {vs : List (Option V)} {H : Hp} {Q : VK} (c : OC X.K C) (hb : Slt H b C dy vs) (q : Q (.bl true) H) : rIsi X.K [.ref b, .ref C] H Q ∨ rIsiSl X.K (.ref C) [.ref b, .ref C] H Q :=
  .inr ⟨b, C, dy, vs, .ref C, true, rfl, rfl, fun w r => r, hb, c.scl, c.sis, c.kself, q⟩
end
end K76

set_option Elab.async false
set_option linter.all false
set_option maxRecDepth 100000
set_option maxHeartbeats 4000000
namespace K76
open PySem PySem.Spec PyProof.Rows L2 StX RZ MyR SlX OwnR OwnF
theorem eqvAll_ints : ∀ xs ys : List Int, PyData.eqvAll (xs.map PyData.int) (ys.map PyData.int) = decide (xs = ys)
  | [], [] => rfl
  | [], _ :: _ => rfl
  | _ :: _, [] => rfl
  | x :: xs, y :: ys => by
    show (PyData.eqv (.int x) (.int y) && PyData.eqvAll (xs.map PyData.int) (ys.map PyData.int)) = _
    rw [eqvAll_ints xs ys]
    show ((x == y) && decide (xs = ys)) = decide (x :: xs = y :: ys)
    by_cases h : x = y
    · by_cases k : xs = ys
      · subst h k
        simp
      · rw [decide_eq_false k, decide_eq_false fun z => k (List.cons.inj z).2, Bool.and_false]
    · rw [decide_eq_false fun z => h (List.cons.inj z).1, beq_eq_false_iff_ne.mpr h, Bool.false_and]
theorem eqv_ints (xs ys : List Int) : PyData.eqv (.tuple (xs.map PyData.int)) (.tuple (ys.map PyData.int)) = decide (xs = ys) := eqvAll_ints xs ys
theorem ne_ints {K : PySem.W.Frag} {H : Hp} {a b : Addr} {xs ys : List Int} {Q : VK} (ha : SqT K H a (xs.map V.int)) (hb : SqT K H b (ys.map V.int)) (q : Q (.bl (!decide (xs = ys))) H) : rNeD K (.ref a) (.ref b) H Q := by
  refine ⟨_, _, .tup ha (dpAll_ints xs), .tup hb (dpAll_ints ys), shaped_tints xs, shaped_tints ys, ?_⟩
  rw [eqv_ints]
  exact q
section
variable {P : Program} {w : World} {K : PySem.W.Frag} {mg : Str → Option Value} {base : Heap}
end
end K76

set_option Elab.async false
set_option linter.all false
set_option maxRecDepth 100000
set_option maxHeartbeats 4000000
namespace K76
open PySem PySem.Spec PyProof.Rows L2 StX RZ MyR SlX OwnR OwnF
abbrev dice (x y z : Int) : HO := .lst [.int x, .int y, .int z]
/-- all but the dice is as it was -/
def Sx (a : Addr) (H H' : Hp) : Prop := ∀ b o, b ≠ a → H b = some o → H' b = some o
def Dc (H : Hp) (a : Addr) : Prop := ∃ x y z, H a = some (dice x y z)
theorem Sx.refl (a : Addr) (H : Hp) : Sx a H H := fun _ _ _ h => h
theorem Sx.trans {a : Addr} {H H1 H2 : Hp} (s : Sx a H H1) (t : Sx a H1 H2) : Sx a H H2 := fun b o n h => t b o n (s b o n h)
theorem Sx.of {a : Addr} {H H' : Hp} (s : Same H H') : Sx a H H' := fun b o _ h => s b o h
theorem Sx.upd {a : Addr} {H : Hp} {o : HO} : Sx a H (upd H a o) := fun b u n h => by
  rw [upd_ne n]
  exact h
theorem Dc.same {a : Addr} {H H' : Hp} (d : Dc H a) (s : Same H H') : Dc H' a := by
  obtain ⟨x, y, z, e⟩ := d
  exact ⟨x, y, z, s _ _ e⟩
theorem Dc.ne {a p : Addr} {H : Hp} (d : Dc H a) (n : H p = none) : p ≠ a := fun e => by
  obtain ⟨x, y, z, h⟩ := d
  rw [e, h] at n
  cases n
theorem Sx.free {a p : Addr} {H H' : Hp} (s : Sx a H H') (n : H' p = none) (ne : p ≠ a) : H p = none := by
  cases q : H p with
  | none => rfl
  | some o =>
    rw [s p o ne q] at n
    cases n
section
variable {P : Program} {w : World} {K : PySem.W.Frag} {mg : Str → Option Value} {base : Heap}
theorem cp16 : CPow 10 16 := ⟨by decide, by decide, by decide⟩
theorem cp60 : CPow 10 60 := ⟨by decide, by decide, by decide⟩
theorem cw60 : CMulW (10 ^ Int.toNat 60) (10 ^ Int.toNat 60) := by
  unfold CMulW
  decide +kernel
theorem pos60 : (0 : Int) < 10 ^ Int.toNat 60 * 10 ^ Int.toNat 60 := by decide +kernel
theorem pos_m : (0 : Int) < 1152921504606846697 := by decide
theorem sz3 : 3 ≤ sizeLine := by decide
def spDice (K : PySem.W.Frag) : Sp := fun vs H Q _ => ∃ (a : Addr) (ns : List Int) (k : Nat), vs = [.ref a, .int k] ∧ SqL K H a (ns.map V.int) ∧ ∀ p x y z, H p = none → Q (.ref p) (upd H p (dice x y z))
theorem ok_law_dice (T : Facts K mg) : FnOk P w K mg base CX0 1 T.f_law_dice T.fd_law_dice ["_law_script", "_law_spot"] (spDice K) := by
  refine T.F_law_dice.ok sc_law_dice (fun vs H Q E h => ?_) (fun cdv A outer s H vs Q E hr h => ?_)
  · obtain ⟨a, ns, k, rfl, _⟩ := h
    rfl
  · obtain ⟨a, ns, k, rfl, hS, q⟩ := h
    refine ⟨_, (PSs.nox (pss_cons (ps_set (i := 2) sc_law_dice.nd rfl (.inl rfl) (pe_ifExp (pt_cmpR op_lt (pv 1) (pe_callB call_len_seq (by rfl) T.z_len (by decide +kernel) (pa_cons (pv 0) pa_nil)) (nomark _)) (pe_callTy call_int1 (by rfl) T.z_int (by decide +kernel) (pa_cons (pe_ix ix_list (pv 0) (pv 1) (fun _ _ => rfl)) pa_nil)) (pe_op op_add (pe_op op_mul pe_int (pv 1)) pe_int)))
    (pss_cons (ps_set (i := 3) sc_law_dice.nd rfl (.inl rfl) (pe_op op_mod (pe_callB (call_max2 (by rfl)) (by rfl) T.z_max (by decide +kernel) (pa_cons pe_int (pa_cons (pe_op op_sub (pe_callB call_abs (by rfl) T.z_abs (by decide +kernel) (pa_cons (pv 2) pa_nil)) (pe_op op_pow pe_int pe_int)) pa_nil))) (pe_op op_mulW (pe_op op_pow pe_int pe_int) (pe_op op_pow pe_int pe_int))))
    (pss_one (ps_ret (pe_lst (pa_cons (pv 3) (pa_cons (pe_op op_add (pe_op op_add (pe_op op_add (pe_op op_mul (pe_op op_mod (pe_callB call_abs (by rfl) T.z_abs (by decide +kernel) (pa_cons (pv 2) pa_nil)) pe_int) pe_int) (pe_op op_mul pe_int (pv 1))) (pe_op op_mul pe_int (pe_callTy call_int1 (by rfl) T.z_int (by decide +kernel) (pa_cons (pe_cmpR op_lt (pv 2) pe_int (nomark _)) pa_nil)))) pe_int) (pa_cons pe_int pa_nil))))))))), ?_⟩
    refine ⟨.int k, rfl, .ref a, rfl, a, ns.map V.int, rfl, .inl hS, k, _, rfl, rfl, _, rfl, ?_⟩
    rw [List.length_map]
    by_cases h1 : (k : Int) < (ns.length : Int)
    · rw [decide_eq_true h1]
      have hj : k < ns.length := by omega
      refine iteT ⟨.ref a, rfl, .int k, rfl, a, ns.map V.int, k, .int ns[k], rfl, rfl, hS, atI_nat (by rw [List.getElem?_map, List.getElem?_eq_getElem hj]; rfl), .inl ⟨_, rfl, ?_⟩⟩
      refine ⟨.int ns[k], rfl, _, rfl, 10, 16, rfl, rfl, cp16, _, _, rfl, rfl, 0, _, rfl, 10, 60, rfl, rfl, cp60, 10, 60, rfl, rfl, cp60, _, _, rfl, rfl, cw60, _, _, rfl, rfl, pos60, ?_⟩
      refine ⟨_, rfl, .int ns[k], rfl, _, rfl, _, _, rfl, rfl, pos_m, _, _, rfl, rfl, .inr ⟨by decide, by decide⟩, .int k, rfl, _, _, rfl, rfl, .inl ⟨by decide, by decide⟩, _, _, rfl, rfl, .int ns[k], rfl, _, _, rfl, rfl, .inr ⟨_, rfl, _, _, rfl, rfl, .inl ⟨by decide, by decide⟩, _, _, rfl, rfl, _, _, rfl, rfl, ?_⟩⟩
      exact ⟨sz3, fun p hp => q p _ _ _ hp⟩
    · rw [decide_eq_false h1]
      refine iteF ⟨.int k, rfl, _, _, rfl, rfl, .inl ⟨by decide, by decide⟩, _, _, rfl, rfl, ?_⟩
      refine ⟨_, rfl, _, rfl, 10, 16, rfl, rfl, cp16, _, _, rfl, rfl, 0, _, rfl, 10, 60, rfl, rfl, cp60, 10, 60, rfl, rfl, cp60, _, _, rfl, rfl, cw60, _, _, rfl, rfl, pos60, ?_⟩
      refine ⟨_, rfl, _, rfl, _, rfl, _, _, rfl, rfl, pos_m, _, _, rfl, rfl, .inr ⟨by decide, by decide⟩, .int k, rfl, _, _, rfl, rfl, .inl ⟨by decide, by decide⟩, _, _, rfl, rfl, _, rfl, _, _, rfl, rfl, .inr ⟨_, rfl, _, _, rfl, rfl, .inl ⟨by decide, by decide⟩, _, _, rfl, rfl, _, _, rfl, rfl, ?_⟩⟩
      exact ⟨sz3, fun p hp => q p _ _ _ hp⟩
def spRoll : Sp := fun vs H Q _ => ∃ (a : Addr) (x y z n : Int), vs = [.ref a, .int n] ∧ H a = some (dice x y z) ∧ 0 < n ∧ n.natAbs.log2 < 9000 ∧ ∀ r x' z', 0 ≤ r → r < n → Q (.int r) (upd H a (dice x' y z'))
theorem ok_law_roll (T : Facts K mg) : FnOk P w K mg base CX0 1 T.f_law_roll T.fd_law_roll ["_law_dice_here", "_law_total"] spRoll := by
  refine T.F_law_roll.ok sc_law_roll (fun vs H Q E h => ?_) (fun cdv A outer s H vs Q E hr h => ?_)
  · obtain ⟨a, x, y, z, n, rfl, _⟩ := h
    rfl
  · obtain ⟨a, x, y, z, n, rfl, hd, h0, h1, q⟩ := h
    have hS : SqL K H a [.int x, .int y, .int z] := SqL.of hd
    refine ⟨_, (PSs.nox (pss_cons (ps_if (pt_cmpR op_gt (pe_ix ix_list (pv 0) pe_int (fun _ _ => rfl)) pe_int (nomark _))
      (pss_cons (ps_set (i := 2) sc_law_roll.nd rfl (.inl rfl) (pe_op op_mod (pe_callTy call_int1 (by rfl) T.z_int (by decide +kernel) (pa_cons (pe_ix ix_list (pv 0) pe_int (fun _ _ => rfl)) pa_nil)) (pv 1)))
      (pss_cons (ps_asg (pe_op op_fdivW (pe_ix ix_list (pv 0) pe_int (fun _ _ => rfl)) (pv 1)) (pg_sub (pv 0) pe_int set_list))
      (pss_one (ps_ret (pv 2)))))
      pss_nil)
    (pss_cons (ps_asg (pe_op op_add (pe_ix ix_list (pv 0) pe_int (fun _ _ => rfl)) pe_int) (pg_sub (pv 0) pe_int set_list))
    (pss_cons (ps_set (i := 3) sc_law_roll.nd rfl (.inl rfl) (pe_op op_mod (pe_callTy call_int1 (by rfl) T.z_int (by decide +kernel) (pa_cons (pe_op op_add (pe_ix ix_list (pv 0) pe_int (fun _ _ => rfl)) (pe_op op_mul pe_int (pe_ix ix_list (pv 0) pe_int (fun _ _ => rfl)))) pa_nil)) pe_int))
    (pss_cons (ps_set (i := 4) sc_law_roll.nd rfl (.inl rfl) (pe_op op_add (pe_op op_mul (pe_op op_mod (pe_callTy call_int1 (by rfl) T.z_int (by decide +kernel) (pa_cons (pe_op op_add (pe_op op_mul (pv 3) (pv 3)) (pe_op op_mul pe_int (pe_ix ix_list (pv 0) pe_int (fun _ _ => rfl)))) pa_nil)) pe_int) pe_int) (pv 3)))
    (pss_one (ps_ret (pe_op op_mod (pe_callTy call_int1 (by rfl) T.z_int (by decide +kernel) (pa_cons (pe_op op_fdivW (pv 4) pe_int) pa_nil)) (pv 1))))))))), ?_⟩
    refine ⟨.ref a, rfl, a, _, 0, .int x, rfl, rfl, hS, atI_nat (j := 0) rfl, x, 0, rfl, rfl, decide (0 < x), rfl, ite2 (fun _ => ?_) (fun _ => ?_)⟩
    · refine ⟨.ref a, rfl, a, _, 0, .int x, rfl, rfl, hS, atI_nat (j := 0) rfl, .inl ⟨x, rfl, .int n, rfl, x, n, rfl, rfl, h0, ?_⟩⟩
      refine ⟨.ref a, rfl, a, _, 0, .int x, rfl, rfl, hS, atI_nat (j := 0) rfl, .int n, rfl, x, n, rfl, rfl, ⟨h0, h1⟩, ?_⟩
      refine ⟨.ref a, rfl, a, _, 0, 0, rfl, rfl, hd, rfl, ?_⟩
      exact ⟨_, rfl, q (x % n) (x / n) z (Int.emod_nonneg _ (by omega)) (Int.emod_lt_of_pos _ h0)⟩
    · refine ⟨.ref a, rfl, a, _, 2, .int z, rfl, rfl, hS, atI_nat (j := 2) rfl, z, 1, rfl, rfl, ?_⟩
      refine ⟨.ref a, rfl, a, _, 2, 2, rfl, rfl, hd, rfl, ?_⟩
      have hd' : (upd H a (dice x y (z + 1))) a = some (dice x y (z + 1)) := upd_same
      have hS' : SqL K (upd H a (dice x y (z + 1))) a [.int x, .int y, .int (z + 1)] := SqL.of hd'
      refine ⟨.ref a, rfl, a, _, 1, .int y, rfl, rfl, hS', atI_nat (j := 1) rfl, .ref a, rfl, a, _, 2, .int (z + 1), rfl, rfl, hS', atI_nat (j := 2) rfl, _, _, rfl, rfl, .inl ⟨by decide, by decide⟩, _, _, rfl, rfl, .inl ⟨_, rfl, _, _, rfl, rfl, (by decide : (0 : Int) < 2305843009213691579), ?_⟩⟩
      have b0 := Int.emod_nonneg (y + 92821991 * (z + 1)) (show (2305843009213691579 : Int) ≠ 0 by decide)
      have b1 := Int.emod_lt_of_pos (y + 92821991 * (z + 1)) (show (0 : Int) < 2305843009213691579 by decide)
      refine ⟨_, rfl, _, rfl, _, _, rfl, rfl, .inl ⟨Int.lt_of_lt_of_le (by decide) b0, Int.lt_trans b1 (by decide)⟩, .ref a, rfl, a, _, 2, .int (z + 1), rfl, rfl, hS', atI_nat (j := 2) rfl, _, _, rfl, rfl, .inl ⟨by decide, by decide⟩, _, _, rfl, rfl, .inl ⟨_, rfl, _, _, rfl, rfl, (by decide : (0 : Int) < 2305843009213692227), _, _, rfl, rfl, .inr ⟨by decide, by decide⟩, _, rfl, _, _, rfl, rfl, ?_⟩⟩
      refine ⟨_, rfl, _, _, rfl, rfl, ⟨by decide, by decide +kernel⟩, .inl ⟨_, rfl, .int n, rfl, _, _, rfl, rfl, h0, ?_⟩⟩
      exact q _ x (z + 1) (Int.emod_nonneg _ (by omega)) (Int.emod_lt_of_pos _ h0)
def spRoll2 : Sp := fun vs H Q _ => ∃ (a : Addr) (n : Int), vs = [.ref a, .int n] ∧ Dc H a ∧ 0 < n ∧ n.natAbs.log2 < 9000 ∧ ∀ (r : Nat) H', (r : Int) < n → Sx a H H' → Dc H' a → Q (.int r) H'
theorem roll2 : ∀ vs H Q E, spRoll2 vs H Q E → spRoll vs H Q E := fun vs H Q E h => by
  obtain ⟨a, n, rfl, ⟨x, y, z, e⟩, h0, h1, q⟩ := h
  refine ⟨a, x, y, z, n, rfl, e, h0, h1, fun r x' z' r0 r1 => ?_⟩
  obtain ⟨j, rfl⟩ := Int.eq_ofNat_of_zero_le r0
  exact q j _ r1 Sx.upd ⟨x', y, z', upd_same⟩
def spNear : Sp := fun vs H Q _ => ∃ (a : Addr) (m : Int), vs = [.ref a, .int m] ∧ Dc H a ∧ 0 ≤ m ∧ m ≤ 10 ^ 15 ∧ ∀ r H', -m ≤ r → r ≤ m → Sx a H H' → Dc H' a → Q (.int r) H'
theorem ok_law_near (T : Facts K mg) : FnOk P w K mg base CX0 2 T.f_law_near T.fd_law_near ["_law_dice_here", "_law_most"] spNear := by
  have G_law_roll : FnOk P w K mg base CX0 1 T.f_law_roll T.fd_law_roll ["_law_dice_here", "_law_total"] spRoll2 := (ok_law_roll T).imp roll2
  refine T.F_law_near.ok sc_law_near (fun vs H Q E h => ?_) (fun cdv A outer s H vs Q E hr h => ?_)
  · obtain ⟨a, m, rfl, _⟩ := h
    rfl
  · obtain ⟨a, m, rfl, hd, h0, h1, q⟩ := h
    refine ⟨_, (PSs.nox (pss_one (ps_ret (pe_op op_sub (pe_call G_law_roll hr (by rfl) T.g_law_roll T.F_law_roll.kp T.b_law_roll .nil pass0 (pa_cons (pv 0) (pa_cons (pe_op op_add (pe_op op_mul pe_int (pv 1)) pe_int) pa_nil))) (pv 1))))), ?_⟩
    have e15 : (10 : Int) ^ 15 = 1000000000000000 := by decide
    rw [e15] at h1
    refine ⟨_, rfl, _, rfl, _, _, rfl, rfl, .inl ⟨by decide, by decide⟩, _, _, rfl, rfl, a, _, rfl, hd, (by show 0 < 2 * m + 1; omega), ?_, fun r H' hr s d => ⟨_, rfl, _, _, rfl, rfl, ?_⟩⟩
    · refine Nat.lt_trans (PySem.Flt.log2_lt_of (k := 60) (by decide) ?_) (by decide)
      show (2 * m + 1).natAbs < 2 ^ 60
      omega
    · have hr' : (r : Int) < 2 * m + 1 := hr
      exact q _ H' (by omega) (by omega) s d
/-! ### the law's own gcd -/
def spLGcd : Sp := fun vs H Q _ => ∃ t b : Int, vs = [.int t, .int b] ∧ Q (.int ((Nat.gcd t.natAbs b.natAbs : Nat) : Int)) H
def yOf : L2.St → Nat
  | [_, some (.int y)] => y.toNat
  | _ => 0
theorem abs_nat (i : Int) : (if i < 0 then -i else i) = (i.natAbs : Int) := by split <;> omega
theorem ok_law_gcd (T : Facts K mg) : FnOk P w K mg base CX0 1 T.f_law_gcd T.fd_law_gcd ["_law_one", "_law_other"] spLGcd := by
  refine T.F_law_gcd.ok sc_law_gcd (fun vs H Q E h => ?_) (fun cdv A outer s H vs Q E hr h => ?_)
  · obtain ⟨t, b, rfl, _⟩ := h
    rfl
  · obtain ⟨t, b, rfl, q⟩ := h
    refine ⟨_, (PSs.nox (pss_cons (ps_par (i := 0) (j := 1) (by rfl) sc_law_gcd.nd rfl rfl (by decide) rfl rfl (pa_cons (pe_callB call_abs (by rfl) T.z_abs (by decide +kernel) (pa_cons (pv 0) pa_nil)) (pa_cons (pe_callB call_abs (by rfl) T.z_abs (by decide +kernel) (pa_cons (pv 1) pa_nil)) pa_nil)) (by rfl))
    (pss_cons (ps_while PassesOwn.never (pt_cmpR op_gt (pv 1) pe_int (nomark _))
      (pss_one (ps_par (i := 0) (j := 1) (by rfl) sc_law_gcd.nd rfl rfl (by decide) rfl rfl (pa_cons (pv 1) (pa_cons (pe_op op_mod (pe_callTy call_int1 (by rfl) T.z_int (by decide +kernel) (pa_cons (pv 0) pa_nil)) (pv 1)) pa_nil)) (by rfl))))
    (pss_one (ps_ret (pv 0)))))), ?_⟩
    refine ⟨_, rfl, t, rfl, _, rfl, b, rfl, _, _, rfl, ?_⟩
    rw [abs_nat, abs_nat]
    refine while_by (fun σ H' => ∃ x y : Nat, σ = [some (.int x), some (.int y)] ∧ Nat.gcd x y = Nat.gcd t.natAbs b.natAbs ∧ H' = H) (fun σ _ => yOf σ) ⟨_, _, rfl, rfl, rfl⟩ (fun σ H' hP => ?_) (fun σ H' Q1 Q2 hQ h => ?_)
    · obtain ⟨x, y, rfl, hg, rfl⟩ := hP
      refine ⟨_, rfl, _, _, rfl, rfl, _, rfl, ?_⟩
      by_cases c : 0 < (y : Int)
      · rw [decide_eq_true c]
        refine iteT ⟨_, rfl, _, rfl, .inl ⟨_, rfl, _, rfl, _, _, rfl, rfl, c, _, _, rfl, ?_⟩⟩
        have e : (x : Int) % (y : Int) = ((x % y : Nat) : Int) := (Int.natCast_emod x y).symm
        refine ⟨⟨y, x % y, ?_, ?_, rfl⟩, ?_⟩
        · show [some (V.int y), some (V.int ((x : Int) % (y : Int)))] = _
          rw [e]
        · rw [← hg, Nat.gcd_comm x y, Nat.gcd_rec y x, Nat.gcd_comm]
        · show ((x : Int) % (y : Int)).toNat < (y : Int).toNat
          rw [e]
          have := Nat.mod_lt x (show y > 0 by omega)
          omega
      · rw [decide_eq_false c]
        have ey : y = 0 := by omega
        subst ey
        refine iteF ⟨_, rfl, ?_⟩
        rw [← hg, Nat.gcd_zero_right] at q
        exact q
    · obtain ⟨v, e, x1, x2, e1, e2, k, e3, h⟩ := h
      exact ⟨v, e, x1, x2, e1, e2, k, e3, hQ _ _ h⟩
end
end K76

set_option Elab.async false
set_option linter.all false
set_option maxRecDepth 100000
set_option maxHeartbeats 4000000
namespace K76
open PySem PySem.Spec PyProof.Rows L2 StX RZ MyR SlX OwnR OwnF
theorem cont_snoc (x : Int) : ∀ l : List Int, cont (l ++ [x]) = Nat.gcd (cont l) x.natAbs
  | [] => by
    show Nat.gcd x.natAbs 0 = Nat.gcd 0 x.natAbs
    rw [Nat.gcd_zero_right, Nat.gcd_zero_left]
  | y :: ys => by
    show Nat.gcd y.natAbs (cont (ys ++ [x])) = Nat.gcd (Nat.gcd y.natAbs (cont ys)) x.natAbs
    rw [cont_snoc x ys, Nat.gcd_assoc]
theorem take_snoc {xs : List Int} {i : Nat} (h : i < xs.length) : xs.take (i + 1) = xs.take i ++ [co xs i] := by
  rw [List.take_add_one, List.getElem?_eq_getElem h, co_get h]
  rfl
theorem int_get {xs : List Int} {i : Nat} {x : V} (h : (xs.map V.int)[i]? = some x) : i < xs.length ∧ x = .int (co xs i) := by
  have hi : i < xs.length := by
    have := (List.getElem?_eq_some_iff.mp h).1
    rw [List.length_map] at this
    exact this
  rw [get_int hi] at h
  cases h
  exact ⟨hi, rfl⟩
theorem tab_snoc (n : Nat) (f : Nat → Int) : tab n f ++ [V.int (f n)] = tab (n + 1) f := by
  unfold tab
  rw [List.range_succ, List.map_append]
  rfl
theorem zs_tb {c : Int} {xs ys : List Int} (hl : xs.length = ys.length) : (tb xs.length fun k => co xs k + c * co ys k) = zs c xs ys := by
  refine co_inj (by rw [tb_len]; unfold zs; rw [List.length_zipWith, hl, Nat.min_self]) fun k => ?_
  rw [co_tb]
  unfold zs
  by_cases hk : k < xs.length
  · rw [if_pos hk, co_get (l := List.zipWith _ _ _) (by rw [List.length_zipWith]; omega), List.getElem_zipWith, co_get hk, co_get (by omega)]
  · rw [if_neg hk, co_far (by rw [List.length_zipWith]; omega)]
section
variable {P : Program} {w : World} {K : PySem.W.Frag} {mg : Str → Option Value} {base : Heap}
def spShared : Sp := fun vs H Q _ => ∃ (t : Addr) (ns : List Int), vs = [.ref t] ∧ H t = some (tp ns) ∧ Q (.int (cont ns : Nat)) H
def spSharedC (K : PySem.W.Frag) : Sp := fun vs H Q _ => ∃ (t : Addr) (ns : List Int), vs = [.ref t] ∧ (SqT K H t (ns.map V.int) ∨ SqL K H t (ns.map V.int)) ∧ Q (.int (cont ns : Nat)) H
theorem ok_law_sharedC (T : Facts K mg) : FnOk P w K mg base CX0 2 T.f_law_shared T.fd_law_shared ["_law_numbers"] (spSharedC K) := by
  have G_law_gcd : FnOk P w K mg base CX0 1 T.f_law_gcd T.fd_law_gcd ["_law_one", "_law_other"] spLGcd := ok_law_gcd T
  refine T.F_law_shared.ok sc_law_shared (fun vs H Q E h => ?_) (fun cdv A outer s H vs Q E hr h => ?_)
  · obtain ⟨t, ns, rfl, _⟩ := h
    rfl
  · obtain ⟨t, ns, rfl, ht, q⟩ := h
    refine ⟨_, (PSs.nox (pss_cons (ps_set (i := 1) sc_law_shared.nd rfl (.inl rfl) pe_int)
    (pss_cons (ps_for PassesOwn.never (by rfl) (SeqE.PI_or (pi_tup (pv 0)) (pi_list (pv 0))) (pg_name (i := 2) sc_law_shared.nd rfl (.inl rfl))
      (pss_one (ps_set (i := 1) sc_law_shared.nd rfl (.inl rfl) (pe_call G_law_gcd hr (by rfl) T.g_law_gcd T.F_law_gcd.kp T.b_law_gcd .nil pass0 (pa_cons (pv 1) (pa_cons (pv 2) pa_nil))))))
    (pss_one (ps_ret (pv 1)))))), ?_⟩
    rcases ht with ht | ht
    · refine .inl ⟨_, rfl, t, rfl, ⟨_, ht⟩, for_tup (xs := ns.map V.int) (fun i σ H' => ∃ y, σ = [some (.ref t), some (.int ((cont (ns.take i) : Nat) : Int)), y] ∧ H' = H) ⟨none, rfl, rfl⟩ (fun i σ H' _ hP => by rw [hP.choose_spec.2]; exact ht) (fun i x σ H' hx hP => ?_) (fun σ H' hP => ?_)⟩
      · obtain ⟨y, rfl, rfl⟩ := hP
        obtain ⟨hi, rfl⟩ := int_get hx
        refine ⟨_, rfl, _, rfl, _, _, rfl, some (.int (co ns i)), ?_, rfl⟩
        rw [take_snoc hi, cont_snoc]
        rfl
      · obtain ⟨y, rfl, rfl⟩ := hP
        rw [List.length_map, List.take_length]
        exact ⟨_, rfl, q⟩
    · refine .inr ⟨_, rfl, t, rfl, ⟨_, ht⟩, for_list (xs := ns.map V.int) (fun i σ H' => ∃ y, σ = [some (.ref t), some (.int ((cont (ns.take i) : Nat) : Int)), y] ∧ H' = H) ⟨none, rfl, rfl⟩ (fun i σ H' _ hP => by rw [hP.choose_spec.2]; exact ht) (fun i x σ H' hx hP => ?_) (fun σ H' hP => ?_)⟩
      · obtain ⟨y, rfl, rfl⟩ := hP
        obtain ⟨hi, rfl⟩ := int_get hx
        refine ⟨_, rfl, _, rfl, _, _, rfl, some (.int (co ns i)), ?_, rfl⟩
        rw [take_snoc hi, cont_snoc]
        rfl
      · obtain ⟨y, rfl, rfl⟩ := hP
        rw [List.length_map, List.take_length]
        exact ⟨_, rfl, q⟩
theorem ok_law_shared (T : Facts K mg) : FnOk P w K mg base CX0 2 T.f_law_shared T.fd_law_shared ["_law_numbers"] spShared := (ok_law_sharedC T).imp fun vs H Q E h => by
  obtain ⟨t, ns, rfl, ht, q⟩ := h
  exact ⟨t, ns, rfl, .inl (SqT.of ht), q⟩
def spPlus : Sp := fun vs H Q _ => ∃ (t u : Addr) (xs ys : List Int), vs = [.ref t, .ref u] ∧ H t = some (tp xs) ∧ H u = some (tp ys) ∧ xs.length = ys.length ∧ xs.length ≤ 100 ∧ ∀ p H', Same H H' → H p = none → H' p = some (tp (zs 1 xs ys)) → Q (.ref p) H'
theorem ok_law_plus (T : Facts K mg) : FnOk P w K mg base CX0 1 T.f_law_plus T.fd_law_plus ["_law_one", "_law_other"] spPlus := by
  refine T.F_law_plus.ok sc_law_plus (fun vs H Q E h => ?_) (fun cdv A outer s H vs Q E hr h => ?_)
  · obtain ⟨t, u, xs, ys, rfl, _⟩ := h
    rfl
  · obtain ⟨t, u, xs, ys, rfl, ht, hu, hl, hlt, q⟩ := h
    refine ⟨_, (PSs.nox (pss_one (ps_ret (pe_tupleOf (by rfl) T.z_tuple (pe_lc (own := [("_law_first", 2), ("_law_second", 3)]) (g := (gTup K 2 (gCons (gName 2) (gCons (gName 3) gNil)))) (tt := tYes) (by rfl) sc_law_plus.nd (pi_zipA (by rfl) T.z_zip (pa_cons (pv 0) (pa_cons (pv 1) pa_nil))) (blkOk_by (N := N_law_plus) (sc := defScope s_law_plus) (by decide +kernel)) (fun _ _ _ _ _ => (pg_tup (by rfl) (pgs_cons (pg_name (i := 2) sc_law_plus.nd rfl (.inl rfl)) (pgs_cons (pg_name (i := 3) sc_law_plus.nd rfl (.inl rfl)) pgs_nil)))) (fun _ _ _ _ _ => pts_nil) (fun _ _ _ _ _ => (pe_op op_add (pv 2) (pv 3)))))))), ?_⟩
    refine ⟨_, rfl, _, rfl, t, u, _, _, rfl, .inr ⟨SqT.of ht, SqT.of hu, fun D hD => ?_⟩⟩
    refine lc_zipT (xs := xs.map V.int) (ys := ys.map V.int) (by rw [List.length_map, List.length_map, hl]) (fun j H' => Same H H' ∧ H' D = some (.lst (tab j fun k => co xs k + 1 * co ys k))) ⟨same_upd0 hD, upd_same⟩ (fun j H' _ hP => ⟨SqT.of (hP.1 _ _ ht), SqT.of (hP.1 _ _ hu)⟩) (fun j x y A H' hx hy hP hA => ?_) (fun H' hP => ?_)
    · obtain ⟨sH, hD'⟩ := hP
      obtain ⟨hj, rfl⟩ := int_get hx
      obtain ⟨_, rfl⟩ := int_get hy
      have sA := same_upd0 (o := .tup [.int (co xs j), .int (co ys j)]) hA
      refine ⟨A, _, rfl, SqT.of upd_same, rfl, _, _, rfl, _, _, rfl, rfl, rfl, _, rfl, _, rfl, _, _, rfl, rfl, _, sA _ _ hD', ?_, fun b o e => ?_, ?_⟩
      · rw [tab_len]
        exact small1000 (by omega)
      · rw [upd_ne (ne_of_none e hD)]
        exact sA _ _ (sH _ _ e)
      · rw [upd_same, ← tab_snoc]
        show some (HO.lst (tab j _ ++ [V.int (co xs j + co ys j)])) = some (HO.lst (tab j _ ++ [V.int (co xs j + 1 * co ys j)]))
        rw [Int.one_mul]
    · obtain ⟨sH, hD'⟩ := hP
      rw [List.length_map] at hD'
      refine .inl ⟨D, _, rfl, SqL.of hD', fun p hp2 => ?_⟩
      refine q p _ (sH.trans (same_upd0 hp2)) (Same.free sH hp2) ?_
      rw [upd_same, tab_tb, zs_tb hl]
def spScaled : Sp := fun vs H Q _ => ∃ (t : Addr) (xs : List Int) (c : Int), vs = [.ref t, .int c] ∧ H t = some (tp xs) ∧ xs.length ≤ 100 ∧ (∀ x ∈ xs, sm x) ∧ sm c ∧ ∀ p H', Same H H' → H p = none → H' p = some (tp (xs.map fun x => c * x)) → Q (.ref p) H'
theorem ok_law_scaled (T : Facts K mg) : FnOk P w K mg base CX0 1 T.f_law_scaled T.fd_law_scaled ["_law_form_here", "_law_factor"] spScaled := by
  refine T.F_law_scaled.ok sc_law_scaled (fun vs H Q E h => ?_) (fun cdv A outer s H vs Q E hr h => ?_)
  · obtain ⟨t, xs, c, rfl, _⟩ := h
    rfl
  · obtain ⟨t, xs, c, rfl, ht, hl, hs, hc, q⟩ := h
    refine ⟨_, (PSs.nox (pss_one (ps_ret (pe_tupleOf (by rfl) T.z_tuple (pe_lc (own := [("_law_entry", 2)]) (g := (gName 2)) (tt := tYes) (by rfl) sc_law_scaled.nd (pi_tup (pv 0)) (blkOk_by (N := N_law_scaled) (sc := defScope s_law_scaled) (by decide +kernel)) (fun _ _ _ _ _ => (pg_name (i := 2) sc_law_scaled.nd rfl (.inl rfl))) (fun _ _ _ _ _ => pts_nil) (fun _ _ _ _ _ => (pe_op op_mulW (pv 1) (pv 2)))))))), ?_⟩
    refine ⟨_, rfl, t, rfl, ⟨_, SqT.of ht⟩, fun D hD => lc_tup (xs := xs.map V.int) (fun j H' => H' = upd H D (.lst (tab j fun k => c * co xs k))) rfl (fun j H' _ hP => ?_) (fun j x H' hx hP => ?_) (fun H' hP => ?_)⟩
    · rw [hP]
      exact SqT.of (same_upd0 hD _ _ ht)
    · subst hP
      obtain ⟨hj, rfl⟩ := int_get hx
      refine ⟨rfl, ⟨_, rfl, _, rfl, _, _, rfl, rfl, sm_mul hc (sm_co hs hj), _, upd_same, ?_, ?_⟩⟩
      · rw [tab_len]
        exact small1000 (by omega)
      · rw [upd_upd, ← tab_snoc]
    · subst hP
      rw [List.length_map, tab_tb, tb_map (fun x => c * x) xs]
      refine .inl ⟨D, _, rfl, SqL.of upd_same, fun p hp2 => ?_⟩
      exact q p _ ((same_upd0 hD).trans (same_upd0 hp2)) (Same.free (same_upd0 hD) hp2) upd_same
end
end K76

set_option Elab.async false
set_option linter.all false
set_option maxRecDepth 100000
set_option maxHeartbeats 4000000
namespace K76
open PySem PySem.Spec PyProof.Rows L2 StX RZ MyR SlX OwnR OwnF EnumT
section
variable {P : Program} {w : World} {K : PySem.W.Frag} {mg : Str → Option Value} {base : Heap}
def spProd : Sp := fun vs H Q _ => ∃ (a b : Addr) (xs ys : List Int), vs = [.ref a, .ref b] ∧ H a = some (tp xs) ∧ H b = some (tp ys) ∧ xs ≠ [] ∧ ys ≠ [] ∧ xs.length ≤ 100 ∧ ys.length ≤ 100 ∧ (∀ x ∈ xs, sm x) ∧ (∀ x ∈ ys, sm x) ∧ ∀ p H', Same H H' → H p = none → H' p = some (tp (ml xs ys)) → Q (.ref p) H'
theorem ok_law_product (T : Facts K mg) : FnOk P w K mg base CX0 1 T.f_law_product T.fd_law_product ["_law_one", "_law_other"] spProd := by
  refine T.F_law_product.ok sc_law_product (fun vs H Q E h => ?_) (fun cdv A outer s H vs Q E hr h => ?_)
  · obtain ⟨a, b, xs, ys, rfl, _⟩ := h
    rfl
  · obtain ⟨a, b, xs, ys, rfl, ha, hb, nx, ny, lx, ly, hx, hy, q⟩ := h
    have px : 0 < xs.length := List.length_pos_iff.mpr nx
    have py : 0 < ys.length := List.length_pos_iff.mpr ny
    refine ⟨_, (PSs.nox (pss_cons (ps_setLc (i := 2) (own := [("_law_place", 3)]) (g := (gName 3)) (tt := tYes) rfl sc_law_product.nd rfl rfl (sw_true rfl rfl rfl (by decide +kernel)) (pi_range1 (by rfl) T.z_range (pa_cons (pe_op op_sub (pe_op op_add (pe_callB call_len_seq (by rfl) T.z_len (by decide +kernel) (pa_cons (pv 0) pa_nil)) (pe_callB call_len_seq (by rfl) T.z_len (by decide +kernel) (pa_cons (pv 1) pa_nil))) pe_int) pa_nil)) (blkOk_by (N := N_law_product) (sc := defScope s_law_product) (by decide +kernel)) (fun _ _ _ _ _ => (pg_name (i := 3) sc_law_product.nd rfl (.inl rfl))) (fun _ _ _ _ _ => pts_nil) (fun _ _ _ _ _ => pe_int))
    (pss_cons (ps_for PassesOwn.never (by rfl) (pi_enumT (by rfl) T.z_enumerate (pa_cons (pv 0) pa_nil)) (pg_tup (by rfl) (pgs_cons (pg_name (i := 4) sc_law_product.nd rfl (.inl rfl)) (pgs_cons (pg_name (i := 5) sc_law_product.nd rfl (.inl rfl)) pgs_nil)))
      (pss_one (ps_for PassesOwn.never (by rfl) (pi_enumT (by rfl) T.z_enumerate (pa_cons (pv 1) pa_nil)) (pg_tup (by rfl) (pgs_cons (pg_name (i := 3) sc_law_product.nd rfl (.inl rfl)) (pgs_cons (pg_name (i := 6) sc_law_product.nd rfl (.inl rfl)) pgs_nil)))
        (pss_one (ps_asg (pe_op op_add (pe_ix ix_list (pv 2) (pe_op op_add (pv 4) (pv 3)) (fun _ _ => rfl)) (pe_op op_mulW (pv 5) (pv 6))) (pg_sub (pv 2) (pe_op op_add (pv 4) (pv 3)) set_list))))))
    (pss_one (ps_ret (pe_tupleOf (by rfl) T.z_tuple (pv 2))))))), ?_⟩
    refine ⟨_, rfl, a, _, rfl, .inr (SqT.of ha), _, rfl, b, _, rfl, .inr (SqT.of hb), ?_⟩
    rw [List.length_map, List.length_map]
    obtain ⟨N, hN⟩ : ∃ N, N = xs.length + ys.length - 1 := ⟨_, rfl⟩
    have eN : (((xs.length : Int) + (ys.length : Int) - 1)).toNat = N := by omega
    refine ⟨_, _, rfl, rfl, _, _, rfl, rfl, _, rfl, (by show -(2 ^ 62) ≤ (xs.length : Int) + (ys.length : Int) - 1; omega), (by show (xs.length : Int) + (ys.length : Int) - 1 < 2 ^ 62; omega), fun D hD => lc_range (n := _) (fun j H' => H' = upd H D (.lst (List.replicate j (V.int 0)))) rfl (fun j H' hj hP => ?_) (fun H' hP => ?_)⟩
    · subst hP
      have hj2 : j < N := by rw [← eN]; exact hj
      refine ⟨rfl, ⟨_, upd_same, ?_, ?_⟩⟩
      · rw [List.length_replicate]
        exact small1000 (by omega)
      · rw [upd_upd, List.replicate_succ']
    · subst hP
      show _
      rw [show List.replicate (((xs.length : Int) + (ys.length : Int) - 1)).toNat (V.int 0) = tab N (fun k => cv (xs.take 0) (co ys) k) by rw [eN, tab_rep]; rfl]
      have sD : ∀ o, Same H (upd H D o) := fun o => same_upd0 hD
      -- what stands in each turn: the list at D, and what stood before
      refine ⟨_, rfl, a, _, rfl, SqT.of (sD _ _ _ ha), for_enumT (xs := xs.map V.int) (fun i σ H' => ∃ y3 y4 y5 y6, σ = [some (.ref a), some (.ref b), some (.ref D), y3, y4, y5, y6] ∧ Same H H' ∧ H' D = some (.lst (tab N fun k => cv (xs.take i) (co ys) k))) ⟨none, none, none, none, rfl, sD _, upd_same⟩ (fun i σ H' hP => ?_) (fun i x B σ H' hxi hP hB => ?_) (fun σ H' hP => ?_)⟩
      · obtain ⟨y3, y4, y5, y6, _, sH, _⟩ := hP
        exact SqT.of (sH _ _ ha)
      · obtain ⟨y3, y4, y5, y6, rfl, sH, hL⟩ := hP
        obtain ⟨hi2, rfl⟩ := int_get hxi
        refine ⟨B, _, rfl, SqT.of upd_same, rfl, _, _, rfl, _, _, rfl, rfl, ?_⟩
        refine gen_upd H' B _ hB (fun H2 s2 _ => ?_)
        have sH2 := sH.trans s2
        have hL2 := s2 _ _ hL
        rw [tab_ext (g := J xs (co ys) i 0) fun k hk => J_0.symm] at hL2
        refine ⟨_, rfl, b, _, rfl, SqT.of (sH2 _ _ hb), for_enumT (xs := ys.map V.int) (fun j σ H3 => ∃ y3 y6, σ = [some (.ref a), some (.ref b), some (.ref D), y3, some (.int ((i : Nat) : Int)), some (.int (co xs i)), y6] ∧ Same H H3 ∧ H3 D = some (.lst (tab N (J xs (co ys) i j)))) ⟨y3, y6, rfl, sH2, hL2⟩ (fun j σ H3 hP => ?_) (fun j y B2 σ H3 hyj hP hB2 => ?_) (fun σ H3 hP => ?_)⟩
        · obtain ⟨y3, y6, _, sH3, _⟩ := hP
          exact SqT.of (sH3 _ _ hb)
        · obtain ⟨y3, y6, rfl, sH3, hL3⟩ := hP
          obtain ⟨hj2, rfl⟩ := int_get hyj
          refine ⟨B2, _, rfl, SqT.of upd_same, rfl, _, _, rfl, _, _, rfl, rfl, ?_⟩
          refine gen_upd H3 B2 _ hB2 (fun H4 s4 _ => ?_)
          have sH4 := sH3.trans s4
          have hL4 := s4 _ _ hL3
          have e1 : ((i : Nat) : Int) + ((j : Nat) : Int) = ((i + j : Nat) : Int) := by omega
          refine ⟨_, rfl, _, rfl, _, rfl, _, _, rfl, rfl, D, _, _, _, rfl, rfl, SqL.of hL4, at_of e1 (tab_get (by omega)), _, rfl, _, rfl, _, _, rfl, rfl, sm_mul (sm_co hx hi2) (sm_co hy hj2), _, _, rfl, rfl, ?_⟩
          refine ⟨_, rfl, _, rfl, _, rfl, _, _, rfl, rfl, D, _, _, (i + j), rfl, rfl, hL4, ?_, ?_⟩
          · rw [tab_len]
            exact ix_at e1 (by omega)
          · refine ⟨_, _, rfl, fun c o e => ?_, ?_⟩
            · rw [upd_ne (ne_of_none e hD)]
              exact sH4 _ _ e
            · rw [upd_same]
              show some (HO.lst ((tab N (J xs (co ys) i j)).set (i + j) (.int (J xs (co ys) i j (i + j) + co xs i * co ys j)))) = _
              rw [tab_set, tab_ext fun k hk => J_step]
        · obtain ⟨y3, y6, rfl, sH3, hL3⟩ := hP
          rw [List.length_map, tab_ext fun k hk => J_end hi2] at hL3
          exact ⟨_, _, _, _, rfl, sH3, hL3⟩
      · obtain ⟨y3, y4, y5, y6, rfl, sH, hL⟩ := hP
        rw [List.length_map, List.take_length, tab_tb] at hL
        refine ⟨_, rfl, .inl ⟨D, _, rfl, SqL.of hL, fun p hp => ?_⟩⟩
        refine q p _ (sH.trans (same_upd0 hp)) (Same.free sH hp) ?_
        rw [upd_same, hN]
        rfl
/-- the product of the first n -/
def pow (l : List Int) : Nat → List Int
  | 0 => [1]
  | n + 1 => ml (pow l n) l
def spPow : Sp := fun vs H Q _ => ∃ (a : Addr) (xs : List Int) (n : Nat), vs = [.ref a, .int n] ∧ H a = some (tp xs) ∧ xs ≠ [] ∧ xs.length ≤ 100 ∧ (∀ x ∈ xs, sm x) ∧ (∀ i, i < n → pow xs i ≠ [] ∧ (pow xs i).length ≤ 100 ∧ ∀ x ∈ pow xs i, sm x) ∧ n ≤ 100 ∧ ∀ p H', Same H H' → H' p = some (tp (pow xs n)) → Q (.ref p) H'
theorem ok_law_power (T : Facts K mg) : FnOk P w K mg base CX0 2 T.f_law_power T.fd_law_power ["_law_pair", "_law_times"] spPow := by
  have G_law_product : FnOk P w K mg base CX0 1 T.f_law_product T.fd_law_product ["_law_one", "_law_other"] spProd := ok_law_product T
  refine T.F_law_power.ok sc_law_power (fun vs H Q E h => ?_) (fun cdv A outer s H vs Q E hr h => ?_)
  · obtain ⟨a, xs, n, rfl, _⟩ := h
    rfl
  · obtain ⟨a, xs, n, rfl, ha, nx, lx, hx, hp, hn, q⟩ := h
    refine ⟨_, (PSs.nox (pss_cons (ps_set (i := 2) sc_law_power.nd rfl (.inl rfl) (pe_tup (pa_cons pe_int pa_nil)))
    (pss_cons (ps_for PassesOwn.never (by rfl) (pi_range1 (by rfl) T.z_range (pa_cons (pv 1) pa_nil)) (pg_name (i := 3) sc_law_power.nd rfl (.inl rfl))
      (pss_one (ps_set (i := 2) sc_law_power.nd rfl (.inl rfl) (pe_call G_law_product hr (by rfl) T.g_law_product T.F_law_product.kp T.b_law_product .nil pass0 (pa_cons (pv 2) (pa_cons (pv 0) pa_nil))))))
    (pss_one (ps_ret (pv 2)))))), ?_⟩
    refine ⟨(by show 1 ≤ sizeLine; decide), fun p0 n0 => ⟨_, rfl, n, rfl, by omega, by omega, for_range (n := (n : Int).toNat) (fun i σ H' => ∃ r y3, σ = [some (.ref a), some (.int n), some (.ref r), y3] ∧ Same H H' ∧ H' r = some (tp (pow xs i))) ⟨p0, none, rfl, same_upd0 n0, upd_same⟩ (fun i σ H' hi hP => ?_) (fun σ H' hP => ?_)⟩⟩
    · obtain ⟨r, y3, rfl, sH, hr2⟩ := hP
      obtain ⟨h1, h2, h3⟩ := hp i (by omega)
      exact ⟨_, rfl, _, rfl, r, a, _, xs, rfl, hr2, sH _ _ ha, h1, nx, h2, lx, h3, hx, fun p H2 s2 _ hp2 => ⟨p, _, rfl, sH.trans s2, hp2⟩⟩
    · obtain ⟨r, y3, rfl, sH, hr2⟩ := hP
      rw [Int.toNat_natCast] at hr2
      exact ⟨_, rfl, q r H' sH hr2⟩
end
end K76

set_option Elab.async false
set_option linter.all false
set_option maxRecDepth 100000
set_option maxHeartbeats 4000000
namespace K76
open PySem PySem.Spec PyProof.Rows L2 StX RZ MyR SlX OwnR OwnF EnumT
theorem first_of : ∀ ns : List Int, cont ns ≠ 0 → ∃ x r, ns.filter (fun x => x != 0) = x :: r ∧ sg ns = (if 0 < x then 1 else -1)
  | [], h => absurd rfl h
  | y :: ys, h => by
    by_cases c : y = 0
    · have hc : cont ys ≠ 0 := fun e => h (by
        show Nat.gcd y.natAbs (cont ys) = 0
        rw [c, e]
        rfl)
      obtain ⟨x, r, e1, e2⟩ := first_of ys hc
      refine ⟨x, r, ?_, ?_⟩
      · rw [List.filter_cons_of_neg (by rw [c]; decide)]
        exact e1
      · show (if y = 0 then sg ys else _) = _
        rw [if_pos c]
        exact e2
    · refine ⟨y, ys.filter (fun x => x != 0), ?_, ?_⟩
      · rw [List.filter_cons_of_pos (by simpa using c)]
      · show (if y = 0 then sg ys else if 0 < y then 1 else -1) = _
        rw [if_neg c]
section
variable {P : Program} {w : World} {K : PySem.W.Frag} {mg : Str → Option Value} {base : Heap}
theorem ok_law_plain (T : Facts K mg) : FnOk P w K mg base CX0 3 T.f_law_plain T.fd_law_plain ["_law_form_here"] spPrim := by
  have G_law_shared : FnOk P w K mg base CX0 2 T.f_law_shared T.fd_law_shared ["_law_numbers"] spShared := ok_law_shared T
  refine T.F_law_plain.ok sc_law_plain (fun vs H Q E h => ?_) (fun cdv A outer s H vs Q E hr h => ?_)
  · obtain ⟨t, ns, rfl, _⟩ := h
    rfl
  · obtain ⟨t, ns, rfl, ht, hl, hs, q⟩ := h
    refine ⟨_, (PSs.nox (pss_cons (ps_set (i := 1) sc_law_plain.nd rfl (.inr rfl) (pe_call G_law_shared hr (by rfl) T.g_law_shared T.F_law_shared.kp T.b_law_shared .nil pass0 (pa_cons (pv 0) pa_nil)))
    (pss_cons (ps_if (pt_cmpR op_eq (pv 1) pe_int (nomark _))
      (pss_one (ps_ret (pv 0)))
      pss_nil)
    (pss_cons (ps_set (i := 2) sc_law_plain.nd rfl (.inr rfl) (pe_ix ix_list (pe_lc (own := [("_law_entry", 3)]) (g := (gName 3)) (by rfl) sc_law_plain.nd (pi_tup (pv 0)) (blkOk_by (N := N_law_plain) (sc := defScope s_law_plain) (by decide +kernel)) (fun _ _ _ _ _ => (pg_name (i := 3) sc_law_plain.nd rfl (.inl rfl))) (fun _ _ _ _ _ => (pts_one (pt_cmpR op_ne (pv 3) pe_int (nomark _)))) (fun _ _ _ _ _ => (pv 3))) pe_int (fun _ _ => rfl)))
    (pss_one (ps_ret (pe_tupleOf (by rfl) T.z_tuple (pe_lc (own := [("_law_entry", 3)]) (g := (gName 3)) (tt := tYes) (by rfl) sc_law_plain.nd (pi_tup (pv 0)) (blkOk_by (N := N_law_plain) (sc := defScope s_law_plain) (by decide +kernel)) (fun _ _ _ _ _ => (pg_name (i := 3) sc_law_plain.nd rfl (.inl rfl))) (fun _ _ _ _ _ => pts_nil) (fun _ _ _ _ _ => (pe_op op_fdivZ (pv 3) (pe_ifExp (pt_cmpR op_gt (pv 2) pe_int (nomark _)) (pv 1) (pe_op op_sub pe_int (pv 1))))))))))))), ?_⟩
    refine ⟨_, rfl, t, ns, rfl, ht, _, rfl, rfl, _, rfl, ?_⟩
    by_cases c : cont ns = 0
    · rw [decide_eq_true (show V.int ((cont ns : Nat) : Int) = V.int 0 by rw [c]; rfl)]
      refine iteT ⟨_, rfl, q t H (Same.rf H) ?_⟩
      unfold prim
      rw [if_pos (by unfold part; rw [c]; exact Int.zero_mul _)]
      exact ht
    · rw [decide_eq_false fun z => c (Int.natCast_eq_zero.mp (V.int.inj z))]
      obtain ⟨x0, r0, e1, e2⟩ := first_of ns c
      have hpart : part ns = if 0 < x0 then ((cont ns : Nat) : Int) else 0 - ((cont ns : Nat) : Int) := by
        unfold part
        rw [e2]
        split
        · exact Int.mul_one _
        · rw [Int.mul_neg, Int.mul_one, Int.zero_sub]
      have hp0 : part ns ≠ 0 := fun e => c (by rw [← part_abs, e]; rfl)
      have hcd : CDivZ 0 (part ns) := ⟨hp0, Nat.lt_trans (PySem.Flt.log2_lt_of (k := 4000) (by decide) (sm_part hs)) (by decide)⟩
      refine iteF ⟨_, rfl, t, rfl, ⟨_, SqT.of ht⟩, fun D hD => lc_tup (xs := ns.map V.int) (fun j H' => Same H H' ∧ H' D = some (.lst (((ns.take j).filter (fun x => x != 0)).map V.int))) ⟨same_upd0 hD, upd_same⟩ (fun j H' _ hP => SqT.of (hP.1 _ _ ht)) (fun j x H' hx hP => ?_) (fun H1 hP => ?_)⟩
      · obtain ⟨sH, hL⟩ := hP
        obtain ⟨hj, rfl⟩ := int_get hx
        refine ⟨rfl, _, rfl, rfl, _, rfl, ?_⟩
        rw [take_snoc hj, List.filter_append]
        by_cases d : co ns j = 0
        · rw [decide_eq_true (show V.int (co ns j) = V.int 0 by rw [d])]
          refine iteF ⟨sH, ?_⟩
          rw [hL, List.filter_cons_of_neg (by rw [d]; decide), List.filter_nil, List.append_nil]
        · rw [decide_eq_false fun z => d (V.int.inj z)]
          refine iteT ⟨_, rfl, _, hL, ?_, fun b o e => ?_, ?_⟩
          · have h1 := List.length_filter_le (fun x => x != 0) (ns.take j)
            rw [List.length_take] at h1
            rw [List.length_map]
            exact small1000 (by omega)
          · rw [upd_ne (ne_of_none e hD)]
            exact sH _ _ e
          · rw [upd_same, List.filter_cons_of_pos (by simpa using d), List.filter_nil, List.map_append]
            rfl
      · obtain ⟨s1, hL⟩ := hP
        rw [List.length_map, List.take_length, e1] at hL
        refine ⟨D, _, _, .int x0, rfl, rfl, SqL.of hL, atI_nat (j := 0) rfl, ?_⟩
        have ht1 := s1 _ _ ht
        refine ⟨_, rfl, t, rfl, ⟨_, SqT.of ht1⟩, fun D2 hD2 => lc_tup (xs := ns.map V.int) (fun j H' => H' = upd H1 D2 (.lst (tab j fun k => (co ns k).fdiv (part ns)))) rfl (fun j H' _ hP => ?_) (fun j x H' hx hP => ?_) (fun H' hP => ?_)⟩
        · rw [hP]
          exact SqT.of (same_upd0 hD2 _ _ ht1)
        · subst hP
          obtain ⟨hj, rfl⟩ := int_get hx
          refine ⟨rfl, _, rfl, _, rfl, x0, 0, rfl, rfl, _, rfl, ?_⟩
          have fin : ∀ v : Int, v = part ns → True := fun _ _ => True.intro
          by_cases d : 0 < x0
          · rw [decide_eq_true d]
            rw [if_pos d] at hpart
            rw [hpart] at hcd
            refine iteT ⟨_, rfl, _, _, rfl, rfl, hcd, _, upd_same, ?_, ?_⟩
            · rw [tab_len]
              exact small1000 (by omega)
            · rw [upd_upd, ← tab_snoc, hpart]
          · rw [decide_eq_false d]
            rw [if_neg d] at hpart
            rw [hpart] at hcd
            refine iteF ⟨_, rfl, _, _, rfl, rfl, _, _, rfl, rfl, hcd, _, upd_same, ?_, ?_⟩
            · rw [tab_len]
              exact small1000 (by omega)
            · rw [upd_upd, ← tab_snoc, hpart]
        · subst hP
          rw [List.length_map, tab_tb, tb_map (fun x => x.fdiv (part ns)) ns]
          refine .inl ⟨D2, _, rfl, SqL.of upd_same, fun p hp2 => ?_⟩
          refine q p _ (s1.trans ((same_upd0 hD2).trans (same_upd0 hp2))) ?_
          rw [upd_same]
          unfold prim
          rw [if_neg hp0]
end
end K76

set_option Elab.async false
set_option linter.all false
set_option maxRecDepth 100000
set_option maxHeartbeats 4000000
namespace K76
open PySem PySem.Spec PyProof.Rows L2 StX RZ MyR SlX OwnR OwnF EnumT
theorem prim_len (l : List Int) : (prim l).length = l.length := by
  unfold prim
  split
  · rfl
  · rw [List.length_map]
theorem prim_mem {l : List Int} {b : Nat} (h : ∀ x ∈ l, x.natAbs ≤ b) : ∀ x ∈ prim l, x.natAbs ≤ b := by
  intro x hx
  unfold prim at hx
  by_cases c : part l = 0
  · rw [if_pos c] at hx
    exact h x hx
  · rw [if_neg c] at hx
    obtain ⟨y, hy, rfl⟩ := List.mem_map.mp hx
    have hd : part l ∣ y := Int.natAbs_dvd_natAbs.mp (by rw [part_abs]; exact Int.natAbs_dvd_natAbs.mpr (cont_dvd l y hy))
    obtain ⟨k, rfl⟩ := hd
    show ((part l * k).fdiv (part l)).natAbs ≤ b
    rw [Int.mul_fdiv_cancel_left _ c]
    refine Nat.le_trans ?_ (h _ hy)
    rw [Int.natAbs_mul]
    exact Nat.le_mul_of_pos_left _ (Int.natAbs_pos.mpr c)
section
variable {P : Program} {w : World} {K : PySem.W.Frag} {mg : Str → Option Value} {base : Heap}
theorem dc_ne {H : Hp} {d p : Addr} {xs : List V} (hd : Dc H d) (hp : H p = some (.tup xs)) : p ≠ d := fun e => by
  obtain ⟨x, y, z, h⟩ := hd
  rw [e, h] at hp
  cases hp
def spLine : Sp := fun vs H Q _ => ∃ (t : Addr) (u v : Int), vs = [.ref t] ∧ H t = some (tp [u, v]) ∧ ∀ p, H p = none → Q (.ref p) (upd H p (tp [v, 0 - u]))
theorem ok_law_line (T : Facts K mg) : FnOk P w K mg base CX0 1 T.f_law_line T.fd_law_line ["_law_point_here"] spLine := by
  refine T.F_law_line.ok sc_law_line (fun vs H Q E h => ?_) (fun cdv A outer s H vs Q E hr h => ?_)
  · obtain ⟨t, u, v, rfl, _⟩ := h
    rfl
  · obtain ⟨t, u, v, rfl, ht, q⟩ := h
    refine ⟨_, (PSs.nox (pss_one (ps_ret (pe_tup (pa_cons (pe_ix ix_tup (pv 0) pe_int (fun _ _ => rfl)) (pa_cons (pe_op op_sub pe_int (pe_ix ix_tup (pv 0) pe_int (fun _ _ => rfl))) pa_nil)))))), ?_⟩
    exact ⟨_, rfl, t, _, 1, _, rfl, rfl, SqT.of ht, atI_nat (j := 1) rfl, _, rfl, t, _, 0, _, rfl, rfl, SqT.of ht, atI_nat (j := 0) rfl, _, _, rfl, rfl, (by show 2 ≤ sizeLine; decide), fun p hp => q p hp⟩
/-- a drawn point -/
def spPoint : Sp := fun vs H Q _ => ∃ (d : Addr) (m : Nat), vs = [.ref d, .int m] ∧ Dc H d ∧ 1 ≤ m ∧ m ≤ 1000 ∧ ∀ p H' u v, Sx d H H' → Dc H' d → H' p = some (tp [u, v]) → u.natAbs ≤ m → v.natAbs ≤ m → Q (.ref p) H'
theorem ok_law_point (T : Facts K mg) : FnOk P w K mg base CX0 4 T.f_law_point T.fd_law_point ["_law_dice_here", "_law_most"] spPoint := by
  have G_law_near : FnOk P w K mg base CX0 2 T.f_law_near T.fd_law_near ["_law_dice_here", "_law_most"] spNear := ok_law_near T
  have G_law_plain : FnOk P w K mg base CX0 3 T.f_law_plain T.fd_law_plain ["_law_form_here"] spPrim := ok_law_plain T
  refine T.F_law_point.ok sc_law_point (fun vs H Q E h => ?_) (fun cdv A outer s H vs Q E hr h => ?_)
  · obtain ⟨d, m, rfl, _⟩ := h
    rfl
  · obtain ⟨d, m, rfl, hd, h1, h2, q⟩ := h
    refine ⟨_, (PSs.nox (pss_cons (ps_par (i := 2) (j := 3) (by rfl) sc_law_point.nd rfl rfl (by decide) rfl rfl (pa_cons (pe_call G_law_near (hr.mono (by decide)) (by rfl) T.g_law_near T.F_law_near.kp T.b_law_near .nil pass0 (pa_cons (pv 0) (pa_cons (pv 1) pa_nil))) (pa_cons (pe_call G_law_near (hr.mono (by decide)) (by rfl) T.g_law_near T.F_law_near.kp T.b_law_near .nil pass0 (pa_cons (pv 0) (pa_cons (pv 1) pa_nil))) pa_nil)) (by rfl))
    (pss_one (ps_ret (pe_ifExp (pt_cmpR (op_neD (hu64 hr)) (pe_tup (pa_cons (pv 2) (pa_cons (pv 3) pa_nil))) (pe_tup (pa_cons pe_int (pa_cons pe_int pa_nil))) (nomark _)) (pe_call G_law_plain hr (by rfl) T.g_law_plain T.F_law_plain.kp T.b_law_plain .nil pass0 (pa_cons (pe_tup (pa_cons (pv 2) (pa_cons (pv 3) pa_nil))) pa_nil)) (pe_tup (pa_cons pe_int (pa_cons pe_int pa_nil)))))))), ?_⟩
    have e15 : (10 : Int) ^ 15 = 1000000000000000 := by decide
    have z2 : 2 ≤ sizeLine := by decide
    refine ⟨_, rfl, _, rfl, d, m, rfl, hd, by omega, by rw [e15]; omega, fun u H1 u1 u2 s1 d1 => ⟨_, rfl, _, rfl, d, m, rfl, d1, by omega, by rw [e15]; omega, fun v H2 v1 v2 s2 d2 => ⟨_, _, rfl, ?_⟩⟩⟩
    have s12 := s1.trans s2
    refine ⟨_, rfl, _, rfl, z2, fun p1 n1 => gen_upd H2 p1 (tp [u, v]) n1 fun H3 s3 f3 => ⟨z2, fun p2 n2 => gen_upd H3 p2 (tp [0, 0]) n2 fun H4 s4 f4 => ?_⟩⟩
    refine ne_ints (xs := [u, v]) (ys := [0, 0]) (SqT.of (s4 _ _ f3)) (SqT.of f4) ?_
    have d4 := d2.same (s3.trans s4)
    have s14 : Sx d H H4 := s12.trans (Sx.of (s3.trans s4))
    by_cases c : [u, v] = [0, 0]
    · rw [decide_eq_true c]
      refine ⟨_, rfl, iteF ⟨z2, fun p3 n3 => gen_upd H4 p3 (tp [1, 0]) n3 fun H5 s5 f5 => ?_⟩⟩
      exact q p3 H5 1 0 (s14.trans (Sx.of s5)) (d4.same s5) f5 (by show 1 ≤ m; omega) (by show 0 ≤ m; omega)
    · rw [decide_eq_false c]
      refine ⟨_, rfl, iteT ⟨_, rfl, _, rfl, z2, fun p3 n3 => gen_upd H4 p3 (tp [u, v]) n3 fun H5 s5 f5 => ?_⟩⟩
      have hb : ∀ x ∈ [u, v], x.natAbs ≤ m := fun x hx => by
        simp only [List.mem_cons, List.not_mem_nil, or_false] at hx
        rcases hx with e | e <;> rw [e] <;> omega
      refine ⟨p3, [u, v], rfl, f5, by show 2 ≤ 1000; omega, fun x hx => Nat.lt_of_le_of_lt (hb x hx) (Nat.lt_of_le_of_lt h2 (by decide)), fun p H6 s6 hp => ?_⟩
      have hl := prim_len [u, v]
      have hm := prim_mem hb
      generalize prim [u, v] = r at hp hl hm
      match r, hl with
      | [x, y], _ => exact q p H6 x y (s14.trans (Sx.of (s5.trans s6))) (d4.same (s5.trans s6)) hp (hm x (by simp)) (hm y (by simp))
/-- a drawn form -/
def spSmall : Sp := fun vs H Q _ => ∃ (d : Addr) (n m : Nat), vs = [.ref d, .int n, .int m] ∧ Dc H d ∧ n ≤ 40 ∧ m ≤ 1000000000000 ∧ ∀ p H' l, Sx d H H' → Dc H' d → H' p = some (tp l) → l.length = n + 1 → (∀ x ∈ l, x.natAbs ≤ m) → Q (.ref p) H'
theorem ok_law_small_form (T : Facts K mg) : FnOk P w K mg base CX0 3 T.f_law_small_form T.fd_law_small_form ["_law_dice_here", "_law_degree", "_law_most"] spSmall := by
  have G_law_near : FnOk P w K mg base CX0 2 T.f_law_near T.fd_law_near ["_law_dice_here", "_law_most"] spNear := ok_law_near T
  refine T.F_law_small_form.ok sc_law_small_form (fun vs H Q E h => ?_) (fun cdv A outer s H vs Q E hr h => ?_)
  · obtain ⟨d, n, m, rfl, _⟩ := h
    rfl
  · obtain ⟨d, n, m, rfl, hd, hn, hm, q⟩ := h
    refine ⟨_, (PSs.nox (pss_one (ps_ret (pe_tupleOf (by rfl) T.z_tuple (pe_lc (own := [("_law_place", 3)]) (g := (gName 3)) (tt := tYes) (by rfl) sc_law_small_form.nd (pi_range1 (by rfl) T.z_range (pa_cons (pe_op op_add (pv 1) pe_int) pa_nil)) (blkOk_by (N := N_law_small_form) (sc := defScope s_law_small_form) (by decide +kernel)) (fun _ _ _ _ _ => (pg_name (i := 3) sc_law_small_form.nd rfl (.inl rfl))) (fun _ _ _ _ _ => pts_nil) (fun _ _ _ _ _ => (pe_call G_law_near hr (by rfl) T.g_law_near T.F_law_near.kp T.b_law_near .nil pass0 (pa_cons (pv 0) (pa_cons (pv 2) pa_nil))))))))), ?_⟩
    have e15 : (10 : Int) ^ 15 = 1000000000000000 := by decide
    refine ⟨_, rfl, _, _, rfl, rfl, _, rfl, (by show -(2 ^ 62) ≤ (n : Int) + 1; omega), (by show (n : Int) + 1 < 2 ^ 62; omega), fun D hD => lc_range (n := ((n : Int) + 1).toNat) (fun j H' => Sx d H H' ∧ Dc H' d ∧ ∃ l : List Int, H' D = some (.lst (l.map V.int)) ∧ l.length = j ∧ ∀ x ∈ l, x.natAbs ≤ m) ⟨Sx.of (same_upd0 hD), hd.same (same_upd0 hD), [], upd_same, rfl, fun x hx => by cases hx⟩ (fun j H' hj hP => ?_) (fun H' hP => ?_)⟩
    · obtain ⟨sH, dH, l, hL, hl, hb⟩ := hP
      have nD : D ≠ d := hd.ne hD
      refine ⟨rfl, _, rfl, _, rfl, d, m, rfl, dH, by omega, by rw [e15]; omega, fun r H2 r1 r2 s2 d2 => ⟨_, s2 D _ nD hL, ?_, fun b o hb2 e => ?_, ?_, l ++ [r], ?_, ?_, fun x hx => ?_⟩⟩
      · rw [List.length_map]
        exact small1000 (by omega)
      · rw [upd_ne (ne_of_none e hD)]
        exact (sH.trans s2) b o hb2 e
      · obtain ⟨x, y, z, e⟩ := d2
        exact ⟨x, y, z, by rw [upd_ne (Ne.symm nD)]; exact e⟩
      · rw [upd_same, List.map_append]
        rfl
      · rw [List.length_append, hl]
        rfl
      · rcases List.mem_append.mp hx with e | e
        · exact hb x e
        · rw [List.mem_singleton.mp e]
          omega
    · obtain ⟨sH, dH, l, hL, hl, hb⟩ := hP
      refine .inl ⟨D, _, rfl, SqL.of hL, fun p hp2 => ?_⟩
      exact q p _ l (sH.trans (Sx.of (same_upd0 hp2))) (dH.same (same_upd0 hp2)) upd_same (by omega) hb
end
end K76

set_option Elab.async false
set_option linter.all false
set_option maxRecDepth 100000
/-! how large the entries of products are -/
namespace K76
/-- the sum of the first n absolute values -/
def sN : Nat → (Nat → Int) → Nat
  | 0, _ => 0
  | n + 1, f => sN n f + (f n).natAbs
/-- the sum of the absolute values of the entries -/
def nm (l : List Int) : Nat := (l.map Int.natAbs).sum
theorem sN_add (f g : Nat → Int) : ∀ n, sN n (fun k => f k + g k) ≤ sN n f + sN n g
  | 0 => Nat.le_refl _
  | n + 1 => by
    have h1 := sN_add f g n
    have h2 := Int.natAbs_add_le (f n) (g n)
    show sN n (fun k => f k + g k) + (f n + g n).natAbs ≤ sN n f + (f n).natAbs + (sN n g + (g n).natAbs)
    omega
theorem sN_mul (c : Int) (f : Nat → Int) : ∀ n, sN n (fun k => c * f k) = c.natAbs * sN n f
  | 0 => rfl
  | n + 1 => by
    show sN n (fun k => c * f k) + (c * f n).natAbs = c.natAbs * (sN n f + (f n).natAbs)
    rw [sN_mul c f n, Int.natAbs_mul, Nat.mul_add]
theorem sN_sh (f : Nat → Int) : ∀ n, sN n (sh f) ≤ sN n f
  | 0 => Nat.le_refl _
  | 1 => Nat.zero_le _
  | n + 2 => by
    have key : ∀ n, sN (n + 1) (sh f) = sN n f := by
      intro n
      induction n with
      | zero => rfl
      | succ n ih =>
        show sN (n + 1) (sh f) + (f n).natAbs = sN n f + (f n).natAbs
        rw [ih]
    rw [key]
    exact Nat.le_add_right _ _
theorem sN_cv (g : Nat → Int) (n : Nat) : ∀ l : List Int, sN n (cv l g) ≤ nm l * sN n g
  | [] => by
    have : sN n (cv [] g) = 0 := by
      induction n with
      | zero => rfl
      | succ n ih => show sN n (cv [] g) + (0 : Int).natAbs = 0; rw [ih]; rfl
    omega
  | x :: xs => by
    have h1 := sN_cv g n xs
    have e : sN n (cv (x :: xs) g) = sN n (fun k => x * g k + sh (cv xs g) k) := by
      rw [show cv (x :: xs) g = fun k => x * g k + sh (cv xs g) k from funext (cv_cons x xs g)]
    have h2 := sN_add (fun k => x * g k) (sh (cv xs g)) n
    have h3 := sN_sh (cv xs g) n
    rw [e]
    rw [sN_mul] at h2
    show _ ≤ (x.natAbs + nm xs) * sN n g
    rw [Nat.add_mul]
    omega
theorem nm_snoc (l : List Int) (x : Int) : nm (l ++ [x]) = nm l + x.natAbs := by
  unfold nm
  rw [List.map_append, List.sum_append]
  simp
theorem nm_tb (f : Nat → Int) : ∀ n, nm (tb n f) = sN n f
  | 0 => rfl
  | n + 1 => by
    have e : tb (n + 1) f = tb n f ++ [f n] := by
      unfold tb
      rw [List.range_succ, List.map_append]
      rfl
    rw [e, nm_snoc, nm_tb f n]
    rfl
theorem nm_mem : ∀ {l : List Int} {x : Int}, x ∈ l → x.natAbs ≤ nm l
  | y :: ys, x, h => by
    show x.natAbs ≤ y.natAbs + nm ys
    rcases List.mem_cons.mp h with e | e
    · rw [e]; omega
    · have := nm_mem e; omega
theorem sN_co (l : List Int) (n : Nat) : sN n (co l) ≤ nm l := by
  by_cases h : n ≤ l.length
  · have mono : ∀ k, sN n (co l) ≤ sN (n + k) (co l) := by
      intro k
      induction k with
      | zero => exact Nat.le_refl _
      | succ k ih => exact Nat.le_trans ih (Nat.le_add_right _ _)
    have h1 := mono (l.length - n)
    rw [show n + (l.length - n) = l.length by omega] at h1
    rw [← nm_tb (co l) l.length, tb_co] at h1
    exact h1
  · have far : ∀ k, sN (l.length + k) (co l) = sN l.length (co l) := by
      intro k
      induction k with
      | zero => rfl
      | succ k ih =>
        show sN (l.length + k) (co l) + (co l (l.length + k)).natAbs = _
        rw [ih, co_far (by omega)]
        rfl
    have h1 := far (n - l.length)
    rw [show l.length + (n - l.length) = n by omega] at h1
    rw [h1, ← nm_tb (co l) l.length, tb_co]
    exact Nat.le_refl _
theorem nm_ml (l m : List Int) : nm (ml l m) ≤ nm l * nm m := by
  unfold ml
  rw [nm_tb]
  exact Nat.le_trans (sN_cv _ _ l) (Nat.mul_le_mul (Nat.le_refl _) (sN_co m _))
theorem nm_pl : ∀ (l m : List Int), nm (pl l m) ≤ nm l + nm m
  | [], _ => Nat.zero_le _
  | _ :: _, [] => Nat.zero_le _
  | x :: xs, y :: ys => by
    have h1 := nm_pl xs ys
    have h2 := Int.natAbs_add_le x y
    show (x + y).natAbs + nm (pl xs ys) ≤ x.natAbs + nm xs + (y.natAbs + nm ys)
    omega
theorem nm_scale (c : Int) : ∀ l : List Int, nm (l.map (c * ·)) = c.natAbs * nm l
  | [] => rfl
  | x :: xs => by
    show (c * x).natAbs + nm (xs.map (c * ·)) = c.natAbs * (x.natAbs + nm xs)
    rw [nm_scale c xs, Int.natAbs_mul, Nat.mul_add]
theorem nm_le {b : Nat} : ∀ {l : List Int}, (∀ x ∈ l, x.natAbs ≤ b) → nm l ≤ l.length * b
  | [], _ => Nat.zero_le _
  | x :: xs, h => by
    have h1 := nm_le (l := xs) fun y hy => h y (List.mem_cons_of_mem _ hy)
    have h2 := h x List.mem_cons_self
    show x.natAbs + nm xs ≤ (xs.length + 1) * b
    rw [Nat.succ_mul]
    omega
end K76

set_option Elab.async false
set_option linter.all false
set_option maxRecDepth 100000
set_option maxHeartbeats 4000000
namespace K76
open PySem PySem.Spec PyProof.Rows L2 StX RZ MyR SlX OwnR OwnF EnumT
section
variable {P : Program} {w : World} {K : PySem.W.Frag} {mg : Str → Option Value} {base : Heap}
end
end K76

set_option Elab.async false
set_option linter.all false
set_option maxRecDepth 100000
set_option maxHeartbeats 4000000
namespace K76
open PySem PySem.Spec PyProof.Rows L2 StX RZ MyR SlX OwnR OwnF EnumT
/-- the product of the first i rows -/
def allP (ls : List (List Int)) (i : Nat) : List Int := (ls.take i).foldl ml [1]
theorem allP_succ {ls : List (List Int)} {i : Nat} (h : i < ls.length) : allP ls (i + 1) = ml (allP ls i) ls[i] := by
  unfold allP
  rw [List.take_add_one, List.getElem?_eq_getElem h, List.foldl_append]
  rfl
section
variable {P : Program} {w : World} {K : PySem.W.Frag} {mg : Str → Option Value} {base : Heap}
def spAll : Sp := fun vs H Q _ => ∃ (l : Addr) (rs : List Addr) (ls : List (List Int)), vs = [.ref l] ∧ H l = some (.lst (rs.map V.ref)) ∧ rs.length = ls.length ∧ (∀ i (h : i < ls.length) (h' : i < rs.length), H rs[i] = some (tp ls[i]) ∧ Rw ls[i]) ∧ (∀ i, i < ls.length → Rw (allP ls i)) ∧ ∀ p H', Same H H' → H' p = some (tp (allP ls ls.length)) → Q (.ref p) H'
theorem ok_law_all_product (T : Facts K mg) : FnOk P w K mg base CX0 2 T.f_law_all_product T.fd_law_all_product ["_law_forms"] spAll := by
  have G_law_product : FnOk P w K mg base CX0 1 T.f_law_product T.fd_law_product ["_law_one", "_law_other"] spProd := ok_law_product T
  refine T.F_law_all_product.ok sc_law_all_product (fun vs H Q E h => ?_) (fun cdv A outer s H vs Q E hr h => ?_)
  · obtain ⟨l, rs, ls, rfl, _⟩ := h
    rfl
  · obtain ⟨l, rs, ls, rfl, hl, hlen, hrow, hall, q⟩ := h
    refine ⟨_, (PSs.nox (pss_cons (ps_set (i := 1) sc_law_all_product.nd rfl (.inl rfl) (pe_tup (pa_cons pe_int pa_nil)))
    (pss_cons (ps_for PassesOwn.never (by rfl) (pi_list (pv 0)) (pg_name (i := 2) sc_law_all_product.nd rfl (.inl rfl))
      (pss_one (ps_set (i := 1) sc_law_all_product.nd rfl (.inl rfl) (pe_call G_law_product hr (by rfl) T.g_law_product T.F_law_product.kp T.b_law_product .nil pass0 (pa_cons (pv 1) (pa_cons (pv 2) pa_nil))))))
    (pss_one (ps_ret (pv 1)))))), ?_⟩
    refine ⟨(by show 1 ≤ sizeLine; decide), fun p0 n0 => ⟨_, rfl, l, rfl, ⟨_, SqL.of (same_upd0 n0 _ _ hl)⟩, for_list (xs := rs.map V.ref) (fun i σ H' => ∃ r y, σ = [some (.ref l), some (.ref r), y] ∧ Same H H' ∧ H' r = some (tp (allP ls i))) ⟨p0, none, rfl, same_upd0 n0, upd_same⟩ (fun i σ H' _ hP => ?_) (fun i x σ H' hx hP => ?_) (fun σ H' hP => ?_)⟩⟩
    · obtain ⟨r, y, _, sH, _⟩ := hP
      exact SqL.of (sH _ _ hl)
    · obtain ⟨r, y, rfl, sH, hr2⟩ := hP
      rw [List.getElem?_map] at hx
      obtain ⟨b, hb, rfl⟩ := Option.map_eq_some_iff.mp hx
      obtain ⟨h1, e1⟩ := List.getElem?_eq_some_iff.mp hb
      have h2 : i < ls.length := by omega
      obtain ⟨hb2, rb⟩ := hrow i h2 h1
      rw [e1] at hb2
      have ra := hall i h2
      exact ⟨_, rfl, _, rfl, r, b, _, ls[i], rfl, hr2, sH _ _ hb2, ra.ne, rb.ne, ra.len, rb.len, ra.sm, rb.sm, fun p H2 s2 _ hp2 => ⟨p, _, rfl, sH.trans s2, by rw [allP_succ h2]; exact hp2⟩⟩
    · obtain ⟨r, y, rfl, sH, hr2⟩ := hP
      rw [List.length_map, hlen] at hr2
      exact ⟨_, rfl, q r H' sH hr2⟩
end
end K76

set_option Elab.async false
set_option linter.all false
set_option maxRecDepth 100000
/-! the primitive row of a primitive row -/
namespace K76
end K76

set_option Elab.async false
set_option linter.all false
set_option maxRecDepth 100000
/-! sums of rows, rows of 0 -/
namespace K76
theorem zs_one : ∀ xs ys : List Int, zs 1 xs ys = pl xs ys
  | [], _ => rfl
  | _ :: _, [] => rfl
  | x :: xs, y :: ys => by
    show (x + 1 * y) :: zs 1 xs ys = (x + y) :: pl xs ys
    rw [zs_one xs ys, Int.one_mul]
theorem any_cont : ∀ l : List Int, (!l.any (· != 0)) = decide (cont l = 0)
  | [] => rfl
  | x :: xs => by
    have h := any_cont xs
    rw [List.any_cons, Bool.not_or, h]
    by_cases c : x = 0
    · have e : cont (x :: xs) = cont xs := by
        show Nat.gcd x.natAbs (cont xs) = _
        rw [c]
        exact Nat.gcd_zero_left _
      rw [e, c]
      rfl
    · have e : cont (x :: xs) ≠ 0 := fun z => c (cont_zero z x List.mem_cons_self)
      rw [decide_eq_false e]
      have : (x != 0) = true := by simpa using c
      rw [this]
      rfl
end K76

set_option Elab.async false
set_option linter.all false
set_option maxRecDepth 100000
/-! values of forms; a form is told by its values -/
namespace K76
/-- the value at x, y of the first n entries -/
def evF : Nat → (Nat → Int) → Int → Int → Int
  | 0, _, _, _ => 0
  | n + 1, g, x, y => x * evF n g x y + g n * y ^ n
def ev (l : List Int) (x y : Int) : Int := evF l.length (co l) x y
theorem evF_congr {g h : Nat → Int} {x y : Int} : ∀ n, (∀ i, i < n → g i = h i) → evF n g x y = evF n h x y
  | 0, _ => rfl
  | n + 1, e => by
    show x * evF n g x y + g n * y ^ n = x * evF n h x y + h n * y ^ n
    rw [evF_congr n fun i hi => e i (by omega), e n (by omega)]
theorem evF_add (g h : Nat → Int) (x y : Int) : ∀ n, evF n (fun i => g i + h i) x y = evF n g x y + evF n h x y
  | 0 => rfl
  | n + 1 => by
    show x * evF n (fun i => g i + h i) x y + (g n + h n) * y ^ n = (x * evF n g x y + g n * y ^ n) + (x * evF n h x y + h n * y ^ n)
    rw [evF_add g h x y n, Int.mul_add, Int.add_mul]
    omega
theorem evF_mul (c : Int) (g : Nat → Int) (x y : Int) : ∀ n, evF n (fun i => c * g i) x y = c * evF n g x y
  | 0 => by show (0 : Int) = c * 0; rw [Int.mul_zero]
  | n + 1 => by
    show x * evF n (fun i => c * g i) x y + (c * g n) * y ^ n = c * (x * evF n g x y + g n * y ^ n)
    rw [evF_mul c g x y n, Int.mul_add, Int.mul_assoc, ← Int.mul_assoc x c, Int.mul_comm x c, Int.mul_assoc]
theorem evF_sh (g : Nat → Int) (x y : Int) : ∀ n, evF (n + 1) (sh g) x y = y * evF n g x y
  | 0 => by
    show x * 0 + (0 : Int) * y ^ 0 = y * 0
    rw [Int.mul_zero, Int.zero_mul, Int.mul_zero]
    rfl
  | n + 1 => by
    show x * evF (n + 1) (sh g) x y + g n * y ^ (n + 1) = y * (x * evF n g x y + g n * y ^ n)
    rw [evF_sh g x y n, Int.mul_add, Int.pow_succ, ← Int.mul_assoc, Int.mul_comm x y, Int.mul_assoc, Int.mul_comm (y ^ n) y, ← Int.mul_assoc (g n), Int.mul_comm (g n) y, Int.mul_assoc y (g n)]
theorem evF_far {g : Nat → Int} (x y : Int) {n : Nat} (h : ∀ i, n ≤ i → g i = 0) : ∀ k, evF (n + k) g x y = x ^ k * evF n g x y
  | 0 => by rw [Nat.add_zero, Int.pow_zero, Int.one_mul]
  | k + 1 => by
    show x * evF (n + k) g x y + g (n + k) * y ^ (n + k) = _
    rw [evF_far x y h k, h _ (by omega), Int.zero_mul, Int.add_zero, Int.pow_succ, ← Int.mul_assoc, Int.mul_comm x]
theorem evF_zero (x y : Int) : ∀ n, evF n (fun _ => 0) x y = 0
  | 0 => rfl
  | n + 1 => by
    show x * evF n (fun _ => 0) x y + 0 * y ^ n = 0
    rw [evF_zero x y n, Int.mul_zero, Int.zero_mul]
    rfl
theorem ev_ml : ∀ {l m : List Int}, l ≠ [] → m ≠ [] → ∀ x y, ev (ml l m) x y = ev l x y * ev m x y := by
  intro l
  induction l with
  | nil => intro m h; exact absurd rfl h
  | cons a l ih =>
    intro m hl hm x y
    have hM : 0 < m.length := List.length_pos_iff.mpr hm
    have e0 : ev (ml (a :: l) m) x y = evF (l.length + m.length) (cv (a :: l) (co m)) x y := by
      unfold ev
      rw [ml_len, show (a :: l).length + m.length - 1 = l.length + m.length by rw [List.length_cons]; omega]
      exact evF_congr _ fun i _ => co_ml hm i
    rw [e0]
    have e1 : evF (l.length + m.length) (cv (a :: l) (co m)) x y = a * evF (l.length + m.length) (co m) x y + evF (l.length + m.length) (sh (cv l (co m))) x y := by
      rw [← evF_mul, ← evF_add]
      exact evF_congr _ fun i _ => cv_cons a l (co m) i
    rw [e1, show l.length + m.length = m.length + l.length by omega, evF_far x y (fun i hi => co_far hi) l.length]
    have e2 : ev (a :: l) x y = a * x ^ l.length + y * evF l.length (co l) x y := by
      unfold ev
      rw [List.length_cons]
      rw [show evF (l.length + 1) (co (a :: l)) x y = evF (l.length + 1) (fun i => a * (if i = 0 then 1 else 0) + sh (co l) i) x y from evF_congr _ fun i _ => by
        rw [co_cons]
        by_cases h : i = 0
        · rw [if_pos h, if_pos h, Int.mul_one]
        · rw [if_neg h, if_neg h, Int.mul_zero], evF_add, evF_mul, evF_sh]
      congr 1
      congr 1
      have h1 : evF (1 + l.length) (fun i => if i = 0 then (1 : Int) else 0) x y = x ^ l.length * evF 1 (fun i => if i = 0 then (1 : Int) else 0) x y := evF_far x y (n := 1) (fun i hi => if_neg (by omega)) l.length
      rw [show l.length + 1 = 1 + l.length by omega, h1]
      show x ^ l.length * (x * 0 + (if 0 = 0 then 1 else 0) * y ^ 0) = _
      rw [if_pos rfl, Int.mul_zero, Int.pow_zero, Int.mul_one, Int.zero_add, Int.mul_one]
    rw [e2]
    by_cases c : l = []
    · subst c
      show a * (x ^ 0 * evF m.length (co m) x y) + evF (m.length + 0) (sh (cv [] (co m))) x y = (a * x ^ 0 + y * 0) * ev m x y
      rw [show evF (m.length + 0) (sh (cv [] (co m))) x y = evF m.length (fun _ => 0) x y from evF_congr _ fun i _ => by cases i <;> rfl, evF_zero, Int.pow_zero, Int.one_mul, Int.mul_one, Int.mul_zero, Int.add_zero, Int.add_zero]
      rfl
    · have hL : 0 < l.length := List.length_pos_iff.mpr c
      have e3 : evF (m.length + l.length) (sh (cv l (co m))) x y = y * (ev l x y * ev m x y) := by
        rw [show m.length + l.length = (l.length + m.length - 1) + 1 by omega, evF_sh, ← ih c hm x y]
        congr 1
        unfold ev
        rw [ml_len]
        exact evF_congr _ fun i _ => (co_ml hm i).symm
      rw [e3]
      show a * (x ^ l.length * ev m x y) + y * (ev l x y * ev m x y) = (a * x ^ l.length + y * ev l x y) * ev m x y
      rw [Int.add_mul, Int.mul_assoc, Int.mul_assoc]
theorem ev_cons (a : Int) (l : List Int) (x y : Int) : ev (a :: l) x y = a * x ^ l.length + y * ev l x y := by
  unfold ev
  rw [List.length_cons]
  rw [show evF (l.length + 1) (co (a :: l)) x y = evF (l.length + 1) (fun i => a * (if i = 0 then 1 else 0) + sh (co l) i) x y from evF_congr _ fun i _ => by
    rw [co_cons]
    by_cases h : i = 0
    · rw [if_pos h, if_pos h, Int.mul_one]
    · rw [if_neg h, if_neg h, Int.mul_zero], evF_add, evF_mul, evF_sh]
  congr 1
  congr 1
  have h1 : evF (1 + l.length) (fun i => if i = 0 then (1 : Int) else 0) x y = x ^ l.length * evF 1 (fun i => if i = 0 then (1 : Int) else 0) x y := evF_far x y (n := 1) (fun i hi => if_neg (by omega)) l.length
  rw [show l.length + 1 = 1 + l.length by omega, h1]
  show x ^ l.length * (x * 0 + (if 0 = 0 then 1 else 0) * y ^ 0) = _
  rw [if_pos rfl, Int.mul_zero, Int.pow_zero, Int.mul_one, Int.zero_add, Int.mul_one]
/-- only the form with zeros has the value 0 everywhere -/
theorem evF_inj {g : Nat → Int} {M : Int} : ∀ n, (∀ i, i < n → (g i).natAbs < M.natAbs) → evF n g M 1 = 0 → ∀ i, i < n → g i = 0
  | 0, _, _, i, hi => absurd hi (Nat.not_lt_zero i)
  | n + 1, hb, e, i, hi => by
    have e' : M * evF n g M 1 + g n * 1 ^ n = 0 := e
    rw [Int.one_pow, Int.mul_one] at e'
    have hd : M ∣ g n := ⟨-evF n g M 1, by rw [Int.mul_neg]; omega⟩
    have hn : g n = 0 := Int.natAbs_eq_zero.mp (Nat.eq_zero_of_dvd_of_lt (Int.natAbs_dvd_natAbs.mpr hd) (hb n (by omega)))
    have hM : M ≠ 0 := fun z => by
      have := hb n (by omega)
      rw [z] at this
      exact absurd this (by simp)
    rw [hn, Int.add_zero] at e'
    have e2 : evF n g M 1 = 0 := (Int.mul_eq_zero.mp e').resolve_left hM
    by_cases c : i = n
    · rw [c]; exact hn
    · exact evF_inj n (fun j hj => hb j (by omega)) e2 i (by omega)
theorem ev_inj {l m : List Int} (hl : l.length = m.length) (h : ∀ x y, ev l x y = ev m x y) : l = m := by
  refine co_inj hl fun i => ?_
  by_cases c : i < l.length
  · have key := evF_inj (g := fun i => co l i + -1 * co m i) (M := ((nm l + nm m + 1 : Nat) : Int)) l.length (fun i _ => by
      rw [Int.natAbs_natCast]
      have h1 : (co l i).natAbs ≤ nm l := by
        rcases co_mem (l := l) (k := i) with e | e
        · rw [e]; exact Nat.zero_le _
        · exact nm_mem e
      have h2 : (co m i).natAbs ≤ nm m := by
        rcases co_mem (l := m) (k := i) with e | e
        · rw [e]; exact Nat.zero_le _
        · exact nm_mem e
      show (co l i + -1 * co m i).natAbs < _
      omega) (by
      rw [evF_add, evF_mul]
      have := h ((nm l + nm m + 1 : Nat) : Int) 1
      unfold ev at this
      rw [← hl] at this
      rw [this]
      omega) i c
    have key' : co l i + -1 * co m i = 0 := key
    omega
  · rw [co_far (by omega), co_far (by omega)]
end K76

set_option Elab.async false
set_option linter.all false
set_option maxRecDepth 100000
set_option maxHeartbeats 4000000
namespace K76
open PySem PySem.Spec PyProof.Rows L2 StX RZ MyR SlX OwnR OwnF EnumT
/-! ### drawn forms -/
/-- a row of a degree, with its size -/
structure Bd (l : List Int) (n b : Nat) : Prop where
  len : l.length = n + 1
  nm : nm l ≤ b
theorem Bd.ne {l : List Int} {n b : Nat} (h : Bd l n b) : l ≠ [] := fun e => by
  have := h.len
  rw [e] at this
  cases this
theorem Bd.mono {l : List Int} {n b c : Nat} (h : Bd l n b) (k : b ≤ c) : Bd l n c := ⟨h.len, Nat.le_trans h.nm k⟩
theorem Bd.mem {l : List Int} {n b : Nat} (h : Bd l n b) : ∀ x ∈ l, x.natAbs ≤ b := fun x hx => Nat.le_trans (nm_mem hx) h.nm
theorem Bd.rw {l : List Int} {n b : Nat} (h : Bd l n b) (hn : n ≤ 99) (hb : b < 2 ^ 4000) : Rw l := ⟨h.ne, by rw [h.len]; omega, fun x hx => Nat.lt_of_le_of_lt (h.mem x hx) hb⟩
theorem bd_ml {l m : List Int} {n k b c : Nat} (h : Bd l n b) (g : Bd m k c) : Bd (ml l m) (n + k) (b * c) :=
  ⟨by rw [ml_len, h.len, g.len]; omega, Nat.le_trans (nm_ml l m) (Nat.mul_le_mul h.nm g.nm)⟩
theorem bd_one : Bd [1] 0 1 := ⟨rfl, Nat.le_refl _⟩
theorem bd_line {u v : Int} {m : Nat} (hu : u.natAbs ≤ m) (hv : v.natAbs ≤ m) : Bd [v, 0 - u] 1 (2 * m) := ⟨rfl, by
  show v.natAbs + ((0 - u).natAbs + 0) ≤ _
  omega⟩
theorem bd_pair {u v : Int} {m : Nat} (hu : u.natAbs ≤ m) (hv : v.natAbs ≤ m) : Bd [u, v] 1 (2 * m) := ⟨rfl, by
  show u.natAbs + (v.natAbs + 0) ≤ _
  omega⟩
theorem bd_small {l : List Int} {n m : Nat} (hl : l.length = n + 1) (h : ∀ x ∈ l, x.natAbs ≤ m) : Bd l n ((n + 1) * m) := ⟨hl, by
  have := nm_le h
  rw [hl] at this
  exact this⟩
theorem bd_pow {l : List Int} {b : Nat} (h : Bd l 1 b) : ∀ i, Bd (pow l i) i (b ^ i)
  | 0 => bd_one
  | i + 1 => by
    rw [Nat.pow_succ]
    exact bd_ml (bd_pow h i) h
theorem bd_all {ls : List (List Int)} {b : Nat} (h : ∀ l ∈ ls, Bd l 1 b) : ∀ i, i ≤ ls.length → Bd (allP ls i) i (b ^ i)
  | 0, _ => bd_one
  | i + 1, hi => by
    rw [Nat.pow_succ, allP_succ hi]
    exact bd_ml (bd_all h i (by omega)) (h _ (List.getElem_mem hi))
theorem bd_zs {l m : List Int} {n b c : Nat} (h : Bd l n b) (g : Bd m n c) : Bd (zs 1 l m) n (b + c) := by
  rw [zs_one]
  exact ⟨by rw [pl_len (by rw [h.len, g.len]), h.len], Nat.le_trans (nm_pl l m) (Nat.add_le_add h.nm g.nm)⟩
theorem bd_scale {l : List Int} {n b d : Nat} {c : Int} (h : Bd l n b) (hc : c.natAbs ≤ d) : Bd (l.map (c * ·)) n (d * b) := ⟨by rw [List.length_map, h.len], by
  rw [nm_scale]
  exact Nat.mul_le_mul hc h.nm⟩
theorem p6 {i : Nat} (h : i ≤ 8) : 6 ^ i ≤ 1679616 := Nat.le_trans (Nat.pow_le_pow_right (by decide) h) (by decide)
theorem iteI {i j : Int} {A B : Prop} (h1 : i = j → A) (h2 : i ≠ j → B) : if decide (V.int i = V.int j) = true then A else B := by
  by_cases h : i = j
  · rw [decide_eq_true (by rw [h])]
    exact iteT (h1 h)
  · rw [decide_eq_false fun z => h (V.int.inj z)]
    exact iteF (h2 h)
section
variable {P : Program} {w : World} {K : PySem.W.Frag} {mg : Str → Option Value} {base : Heap}
def spDrawn : Sp := fun vs H Q _ => ∃ (d : Addr) (n : Nat), vs = [.ref d, .int n] ∧ Dc H d ∧ n ≤ 8 ∧ ∀ p H' l, Sx d H H' → Dc H' d → H' p = some (tp l) → Bd l n (10 ^ 14) → Q (.ref p) H'
theorem ok_law_form (T : Facts K mg) : FnOk P w K mg base CX0 5 T.f_law_form T.fd_law_form ["_law_dice_here", "_law_degree"] spDrawn := by
  have G_law_roll : FnOk P w K mg base CX0 1 T.f_law_roll T.fd_law_roll ["_law_dice_here", "_law_total"] spRoll2 := (ok_law_roll T).imp roll2
  have G_law_near : FnOk P w K mg base CX0 2 T.f_law_near T.fd_law_near ["_law_dice_here", "_law_most"] spNear := ok_law_near T
  have G_law_plus := ok_law_plus (P := P) (w := w) (base := base) T
  have G_law_scaled := ok_law_scaled (P := P) (w := w) (base := base) T
  have G_law_product := ok_law_product (P := P) (w := w) (base := base) T
  have G_law_all_product := ok_law_all_product (P := P) (w := w) (base := base) T
  have G_law_power := ok_law_power (P := P) (w := w) (base := base) T
  have G_law_line := ok_law_line (P := P) (w := w) (base := base) T
  have G_law_point := ok_law_point (P := P) (w := w) (base := base) T
  have G_law_small_form := ok_law_small_form (P := P) (w := w) (base := base) T
  refine T.F_law_form.ok sc_law_form (fun vs H Q E h => ?_) (fun cdv A outer s H vs Q E hr h => ?_)
  · obtain ⟨d, n, rfl, _⟩ := h
    rfl
  · obtain ⟨d, n, rfl, hd, hn, q⟩ := h
    have e15 : (10 : Int) ^ 15 = 1000000000000000 := by decide
    have e14 : (10 : Nat) ^ 14 = 100000000000000 := by decide
    rw [e14] at q
    have lg : ∀ i : Nat, i < 100 → (i : Int).natAbs.log2 < 9000 := fun i hi => Nat.lt_trans (PySem.Flt.log2_lt_of (k := 10) (by decide) (by show i < 2 ^ 10; omega)) (by decide)
    refine ⟨_, (PSs.nox (pss_cons (ps_set (i := 2) sc_law_form.nd rfl (.inl rfl) (pe_call G_law_roll (hr.mono (by decide)) (by rfl) T.g_law_roll T.F_law_roll.kp T.b_law_roll .nil pass0 (pa_cons (pv 0) (pa_cons pe_int pa_nil))))
    (pss_cons (ps_if (pt_cmpR op_eq (pv 2) pe_int (nomark _))
      (pss_one (ps_ret (pe_call G_law_all_product (hr.mono (by decide)) (by rfl) T.g_law_all_product T.F_law_all_product.kp T.b_law_all_product .nil pass0 (pa_cons (pe_lc (own := [("_law_turn", 3)]) (g := (gName 3)) (tt := tYes) (by rfl) sc_law_form.nd (pi_range1 (by rfl) T.z_range (pa_cons (pv 1) pa_nil)) (blkOk_by (N := N_law_form) (sc := defScope s_law_form) (by decide +kernel)) (fun _ _ _ _ _ => (pg_name (i := 3) sc_law_form.nd rfl (.inl rfl))) (fun _ _ _ _ _ => pts_nil) (fun _ _ _ _ _ => (pe_call G_law_line (hr.mono (by decide)) (by rfl) T.g_law_line T.F_law_line.kp T.b_law_line .nil pass0 (pa_cons (pe_call G_law_point hr (by rfl) T.g_law_point T.F_law_point.kp T.b_law_point .nil pass0 (pa_cons (pv 0) (pa_cons pe_int pa_nil))) pa_nil)))) pa_nil))))
      pss_nil)
    (pss_cons (ps_if (pt_cmpR op_eq (pv 2) pe_int (nomark _))
      (pss_cons (ps_par (i := 4) (j := 5) (by rfl) sc_law_form.nd rfl rfl (by decide) rfl rfl (pa_cons (pe_call G_law_line (hr.mono (by decide)) (by rfl) T.g_law_line T.F_law_line.kp T.b_law_line .nil pass0 (pa_cons (pe_call G_law_point hr (by rfl) T.g_law_point T.F_law_point.kp T.b_law_point .nil pass0 (pa_cons (pv 0) (pa_cons pe_int pa_nil))) pa_nil)) (pa_cons (pe_call G_law_roll (hr.mono (by decide)) (by rfl) T.g_law_roll T.F_law_roll.kp T.b_law_roll .nil pass0 (pa_cons (pv 0) (pa_cons (pe_op op_add (pv 1) pe_int) pa_nil))) pa_nil)) (by rfl))
      (pss_one (ps_ret (pe_call G_law_product (hr.mono (by decide)) (by rfl) T.g_law_product T.F_law_product.kp T.b_law_product .nil pass0 (pa_cons (pe_call G_law_power (hr.mono (by decide)) (by rfl) T.g_law_power T.F_law_power.kp T.b_law_power .nil pass0 (pa_cons (pv 4) (pa_cons (pv 5) pa_nil))) (pa_cons (pe_call G_law_small_form (hr.mono (by decide)) (by rfl) T.g_law_small_form T.F_law_small_form.kp T.b_law_small_form .nil pass0 (pa_cons (pv 0) (pa_cons (pe_op op_sub (pv 1) (pv 5)) (pa_cons pe_int pa_nil)))) pa_nil))))))
      pss_nil)
    (pss_cons (ps_if (pt_cmpR op_eq (pv 2) pe_int (nomark _))
      (pss_cons (ps_set (i := 6) sc_law_form.nd rfl (.inl rfl) (pe_tupleOf (by rfl) T.z_tuple (pe_lc (own := [("_law_place", 7)]) (g := (gName 7)) (tt := tYes) (by rfl) sc_law_form.nd (pi_range1 (by rfl) T.z_range (pa_cons (pe_op op_add (pv 1) pe_int) pa_nil)) (blkOk_by (N := N_law_form) (sc := defScope s_law_form) (by decide +kernel)) (fun _ _ _ _ _ => (pg_name (i := 7) sc_law_form.nd rfl (.inl rfl))) (fun _ _ _ _ _ => pts_nil) (fun _ _ _ _ _ => pe_int))))
      (pss_cons (ps_for PassesOwn.never (by rfl) (pi_range1 (by rfl) T.z_range (pa_cons (pe_op op_add pe_int (pe_call G_law_roll (hr.mono (by decide)) (by rfl) T.g_law_roll T.F_law_roll.kp T.b_law_roll .nil pass0 (pa_cons (pv 0) (pa_cons pe_int pa_nil)))) pa_nil)) (pg_name (i := 3) sc_law_form.nd rfl (.inl rfl))
        (pss_one (ps_set (i := 6) sc_law_form.nd rfl (.inl rfl) (pe_call G_law_plus (hr.mono (by decide)) (by rfl) T.g_law_plus T.F_law_plus.kp T.b_law_plus .nil pass0 (pa_cons (pv 6) (pa_cons (pe_call G_law_scaled (hr.mono (by decide)) (by rfl) T.g_law_scaled T.F_law_scaled.kp T.b_law_scaled .nil pass0 (pa_cons (pe_call G_law_power (hr.mono (by decide)) (by rfl) T.g_law_power T.F_law_power.kp T.b_law_power .nil pass0 (pa_cons (pe_call G_law_point hr (by rfl) T.g_law_point T.F_law_point.kp T.b_law_point .nil pass0 (pa_cons (pv 0) (pa_cons pe_int pa_nil))) (pa_cons (pv 1) pa_nil))) (pa_cons (pe_call G_law_near (hr.mono (by decide)) (by rfl) T.g_law_near T.F_law_near.kp T.b_law_near .nil pass0 (pa_cons (pv 0) (pa_cons pe_int pa_nil))) pa_nil))) pa_nil))))))
      (pss_one (ps_ret (pv 6)))))
      pss_nil)
    (pss_cons (ps_if (pt_cmpR op_eq (pv 2) pe_int (nomark _))
      (pss_one (ps_ret (pe_tupleOf (by rfl) T.z_tuple (pe_lc (own := [("_law_place", 7)]) (g := (gName 7)) (tt := tYes) (by rfl) sc_law_form.nd (pi_range1 (by rfl) T.z_range (pa_cons (pe_op op_add (pv 1) pe_int) pa_nil)) (blkOk_by (N := N_law_form) (sc := defScope s_law_form) (by decide +kernel)) (fun _ _ _ _ _ => (pg_name (i := 7) sc_law_form.nd rfl (.inl rfl))) (fun _ _ _ _ _ => pts_nil) (fun _ _ _ _ _ => (pe_op op_mulW (pe_call G_law_near (hr.mono (by decide)) (by rfl) T.g_law_near T.F_law_near.kp T.b_law_near .nil pass0 (pa_cons (pv 0) (pa_cons pe_int pa_nil))) (pe_call G_law_roll (hr.mono (by decide)) (by rfl) T.g_law_roll T.F_law_roll.kp T.b_law_roll .nil pass0 (pa_cons (pv 0) (pa_cons pe_int pa_nil)))))))))
      pss_nil)
    (pss_cons (ps_if (pw_and (pt_cmpR op_eq (pv 2) pe_int (nomark _)) (pw_and1 (pt_cmpR op_eq (pe_call G_law_roll (hr.mono (by decide)) (by rfl) T.g_law_roll T.F_law_roll.kp T.b_law_roll .nil pass0 (pa_cons (pv 0) (pa_cons pe_int pa_nil))) pe_int (nomark _)))).pt
      (pss_one (ps_ret (pe_tupleOf (by rfl) T.z_tuple (pe_lc (own := [("_law_place", 7)]) (g := (gName 7)) (tt := tYes) (by rfl) sc_law_form.nd (pi_range1 (by rfl) T.z_range (pa_cons (pe_op op_add (pv 1) pe_int) pa_nil)) (blkOk_by (N := N_law_form) (sc := defScope s_law_form) (by decide +kernel)) (fun _ _ _ _ _ => (pg_name (i := 7) sc_law_form.nd rfl (.inl rfl))) (fun _ _ _ _ _ => pts_nil) (fun _ _ _ _ _ => (pe_call G_law_near (hr.mono (by decide)) (by rfl) T.g_law_near T.F_law_near.kp T.b_law_near .nil pass0 (pa_cons (pv 0) (pa_cons (pe_op op_pow pe_int pe_int) pa_nil))))))))
      pss_nil)
    (pss_one (ps_ret (pe_call G_law_small_form (hr.mono (by decide)) (by rfl) T.g_law_small_form T.F_law_small_form.kp T.b_law_small_form .nil pass0 (pa_cons (pv 0) (pa_cons (pv 1) (pa_cons pe_int pa_nil))))))))))))), ?_⟩
    refine ⟨_, rfl, d, 6, rfl, hd, by decide, lg 6 (by decide), fun r H1 hr1 s1 d1 => ⟨_, rfl, rfl, _, rfl, iteI (fun _ => ?_) (fun r0 => ⟨_, rfl, rfl, _, rfl, iteI (fun _ => ?_) (fun r1 => ⟨_, rfl, rfl, _, rfl, iteI (fun _ => ?_) (fun r2 => ⟨_, rfl, rfl, _, rfl, iteI (fun _ => ?_) (fun r3 => ?_)⟩)⟩)⟩)⟩⟩
    · -- lines
      refine ⟨_, rfl, n, rfl, by omega, by omega, fun D hD => lc_range (n := (n : Int).toNat) (fun j H' => Sx d H H' ∧ Dc H' d ∧ ∃ (rs : List Addr) (ls : List (List Int)), H' D = some (.lst (rs.map V.ref)) ∧ rs.length = j ∧ ls.length = j ∧ (∀ i (h : i < ls.length) (h' : i < rs.length), H' rs[i] = some (tp ls[i])) ∧ ∀ l ∈ ls, Bd l 1 6) ⟨s1.trans (Sx.of (same_upd0 hD)), d1.same (same_upd0 hD), [], [], upd_same, rfl, rfl, fun i h _ => absurd h (Nat.not_lt_zero i), fun l h => (nomatch h)⟩ (fun j H' hj hP => ?_) (fun H' hP => ?_)⟩
      · obtain ⟨sH, dH, rs, ls, hL, hl1, hl2, hr, hb⟩ := hP
        refine ⟨rfl, _, rfl, d, 3, rfl, dH, by decide, by decide, fun p H2 u v s2 d2 hp hu hv => ⟨p, u, v, rfl, hp, fun p2 n2 => gen_upd H2 p2 _ n2 fun H3 s3 f3 => ?_⟩⟩
        have nD : D ≠ d := d1.ne hD
        have hL3 := s3 _ _ (s2 D _ nD hL)
        have dD : ∀ a l, H3 a = some (tp l) → a ≠ D := fun a l e z => by
          rw [z, hL3] at e
          cases e
        have d3 := d2.same s3
        refine ⟨_, hL3, by rw [List.length_map, hl1]; exact small1000 (by omega), fun b o hb2 e => ?_, ?_, rs ++ [p2], ls ++ [[v, 0 - u]], by rw [upd_same, List.map_append]; rfl, by rw [List.length_append, hl1]; rfl, by rw [List.length_append, hl2]; rfl, fun i h h' => ?_, fun l hl => ?_⟩
        · rw [upd_ne (ne_of_none (s1 b o hb2 e) hD)]
          exact s3 _ _ (s2 b o hb2 (sH b o hb2 e))
        · obtain ⟨x, y, z, e⟩ := d3
          exact ⟨x, y, z, by rw [upd_ne (Ne.symm nD)]; exact e⟩
        · by_cases c : i < ls.length
          · have e1 : (rs ++ [p2])[i] = rs[i]'(by omega) := List.getElem_append_left _
            have e2 : (ls ++ [[v, 0 - u]])[i] = ls[i] := List.getElem_append_left _
            rw [e1, e2]
            have e3 := s3 _ _ (s2 _ _ (dc_ne dH (hr i c (by omega))) (hr i c (by omega)))
            rw [upd_ne (dD _ _ e3)]
            exact e3
          · have ei : i = ls.length := by rw [List.length_append] at h; simp at h; omega
            subst ei
            have e1 : (rs ++ [p2])[ls.length] = p2 := by rw [List.getElem_append_right (by omega)]; simp [hl1, hl2]
            have e2 : (ls ++ [[v, 0 - u]])[ls.length] = [v, 0 - u] := by rw [List.getElem_append_right (by omega)]; simp
            rw [e1, e2, upd_ne (dD _ _ f3)]
            exact f3
        · rcases List.mem_append.mp hl with e | e
          · exact hb l e
          · rw [List.mem_singleton.mp e]
            exact bd_line hu hv
      · obtain ⟨sH, dH, rs, ls, hL, hl1, hl2, hr, hb⟩ := hP
        have hnn : ls.length = n := by omega
        refine ⟨D, rs, ls, rfl, hL, by omega, fun i h h' => ⟨hr i h h', (hb _ (List.getElem_mem h)).rw (by omega) (by decide)⟩, fun i hi => (bd_all hb i (by omega)).rw (by omega) (Nat.lt_of_le_of_lt (p6 (by omega)) (by decide)), fun p H3 s3 f3 => q p H3 _ (sH.trans (Sx.of s3)) (dH.same s3) f3 ?_⟩
        rw [hnn]
        exact (bd_all hb n (by omega)).mono (Nat.le_trans (p6 hn) (by decide))
    · -- a power of a line, times
      refine ⟨_, rfl, d, 3, rfl, d1, by decide, by decide, fun p H2 u v s2 d2 hp hu hv => ⟨p, u, v, rfl, hp, fun p2 n2 => gen_upd H2 p2 _ n2 fun H3 s3 f3 => ⟨_, rfl, _, rfl, _, _, rfl, rfl, ?_⟩⟩⟩
      have d3 := d2.same s3
      refine ⟨d, _, rfl, d3, by omega, lg (n + 1) (by omega), fun k H4 hk s4 d4 => ⟨_, _, rfl, ?_⟩⟩
      have hk' : k ≤ n := by have : (k : Int) < (n : Int) + 1 := hk; omega
      have f4 := s4 _ _ (dc_ne d3 f3) f3
      have bl : Bd [v, 0 - u] 1 6 := bd_line hu hv
      refine ⟨_, rfl, _, rfl, p2, _, k, rfl, f4, bl.ne, by show 2 ≤ 100; decide, fun x hx => (bl.rw (by decide) (Nat.lt_of_lt_of_le (show 6 < 2 ^ 4 by decide) (Nat.pow_le_pow_right (by decide) (by decide)))).sm x hx, fun i hi => ?_, by omega, fun p5 H5 s5 f5 => ?_⟩
      · have := (bd_pow bl i).rw (by omega) (Nat.lt_of_le_of_lt (p6 (by omega)) (by decide))
        exact ⟨this.ne, this.len, this.sm⟩
      · have d5 := d4.same s5
        refine ⟨_, rfl, _, rfl, _, rfl, _, _, rfl, rfl, d, n - k, 4, by show [V.ref d, V.int ((n : Int) - (k : Int)), V.int 4] = [V.ref d, V.int ((n - k : Nat) : Int), V.int 4]; rw [Int.ofNat_sub hk'], d5, by omega, by decide, fun p6' H6 l6 s6 d6 f6 hl6 hm6 => ?_⟩
        have f5' := s6 _ _ (dc_ne d5 f5) f5
        have b1 := bd_pow bl k
        have b2 := bd_small hl6 hm6
        have r1 := b1.rw (by omega) (Nat.lt_of_le_of_lt (p6 (by omega)) (by decide))
        have r2 := b2.rw (by omega) (Nat.lt_of_le_of_lt (show (n - k + 1) * 4 ≤ 36 by omega) (by decide))
        refine ⟨p5, p6', _, l6, rfl, f5', f6, r1.ne, r2.ne, r1.len, r2.len, r1.sm, r2.sm, fun p7 H7 s7 _ f7 => q p7 H7 _ ((((s1.trans s2).trans (Sx.of s3)).trans s4).trans (((Sx.of s5).trans s6).trans (Sx.of s7))) (d6.same s7) f7 ?_⟩
        have b3 := bd_ml b1 b2
        rw [show k + (n - k) = n by omega] at b3
        exact b3.mono (Nat.le_trans (Nat.mul_le_mul (p6 (by omega)) (show (n - k + 1) * 4 ≤ 36 by omega)) (by decide))
    · -- sums of powers
      refine ⟨_, rfl, _, _, rfl, rfl, _, rfl, by show -(2 ^ 62) ≤ (n : Int) + 1; omega, by show (n : Int) + 1 < 2 ^ 62; omega, fun D hD => lc_range (n := ((n : Int) + 1).toNat) (fun j H' => H' = upd H1 D (.lst (tab j fun _ => 0))) rfl (fun j H' hj hP => ?_) (fun H' hP => ?_)⟩
      · subst hP
        refine ⟨rfl, ⟨_, upd_same, by rw [tab_len]; exact small1000 (by omega), ?_⟩⟩
        rw [upd_upd, ← tab_snoc]
      · subst hP
        rw [show ((n : Int) + 1).toNat = n + 1 by omega, tab_tb]
        refine .inl ⟨D, _, rfl, SqL.of upd_same, fun p hp => gen_upd (upd H1 D _) p _ hp fun H2 s2 f2 => ?_⟩
        have s02 := (same_upd0 (o := HO.lst ((tb (n + 1) fun _ => 0).map V.int)) hD).trans s2
        have d2 := d1.same s02
        have b0 : Bd (tb (n + 1) fun _ => 0) n 0 := ⟨tb_len _ _, by
          rw [nm_tb]
          have : ∀ k, sN k (fun _ => 0) = 0 := by
            intro k
            induction k with
            | zero => rfl
            | succ k ih => show sN k (fun _ => 0) + 0 = 0; rw [ih]
          rw [this]
          exact Nat.le_refl _⟩
        refine ⟨_, rfl, d, 3, rfl, d2, by decide, lg 3 (by decide), fun k H3 hk s3 d3 => ⟨_, _, rfl, rfl, _, rfl, by omega, by omega, ?_⟩⟩
        have f3 := s3 _ _ (dc_ne d2 f2) f2
        have hk3 : (k : Int) < 3 := hk
        refine for_range (n := (1 + (k : Int)).toNat) (fun i σ H' => ∃ r y3 y4 y5 y7 l, σ = [some (.ref d), some (.int n), some (.int (r : Int)), y3, y4, y5, some (.ref y7), none] ∧ Sx d H1 H' ∧ Dc H' d ∧ H' y7 = some (tp l) ∧ Bd l n (i * 6718464)) ⟨_, _, _, _, _, _, rfl, (Sx.of s02).trans s3, d3, f3, b0.mono (Nat.zero_le _)⟩ (fun i σ H' hi hP => ?_) (fun σ H' hP => ?_)
        · obtain ⟨r', y3, y4, y5, y7, l, rfl, sH, dH, hl, bl⟩ := hP
          refine ⟨_, rfl, _, rfl, d, 3, rfl, dH, by decide, by decide, fun p4 H4 u v s4 d4 h4 hu hv => ⟨_, rfl, ?_⟩⟩
          have bp : Bd [u, v] 1 6 := bd_pair hu hv
          refine ⟨p4, _, n, rfl, h4, bp.ne, by show 2 ≤ 100; decide, fun x hx => (bp.rw (by decide) (Nat.lt_of_lt_of_le (show 6 < 2 ^ 4 by decide) (Nat.pow_le_pow_right (by decide) (by decide)))).sm x hx, fun i hi => ?_, by omega, fun p5 H5 s5 f5 => ?_⟩
          · have := (bd_pow bp i).rw (by omega) (Nat.lt_of_le_of_lt (p6 (by omega)) (by decide))
            exact ⟨this.ne, this.len, this.sm⟩
          · have d5 := d4.same s5
            have b5 := bd_pow bp n
            have r5 := b5.rw (by omega) (Nat.lt_of_le_of_lt (p6 (by omega)) (by decide))
            refine ⟨_, rfl, d, 4, rfl, d5, by decide, by rw [e15]; decide, fun c H6 c1 c2 s6 d6 => ?_⟩
            have f6 := s6 _ _ (dc_ne d5 f5) f5
            refine ⟨p5, _, c, rfl, f6, r5.len, r5.sm, Nat.lt_of_le_of_lt (show c.natAbs ≤ 4 by omega) (by decide), fun p7 H7 s7 _ f7 => ?_⟩
            have b7 := bd_scale (d := 4) b5 (show c.natAbs ≤ 4 by omega)
            have hl7 := s7 _ _ (s6 _ _ (dc_ne d5 (s5 _ _ (s4 _ _ (dc_ne dH hl) hl))) (s5 _ _ (s4 _ _ (dc_ne dH hl) hl)))
            refine ⟨_, p7, l, _, rfl, hl7, f7, by rw [bl.len, b7.len], by rw [bl.len]; omega, fun p8 H8 s8 _ f8 => ⟨_, _, _, _, p8, _, rfl, ((sH.trans s4).trans ((Sx.of s5).trans s6)).trans ((Sx.of s7).trans (Sx.of s8)), (d6.same s7).same s8, f8, (bd_zs bl b7).mono ?_⟩⟩
            have : 4 * 6 ^ n ≤ 4 * 1679616 := Nat.mul_le_mul (Nat.le_refl _) (p6 hn)
            rw [Nat.succ_mul]
            omega
        · obtain ⟨r', y3, y4, y5, y7, l, rfl, sH, dH, hl, bl⟩ := hP
          exact ⟨_, rfl, q y7 H' l (s1.trans sH) dH hl (bl.mono (by omega))⟩
    · -- some entries, some zeros
      refine ⟨_, rfl, _, _, rfl, rfl, _, rfl, by show -(2 ^ 62) ≤ (n : Int) + 1; omega, by show (n : Int) + 1 < 2 ^ 62; omega, fun D hD => lc_range (n := ((n : Int) + 1).toNat) (fun j H' => Sx d H1 H' ∧ Dc H' d ∧ ∃ l : List Int, H' D = some (.lst (l.map V.int)) ∧ l.length = j ∧ ∀ x ∈ l, x.natAbs ≤ 3) ⟨Sx.of (same_upd0 hD), d1.same (same_upd0 hD), [], upd_same, rfl, fun x hx => by cases hx⟩ (fun j H' hj hP => ?_) (fun H' hP => ?_)⟩
      · obtain ⟨sH, dH, l, hL, hl, hb⟩ := hP
        have nD : D ≠ d := d1.ne hD
        refine ⟨rfl, _, rfl, d, 3, rfl, dH, by decide, by rw [e15]; decide, fun c H2 c1 c2 s2 d2 => ⟨_, rfl, d, 2, rfl, d2, by decide, lg 2 (by decide), fun k H3 hk s3 d3 => ⟨_, _, rfl, rfl, sm_mul (Nat.lt_of_le_of_lt (show c.natAbs ≤ 3 by omega) (by decide)) (Nat.lt_of_le_of_lt (show ((k : Nat) : Int).natAbs ≤ 2 by have : (k : Int) < 2 := hk; omega) (by decide)), _, s3 D _ nD (s2 D _ nD hL), ?_, fun b o hb2 e => ?_, ?_, l ++ [c * (k : Int)], ?_, ?_, fun x hx => ?_⟩⟩⟩
        · rw [List.length_map]
          exact small1000 (by omega)
        · rw [upd_ne (ne_of_none e hD)]
          exact (sH.trans (s2.trans s3)) b o hb2 e
        · obtain ⟨x, y, z, e⟩ := d3
          exact ⟨x, y, z, by rw [upd_ne (Ne.symm nD)]; exact e⟩
        · rw [upd_same, List.map_append]
          rfl
        · rw [List.length_append, hl]
          rfl
        · rcases List.mem_append.mp hx with e | e
          · exact hb x e
          · rw [List.mem_singleton.mp e]
            have hk2 : (k : Int) < 2 := hk
            rw [Int.natAbs_mul]
            have := Nat.mul_le_mul (show c.natAbs ≤ 3 by omega) (show ((k : Nat) : Int).natAbs ≤ 1 by omega)
            omega
      · obtain ⟨sH, dH, l, hL, hl, hb⟩ := hP
        refine .inl ⟨D, _, rfl, SqL.of hL, fun p hp2 => ?_⟩
        exact q p _ l (s1.trans (sH.trans (Sx.of (same_upd0 hp2)))) (dH.same (same_upd0 hp2)) upd_same ((bd_small (n := n) (by omega) hb).mono (Nat.le_trans (Nat.mul_le_mul (show n + 1 ≤ 9 by omega) (Nat.le_refl _)) (by decide)))
    · -- great entries, or small ones
      have small : ∀ H2, Sx d H H2 → Dc H2 d → spSmall [V.ref d, V.int (n : Int), V.int 6] H2 Q E0 := fun H2 s2 d2 => ⟨d, n, 6, rfl, d2, by omega, by decide, fun p H3 l s3 d3 f3 hl hm => q p H3 l (s2.trans s3) d3 f3 ((bd_small hl hm).mono (by omega))⟩
      refine ⟨_, rfl, rfl, _, rfl, iteI (fun _ => ?_) (fun _ => ?_)⟩
      · refine ⟨_, rfl, d, 4, rfl, d1, by decide, lg 4 (by decide), fun k H2 hk s2 d2 => ⟨rfl, _, rfl, iteI (fun _ => ?_) (fun _ => ?_)⟩⟩
        · -- great entries
          refine ⟨_, rfl, _, _, rfl, rfl, _, rfl, by show -(2 ^ 62) ≤ (n : Int) + 1; omega, by show (n : Int) + 1 < 2 ^ 62; omega, fun D hD => lc_range (n := ((n : Int) + 1).toNat) (fun j H' => Sx d H2 H' ∧ Dc H' d ∧ ∃ l : List Int, H' D = some (.lst (l.map V.int)) ∧ l.length = j ∧ ∀ x ∈ l, x.natAbs ≤ 1000000000000) ⟨Sx.of (same_upd0 hD), d2.same (same_upd0 hD), [], upd_same, rfl, fun x hx => by cases hx⟩ (fun j H' hj hP => ?_) (fun H' hP => ?_)⟩
          · obtain ⟨sH, dH, l, hL, hl, hb⟩ := hP
            have nD : D ≠ d := d2.ne hD
            refine ⟨rfl, _, rfl, 10, 12, rfl, rfl, ⟨by decide, by decide, by decide⟩, d, 1000000000000, rfl, dH, by decide, by rw [e15]; decide, fun r H2 r1 r2 s2 d2 => ⟨_, s2 D _ nD hL, ?_, fun b o hb2 e => ?_, ?_, l ++ [r], ?_, ?_, fun x hx => ?_⟩⟩
            · rw [List.length_map]
              exact small1000 (by omega)
            · rw [upd_ne (ne_of_none e hD)]
              exact (sH.trans s2) b o hb2 e
            · obtain ⟨x, y, z, e⟩ := d2
              exact ⟨x, y, z, by rw [upd_ne (Ne.symm nD)]; exact e⟩
            · rw [upd_same, List.map_append]
              rfl
            · rw [List.length_append, hl]
              rfl
            · rcases List.mem_append.mp hx with e | e
              · exact hb x e
              · rw [List.mem_singleton.mp e]
                omega
          · obtain ⟨sH, dH, l, hL, hl, hb⟩ := hP
            refine .inl ⟨D, _, rfl, SqL.of hL, fun p hp2 => ?_⟩
            exact q p _ l ((s1.trans s2).trans (sH.trans (Sx.of (same_upd0 hp2)))) (dH.same (same_upd0 hp2)) upd_same ((bd_small (n := n) (by omega) hb).mono (Nat.le_trans (Nat.mul_le_mul (show n + 1 ≤ 9 by omega) (Nat.le_refl _)) (by decide)))
        · exact ⟨_, rfl, _, rfl, small H2 (s1.trans s2) d2⟩
      · exact ⟨_, rfl, _, rfl, small H1 s1 d1⟩
end
end K76

set_option Elab.async false
set_option linter.all false
set_option maxRecDepth 100000
set_option maxHeartbeats 4000000
namespace K76
open PySem PySem.Spec PyProof.Rows L2 StX RZ MyR SlX OwnR OwnF EnumT
/-! what is said of forms by those who use them (for other laws: K76u, K76v, K76y hold the same) -/
section
variable {P : Program} {w : World} {K : PySem.W.Frag} {mg : Str → Option Value} {base : Heap}
/-- what is asked of a told row -/
structure Tr (l : List Int) : Prop where
  ne : l ≠ []
  len : l.length ≤ 40
  sho : ∀ x ∈ l, Sho x
theorem Tr.rw {l : List Int} (h : Tr l) : Rw l := ⟨h.ne, by have := h.len; omega, fun x hx => Nat.lt_trans (h.sho x hx) (by decide)⟩
theorem Tr.pos {l : List Int} (h : Tr l) : 1 ≤ l.length := List.length_pos_iff.mpr h.ne
theorem shaped_lints (ns : List Int) : SeqAt.shaped (.list (ns.map PyData.int)) = true := by
  unfold SeqAt.shaped
  rw [show PyData.canLay0 (.list (ns.map PyData.int)) = PyData.canLayAll0 (ns.map PyData.int) from rfl, lay_ints]
  rw [show PyData.depth (.list (ns.map PyData.int)) = PyData.depthAll (ns.map PyData.int) + 1 from rfl, depth_ints]
  rfl
/-- Form(t) -/
theorem made_form {C x dx t : Addr} {l : List Int} {H0 H2 : Hp} (hx : H0 x = none) (hdx : H0 dx = none) (hne : dx ≠ x) (s : Same (upd (upd H0 dx (.own x)) x (.ins C dx [])) H2) (ht : H0 t = some (tp l)) : Same H0 (slH H2 x C dx [some (.ref t)]) ∧ Fo C (slH H2 x C dx [some (.ref t)]) x l := by
  have s3 := made (v := .ref t) hx hdx hne s
  refine ⟨s3, dx, t, upd_same, ?_, s3 _ _ ht⟩
  unfold slH
  rw [upd_ne hne, upd_same]
theorem Fo.sx {C a d : Addr} {H H' : Hp} {ns : List Int} (h : Fo C H a ns) (hd : Dc H d) (s : Sx d H H') : Fo C H' a ns := by
  obtain ⟨dx, t, h1, h2, h3⟩ := h
  obtain ⟨x, y, z, e⟩ := hd
  refine ⟨dx, t, s _ _ (fun q => ?_) h1, s _ _ (fun q => ?_) h2, s _ _ (fun q => ?_) h3⟩
  · rw [q, e] at h1
    cases h1
  · rw [q, e] at h2
    cases h2
  · rw [q, e] at h3
    cases h3
theorem mkF {CT C x dx t : Addr} {H : Hp} {l : List Int} {R : Hp → Prop} (hx : H x = none) (hdx : H dx = none) (hne : dx ≠ x) (ht : H t = some (tp l)) (h1 : 1 ≤ l.length) (h2 : l.length ≤ 41) (hs : ∀ z ∈ l, Sho z) (q : ∀ H', Same H H' → Fo C H' x l → R H') :
    spForm CT C [.ref x, .ref t] (upd (upd H dx (.own x)) x (.ins C dx [])) (fun v H2 => v = .non ∧ R H2) E0 := by
  refine ⟨x, dx, t, t, rfl, .inl ⟨upd_same, rfl⟩, .inr ⟨l, rfl, ?_, h1, h2, hs⟩, fun H2 s2 => ⟨rfl, ?_⟩⟩
  · rw [upd_ne (ne_of_none ht hx), upd_ne (ne_of_none ht hdx)]
    exact ht
  · obtain ⟨s, f⟩ := made_form hx hdx hne s2 ht
    exact q _ s f
theorem Bd.tr {l : List Int} {n b : Nat} (h : Bd l n b) (hn : n ≤ 39) (hb : b < 10 ^ 60) : Tr l := ⟨h.ne, by rw [h.len]; omega, fun x hx => Nat.lt_of_le_of_lt (h.mem x hx) hb⟩
/-- a pair of a form and its row -/
structure Pa (C : Addr) (H : Hp) (v : V) (l : List Int) : Prop where
  tr : Tr l
  at_ : ∃ p f t, v = .ref p ∧ H p = some (.tup [.ref f, .ref t]) ∧ Fo C H f l ∧ H t = some (tp l)
theorem Pa.same {C : Addr} {H H' : Hp} {v : V} {l : List Int} (h : Pa C H v l) (s : Same H H') : Pa C H' v l := by
  obtain ⟨p, f, t, e, h1, h2, h3⟩ := h.at_
  exact ⟨h.tr, p, f, t, e, s _ _ h1, h2.same s, s _ _ h3⟩
theorem prop_ent {C a : Addr} {H : Hp} {xs : List Int} {Q : VK} (fa : Fo C H a xs) (q : ∀ t, H t = some (tp xs) → Q (.ref t) H) : ∃ a' dx vs, V.ref a = .ref a' ∧ Slt H a' C dx vs ∧ spEnt C [.ref a'] H Q E0 := by
  obtain ⟨dx, t, ha, _⟩ := fa.slt
  exact ⟨a, dx, _, rfl, ha, a, xs, rfl, fa, q⟩
theorem prop_zero {C a : Addr} {H : Hp} {xs : List Int} {Q : VK} (fa : Fo C H a xs) (q : Q (.bl (!xs.any (· != 0))) H) : ∃ a' dx vs, V.ref a = .ref a' ∧ Slt H a' C dx vs ∧ spIsZ C [.ref a'] H Q E0 := by
  obtain ⟨dx, t, ha, _⟩ := fa.slt
  exact ⟨a, dx, _, rfl, ha, a, xs, rfl, fa, q⟩
theorem prop_deg {C a : Addr} {H : Hp} {xs : List Int} {Q : VK} (fa : Fo C H a xs) (q : Q (.int ((xs.length : Int) - 1)) H) : ∃ a' dx vs, V.ref a = .ref a' ∧ Slt H a' C dx vs ∧ spDeg C [.ref a'] H Q E0 := by
  obtain ⟨dx, t, ha, _⟩ := fa.slt
  exact ⟨a, dx, _, rfl, ha, a, xs, rfl, fa, q⟩
end
end K76

set_option Elab.async false
set_option linter.all false
set_option maxRecDepth 100000
/-! changed forms, derived forms: the plain law -/
namespace K76
theorem ev_zs (c : Int) {l m : List Int} (h : l.length = m.length) (x y : Int) : ev (zs c l m) x y = ev l x y + c * ev m x y := by
  have hz : (zs c l m).length = l.length := by unfold zs; rw [List.length_zipWith, h, Nat.min_self]
  have co_zs : ∀ k, co (zs c l m) k = co l k + c * co m k := fun k => by
    unfold zs
    by_cases hk : k < l.length
    · rw [co_get (by rw [List.length_zipWith]; omega), co_get hk, co_get (by omega), List.getElem_zipWith]
    · rw [co_far (by rw [List.length_zipWith]; omega), co_far (by omega), co_far (by omega), Int.mul_zero]
      rfl
  unfold ev
  rw [hz, ← h, ← evF_mul, ← evF_add]
  exact evF_congr _ fun i _ => co_zs i
theorem ev_map (c : Int) (l : List Int) (x y : Int) : ev (l.map (c * ·)) x y = c * ev l x y := by
  unfold ev
  rw [List.length_map, ← evF_mul]
  exact evF_congr _ fun i _ => co_map c l i
theorem ev_one (x y : Int) : ev [1] x y = 1 := by
  rw [ev_cons]
  show 1 * x ^ 0 + y * 0 = 1
  rw [Int.pow_zero, Int.mul_zero]
  rfl
theorem ev_nil (x y : Int) : ev [] x y = 0 := rfl
theorem ev_rep (n : Nat) (x y : Int) : ev (List.replicate n 0) x y = 0 := by
  unfold ev
  rw [show evF (List.replicate n (0 : Int)).length (co (List.replicate n 0)) x y = evF (List.replicate n (0 : Int)).length (fun _ => 0) x y from evF_congr _ fun i hi => by
    rw [co_get hi, List.getElem_replicate], evF_zero]
theorem pow_zero {c : Int} : ∀ {n : Nat}, c ^ n = 0 → c = 0
  | 0, h => by rw [Int.pow_zero] at h; cases h
  | n + 1, h => by
    rw [Int.pow_succ] at h
    rcases Int.mul_eq_zero.mp h with e | e
    · exact pow_zero e
    · exact e
theorem ev_zero {l : List Int} (h : ∀ z ∈ l, z = 0) (x y : Int) : ev l x y = 0 := by
  have e : l = List.replicate l.length 0 := List.eq_replicate_iff.mpr ⟨rfl, h⟩
  rw [e, ev_rep]
/-! ### derivatives -/
/-- derived by x, by y -/
def dX (l : List Int) : List Int := tb (l.length - 1) fun k => co l k * ((l.length : Int) - 1 - k)
def dY (l : List Int) : List Int := tb (l.length - 1) fun k => co l (k + 1) * ((k : Int) + 1)
theorem co_zs' (c : Int) {l m : List Int} (h : l.length = m.length) (k : Nat) : co (zs c l m) k = co l k + c * co m k := by
  unfold zs
  by_cases hk : k < l.length
  · rw [co_get (by rw [List.length_zipWith]; omega), co_get hk, co_get (by omega), List.getElem_zipWith]
  · rw [co_far (by rw [List.length_zipWith]; omega), co_far (by omega), co_far (by omega), Int.mul_zero]
    rfl
def it (f : List Int → List Int) : Nat → List Int → List Int
  | 0, l => l
  | n + 1, l => f (it f n l)
/-- derived i times by x, j times by y -/
def dd (i j : Nat) (l : List Int) : List Int := it dY j (it dX i l)
end K76

set_option Elab.async false
set_option linter.all false
set_option maxRecDepth 100000
set_option maxHeartbeats 4000000
namespace K76
open PySem PySem.Spec PyProof.Rows L2 StX RZ MyR SlX OwnR OwnF EnumT
section
variable {P : Program} {w : World} {K : PySem.W.Frag} {mg : Str → Option Value} {base : Heap}
/-! ### values -/
/-- what is asked of a value's letters -/
structure Vb (l : List Int) (x y : Int) (M : Nat) : Prop where
  x : x.natAbs ≤ M
  y : y.natAbs ≤ M
  one : 1 ≤ M
  big : nm l * M ^ l.length < 2 ^ 4000
  pw : M ^ (l.length + 1) < 2 ^ 4000
/-! ### changes -/
/-- a table of two rows of two -/
def Tb (H : Hp) (t : Addr) (X Y : List Int) : Prop := ∃ r0 r1, H t = some (.tup [.ref r0, .ref r1]) ∧ H r0 = some (tp X) ∧ H r1 = some (tp Y)
theorem Tb.same {H H' : Hp} {t : Addr} {X Y : List Int} (h : Tb H t X Y) (s : Same H H') : Tb H' t X Y := by
  obtain ⟨r0, r1, h1, h2, h3⟩ := h
  exact ⟨r0, r1, s _ _ h1, s _ _ h2, s _ _ h3⟩
theorem Tb.sx {H H' : Hp} {t d : Addr} {X Y : List Int} (h : Tb H t X Y) (hd : Dc H d) (s : Sx d H H') : Tb H' t X Y := by
  obtain ⟨r0, r1, h1, h2, h3⟩ := h
  exact ⟨r0, r1, s _ _ (dc_ne hd h1) h1, s _ _ (dc_ne hd h2) h2, s _ _ (dc_ne hd h3) h3⟩
/-- short pairs -/
structure Pr2 (X : List Int) : Prop where
  len : X.length = 2
  sho : ∀ x ∈ X, Sho x
end
end K76

set_option Elab.async false
set_option linter.all false
set_option maxRecDepth 100000
set_option maxHeartbeats 4000000
namespace K76
open PySem PySem.Spec PyProof.Rows L2 StX RZ MyR SlX OwnR OwnF EnumT
section
variable {P : Program} {w : World} {K : PySem.W.Frag} {mg : Str → Option Value} {base : Heap}
/-- all that is derived on the way is let -/
structure DdOk (i j : Nat) (l : List Int) : Prop where
  len : i + j + 1 ≤ l.length
  le : l.length ≤ 100
  sx : ∀ u, u ≤ i → ∀ z ∈ it dX u l, sm z
  sy : ∀ u, u ≤ j → ∀ z ∈ it dY u (it dX i l), sm z
theorem Pr2.rw {X : List Int} (h : Pr2 X) : Rw X := ⟨fun z => (by have := h.len; rw [z] at this; cases this), (by rw [h.len]; decide), fun x hx => Nat.lt_trans (h.sho x hx) (by decide)⟩
end
end K76

set_option Elab.async false
set_option linter.all false
set_option maxRecDepth 100000
set_option maxHeartbeats 4000000
namespace K76
open PySem PySem.Spec PyProof.Rows L2 StX RZ MyR SlX OwnR OwnF EnumT
end K76

set_option Elab.async false
set_option linter.all false
set_option maxRecDepth 100000
set_option maxHeartbeats 4000000
namespace K76
open PySem PySem.Spec PyProof.Rows L2 StX RZ MyR SlX OwnR OwnF EnumT
section
variable {P : Program} {w : World} {K : PySem.W.Frag} {mg : Str → Option Value} {base : Heap}
/-- all that the law makes on its way is let -/
structure LchOk (X Y l : List Int) : Prop where
  ne : l ≠ []
  len : l.length ≤ 90
  lX : X.length = 2
  lY : Y.length = 2
  pX : ∀ i, i ≤ l.length → Rw (pow X i)
  pY : ∀ i, i ≤ l.length → Rw (pow Y i)
  pm : ∀ i, i < l.length → Rw (ml (pow X (l.length - 1 - i)) (pow Y i))
  sl : ∀ z ∈ l, sm z
end
end K76

set_option Elab.async false
set_option linter.all false
set_option maxRecDepth 100000
set_option maxHeartbeats 4000000
namespace K76
open PySem PySem.Spec PyProof.Rows L2 StX RZ MyR SlX OwnR OwnF EnumT
section
variable {P : Program} {w : World} {K : PySem.W.Frag} {mg : Str → Option Value} {base : Heap}
end
end K76

set_option Elab.async false
set_option linter.all false
set_option maxRecDepth 100000
/-! layings: the plain law -/
namespace K76
theorem ev_tb (n : Nat) (f : Nat → Int) (x y : Int) : ev (tb n f) x y = evF n f x y := by
  unfold ev
  rw [tb_len]
  exact evF_congr _ fun i hi => by rw [co_tb, if_pos hi]
/-! ### the laying -/
def L : Nat → List Int → List Int → List Int
  | 0, f, g => ml f g
  | t + 1, f, g => zs (-1) (L t (dX f) (dY g)) (L t (dY f) (dX g))
/-- how many lots -/
def ch : Nat → Nat → Nat
  | _, 0 => 1
  | 0, _ + 1 => 0
  | n + 1, k + 1 => ch n k + ch n (k + 1)
end K76

set_option Elab.async false
set_option linter.all false
set_option maxRecDepth 100000
set_option maxHeartbeats 4000000
namespace K76
open PySem PySem.Spec PyProof.Rows L2 StX RZ MyR SlX OwnR OwnF EnumT GxR
/-! ### the first entry other than 0 -/
def nzr (l : List Int) : Bool := l.any (· != 0)
def fi (l : List Int) : Nat := l.findIdx (· != 0)
theorem fi_lt {l : List Int} (h : nzr l = true) : fi l < l.length := by
  unfold fi
  refine List.findIdx_lt_length_of_exists ?_
  obtain ⟨x, h1, h2⟩ := List.any_eq_true.mp h
  exact ⟨x, h1, h2⟩
theorem fi_ne {l : List Int} (h : nzr l = true) : co l (fi l) ≠ 0 := by
  have := List.findIdx_getElem (p := (· != 0)) (w := fi_lt h)
  rw [co_get (fi_lt h)]
  have h2 : (l[fi l]'(fi_lt h) != 0) = true := this
  simpa using h2
theorem cont_nzr (l : List Int) : cont l = 0 ↔ nzr l = false := by
  have h := any_cont l
  unfold nzr
  constructor
  · intro e
    rw [decide_eq_true e] at h
    simpa using h
  · intro e
    rw [e] at h
    exact of_decide_eq_true h.symm
theorem sm_of_le {x y : Int} (h : sm y) (k : x.natAbs ≤ y.natAbs) : sm x := Nat.lt_of_le_of_lt k h
theorem eq_lints {K : PySem.W.Frag} {H : Hp} {a b : Addr} {xs ys : List Int} {Q : VK} (ha : SqL K H a (xs.map V.int)) (hb : SqL K H b (ys.map V.int)) (q : Q (.bl (decide (xs = ys))) H) : rEqD K (.ref a) (.ref b) H Q := by
  refine ⟨.list (xs.map PyData.int), .list (ys.map PyData.int), .lst ha (dpAll_ints xs), .lst hb (dpAll_ints ys), shaped_lints xs, shaped_lints ys, ?_⟩
  rw [show PyData.eqv (.list (xs.map PyData.int)) (.list (ys.map PyData.int)) = decide (xs = ys) from eqvAll_ints xs ys]
  exact q
/-! ### tables of code objects -/
def Tg (Ps : List Addr) (H : Hp) : Prop := ∀ P ∈ Ps, TabG H P
def Sts (Ps : List Addr) (H H' : Hp) : Prop := ∀ b o, b ∉ Ps → H b = some o → H' b = some o
/-- all but the dice at d and the tables Ps stays -/
def Sy (d : Addr) (Ps : List Addr) (H H' : Hp) : Prop := ∀ b o, b ≠ d → b ∉ Ps → H b = some o → H' b = some o
theorem Sts.rf (Ps : List Addr) (H : Hp) : Sts Ps H H := fun _ _ _ e => e
theorem Sts.of {Ps : List Addr} {H H' : Hp} (s : Same H H') : Sts Ps H H' := fun b o _ h => s b o h
theorem Sts.trans {Ps : List Addr} {H H1 H2 : Hp} (s : Sts Ps H H1) (t : Sts Ps H1 H2) : Sts Ps H H2 := fun b o n h => t b o n (s b o n h)
theorem Sy.rf (d : Addr) (Ps : List Addr) (H : Hp) : Sy d Ps H H := fun _ _ _ _ e => e
theorem Sy.of {d : Addr} {Ps : List Addr} {H H' : Hp} (s : Same H H') : Sy d Ps H H' := fun b o _ _ h => s b o h
theorem Sy.ofD {d : Addr} {Ps : List Addr} {H H' : Hp} (s : Sx d H H') : Sy d Ps H H' := fun b o n _ h => s b o n h
theorem Sy.ofP {d : Addr} {Ps : List Addr} {H H' : Hp} (s : Sts Ps H H') : Sy d Ps H H' := fun b o _ n h => s b o n h
theorem Sy.trans {d : Addr} {Ps : List Addr} {H H1 H2 : Hp} (s : Sy d Ps H H1) (t : Sy d Ps H1 H2) : Sy d Ps H H2 := fun b o n m h => t b o n m (s b o n m h)
theorem tabS {P : Addr} {H H' : Hp} (t : TabG H P) (s : Same H H') : TabG H' P := by
  obtain ⟨ps, h, k⟩ := t
  exact ⟨ps, s _ _ h, k⟩
theorem Tg.same {Ps : List Addr} {H H' : Hp} (t : Tg Ps H) (s : Same H H') : Tg Ps H' := fun P m => tabS (t P m) s
theorem Tg.sx {Ps : List Addr} {d : Addr} {H H' : Hp} (t : Tg Ps H) (s : Sx d H H') (hd : Dc H d) : Tg Ps H' := fun P m => by
  obtain ⟨ps, h, k⟩ := t P m
  obtain ⟨x, y, z, e⟩ := hd
  refine ⟨ps, s _ _ (fun q => ?_) h, k⟩
  rw [q, e] at h
  cases h
theorem Tg.ne {Ps : List Addr} {H : Hp} {a : Addr} {o : HO} (t : Tg Ps H) (h : H a = some o) (ho : ∀ ps, o ≠ .tbl ps) : a ∉ Ps := fun m => by
  obtain ⟨ps, e, _⟩ := t a m
  rw [h] at e
  exact ho ps (Option.some.inj e)
theorem tbd_sts {Ps : List Addr} {P : Addr} {H H' : Hp} (t : Tabbed P H H') (h : P ∈ Ps) : Sts Ps H H' := fun b o nb e => (t.2 b (fun z => nb (z ▸ h))).trans e
theorem tbd_tg {Ps : List Addr} {P : Addr} {H H' : Hp} (t : Tabbed P H H') (g : Tg Ps H) : Tg Ps H' := fun P' m => by
  by_cases e : P' = P
  · rw [e]
    exact t.1
  · obtain ⟨ps, h, k⟩ := g P' m
    exact ⟨ps, (t.2 P' e).trans h, k⟩
theorem Sts.tup {Ps : List Addr} {H H' : Hp} {t : Addr} {xs : List V} (s : Sts Ps H H') (g : Tg Ps H) (h : H t = some (.tup xs)) : H' t = some (.tup xs) := s _ _ (g.ne h fun _ e => by cases e) h
theorem Sts.lst {Ps : List Addr} {H H' : Hp} {t : Addr} {xs : List V} (s : Sts Ps H H') (g : Tg Ps H) (h : H t = some (.lst xs)) : H' t = some (.lst xs) := s _ _ (g.ne h fun _ e => by cases e) h
theorem Sts.fo {Ps : List Addr} {C a : Addr} {H H' : Hp} {l : List Int} (s : Sts Ps H H') (g : Tg Ps H) (h : Fo C H a l) : Fo C H' a l := by
  obtain ⟨dx, t, e1, e2, e3⟩ := h
  exact ⟨dx, t, s _ _ (g.ne e1 fun _ e => by cases e) e1, s _ _ (g.ne e2 fun _ e => by cases e) e2, s _ _ (g.ne e3 fun _ e => by cases e) e3⟩
theorem Sts.dc {Ps : List Addr} {d : Addr} {H H' : Hp} (s : Sts Ps H H') (g : Tg Ps H) (h : Dc H d) : Dc H' d := by
  obtain ⟨x, y, z, e⟩ := h
  exact ⟨x, y, z, s _ _ (g.ne e fun _ e => by cases e) e⟩
/-- dice and the tables -/
structure Dp (d : Addr) (Ps : List Addr) (H : Hp) : Prop where
  dd : Dc H d
  tt : Tg Ps H
theorem Dp.same {d : Addr} {Ps : List Addr} {H H' : Hp} (D : Dp d Ps H) (s : Same H H') : Dp d Ps H' := ⟨D.dd.same s, D.tt.same s⟩
theorem Dp.sx {d : Addr} {Ps : List Addr} {H H' : Hp} (D : Dp d Ps H) (s : Sx d H H') (h : Dc H' d) : Dp d Ps H' := ⟨h, D.tt.sx s D.dd⟩
theorem Dp.sp {d : Addr} {Ps : List Addr} {H H' : Hp} (D : Dp d Ps H) (s : Sts Ps H H') (h : Tg Ps H') : Dp d Ps H' := ⟨s.dc D.tt D.dd, h⟩
theorem Dp.tup {d : Addr} {Ps : List Addr} {H H' : Hp} {t : Addr} {xs : List V} (D : Dp d Ps H) (s : Sy d Ps H H') (h : H t = some (.tup xs)) : H' t = some (.tup xs) := s _ _ (dc_ne D.dd h) (D.tt.ne h fun _ e => by cases e) h
theorem Dp.fo {d : Addr} {Ps : List Addr} {H H' : Hp} {C a : Addr} {l : List Int} (D : Dp d Ps H) (s : Sy d Ps H H') (h : Fo C H a l) : Fo C H' a l := by
  obtain ⟨dx, t, e1, e2, e3⟩ := h
  obtain ⟨x, y, z, e⟩ := D.dd
  have nd : ∀ {b o}, H b = some o → (∀ l, o ≠ .lst l) → b ≠ d := fun h1 h2 q => by
    rw [q, e] at h1
    exact h2 _ (Option.some.inj h1).symm
  exact ⟨dx, t, s _ _ (nd e1 fun _ e => by cases e) (D.tt.ne e1 fun _ e => by cases e) e1, s _ _ (nd e2 fun _ e => by cases e) (D.tt.ne e2 fun _ e => by cases e) e2, s _ _ (nd e3 fun _ e => by cases e) (D.tt.ne e3 fun _ e => by cases e) e3⟩
theorem script_Sy {K : PySem.W.Frag} {d a : Addr} {Ps : List Addr} {H H' : Hp} {o : HO} {xs : List V} (s : Sy d Ps (upd H d o) H') (n : H d = none) (t : Tg Ps H) (h : SqL K H a xs) : SqL K H' a xs := by
  rcases h with (h | ⟨u, h⟩) | h
  · have ne : a ≠ d := ne_of_none h n
    exact .inl (.inl (s a _ ne (t.ne h fun _ e => by cases e) (by rw [upd_ne ne]; exact h)))
  · have ne : a ≠ d := ne_of_none h n
    exact .inl (.inr ⟨u, s a _ ne (t.ne h fun _ e => by cases e) (by rw [upd_ne ne]; exact h)⟩)
  · exact .inr h
def spLawT (K : PySem.W.Frag) (Ps : List Addr) : Sp := fun vs H Q _ => ∃ (a : Addr) (ns : List Int), vs = [.ref a] ∧ SqL K H a (ns.map V.int) ∧ ns.length ≤ 63 ∧ Tg Ps H ∧ ∀ H', Q (.bl true) H'
/-! ### cut and joined rows -/
theorem cat_rows {K : PySem.W.Frag} {a b : Addr} {H : Hp} {xs ys : List Int} {Q : VK} (ha : H a = some (tp xs)) (hb : H b = some (tp ys)) (hl : xs.length + ys.length ≤ 1000) (q : ∀ p H', Same H H' → H' p = some (tp (xs ++ ys)) → Q (.ref p) H') : rCatA K (.ref a) (.ref b) H Q := by
  refine ⟨a, b, _, _, rfl, rfl, SqT.of ha, SqT.of hb, ?_, fun e => ?_, fun _ e => ?_, fun _ _ p hp => ?_⟩
  · rw [List.length_map, List.length_map]
    have : 1000 ≤ sizeLine := by decide
    omega
  · have e := List.map_eq_nil_iff.mp e
    subst e
    exact q b H (Same.rf _) hb
  · have e := List.map_eq_nil_iff.mp e
    subst e
    exact q a H (Same.rf _) (by rw [List.append_nil]; exact ha)
  · refine q p _ (same_upd0 hp) ?_
    rw [upd_same]
    exact congrArg (fun z => some (HO.tup z)) List.map_append.symm
end K76

set_option Elab.async false
set_option linter.all false
set_option maxRecDepth 100000
set_option maxHeartbeats 2000000
/-! // by an int of any size, where the quotient is not too great: fewer than 4500 bits -/
namespace FDivQ
open PySem PySem.Spec PyProof.Rows L2
theorem noPylong_quot {x y : Int} (h : x.natAbs.log2 ≤ y.natAbs.log2 + 4470) : Builtin.divisionGoesByPylong x y = false := by
  show (decide ((if y == 0 then 0 else y.natAbs.log2 / 30 + 1) > 300) && decide ((if x == 0 then 0 else x.natAbs.log2 / 30 + 1) > (if y == 0 then 0 else y.natAbs.log2 / 30 + 1) + 150)) = false
  by_cases hy : (y == 0) = true
  · rw [if_pos hy]
    rfl
  · rw [if_neg hy]
    by_cases hx : (x == 0) = true
    · rw [if_pos hx]
      simp
    · rw [if_neg hx]
      have : ¬ (x.natAbs.log2 / 30 + 1 > y.natAbs.log2 / 30 + 1 + 150) := by omega
      rw [decide_eq_false this, Bool.and_false]
/-- a divisor other than 0 of fewer than 9000 bits, or a quotient of fewer than some 4470 -/
def CDivQ (i j : Int) : Prop := j ≠ 0 ∧ (j.natAbs.log2 < 9000 ∨ i.natAbs.log2 ≤ j.natAbs.log2 + 4470)
theorem op_fdivQ {X : Cx} : OpR X (binaryOp .FloorDiv) (rI CDivQ fun i j => .int (i.fdiv j)) := opI fun i j _ _ _ _ _ hc q =>
  floordiv_int hc.1 q (.inl (hc.2.elim PyProof.noPylong_of_log2 noPylong_quot))
/-- an exact quotient below 2 ^ 4470 -/
theorem CDivQ.exact {i j q : Int} (hj : j ≠ 0) (e : i = q * j) (hq : q.natAbs < 2 ^ 4470) : CDivQ i j := by
  refine ⟨hj, .inr ?_⟩
  by_cases h0 : i.natAbs = 0
  · rw [h0, Nat.log2_zero]
    exact Nat.zero_le _
  · have h1 : j.natAbs ≠ 0 := by omega
    have h2 : i.natAbs < 2 ^ (4470 + (j.natAbs.log2 + 1)) := by
      rw [e, Int.natAbs_mul, Nat.pow_add]
      exact Nat.mul_lt_mul'' hq Nat.lt_log2_self
    have := (Nat.log2_lt h0).mpr h2
    omega
end FDivQ

set_option Elab.async false
set_option linter.all false
/-! list(xs) of a list or a tuple, the fragment named (for comprehensions) -/
namespace ListOf
open PySem PySem.Spec PyProof.Rows L2
def rListOf (K : PySem.W.Frag) : List V → Hp → VK → Prop := fun xs H Q => ∃ p ys, xs = [V.ref p] ∧ (SqL K H p ys ∨ SqT K H p ys) ∧ ∀ l, H l = none → Q (.ref l) (upd H l (.lst ys))
theorem call_list_ofK {X : Cx} {K : PySem.W.Frag} (e : X.K = K) : CallR X (.type "list") (rListOf K) := by
  subst e
  exact call_list_of
end ListOf

set_option Elab.async false
set_option linter.all false
set_option maxRecDepth 100000
set_option maxHeartbeats 4000000
set_option exponentiation.threshold 10000
namespace K76
open PySem PySem.Spec PyProof.Rows L2 StX RZ MyR SlX OwnR OwnF EnumT GxR GenNx FDivQ
def gl (l : List Int) : Nat := l.foldl (fun a x => Nat.gcd a x.natAbs) 0
theorem gl_snoc (l : List Int) (x : Int) : gl (l ++ [x]) = Nat.gcd (gl l) x.natAbs := by
  unfold gl
  rw [List.foldl_append]
  rfl
def foE (l : List Int) : Int := (l.find? (· != 0)).getD 0
theorem foE_of {l : List Int} {r : Int} (h : FirstOf (fun i => i != 0) l 0 r) : r = foE l := by
  unfold foE
  rcases h with ⟨h, rfl⟩ | ⟨i, h1, h2, h3⟩
  · have e : l.find? (· != 0) = none := List.find?_eq_none.mpr fun x hx => by
      obtain ⟨j, hj, e⟩ := List.mem_iff_getElem.mp hx
      have q : (x != 0) = false := h j x (by rw [List.getElem?_eq_getElem hj, e])
      rw [q]
      exact Bool.false_ne_true
    rw [e]
    rfl
  · obtain ⟨hi, e⟩ := List.getElem?_eq_some_iff.mp h1
    have e2 : l.find? (· != 0) = some r := List.find?_eq_some_iff_getElem.mpr ⟨h2, i, hi, e, fun j hj => by
      have q : (l[j] != 0) = false := h3 j _ hj (List.getElem?_eq_getElem (Nat.lt_trans hj hi))
      rw [q]
      rfl⟩
    rw [e2]
    rfl
abbrev ls (ns : List Int) : HO := .lst (ns.map V.int)
section
variable {P : Program} {w : World} {K : PySem.W.Frag} {mg : Str → Option Value} {base : Heap} {Ps : List Addr}
def spSharedL (K : PySem.W.Frag) : Sp := fun vs H Q _ => ∃ (t : Addr) (ns : List Int), vs = [.ref t] ∧ SqL K H t (ns.map V.int) ∧ Q (.int (gl ns : Nat)) H
theorem ok_shared_of (T : Facts K mg) : FnOk P w K mg base CX0 1 T.f_shared_of T.fd_shared_of ["numbers"] (spSharedL K) := by
  refine T.F_shared_of.ok sc_shared_of (fun vs H Q E h => ?_) (fun cdv A outer s H vs Q E hr h => ?_)
  · obtain ⟨t, ns, rfl, _⟩ := h
    rfl
  · obtain ⟨t, ns, rfl, ht, q⟩ := h
    refine ⟨_, (PSs.nox (pss_cons (ps_set (i := 1) sc_shared_of.nd rfl (.inl rfl) pe_int)
    (pss_cons (ps_for PassesOwn.never (by rfl) (pi_list (pv 0)) (pg_name (i := 2) sc_shared_of.nd rfl (.inl rfl))
      (pss_one (ps_set (i := 1) sc_shared_of.nd rfl (.inl rfl) (pe_callBfun cr_gcd (by rfl) T.m_gcd (pa_cons (pv 1) (pa_cons (pv 2) pa_nil))))))
    (pss_one (ps_ret (pv 1)))))), ?_⟩
    refine ⟨_, rfl, t, rfl, ⟨_, ht⟩, for_list (xs := ns.map V.int) (fun i σ H' => ∃ y, σ = [some (.ref t), some (.int ((gl (ns.take i) : Nat) : Int)), y] ∧ H' = H) ⟨none, rfl, rfl⟩ (fun i σ H' _ hP => by rw [hP.choose_spec.2]; exact ht) (fun i x σ H' hx hP => ?_) (fun σ H' hP => ?_)⟩
    · obtain ⟨y, rfl, rfl⟩ := hP
      obtain ⟨hi, rfl⟩ := int_get hx
      refine ⟨_, rfl, _, rfl, _, _, rfl, some (.int (co ns i)), ?_, rfl⟩
      rw [take_snoc hi, gl_snoc]
      rfl
    · obtain ⟨y, rfl, rfl⟩ := hP
      rw [List.length_map, List.take_length]
      exact ⟨_, rfl, q⟩
def spSharedS (K : PySem.W.Frag) : Sp := fun vs H Q _ => ∃ (t : Addr) (ns : List Int), vs = [.ref t] ∧ (SqT K H t (ns.map V.int) ∨ SqL K H t (ns.map V.int)) ∧ Q (.int (gl ns : Nat)) H
def spFirstOf (K : PySem.W.Frag) (Ps : List Addr) : Sp := fun vs H Q _ => ∃ (t : Addr) (l : List Int), vs = [.ref t] ∧ SqL K H t (l.map V.int) ∧ Tg Ps H ∧ ∀ H', Sts Ps H H' → Tg Ps H' → Q (.int (foE l)) H'
theorem ok_first_of (T : Facts K mg) (TB_first_of : TabB base mg T.c_first_of T.P_first_of) (hP : T.P_first_of ∈ Ps) : FnOk P w K mg base CX0 1 T.f_first_of T.fd_first_of ["numbers"] (spFirstOf K Ps) := by
  refine HookT.okC T.F_first_of sc_first_of (fun vs H Q E h => ?_) (fun A outer s H vs Q E hr h => ?_)
  · obtain ⟨t, l, rfl, _⟩ := h
    rfl
  · obtain ⟨t, l, rfl, ht, hG, q⟩ := h
    refine ⟨_, (PSs.nox (pss_one (ps_ret (GenNl.pe_nextL hr (by rfl) T.z_next TB_first_of T.code_first_of (GenNx.genS_of rfl rfl (by decide +kernel) rfl rfl) (pv 0) (GenNx.test_ne0 rfl rfl))))), ?_⟩
    refine ⟨_, rfl, t, l, rfl, ht, hG _ hP, fun r H2 hr2 hT => ?_⟩
    have q2 := q H2 (tbd_sts hT hP) (tbd_tg hT hG)
    rw [← foE_of hr2] at q2
    exact q2
end
theorem lc_zipL {K : PySem.W.Frag} {a b : Addr} {xs ys : List V} {g : TG} {tt : TT} {te : TE} {vs : List Nat} {σ : L2.St} {H1 : Hp} {D : Addr} {Qd : Hp → Prop} (hl : xs.length = ys.length) (Pv : Nat → Hp → Prop) (h0 : Pv 0 (upd H1 D (.lst []))) (hq : ∀ i H, i ≤ xs.length → Pv i H → SqL K H a xs ∧ SqL K H b ys)
    (hs : ∀ (i : Nat) (x y : V) (T : Addr) (H : Hp), xs[i]? = some x → ys[i]? = some y → Pv i H → H T = none → g (.ref T) (wipe σ vs) (upd H T (.tup [x, y])) fun σ2 H2 => wipe σ2 vs = wipe σ vs ∧ tt σ2 H2 fun b H3 =>
      if b = true then te σ2 H3 fun y H4 => ∃ acc, H4 D = some (.lst acc) ∧ acc.length < sizeLine ∧ Pv (i + 1) (upd H4 D (.lst (acc ++ [y]))) else Pv (i + 1) H3) (hd : ∀ H, Pv xs.length H → Qd H) :
    ∃ W : Nat → Nat → Hp → Prop, (∃ m, W 0 m (upd H1 D (.lst []))) ∧ ∀ i m H, W i m H →
      ((Itz K a b).stop i H ∧ Qd H) ∨ ((Itz K a b).go i H ∧ ∃ Nx : Hp → Prop, (∀ H', Nx H' → ∃ m', m' < m ∧ W (i + 1) m' H') ∧ ∀ x H', (Itz K a b).yld i H x H' → g x (wipe σ vs) H' fun σ2 H2 => wipe σ2 vs = wipe σ vs ∧ tt σ2 H2 fun b H3 =>
        if b = true then te σ2 H3 fun y H4 => ∃ acc, H4 D = some (.lst acc) ∧ acc.length < sizeLine ∧ Nx (upd H4 D (.lst (acc ++ [y]))) else Nx H3) := by
  refine ⟨fun i m H => m = xs.length - i ∧ i ≤ xs.length ∧ Pv i H, ⟨xs.length, by simp, Nat.zero_le _, h0⟩, ?_⟩
  rintro i m H ⟨rfl, hi, p⟩
  obtain ⟨qx, qy⟩ := hq i H hi p
  by_cases hlt : i < xs.length
  · have hlt2 : i < ys.length := by omega
    have hx : xs[i]? = some xs[i] := List.getElem?_eq_getElem hlt
    have hy : ys[i]? = some ys[i] := List.getElem?_eq_getElem hlt2
    refine .inr ⟨⟨xs, ys, _, _, qx, qy, hx, hy⟩, Pv (i + 1), fun H' p' => ⟨xs.length - (i + 1), by omega, rfl, hlt, p'⟩, fun v H' y => ?_⟩
    obtain ⟨T, x', y', rfl, hT, rfl, f1, f2⟩ := y
    exact hs i x' y' T H (f1 xs qx) (f2 ys qy) p hT
  · have e : i = xs.length := by omega
    subst e
    exact .inl ⟨⟨xs, ys, qx, qy, Or.inl (Nat.le_refl _)⟩, hd H p⟩
def dv (l : List Int) (c : Int) : List Int := l.map fun x => x.fdiv c
theorem dv_tb (l : List Int) (c : Int) : (tb l.length fun k => (co l k).fdiv c) = dv l c := tb_map (fun x => x.fdiv c) l
def primE (l : List Int) : List Int := if gl l = 0 then l else dv l (if 0 < foE l then (gl l : Int) else -(gl l : Int))
def DivOk (l : List Int) : Prop := gl l ≠ 0 → ∀ x ∈ l, CDivQ x (gl l)
theorem cdivQ_neg {i j : Int} (h : CDivQ i j) : CDivQ i (-j) := ⟨fun e => h.1 (by omega), by rw [Int.natAbs_neg]; exact h.2⟩
theorem co_memE {l : List Int} {k : Nat} (h : k < l.length) : co l k ∈ l := by
  rw [co_get h]
  exact List.getElem_mem h
section
variable {P : Program} {w : World} {K : PySem.W.Frag} {mg : Str → Option Value} {base : Heap} {Ps : List Addr}
def spPrimL (Ps : List Addr) : Sp := fun vs H Q _ => ∃ (t : Addr) (l : List Int), vs = [.ref t] ∧ H t = some (ls l) ∧ l.length ≤ 100 ∧ DivOk l ∧ Tg Ps H ∧ ∀ p H', Sts Ps H H' → Tg Ps H' → H' p = some (ls (primE l)) → Q (.ref p) H'
theorem ok_primitive_of (T : Facts K mg) (TB_first_of : TabB base mg T.c_first_of T.P_first_of) (hP : T.P_first_of ∈ Ps) : FnOk P w K mg base CX0 2 T.f_primitive_of T.fd_primitive_of ["numbers"] (spPrimL Ps) := by
  have G_shared_of : FnOk P w K mg base CX0 1 T.f_shared_of T.fd_shared_of ["numbers"] (spSharedL K) := ok_shared_of T
  have G_first_of := ok_first_of (P := P) (w := w) (base := base) T TB_first_of hP
  refine T.F_primitive_of.ok sc_primitive_of (fun vs H Q E h => ?_) (fun cdv A outer s H vs Q E hr h => ?_)
  · obtain ⟨t, l, rfl, _⟩ := h
    rfl
  · obtain ⟨t, l, rfl, ht, hl, hdo, hG, q⟩ := h
    refine ⟨_, (PSs.nox (pss_cons (ps_set (i := 1) sc_primitive_of.nd rfl (.inr rfl) (pe_call G_shared_of hr (by rfl) T.g_shared_of T.F_shared_of.kp T.b_shared_of .nil pass0 (pa_cons (pv 0) pa_nil)))
    (pss_cons (ps_if (pt_cmpR op_eq (pv 1) pe_int (nomark _))
      (pss_one (ps_ret (pe_callTy call_list_of (by rfl) T.z_list (by decide +kernel) (pa_cons (pv 0) pa_nil))))
      pss_nil)
    (pss_cons (ps_set (i := 1) sc_primitive_of.nd rfl (.inr rfl) (pe_ifExp (pt_cmpR op_gt (pe_call G_first_of hr (by rfl) T.g_first_of T.F_first_of.kp T.b_first_of .nil pass0 (pa_cons (pv 0) pa_nil)) pe_int (nomark _)) (pv 1) (pe_un un_neg (pv 1))))
    (pss_one (ps_ret (pe_lc (own := [("number", 2)]) (g := (gName 2)) (tt := tYes) (by rfl) sc_primitive_of.nd (pi_list (pv 0)) (blkOk_by (N := N_primitive_of) (sc := defScope s_primitive_of) (by decide +kernel)) (fun _ _ _ _ _ => (pg_name (i := 2) sc_primitive_of.nd rfl (.inl rfl))) (fun _ _ _ _ _ => pts_nil) (fun _ _ _ _ _ => (pe_op FDivQ.op_fdivQ (pv 2) (pv 1)))))))))), ?_⟩
    refine ⟨_, rfl, t, l, rfl, SqL.of ht, _, rfl, rfl, _, rfl, ?_⟩
    by_cases c : gl l = 0
    · rw [decide_eq_true (show V.int ((gl l : Nat) : Int) = V.int 0 by rw [c]; rfl)]
      refine iteT ⟨_, rfl, t, l.map V.int, rfl, .inl (SqL.of ht), fun p hp => q p _ (Sts.of (same_upd0 hp)) (hG.same (same_upd0 hp)) ?_⟩
      unfold primE
      rw [if_pos c]
      exact upd_same
    · rw [decide_eq_false fun z => c (Int.natCast_eq_zero.mp (V.int.inj z))]
      refine iteF ⟨_, rfl, t, l, rfl, SqL.of ht, hG, fun H1 s1 g1 => ?_⟩
      have ht1 := s1.lst hG ht
      have fin : ∀ c2 : Int, primE l = dv l c2 → (∀ x ∈ l, CDivQ x c2) → ∀ D, H1 D = none → ∃ W : Nat → Nat → Hp → Prop, (∃ m, W 0 m (upd H1 D (.lst []))) ∧ ∀ i m H, W i m H →
          ((Itl K t).stop i H ∧ Q (.ref D) H) ∨ ((Itl K t).go i H ∧ ∃ Nx : Hp → Prop, (∀ H', Nx H' → ∃ m', m' < m ∧ W (i + 1) m' H') ∧ ∀ x H', (Itl K t).yld i H x H' → gName 2 x (wipe (List.set (L2.start N_primitive_of [V.ref t]) 1 (some (V.int c2))) [2]) H' fun σ2 H2 => wipe σ2 [2] = wipe (List.set (L2.start N_primitive_of [V.ref t]) 1 (some (V.int c2))) [2] ∧ tYes σ2 H2 fun b H3 =>
            if b = true then tOp (rI CDivQ fun i j => V.int (i.fdiv j)) (tVar 2) (tVar 1) σ2 H3 fun y H4 => ∃ acc, H4 D = some (.lst acc) ∧ acc.length < sizeLine ∧ Nx (upd H4 D (.lst (acc ++ [y]))) else Nx H3) := fun c2 e hc D hD => by
        refine lc_list (xs := l.map V.int) (fun j H' => H' = upd H1 D (.lst (tab j fun k => (co l k).fdiv c2))) rfl (fun j H' _ hP => ?_) (fun j x H' hx hP => ?_) (fun H' hP => ?_)
        · rw [hP]
          exact SqL.of (same_upd0 hD _ _ ht1)
        · subst hP
          obtain ⟨hj, rfl⟩ := int_get hx
          refine ⟨rfl, _, rfl, _, rfl, _, _, rfl, rfl, hc _ (co_memE hj), _, upd_same, ?_, ?_⟩
          · rw [tab_len]
            exact small1000 (by omega)
          · rw [upd_upd, ← tab_snoc]
        · subst hP
          rw [List.length_map]
          refine q D _ (s1.trans (Sts.of (same_upd0 hD))) (g1.same (same_upd0 hD)) ?_
          rw [upd_same, tab_tb, dv_tb, e]
      refine ⟨_, _, rfl, rfl, _, rfl, ?_⟩
      by_cases d : 0 < foE l
      · rw [decide_eq_true d]
        refine iteT ⟨_, rfl, _, rfl, t, rfl, ⟨_, SqL.of ht1⟩, fin _ ?_ (hdo c)⟩
        unfold primE
        rw [if_neg c, if_pos d]
      · rw [decide_eq_false d]
        refine iteF ⟨_, rfl, _, rfl, _, rfl, t, rfl, ⟨_, SqL.of ht1⟩, fin _ ?_ fun x hx => cdivQ_neg (hdo c x hx)⟩
        unfold primE
        rw [if_neg c, if_neg d]
def lf (row head : List Int) (p : Nat) : List Int :=
  tb row.length fun k => co row k * (co head p).fdiv (Nat.gcd (co head p).natAbs (co row p).natAbs : Nat) - (co row p).fdiv (Nat.gcd (co head p).natAbs (co row p).natAbs : Nat) * co head k
def less (row head : List Int) (p : Nat) : List Int := if co row p = 0 then row else if 1 < gl (lf row head p) then dv (lf row head p) (gl (lf row head p)) else lf row head p
structure LessOk (row head : List Int) (p : Nat) : Prop where
  c1 : CDivQ (co head p) (Nat.gcd (co head p).natAbs (co row p).natAbs : Nat)
  c2 : CDivQ (co row p) (Nat.gcd (co head p).natAbs (co row p).natAbs : Nat)
  m1 : ∀ k, k < row.length → CMulW (co row k) ((co head p).fdiv (Nat.gcd (co head p).natAbs (co row p).natAbs : Nat))
  m2 : ∀ k, k < row.length → CMulW ((co row p).fdiv (Nat.gcd (co head p).natAbs (co row p).natAbs : Nat)) (co head k)
  d : DivOk (lf row head p)
theorem sz2 : 2 ≤ sizeLine := by decide
end
def lless (row head : List Int) (p : Nat) : List Int := if 1 < gl (lf row head p) then dv (lf row head p) (gl (lf row head p)) else lf row head p
theorem lc_enumL {K : PySem.W.Frag} {a : Addr} {xs : List V} {g : TG} {tt : TT} {te : TE} {vs : List Nat} {σ : L2.St} {H1 : Hp} {D : Addr} {Qd : Hp → Prop} (Pv : Nat → Hp → Prop) (h0 : Pv 0 (upd H1 D (.lst []))) (hq : ∀ i H, i ≤ xs.length → Pv i H → SqL K H a xs)
    (hs : ∀ (i : Nat) (x : V) (T : Addr) (H : Hp), xs[i]? = some x → Pv i H → H T = none → g (.ref T) (wipe σ vs) (upd H T (.tup [.int (i : Nat), x])) fun σ2 H2 => wipe σ2 vs = wipe σ vs ∧ tt σ2 H2 fun b H3 =>
      if b = true then te σ2 H3 fun y H4 => ∃ acc, H4 D = some (.lst acc) ∧ acc.length < sizeLine ∧ Pv (i + 1) (upd H4 D (.lst (acc ++ [y]))) else Pv (i + 1) H3) (hd : ∀ H, Pv xs.length H → Qd H) :
    ∃ W : Nat → Nat → Hp → Prop, (∃ m, W 0 m (upd H1 D (.lst []))) ∧ ∀ i m H, W i m H →
      ((Ite K a).stop i H ∧ Qd H) ∨ ((Ite K a).go i H ∧ ∃ Nx : Hp → Prop, (∀ H', Nx H' → ∃ m', m' < m ∧ W (i + 1) m' H') ∧ ∀ x H', (Ite K a).yld i H x H' → g x (wipe σ vs) H' fun σ2 H2 => wipe σ2 vs = wipe σ vs ∧ tt σ2 H2 fun b H3 =>
        if b = true then te σ2 H3 fun y H4 => ∃ acc, H4 D = some (.lst acc) ∧ acc.length < sizeLine ∧ Nx (upd H4 D (.lst (acc ++ [y]))) else Nx H3) := by
  refine ⟨fun i m H => m = xs.length - i ∧ i ≤ xs.length ∧ Pv i H, ⟨xs.length, by simp, Nat.zero_le _, h0⟩, ?_⟩
  rintro i m H ⟨rfl, hi, p⟩
  have qx := hq i H hi p
  by_cases hlt : i < xs.length
  · have hx : xs[i]? = some xs[i] := List.getElem?_eq_getElem hlt
    refine .inr ⟨⟨xs, _, qx, hx⟩, Pv (i + 1), fun H' p' => ⟨xs.length - (i + 1), by omega, rfl, hlt, p'⟩, fun v H' y => ?_⟩
    obtain ⟨T, x', rfl, hT, rfl, f1⟩ := y
    exact hs i x' T H (f1 xs qx) p hT
  · have e : i = xs.length := by omega
    subst e
    exact .inl ⟨⟨xs, qx, Nat.le_refl _⟩, hd H p⟩
theorem ne_lintsL {K : PySem.W.Frag} {H : Hp} {a b : Addr} {xs ys : List Int} {Q : VK} (ha : SqL K H a (xs.map V.int)) (hb : SqL K H b (ys.map V.int)) (q : Q (.bl (!decide (xs = ys))) H) : rNeD K (.ref a) (.ref b) H Q := by
  refine ⟨.list (xs.map PyData.int), .list (ys.map PyData.int), .lst ha (dpAll_ints xs), .lst hb (dpAll_ints ys), shaped_lints xs, shaped_lints ys, ?_⟩
  rw [show PyData.eqv (.list (xs.map PyData.int)) (.list (ys.map PyData.int)) = decide (xs = ys) from eqvAll_ints xs ys]
  exact q
def RX (p : Addr → List Int → Prop) : List Addr → List (List Int) → Prop
  | [], [] => True
  | a :: as, r :: rs => p a r ∧ RX p as rs
  | _, _ => False
theorem RX.len {p : Addr → List Int → Prop} : ∀ {as : List Addr} {rs : List (List Int)}, RX p as rs → as.length = rs.length
  | [], [], _ => rfl
  | a :: as, r :: rs, h => congrArg (· + 1) (RX.len h.2)
theorem RX.imp {p q : Addr → List Int → Prop} (f : ∀ a r, p a r → q a r) : ∀ {as : List Addr} {rs : List (List Int)}, RX p as rs → RX q as rs
  | [], [], _ => True.intro
  | a :: as, r :: rs, h => ⟨f _ _ h.1, RX.imp f h.2⟩
theorem RX.app {p : Addr → List Int → Prop} {bs : List Addr} {ss : List (List Int)} (g : RX p bs ss) : ∀ {as : List Addr} {rs : List (List Int)}, RX p as rs → RX p (as ++ bs) (rs ++ ss)
  | [], [], _ => g
  | a :: as, r :: rs, h => ⟨h.1, RX.app g h.2⟩
theorem RX.get {p : Addr → List Int → Prop} : ∀ {as : List Addr} {rs : List (List Int)} {i : Nat}, RX p as rs → i < rs.length → ∃ a r, as[i]? = some a ∧ rs[i]? = some r ∧ p a r
  | [], [], _, _, h => absurd h (Nat.not_lt_zero _)
  | a :: as, r :: rs, 0, h, _ => ⟨a, r, rfl, rfl, h.1⟩
  | a :: as, r :: rs, i + 1, h, hi => by
    obtain ⟨b, s, e1, e2, k⟩ := RX.get (i := i) h.2 (Nat.lt_of_succ_lt_succ hi)
    exact ⟨b, s, by rw [List.getElem?_cons_succ]; exact e1, by rw [List.getElem?_cons_succ]; exact e2, k⟩
theorem RX.erase {p : Addr → List Int → Prop} : ∀ {as : List Addr} {rs : List (List Int)} (i : Nat), RX p as rs → RX p (as.eraseIdx i) (rs.eraseIdx i)
  | [], [], _, _ => True.intro
  | a :: as, r :: rs, 0, h => h.2
  | a :: as, r :: rs, i + 1, h => ⟨h.1, RX.erase i h.2⟩
theorem RX.snoc {p : Addr → List Int → Prop} {as : List Addr} {rs : List (List Int)} {a : Addr} {r : List Int} (h : RX p as rs) (k : p a r) : RX p (as ++ [a]) (rs ++ [r]) := RX.app (bs := [a]) (ss := [r]) ⟨k, True.intro⟩ h
def RR (H : Hp) : List Addr → List (List Int) → Prop := RX fun a r => H a = some (ls r)
def RA (H : Hp) : List Addr → List (List Int) → Prop := RX fun a r => H a = some (tp r) ∨ H a = some (ls r)
def RT (H : Hp) : List Addr → List (List Int) → Prop := RX fun a r => H a = some (tp r)
theorem RR.same {H H' : Hp} {as : List Addr} {rs : List (List Int)} (h : RR H as rs) (s : Same H H') : RR H' as rs := RX.imp (fun a r e => s _ _ e) h
theorem RA.same {H H' : Hp} {as : List Addr} {rs : List (List Int)} (h : RA H as rs) (s : Same H H') : RA H' as rs := RX.imp (fun a r e => e.imp (s _ _) (s _ _)) h
theorem RX.impM {p q : Addr → List Int → Prop} : ∀ {as : List Addr} {rs : List (List Int)}, (∀ a ∈ as, ∀ r, p a r → q a r) → RX p as rs → RX q as rs
  | [], [], _, _ => True.intro
  | a :: as, r :: rs, f, h => ⟨f a List.mem_cons_self r h.1, RX.impM (fun b hb => f b (List.mem_cons_of_mem _ hb)) h.2⟩
theorem row_ne {H : Hp} {b D : Addr} {r : List Int} {xs : List Addr} (h : H b = some (ls r)) (hD : H D = some (.lst (xs.map V.ref))) (hx : xs ≠ []) : b ≠ D := fun e => by
  rw [e, hD] at h
  have h := HO.lst.inj (Option.some.inj h)
  cases xs with
  | nil => exact hx rfl
  | cons x xs =>
    cases r with
    | nil => cases h
    | cons y r => cases h
theorem row_ne2 {H : Hp} {b D : Addr} {r : List Int} {xs : List Addr} (h : H b = some (ls r)) (hD : H D = some (.lst (xs.map V.ref))) (hr : r ≠ []) : b ≠ D := fun e => by
  rw [e, hD] at h
  have h := HO.lst.inj (Option.some.inj h)
  cases r with
  | nil => exact hr rfl
  | cons y r =>
    cases xs with
    | nil => cases h
    | cons x xs => cases h
theorem RR.upd {H : Hp} {D : Addr} {o : HO} {xs as : List Addr} {rs : List (List Int)} (h : RR H as rs) (hD : H D = some (.lst (xs.map V.ref))) (hx : as ≠ [] → xs ≠ []) : RR (L2.upd H D o) as rs :=
  RX.impM (fun a ha r e => by rw [upd_ne (row_ne e hD (hx fun z => by rw [z] at ha; cases ha))]; exact e) h
def hix (left : List (List Int)) (p : Nat) : Option Nat := left.findIdx? fun r => co r p != 0
def hds (left : List (List Int)) (p : Nat) : List Int := ((List.range left.length).filter fun i => co (left.getD i []) p != 0).map fun (i : Nat) => (i : Int)
theorem hds_hix (left : List (List Int)) (p : Nat) : (hds left p)[0]? = (hix left p).map fun (i : Nat) => (i : Int) := by
  unfold hds hix
  rw [List.getElem?_map, ← List.head?_eq_getElem?, List.head?_filter]
  congr 1
  cases e : List.findIdx? (fun r => co r p != 0) left with
  | none =>
    rw [List.find?_eq_none]
    intro i hi
    have hi : i < left.length := List.mem_range.mp hi
    have h := List.findIdx?_eq_none_iff.mp e left[i] (List.getElem_mem hi)
    rw [List.getD_eq_getElem?_getD, List.getElem?_eq_getElem hi]
    show ¬ (co left[i] p != 0) = true
    rw [h]
    exact Bool.false_ne_true
  | some k =>
    obtain ⟨hk, h1, h2⟩ := List.findIdx?_eq_some_iff_getElem.mp e
    refine List.find?_eq_some_iff_getElem.mpr ⟨?_, k, by rw [List.length_range]; exact hk, List.getElem_range _, fun j hj => ?_⟩
    · rw [List.getD_eq_getElem?_getD, List.getElem?_eq_getElem hk]
      exact h1
    · rw [List.getElem_range, List.getD_eq_getElem?_getD, List.getElem?_eq_getElem (Nat.lt_trans hj hk)]
      have := h2 j hj
      simpa using this
def stp (le : List Int → List Int → Nat → List Int) (p : Nat) (s : List (List Int) × List (List Int)) : List (List Int) × List (List Int) := match hix s.1 p with
  | none => s
  | some h => ((s.1.eraseIdx h).map fun r => le r (s.1.getD h []) p, (s.2.map fun r => le r (s.1.getD h []) p) ++ [s.1.getD h []])
def eS (le : List Int → List Int → Nat → List Int) (rows : List (List Int)) : Nat → List (List Int) × List (List Int)
  | 0 => (rows, [])
  | p + 1 => stp le p (eS le rows p)
def ech (le : List Int → List Int → Nat → List Int) (rows : List (List Int)) (w : Nat) : List (List Int) := (eS le rows w).2.map primE
structure EOk (le : List Int → List Int → Nat → List Int) (rows : List (List Int)) (w : Nat) : Prop where
  d : ∀ r ∈ (eS le rows w).2, DivOk r
  l : ∀ p, p < w → ∀ h, hix (eS le rows p).1 p = some h → ∀ r, (r ∈ (eS le rows p).1.eraseIdx h ∨ r ∈ (eS le rows p).2) → LessOk r ((eS le rows p).1.getD h []) p
theorem lc_rows {K : PySem.W.Frag} {a : Addr} {fs : List Addr} {R : List (List Int)} {f : List Int → List Int} {te : TE} {σ : L2.St} {k : Nat} {H1 : Hp} {D : Addr} {Qd : Hp → Prop} (hD : H1 D = none) (ha : H1 a = some (.lst (fs.map V.ref))) (hR : RR H1 fs R) (hl : R.length ≤ 100)
    (hw : ∀ x, wipe ((wipe σ [k]).set k (some x)) [k] = wipe σ [k])
    (hte : ∀ (ad : Addr) (r : List Int) (H2 : Hp) (Q : VK), r ∈ R → Same H1 H2 → H2 ad = some (ls r) → (∀ q H3, Same H2 H3 → H3 q = some (ls (f r)) → Q (.ref q) H3) → te ((wipe σ [k]).set k (some (.ref ad))) H2 Q)
    (hf : ∀ r ∈ R, f r ≠ []) (hd : ∀ bs H6, Same H1 H6 → H6 D = some (.lst (bs.map V.ref)) → RR H6 bs (R.map f) → Qd H6) :
    ∃ W : Nat → Nat → Hp → Prop, (∃ m, W 0 m (upd H1 D (.lst []))) ∧ ∀ i m H, W i m H →
      ((Itl K a).stop i H ∧ Qd H) ∨ ((Itl K a).go i H ∧ ∃ Nx : Hp → Prop, (∀ H', Nx H' → ∃ m', m' < m ∧ W (i + 1) m' H') ∧ ∀ x H', (Itl K a).yld i H x H' → gName k x (wipe σ [k]) H' fun σ2 H2 => wipe σ2 [k] = wipe σ [k] ∧ tYes σ2 H2 fun b H3 =>
        if b = true then te σ2 H3 fun y H4 => ∃ acc, H4 D = some (.lst acc) ∧ acc.length < sizeLine ∧ Nx (upd H4 D (.lst (acc ++ [y]))) else Nx H3) := by
  refine lc_list (xs := fs.map V.ref) (fun j H' => ∃ bs, Same H1 H' ∧ H' D = some (.lst (bs.map V.ref)) ∧ bs.length = j ∧ RR H' bs ((R.take j).map f)) ⟨[], same_upd0 hD, upd_same, rfl, True.intro⟩ (fun j H' _ hP => SqL.of (hP.choose_spec.1 _ _ ha)) (fun j x H' hx hP => ?_) (fun H' hP => ?_)
  · obtain ⟨bs, s1, h1, h2, h3⟩ := hP
    rw [List.getElem?_map] at hx
    obtain ⟨ad, had, rfl⟩ := Option.map_eq_some_iff.mp hx
    obtain ⟨ad', r, e1, e2, e3⟩ := RX.get hR (by rw [← hR.len]; exact (List.getElem?_eq_some_iff.mp had).1)
    rw [had] at e1
    cases e1
    have hj : j < R.length := (List.getElem?_eq_some_iff.mp e2).1
    refine ⟨hw _, ?_⟩
    show te _ _ _
    refine hte ad r H' _ (List.mem_of_getElem? e2) s1 (s1 _ _ e3) fun q H3 s3 e4 => ⟨bs.map V.ref, s3 _ _ h1, ?_, bs ++ [q], fun b o e => ?_, ?_, ?_, ?_⟩
    · rw [List.length_map, h2]
      exact small1000 (by omega)
    · rw [upd_ne (ne_of_none e hD)]
      exact s3 _ _ (s1 _ _ e)
    · rw [upd_same, List.map_append]
      rfl
    · rw [List.length_append, h2]
      rfl
    · rw [List.take_add_one, e2, List.map_append]
      refine RX.snoc (RR.upd (h3.same s3) (s3 _ _ h1) fun z => z) ?_
      show upd H3 D _ q = _
      by_cases hq : q = D
      · exact absurd hq (row_ne2 e4 (s3 _ _ h1) (hf r (List.mem_of_getElem? e2)))
      · rw [upd_ne hq]
        exact e4
  · obtain ⟨bs, s1, h1, h2, h3⟩ := hP
    rw [List.length_map, hR.len, List.take_length] at h3
    exact hd bs H' s1 h1 h3
theorem primE_len (l : List Int) : (primE l).length = l.length := by
  unfold primE dv
  split
  · rfl
  · rw [List.length_map]
theorem erase_map : ∀ (l : List Addr) (h : Nat), (l.map V.ref).eraseIdx h = (l.eraseIdx h).map V.ref
  | [], _ => rfl
  | a :: l, 0 => rfl
  | a :: l, h + 1 => by
    show V.ref a :: (l.map V.ref).eraseIdx h = V.ref a :: (l.eraseIdx h).map V.ref
    rw [erase_map l h]
theorem stp_none {le : List Int → List Int → Nat → List Int} {p : Nat} {s : List (List Int) × List (List Int)} (h : hix s.1 p = none) : stp le p s = s := by
  unfold stp
  rw [h]
theorem stp_some {le : List Int → List Int → Nat → List Int} {p h : Nat} {s : List (List Int) × List (List Int)} (e : hix s.1 p = some h) : stp le p s = ((s.1.eraseIdx h).map fun r => le r (s.1.getD h []) p, (s.2.map fun r => le r (s.1.getD h []) p) ++ [s.1.getD h []]) := by
  unfold stp
  rw [e]
theorem eS_cnt (le : List Int → List Int → Nat → List Int) (rows : List (List Int)) : ∀ p, (eS le rows p).1.length + (eS le rows p).2.length = rows.length
  | 0 => rfl
  | p + 1 => by
    have ih := eS_cnt le rows p
    show (stp le p (eS le rows p)).1.length + (stp le p (eS le rows p)).2.length = _
    cases e : hix (eS le rows p).1 p with
    | none => rw [stp_none e]; exact ih
    | some k =>
      obtain ⟨hk, _, _⟩ := List.findIdx?_eq_some_iff_getElem.mp e
      rw [stp_some e]
      show ((eS le rows p).1.eraseIdx k |>.map _).length + (_ ++ [_]).length = _
      rw [List.length_map, List.length_eraseIdx_of_lt hk, List.length_append, List.length_map]
      show _ - 1 + (_ + 1) = _
      omega
section
variable {P : Program} {w : World} {K : PySem.W.Frag} {mg : Str → Option Value} {base : Heap} {Ps : List Addr}
end
theorem lless_len (row head : List Int) (p : Nat) : (lless row head p).length = row.length := by
  unfold lless dv lf
  split
  · rw [List.length_map, tb_len]
  · rw [tb_len]
def ld (r : List Int) : Nat := r.findIdx (· != 0)
section
variable {P : Program} {w : World} {K : PySem.W.Frag} {mg : Str → Option Value} {base : Heap} {Ps : List Addr}
end
end K76

set_option Elab.async false
set_option linter.all false
/-! linear algebra over the integers, up to factors: spans, independence, numbers of rows -/
namespace LA
/-- sums -/
def S : Nat → (Nat → Int) → Int
  | 0, _ => 0
  | n + 1, f => S n f + f n
theorem S_congr {f g : Nat → Int} : ∀ {n : Nat}, (∀ i, i < n → f i = g i) → S n f = S n g
  | 0, _ => rfl
  | n + 1, h => by
    show S n f + f n = S n g + g n
    rw [S_congr fun i hi => h i (Nat.lt_succ_of_lt hi), h n (Nat.lt_succ_self n)]
theorem S_zero {f : Nat → Int} {n : Nat} (h : ∀ i, i < n → f i = 0) : S n f = 0 := by
  induction n with
  | zero => rfl
  | succ n ih =>
    show S n f + f n = 0
    rw [ih fun i hi => h i (Nat.lt_succ_of_lt hi), h n (Nat.lt_succ_self n)]
    rfl
theorem S_add (f g : Nat → Int) : ∀ n, S n (fun i => f i + g i) = S n f + S n g
  | 0 => rfl
  | n + 1 => by
    show S n _ + (f n + g n) = (S n f + f n) + (S n g + g n)
    rw [S_add f g n]
    omega
theorem S_mul (c : Int) (f : Nat → Int) : ∀ n, S n (fun i => c * f i) = c * S n f
  | 0 => (Int.mul_zero c).symm
  | n + 1 => by
    show S n _ + c * f n = c * (S n f + f n)
    rw [S_mul c f n, Int.mul_add]
theorem S_mulr (c : Int) (f : Nat → Int) (n : Nat) : S n (fun i => f i * c) = S n f * c := by
  rw [Int.mul_comm (S n f) c, ← S_mul c f n]
  exact S_congr fun i _ => Int.mul_comm _ _
theorem S_swap (f : Nat → Nat → Int) (m : Nat) : ∀ n, S n (fun i => S m (fun k => f i k)) = S m (fun k => S n (fun i => f i k))
  | 0 => (S_zero fun i _ => rfl).symm
  | n + 1 => by
    show S n _ + S m _ = _
    rw [S_swap f m n, ← S_add]
    rfl
/-- one alone -/
theorem S_one {f : Nat → Int} {n p : Nat} (hp : p < n) (h : ∀ i, i < n → i ≠ p → f i = 0) : S n f = f p := by
  induction n with
  | zero => exact absurd hp (Nat.not_lt_zero _)
  | succ n ih =>
    show S n f + f n = f p
    by_cases c : p = n
    · subst c
      rw [S_zero fun i hi => h i (Nat.lt_succ_of_lt hi) (Nat.ne_of_lt hi), Int.zero_add]
    · rw [ih (by omega) fun i hi hne => h i (Nat.lt_succ_of_lt hi) hne, h n (Nat.lt_succ_self n) (Ne.symm c), Int.add_zero]
/-- all but one: i, or i + 1 from p on -/
def sk (p i : Nat) : Nat := if i < p then i else i + 1
theorem S_skip (f : Nat → Int) (p : Nat) : ∀ n, p ≤ n → S (n + 1) f = f p + S n fun i => f (sk p i)
  | 0, h => by
    have : p = 0 := by omega
    subst this
    show 0 + f 0 = f 0 + 0
    omega
  | n + 1, h => by
    by_cases c : p = n + 1
    · subst c
      show S (n + 1) f + f (n + 1) = _
      rw [Int.add_comm]
      congr 1
      exact S_congr fun i hi => by
        unfold sk
        rw [if_pos hi]
    · show S (n + 1) f + f (n + 1) = f p + (S n (fun i => f (sk p i)) + f (sk p n))
      rw [S_skip f p n (by omega), show sk p n = n + 1 by unfold sk; rw [if_neg (by omega)]]
      omega
/-- more vectors than columns: they hang on one another -/
theorem dep : ∀ (m n : Nat) (x : Nat → Nat → Int), m < n → ∃ y : Nat → Int, (∃ i, i < n ∧ y i ≠ 0) ∧ ∀ j, j < m → S n (fun i => y i * x i j) = 0
  | 0, n, x, h => ⟨fun _ => 1, ⟨0, h, by decide⟩, fun j hj => absurd hj (Nat.not_lt_zero _)⟩
  | m + 1, n, x, h => by
    by_cases c : ∀ i, i < n → x i m = 0
    · obtain ⟨y, hy, he⟩ := dep m n x (by omega)
      refine ⟨y, hy, fun j hj => ?_⟩
      by_cases e : j = m
      · subst e
        exact S_zero fun i hi => by rw [c i hi, Int.mul_zero]
      · exact he j (by omega)
    · obtain ⟨p, hp⟩ := Classical.not_forall.mp c
      obtain ⟨hpn, hp0⟩ : p < n ∧ x p m ≠ 0 := ⟨Classical.byContradiction fun z => hp fun a => absurd a z, fun z => hp fun _ => z⟩
      obtain ⟨n', rfl⟩ : ∃ n', n = n' + 1 := ⟨n - 1, by omega⟩
      obtain ⟨y, ⟨i0, hi0, hy0⟩, he⟩ := dep m n' (fun i j => x p m * x (sk p i) j - x (sk p i) m * x p j) (by omega)
      have back : ∀ i, (if sk p i < p then sk p i else sk p i - 1) = i ∧ sk p i ≠ p := fun i => by
        unfold sk
        by_cases z : i < p
        · rw [if_pos z, if_pos z]
          exact ⟨rfl, by omega⟩
        · rw [if_neg z, if_neg (by omega)]
          exact ⟨by omega, by omega⟩
      let Y : Nat → Int := fun k => if k = p then - S n' (fun i => y i * x (sk p i) m) else x p m * y (if k < p then k else k - 1)
      have Yp : Y p = - S n' (fun i => y i * x (sk p i) m) := if_pos rfl
      have Ys : ∀ i, Y (sk p i) = x p m * y i := fun i => by
        show (if sk p i = p then _ else _) = _
        rw [if_neg (back i).2, (back i).1]
      refine ⟨Y, ⟨sk p i0, by unfold sk; split <;> omega, by rw [Ys]; exact Int.mul_ne_zero hp0 hy0⟩, fun j hj => ?_⟩
      have e0 : S n' (fun i => Y (sk p i) * x (sk p i) j) = S n' (fun i => x p m * y i * x (sk p i) j) := S_congr fun i _ => by rw [Ys i]
      rw [S_skip _ p n' (by omega), e0]
      show Y p * x p j + _ = 0
      rw [Yp]
      have e1 : S n' (fun i => x p m * y i * x (sk p i) j) = S n' (fun i => y i * (x p m * x (sk p i) j - x (sk p i) m * x p j)) + S n' (fun i => y i * x (sk p i) m) * x p j := by
        rw [← S_mulr, ← S_add]
        exact S_congr fun i _ => by grind
      rw [e1]
      by_cases e : j = m
      · subst e
        rw [S_zero (f := fun i => y i * (x p j * x (sk p i) j - x (sk p i) j * x p j)) fun i _ => by rw [Int.mul_comm (x p j), Int.sub_self, Int.mul_zero]]
        grind
      · rw [he j (by omega)]
        grind
/-- v, times a number other than 0, is a sum of multiples of m rows -/
def Sp (w m : Nat) (B : Nat → Nat → Int) (v : Nat → Int) : Prop := ∃ c : Int, c ≠ 0 ∧ ∃ a : Nat → Int, ∀ j, j < w → c * v j = S m (fun k => a k * B k j)
def Ind (w n : Nat) (A : Nat → Nat → Int) : Prop := ∀ a : Nat → Int, (∀ j, j < w → S n (fun i => a i * A i j) = 0) → ∀ i, i < n → a i = 0
/-- independent rows are not more than rows whose span holds them -/
theorem steinitz {w n m : Nat} {A B : Nat → Nat → Int} (hI : Ind w n A) (h : ∀ i, i < n → Sp w m B (A i)) : n ≤ m := by
  by_cases c : n ≤ m
  · exact c
  · exfalso
    have h' : ∀ i, ∃ c : Int, i < n → c ≠ 0 ∧ ∃ a : Nat → Int, ∀ j, j < w → c * A i j = S m (fun k => a k * B k j) := fun i => by
      by_cases hi : i < n
      · obtain ⟨c, hc, a, ha⟩ := h i hi
        exact ⟨c, fun _ => ⟨hc, a, ha⟩⟩
      · exact ⟨0, fun z => absurd z hi⟩
    obtain ⟨C, hC⟩ := Classical.axiomOfChoice h'
    have h2 : ∀ i, ∃ a : Nat → Int, i < n → ∀ j, j < w → C i * A i j = S m (fun k => a k * B k j) := fun i => by
      by_cases hi : i < n
      · obtain ⟨_, a, ha⟩ := hC i hi
        exact ⟨a, fun _ => ha⟩
      · exact ⟨fun _ => 0, fun z => absurd z hi⟩
    obtain ⟨a, ha⟩ := Classical.axiomOfChoice h2
    obtain ⟨y, ⟨i0, hi0, hy⟩, he⟩ := dep m n a (by omega)
    have z := hI (fun i => y i * C i) (fun j hj => by
      have e1 : S n (fun i => y i * C i * A i j) = S n (fun i => S m (fun k => y i * a i k * B k j)) := S_congr fun i hi => by
        rw [Int.mul_assoc, ha i hi j hj, ← S_mul]
        exact S_congr fun k _ => by rw [Int.mul_assoc]
      rw [e1, S_swap]
      exact S_zero fun k hk => by rw [S_mulr, he k hk, Int.zero_mul]) i0 hi0
    exact Int.mul_ne_zero hy (hC i0 hi0).1 z
theorem Sp.own {w m : Nat} {B : Nat → Nat → Int} {k : Nat} (hk : k < m) : Sp w m B (B k) := ⟨1, by decide, fun i => if i = k then 1 else 0, fun j _ => by
  rw [Int.one_mul, S_one hk fun i _ hne => by
    show (if i = k then (1 : Int) else 0) * B i j = 0
    rw [if_neg hne, Int.zero_mul]]
  show B k j = (if k = k then (1 : Int) else 0) * B k j
  rw [if_pos rfl, Int.one_mul]⟩
theorem Sp.zero {w m : Nat} {B : Nat → Nat → Int} {v : Nat → Int} (h : ∀ j, j < w → v j = 0) : Sp w m B v := ⟨1, by decide, fun _ => 0, fun j hj => by
  rw [h j hj, S_zero fun i _ => Int.zero_mul _]
  rfl⟩
theorem Sp.lin {w m : Nat} {B : Nat → Nat → Int} {u v : Nat → Int} (α β : Int) (h : Sp w m B u) (g : Sp w m B v) : Sp w m B fun j => α * u j + β * v j := by
  obtain ⟨c, hc, a, ha⟩ := h
  obtain ⟨d, hd, b, hb⟩ := g
  refine ⟨c * d, Int.mul_ne_zero hc hd, fun k => α * d * a k + β * c * b k, fun j hj => ?_⟩
  have e : S m (fun k => (α * d * a k + β * c * b k) * B k j) = α * d * S m (fun k => a k * B k j) + β * c * S m (fun k => b k * B k j) := by
    rw [← S_mul, ← S_mul, ← S_add]
    exact S_congr fun k _ => by grind
  rw [e, ← ha j hj, ← hb j hj]
  grind
theorem Sp.div {w m : Nat} {B : Nat → Nat → Int} {u v : Nat → Int} {c : Int} (hc : c ≠ 0) (h : Sp w m B u) (e : ∀ j, j < w → c * v j = u j) : Sp w m B v := by
  obtain ⟨d, hd, a, ha⟩ := h
  exact ⟨d * c, Int.mul_ne_zero hd hc, a, fun j hj => by rw [Int.mul_assoc, e j hj]; exact ha j hj⟩
theorem Sp.sum {w m' : Nat} {B B' : Nat → Nat → Int} (a : Nat → Int) : ∀ {m : Nat}, (∀ k, k < m → Sp w m' B' (B k)) → Sp w m' B' fun j => S m (fun k => a k * B k j)
  | 0, _ => .zero fun j _ => rfl
  | m + 1, h => by
    have q := Sp.lin 1 (a m) (Sp.sum a fun k hk => h k (Nat.lt_succ_of_lt hk)) (h m (Nat.lt_succ_self m))
    exact .div (c := 1) (by decide) q fun j _ => by rw [Int.one_mul, Int.one_mul]; rfl
/-- what is in the span of rows that are in a span -/
theorem Sp.trans {w m m' : Nat} {B B' : Nat → Nat → Int} {v : Nat → Int} (h : Sp w m B v) (g : ∀ k, k < m → Sp w m' B' (B k)) : Sp w m' B' v := by
  obtain ⟨c, hc, a, ha⟩ := h
  exact .div hc (Sp.sum a g) ha
/-- one factor for all -/
theorem common {w r : Nat} {E A : Nat → Nat → Int} : ∀ {n : Nat}, (∀ i, i < n → Sp w r E (A i)) → ∃ c : Int, c ≠ 0 ∧ ∃ a : Nat → Nat → Int, ∀ i, i < n → ∀ j, j < w → c * A i j = S r (fun k => a i k * E k j)
  | 0, _ => ⟨1, by decide, fun _ _ => 0, fun i hi => absurd hi (Nat.not_lt_zero _)⟩
  | n + 1, h => by
    obtain ⟨c, hc, a, ha⟩ := common (n := n) fun i hi => h i (Nat.lt_succ_of_lt hi)
    obtain ⟨d, hd, b, hb⟩ := h n (Nat.lt_succ_self n)
    refine ⟨c * d, Int.mul_ne_zero hc hd, fun i k => if i = n then c * b k else d * a i k, fun i hi j hj => ?_⟩
    by_cases e : i = n
    · subst e
      rw [S_congr (g := fun k => c * (b k * E k j)) fun k _ => by
        show (if i = i then c * b k else d * a i k) * E k j = _
        rw [if_pos rfl, Int.mul_assoc], S_mul, ← hb j hj, Int.mul_assoc]
    · rw [S_congr (g := fun k => d * (a i k * E k j)) fun k _ => by
        show (if i = n then c * b k else d * a i k) * E k j = _
        rw [if_neg e, Int.mul_assoc], S_mul, ← ha i (by omega) j hj, Int.mul_comm c d, Int.mul_assoc]
/-- rows with leads: E i is the only one that is not 0 at its lead -/
structure Ech (w r : Nat) (E : Nat → Nat → Int) (lead : Nat → Nat) : Prop where
  lt : ∀ i, i < r → lead i < w
  nz : ∀ i, i < r → E i (lead i) ≠ 0
  z : ∀ i k, i < r → k < r → k ≠ i → E k (lead i) = 0
theorem Ech.ind {w r : Nat} {E : Nat → Nat → Int} {lead : Nat → Nat} (h : Ech w r E lead) : Ind w r E := fun a ha i hi => by
  have e := ha (lead i) (h.lt i hi)
  rw [S_one hi fun k hk hne => by rw [h.z i k hi hk hne, Int.mul_zero]] at e
  rcases Int.mul_eq_zero.mp e with z | z
  · exact z
  · exact absurd z (h.nz i hi)
/-- the rows of A have the base E -/
structure Base (w n : Nat) (A : Nat → Nat → Int) (r : Nat) (E : Nat → Nat → Int) : Prop where
  ind : Ind w r E
  of : ∀ k, k < r → Sp w n A (E k)
  to : ∀ i, i < n → Sp w r E (A i)
theorem Base.same {w n r r' : Nat} {A E E' : Nat → Nat → Int} (h : Base w n A r E) (g : Base w n A r' E') : r = r' :=
  Nat.le_antisymm (steinitz h.ind fun k hk => (h.of k hk).trans g.to) (steinitz g.ind fun k hk => (g.of k hk).trans h.to)
/-- columns have no greater number -/
theorem Base.col {w n r r' : Nat} {A E E' : Nat → Nat → Int} (h : Base w n A r E) (g : Base n w (fun j i => A i j) r' E') : r' ≤ r := by
  obtain ⟨c, hc, a, ha⟩ := common h.to
  refine steinitz g.ind fun k hk => (g.of k hk).trans (B' := fun k i => a i k) fun j hj => ⟨c, hc, fun k => E k j, fun i hi => ?_⟩
  rw [ha i hi j hj]
  exact S_congr fun k _ => Int.mul_comm _ _
theorem Base.turned {w n r r' : Nat} {A E E' : Nat → Nat → Int} (h : Base w n A r E) (g : Base n w (fun j i => A i j) r' E') : r = r' :=
  Nat.le_antisymm (g.col h) (h.col g)
/-- rows that are sums of multiples of others -/
theorem Base.le {w n m r r' : Nat} {A B E E' : Nat → Nat → Int} (h : Base w n A r E) (g : Base w m B r' E') (s : ∀ i, i < n → Sp w m B (A i)) : r ≤ r' :=
  steinitz h.ind fun k hk => ((h.of k hk).trans s).trans g.to
theorem Base.ind_all {w n r : Nat} {A E : Nat → Nat → Int} (h : Base w n A r E) (hA : Ind w n A) : r = n :=
  Nat.le_antisymm (steinitz h.ind h.of) (steinitz hA h.to)
end LA

set_option Elab.async false
set_option linter.all false
/-! small solutions: more small rows than columns hang on one another by small factors -/
namespace LA
theorem pigeon : ∀ (N : Nat) (f : Nat → Nat), (∀ i, i < N + 1 → f i < N) → ∃ i j, i < j ∧ j < N + 1 ∧ f i = f j
  | 0, f, h => absurd (h 0 (Nat.lt_succ_self 0)) (Nat.not_lt_zero _)
  | N + 1, f, h => by
    by_cases c : ∃ i, i < N + 1 ∧ f i = f (N + 1)
    · obtain ⟨i, hi, e⟩ := c
      exact ⟨i, N + 1, hi, Nat.lt_succ_self _, e⟩
    · have ne : ∀ i, i < N + 1 → f i ≠ f (N + 1) := fun i hi e => c ⟨i, hi, e⟩
      have hl := h (N + 1) (Nat.lt_succ_self _)
      obtain ⟨i, j, hij, hj, e⟩ := pigeon N (fun i => if f i < f (N + 1) then f i else f i - 1) (fun i hi => by
        have h1 := ne i hi
        have h2 := h i (by omega)
        show (if f i < f (N + 1) then f i else f i - 1) < N
        split <;> omega)
      refine ⟨i, j, hij, by omega, ?_⟩
      have h1 := ne i (by omega)
      have h2 := ne j hj
      have e : (if f i < f (N + 1) then f i else f i - 1) = (if f j < f (N + 1) then f j else f j - 1) := e
      split at e <;> split at e <;> omega
/-- digits put together -/
def enc (b : Nat) : Nat → (Nat → Nat) → Nat
  | 0, _ => 0
  | n + 1, g => enc b n g + b ^ n * g n
theorem enc_lt {b : Nat} : ∀ {n : Nat} {g : Nat → Nat}, (∀ i, i < n → g i < b) → enc b n g < b ^ n
  | 0, g, _ => Nat.zero_lt_one
  | n + 1, g, h => by
    have h1 := enc_lt (n := n) fun i hi => h i (Nat.lt_succ_of_lt hi)
    have h2 := h n (Nat.lt_succ_self n)
    show enc b n g + b ^ n * g n < b ^ (n + 1)
    have h3 : b ^ n * (g n + 1) ≤ b ^ n * b := Nat.mul_le_mul_left _ h2
    have h4 : b ^ (n + 1) = b ^ n * b := rfl
    rw [Nat.mul_add, Nat.mul_one] at h3
    omega
theorem enc_inj {b : Nat} : ∀ {n : Nat} {f g : Nat → Nat}, (∀ i, i < n → f i < b) → (∀ i, i < n → g i < b) → enc b n f = enc b n g → ∀ i, i < n → f i = g i
  | 0, _, _, _, _, _ => fun i hi => absurd hi (Nat.not_lt_zero _)
  | n + 1, f, g, hf, hg, e => by
    have h1 := enc_lt (n := n) fun i hi => hf i (Nat.lt_succ_of_lt hi)
    have h2 := enc_lt (n := n) fun i hi => hg i (Nat.lt_succ_of_lt hi)
    have e : enc b n f + b ^ n * f n = enc b n g + b ^ n * g n := e
    have p : 0 < b ^ n := by omega
    have e1 : enc b n f = enc b n g := by
      have q : (enc b n f + b ^ n * f n) % b ^ n = (enc b n g + b ^ n * g n) % b ^ n := by rw [e]
      rwa [Nat.add_mul_mod_self_left, Nat.add_mul_mod_self_left, Nat.mod_eq_of_lt h1, Nat.mod_eq_of_lt h2] at q
    have e2 : f n = g n := Nat.eq_of_mul_eq_mul_left p (by omega)
    intro i hi
    by_cases c : i = n
    · rw [c]; exact e2
    · exact enc_inj (fun i hi => hf i (Nat.lt_succ_of_lt hi)) (fun i hi => hg i (Nat.lt_succ_of_lt hi)) e1 i (by omega)
theorem enc_dig (b t : Nat) : ∀ n, enc b n (fun i => t / b ^ i % b) = t % b ^ n
  | 0 => by
    show 0 = t % 1
    rw [Nat.mod_one]
  | n + 1 => by
    show enc b n _ + b ^ n * (t / b ^ n % b) = t % (b ^ n * b)
    rw [enc_dig b t n, Nat.mod_mul]
theorem S_abs {f : Nat → Int} {n : Nat} {B : Nat} (h : ∀ i, i < n → (f i).natAbs ≤ B) : (S n f).natAbs ≤ n * B := by
  induction n with
  | zero => exact Nat.zero_le _
  | succ n ih =>
    have h1 := ih fun i hi => h i (Nat.lt_succ_of_lt hi)
    have h2 := h n (Nat.lt_succ_self n)
    show (S n f + f n).natAbs ≤ (n + 1) * B
    have h3 := Int.natAbs_add_le (S n f) (f n)
    rw [Nat.succ_mul]
    omega
theorem siegel (m M : Nat) (x : Nat → Nat → Int) (hx : ∀ i, i < m + 1 → ∀ j, j < m → (x i j).natAbs ≤ M) :
    ∃ y : Nat → Int, (∃ i, i < m + 1 ∧ y i ≠ 0) ∧ (∀ i, (y i).natAbs ≤ (2 * (m + 1) * M + 1) ^ m) ∧ ∀ j, j < m → S (m + 1) (fun i => y i * x i j) = 0 := by
  generalize hY : (2 * (m + 1) * M + 1) ^ m = Y
  let d : Nat → Nat → Nat := fun t i => t / (Y + 1) ^ i % (Y + 1)
  have dl : ∀ t i, d t i < Y + 1 := fun t i => Nat.mod_lt _ (Nat.succ_pos _)
  let s : Nat → Nat → Int := fun t j => S (m + 1) fun i => (d t i : Int) * x i j
  have sb : ∀ t j, j < m → (s t j).natAbs ≤ (m + 1) * (Y * M) := fun t j hj => S_abs fun i hi => by
    rw [Int.natAbs_mul, Int.natAbs_natCast]
    exact Nat.mul_le_mul (Nat.le_of_lt_succ (dl t i)) (hx i hi j hj)
  generalize hC : (m + 1) * (Y * M) = C at sb
  let g : Nat → Nat → Nat := fun t j => (s t j + C).toNat
  have gl : ∀ t j, j < m → g t j < 2 * C + 1 := fun t j hj => by
    have := sb t j hj
    show (s t j + C).toNat < _
    omega
  have hW : (2 * C + 1) ^ m < (Y + 1) ^ (m + 1) := by
    have h1 : 2 * C + 1 ≤ (2 * (m + 1) * M + 1) * (Y + 1) := by
      have : 2 * C = 2 * (m + 1) * M * Y := by
        rw [← hC, Nat.mul_comm Y M, ← Nat.mul_assoc, ← Nat.mul_assoc]
      rw [this]
      generalize 2 * (m + 1) * M = q
      rw [Nat.add_mul, Nat.mul_add, Nat.one_mul, Nat.mul_one]
      omega
    have h2 := Nat.pow_le_pow_left h1 m
    rw [Nat.mul_pow, hY] at h2
    have h3 : 0 < (Y + 1) ^ m := Nat.pow_pos (Nat.succ_pos _)
    have h4 : (Y + 1) ^ (m + 1) = (Y + 1) ^ m * (Y + 1) := rfl
    rw [h4, Nat.mul_add, Nat.mul_one, Nat.mul_comm _ Y]
    omega
  obtain ⟨t, t', ht, ht', e⟩ := pigeon ((2 * C + 1) ^ m) (fun t => enc (2 * C + 1) m (g t)) fun t _ => enc_lt (gl t)
  have eg := enc_inj (gl t) (gl t') e
  refine ⟨fun i => (d t i : Int) - d t' i, ?_, fun i => ?_, fun j hj => ?_⟩
  · refine Classical.byContradiction fun c => ?_
    have same : ∀ i, i < m + 1 → d t i = d t' i := fun i hi => Classical.byContradiction fun z => c ⟨i, hi, by
      show (d t i : Int) - d t' i ≠ 0
      omega⟩
    have e1 := enc_dig (Y + 1) t (m + 1)
    have e2 := enc_dig (Y + 1) t' (m + 1)
    rw [Nat.mod_eq_of_lt (by omega)] at e1 e2
    have e3 : ∀ n, n ≤ m + 1 → enc (Y + 1) n (d t) = enc (Y + 1) n (d t') := fun n => by
      induction n with
      | zero => exact fun _ => rfl
      | succ n ih =>
        intro hn
        show enc (Y + 1) n (d t) + _ * d t n = enc (Y + 1) n (d t') + _ * d t' n
        rw [ih (by omega), same n (by omega)]
    have := e3 (m + 1) (Nat.le_refl _)
    have e1 : enc (Y + 1) (m + 1) (d t) = t := e1
    have e2 : enc (Y + 1) (m + 1) (d t') = t' := e2
    omega
  · have h1 := dl t i
    have h2 := dl t' i
    show ((d t i : Int) - d t' i).natAbs ≤ Y
    omega
  · have e1 : s t j = s t' j := by
      have q := eg j hj
      have h1 := sb t j hj
      have h2 := sb t' j hj
      have q : (s t j + C).toNat = (s t' j + C).toNat := q
      omega
    have e2 : S (m + 1) (fun i => ((d t i : Int) - d t' i) * x i j) = s t j + (-1) * s t' j := by
      show _ = S (m + 1) (fun i => (d t i : Int) * x i j) + (-1) * S (m + 1) (fun i => (d t' i : Int) * x i j)
      rw [← S_mul, ← S_add]
      exact S_congr fun i _ => by grind
    rw [e2, e1]
    omega
end LA

set_option Elab.async false
set_option linter.all false
set_option maxRecDepth 100000
set_option maxHeartbeats 4000000
set_option exponentiation.threshold 10000
namespace K76
open PySem PySem.Spec PyProof.Rows L2 StX RZ MyR SlX OwnR OwnF EnumT GxR GenNx FDivQ LA
theorem gl_iff {d : Nat} : ∀ (l : List Int) (a : Nat), d ∣ l.foldl (fun a x => Nat.gcd a x.natAbs) a ↔ d ∣ a ∧ ∀ x ∈ l, d ∣ x.natAbs
  | [], a => ⟨fun h => ⟨h, fun x hx => absurd hx List.not_mem_nil⟩, fun h => h.1⟩
  | y :: l, a => by
    rw [List.foldl_cons, gl_iff l]
    constructor
    · rintro ⟨h1, h2⟩
      refine ⟨Nat.dvd_trans h1 (Nat.gcd_dvd_left ..), fun x hx => ?_⟩
      rcases List.mem_cons.mp hx with rfl | hx
      · exact Nat.dvd_trans h1 (Nat.gcd_dvd_right ..)
      · exact h2 x hx
    · rintro ⟨h1, h2⟩
      exact ⟨Nat.dvd_gcd h1 (h2 y List.mem_cons_self), fun x hx => h2 x (List.mem_cons_of_mem _ hx)⟩
theorem gl_dvd {l : List Int} {x : Int} (h : x ∈ l) : gl l ∣ x.natAbs := ((gl_iff l 0).mp (Nat.dvd_refl _)).2 x h
theorem gl_dvdI {l : List Int} {x : Int} (h : x ∈ l) : (gl l : Int) ∣ x := Int.ofNat_dvd_left.mpr (gl_dvd h)
theorem dvd_gl {l : List Int} {d : Nat} (h : ∀ x ∈ l, d ∣ x.natAbs) : d ∣ gl l := (gl_iff l 0).mpr ⟨Nat.dvd_zero _, h⟩
theorem mem_co {l : List Int} {x : Int} (h : x ∈ l) : ∃ k, k < l.length ∧ co l k = x := by
  obtain ⟨k, hk, e⟩ := List.mem_iff_getElem.mp h
  exact ⟨k, hk, by rw [co_get hk, e]⟩
theorem dvd_glc {l : List Int} {d : Nat} (h : ∀ k, k < l.length → d ∣ (co l k).natAbs) : d ∣ gl l := dvd_gl fun x hx => by
  obtain ⟨k, hk, e⟩ := mem_co hx
  rw [← e]
  exact h k hk
theorem gl_dvdc (l : List Int) (k : Nat) : gl l ∣ (co l k).natAbs := by
  by_cases h : k < l.length
  · exact gl_dvd (co_memE h)
  · rw [co_far (by omega)]
    exact Nat.dvd_zero _
theorem gl_zero {l : List Int} (h : gl l = 0) (k : Nat) : co l k = 0 := by
  have := gl_dvdc l k
  rw [h] at this
  have := Nat.eq_zero_of_zero_dvd this
  omega
theorem co_dv (l : List Int) (c : Int) (k : Nat) : co (dv l c) k = (co l k).fdiv c := by
  by_cases h : k < l.length
  · have h2 : k < (dv l c).length := by
      unfold dv
      rw [List.length_map]
      exact h
    rw [co_get h2, co_get h]
    exact List.getElem_map ..
  · rw [co_far (l := dv l c) (by unfold dv; rw [List.length_map]; omega), co_far (by omega), Int.zero_fdiv]
theorem fdiv_ex {x c : Int} (h : c ∣ x) : c * x.fdiv c = x := Int.mul_fdiv_cancel' h
theorem dv_ex {l : List Int} (h : gl l ≠ 0) (k : Nat) : (gl l : Int) * co (dv l (gl l)) k = co l k := by
  rw [co_dv]
  exact fdiv_ex (Int.ofNat_dvd_left.mpr (gl_dvdc l k))
theorem gl_dv {l : List Int} (h : gl l ≠ 0) : gl (dv l (gl l)) = 1 := by
  have q : gl l * gl (dv l (gl l)) ∣ gl l := dvd_glc fun k _ => by
    rw [← dv_ex h k, Int.natAbs_mul, Int.natAbs_natCast]
    exact Nat.mul_dvd_mul_left _ (gl_dvdc _ _)
  have hp : 0 < gl l := Nat.pos_of_ne_zero h
  have h1 : gl (dv l (gl l)) ∣ 1 := Nat.dvd_of_mul_dvd_mul_left hp (by rw [Nat.mul_one]; exact q)
  exact Nat.dvd_one.mp h1
theorem red_le {w : Nat} {v : List Int} {u : Nat → Int} {α β : Int} (hv : gl v ≤ 1) (hl : v.length = w) (hα : α ≠ 0) (h : ∀ j, j < w → α * co v j = β * u j) : ∀ j, j < w → (co v j).natAbs ≤ (u j).natAbs := by
  have hn : ∀ j, j < w → α.natAbs * (co v j).natAbs = β.natAbs * (u j).natAbs := fun j hj => by
    rw [← Int.natAbs_mul, ← Int.natAbs_mul, h j hj]
  have ha : 0 < α.natAbs := by omega
  generalize α.natAbs = a at hn ha
  generalize β.natAbs = b at hn
  have hg : 0 < Nat.gcd a b := Nat.gcd_pos_of_pos_left _ ha
  obtain ⟨a', ea⟩ := Nat.gcd_dvd_left a b
  obtain ⟨b', eb⟩ := Nat.gcd_dvd_right a b
  have cop : Nat.Coprime a' b' := by
    have e1 : a' = a / Nat.gcd a b := Nat.eq_div_of_mul_eq_right (by omega) ea.symm
    have e2 : b' = b / Nat.gcd a b := Nat.eq_div_of_mul_eq_right (by omega) eb.symm
    rw [e1, e2]
    exact Nat.coprime_div_gcd_div_gcd hg
  have hn2 : ∀ j, j < w → a' * (co v j).natAbs = b' * (u j).natAbs := fun j hj => by
    refine Nat.eq_of_mul_eq_mul_left hg ?_
    rw [← Nat.mul_assoc, ← Nat.mul_assoc, ← ea, ← eb]
    exact hn j hj
  have ha' : 0 < a' := by
    rcases Nat.eq_zero_or_pos a' with z | z
    · rw [z, Nat.mul_zero] at ea
      omega
    · exact z
  have hb : b' ∣ gl v := dvd_glc fun k hk => cop.symm.dvd_of_dvd_mul_left ⟨_, hn2 k (hl ▸ hk)⟩
  intro j hj
  rcases Nat.eq_zero_or_pos (gl v) with z | z
  · rw [gl_zero z]
    exact Nat.zero_le _
  · have e1 : gl v = 1 := by omega
    rw [e1] at hb
    have e2 := Nat.dvd_one.mp hb
    have q := hn2 j hj
    rw [e2, Nat.one_mul] at q
    rw [← q]
    exact Nat.le_mul_of_pos_left _ ha'
abbrev row (B : List (List Int)) (k : Nat) : Nat → Int := co (B.getD k [])
def SpM (w : Nat) (B : List (List Int)) (v : List Int) : Prop := Sp w B.length (row B) (co v)
theorem row_mem {B : List (List Int)} {x : List Int} (h : x ∈ B) : ∃ k, k < B.length ∧ row B k = co x := by
  obtain ⟨k, hk, e⟩ := List.mem_iff_getElem.mp h
  exact ⟨k, hk, by unfold row; rw [List.getD_eq_getElem?_getD, List.getElem?_eq_getElem hk, e]; rfl⟩
theorem mem_row {B : List (List Int)} {k : Nat} (h : k < B.length) : B.getD k [] ∈ B := by
  rw [List.getD_eq_getElem?_getD, List.getElem?_eq_getElem h]
  exact List.getElem_mem h
theorem SpM.own {w : Nat} {B : List (List Int)} {x : List Int} (h : x ∈ B) : SpM w B x := by
  obtain ⟨k, hk, e⟩ := row_mem h
  unfold SpM
  rw [← e]
  exact Sp.own hk
theorem SpM.trans {w : Nat} {B B' : List (List Int)} {v : List Int} (h : SpM w B v) (g : ∀ x ∈ B, SpM w B' x) : SpM w B' v :=
  Sp.trans h fun k hk => g _ (mem_row hk)
theorem SpM.mono {w : Nat} {B B' : List (List Int)} {v : List Int} (h : SpM w B v) (g : ∀ x ∈ B, x ∈ B') : SpM w B' v := h.trans fun x hx => SpM.own (g x hx)
theorem SpM.lin {w : Nat} {B : List (List Int)} {u v t : List Int} {c : Int} (α β : Int) (hc : c ≠ 0) (h : SpM w B u) (g : SpM w B v) (e : ∀ j, j < w → c * co t j = α * co u j + β * co v j) : SpM w B t :=
  Sp.div hc (Sp.lin α β h g) e
theorem SpM.zero {w : Nat} {B : List (List Int)} {v : List Int} (h : ∀ j, j < w → co v j = 0) : SpM w B v := Sp.zero h
theorem SpM.mul {w : Nat} {B : List (List Int)} {u t : List Int} {c α : Int} (hc : c ≠ 0) (h : SpM w B u) (e : ∀ j, j < w → c * co t j = α * co u j) : SpM w B t :=
  h.lin α 0 hc h fun j hj => by rw [e j hj, Int.zero_mul, Int.add_zero]
theorem ind_of {w n : Nat} {A B : Nat → Nat → Int} (hA : Ind w n A) (h : ∀ i, i < n → Sp w n B (A i)) : Ind w n B := fun a ha i0 hi0 => by
  refine Classical.byContradiction fun ne => ?_
  obtain ⟨m, rfl⟩ : ∃ m, n = m + 1 := ⟨n - 1, by omega⟩
  have key : ∀ k, k < m + 1 → Sp w m (fun i => B (sk i0 i)) (B k) := fun k hk => by
    by_cases c : k = i0
    · subst c
      refine ⟨a k, ne, fun i => - a (sk k i), fun j hj => ?_⟩
      have e := ha j hj
      rw [S_skip _ k m (by omega)] at e
      rw [S_congr (g := fun i => (-1) * (a (sk k i) * B (sk k i) j)) fun i _ => by rw [Int.neg_mul, Int.neg_mul, Int.one_mul], S_mul]
      omega
    · obtain ⟨i, hi, e⟩ : ∃ i, i < m ∧ sk i0 i = k := by
        by_cases d : k < i0
        · exact ⟨k, by omega, if_pos d⟩
        · exact ⟨k - 1, by omega, by unfold sk; rw [if_neg (by omega)]; omega⟩
      rw [← e]
      exact Sp.own hi
  have := steinitz hA fun i hi => (h i hi).trans key
  omega
def BdE (R M : Nat) : Nat := R * ((2 * R * M + 1) ^ (R - 1) * M)
theorem Bd_mono {R R' M : Nat} (h : R ≤ R') : BdE R M ≤ BdE R' M := by
  unfold BdE
  refine Nat.mul_le_mul h (Nat.mul_le_mul_right _ ?_)
  refine Nat.le_trans (Nat.pow_le_pow_left (Nat.add_le_add_right (Nat.mul_le_mul_right _ (Nat.mul_le_mul_left _ h)) 1) _) ?_
  exact Nat.pow_le_pow_right (Nat.succ_pos _) (by omega)
theorem Bd_le {R M : Nat} (h : 1 ≤ R) : M ≤ BdE R M := by
  unfold BdE
  have h1 : 0 < (2 * R * M + 1) ^ (R - 1) := Nat.pow_pos (Nat.succ_pos _)
  have h2 := Nat.mul_le_mul_right M (show 1 ≤ (2 * R * M + 1) ^ (R - 1) from h1)
  have h3 := Nat.mul_le_mul_right ((2 * R * M + 1) ^ (R - 1) * M) h
  omega
theorem bd_left {w r M : Nat} {B : Nat → Nat → Int} {P : Nat → Nat} {v : List Int} (hl : v.length = w) (hv : gl v ≤ 1) (hM : ∀ i, i < r + 1 → ∀ j, (B i j).natAbs ≤ M) (hP : ∀ k, k < r → P k < w) (hI : Ind r r fun k j => B k (P j)) (hs : Sp w (r + 1) B (co v)) (hz : ∀ k, k < r → co v (P k) = 0) :
    ∀ j, j < w → (co v j).natAbs ≤ BdE (r + 1) M := by
  obtain ⟨y, ⟨i0, hi0, hy0⟩, hyb, hy⟩ := siegel r M (fun i k => B i (P k)) fun i hi k hk => hM i hi _
  obtain ⟨c, hc, a, ha⟩ := hs
  have yr : y r ≠ 0 := fun z => by
    have q := hI y (fun k hk => by
      have e := hy k hk
      have e : S r (fun i => y i * B i (P k)) + y r * B r (P k) = 0 := e
      rw [z, Int.zero_mul, Int.add_zero] at e
      exact e)
    by_cases d : i0 = r
    · rw [d] at hy0
      exact hy0 z
    · exact hy0 (q i0 (by omega))
  have D : ∀ j, j < w → y r * (c * co v j) - a r * S (r + 1) (fun i => y i * B i j) = S r (fun i => (y r * a i - a r * y i) * B i j) := fun j hj => by
    rw [ha j hj, ← S_mul, ← S_mul]
    have e : S r (fun i => (y r * a i - a r * y i) * B i j) = S r (fun i => y r * (a i * B i j)) + (-1) * S r (fun i => a r * (y i * B i j)) := by
      rw [← S_mul, ← S_add]
      exact S_congr fun i _ => by grind
    rw [e]
    show S r _ + y r * (a r * B r j) - (S r _ + a r * (y r * B r j)) = _
    grind
  have dz := hI (fun i => y r * a i - a r * y i) fun k hk => by
    rw [← D (P k) (hP k hk), hz k hk, hy k hk]
    rw [Int.mul_zero, Int.mul_zero, Int.mul_zero]
    rfl
  refine fun j hj => Nat.le_trans (red_le (u := fun j => S (r + 1) (fun i => y i * B i j)) (α := y r * c) (β := a r) hv hl (Int.mul_ne_zero yr hc) (fun j hj => ?_) j hj) (S_abs fun i hi => ?_)
  · have e := D j hj
    rw [S_zero (f := fun i => (y r * a i - a r * y i) * B i j) fun i hi => by rw [dz i hi, Int.zero_mul]] at e
    rw [Int.mul_assoc]
    exact Int.sub_eq_zero.mp e
  · rw [Int.natAbs_mul]
    exact Nat.mul_le_mul (hyb i) (hM i hi j)
theorem bd_found {w m M : Nat} {B : Nat → Nat → Int} {P : Nat → Nat} {v : List Int} {i0 : Nat} (hl : v.length = w) (hv : gl v ≤ 1) (hM : ∀ i, i < m + 1 → ∀ j, (B i j).natAbs ≤ M) (hP : ∀ k, k < m + 1 → P k < w) (hI : Ind (m + 1) (m + 1) fun k j => B k (P j)) (hs : Sp w (m + 1) B (co v)) (hi0 : i0 < m + 1) (hz : ∀ k, k < m + 1 → k ≠ i0 → co v (P k) = 0) :
    ∀ j, j < w → (co v j).natAbs ≤ BdE (m + 1) M := by
  obtain ⟨y, ⟨i1, hi1, hy1⟩, hyb, hy⟩ := siegel m M (fun i k => B i (P (sk i0 k))) fun i hi k hk => hM i hi _
  obtain ⟨c, hc, a, ha⟩ := hs
  have uz : ∀ k, k < m + 1 → k ≠ i0 → S (m + 1) (fun i => y i * B i (P k)) = 0 := fun k hk hne => by
    obtain ⟨i, hi, e⟩ : ∃ i, i < m ∧ sk i0 i = k := by
      by_cases d : k < i0
      · exact ⟨k, by omega, if_pos d⟩
      · exact ⟨k - 1, by omega, by unfold sk; rw [if_neg (by omega)]; omega⟩
    have := hy i hi
    rw [e] at this
    exact this
  have u0 : S (m + 1) (fun i => y i * B i (P i0)) ≠ 0 := fun z => hy1 (hI y (fun k hk => by
    by_cases d : k = i0
    · rw [d]
      exact z
    · exact uz k hk d) i1 hi1)
  generalize hU : S (m + 1) (fun i => y i * B i (P i0)) = U at u0
  have D : ∀ j, j < w → U * (c * co v j) - c * co v (P i0) * S (m + 1) (fun i => y i * B i j) = S (m + 1) (fun i => (U * a i - c * co v (P i0) * y i) * B i j) := fun j hj => by
    rw [ha j hj, ← S_mul, ← S_mul]
    have e : S (m + 1) (fun i => (U * a i - c * co v (P i0) * y i) * B i j) = S (m + 1) (fun i => U * (a i * B i j)) + (-1) * S (m + 1) (fun i => c * co v (P i0) * (y i * B i j)) := by
      rw [← S_mul, ← S_add]
      exact S_congr fun i _ => by grind
    rw [e]
    omega
  have dz := hI (fun i => U * a i - c * co v (P i0) * y i) fun k hk => by
    rw [← D (P k) (hP k hk)]
    by_cases d : k = i0
    · rw [d, hU]
      grind
    · rw [hz k hk d, uz k hk d]
      rw [Int.mul_zero, Int.mul_zero, Int.mul_zero]
      rfl
  refine fun j hj => Nat.le_trans (red_le (u := fun j => S (m + 1) (fun i => y i * B i j)) (α := U * c) (β := c * co v (P i0)) hv hl (Int.mul_ne_zero u0 hc) (fun j hj => ?_) j hj) (S_abs fun i hi => ?_)
  · have e := D j hj
    rw [S_zero (f := fun i => (U * a i - c * co v (P i0) * y i) * B i j) fun i hi => by rw [dz i hi, Int.zero_mul]] at e
    rw [Int.mul_assoc]
    exact Int.sub_eq_zero.mp e
  · rw [Int.natAbs_mul]
    exact Nat.mul_le_mul (hyb i) (hM i hi j)
structure LeP (le : List Int → List Int → Nat → List Int) : Prop where
  lin : ∀ row head p, co head p ≠ 0 → row.length = head.length → ∃ c : Int, c ≠ 0 ∧ ∀ j, c * co (le row head p) j = co head p * co row j - co row p * co head j
  len : ∀ row head p, (le row head p).length = row.length
  red : ∀ row head p, gl (le row head p) ≤ 1 ∨ le row head p = row
theorem lf_lin {row head : List Int} {p : Nat} (h : co head p ≠ 0) (hl : row.length = head.length) (j : Nat) : ((Nat.gcd (co head p).natAbs (co row p).natAbs : Nat) : Int) * co (lf row head p) j = co head p * co row j - co row p * co head j := by
  unfold lf
  have d1 : ((Nat.gcd (co head p).natAbs (co row p).natAbs : Nat) : Int) ∣ co head p := Int.ofNat_dvd_left.mpr (Nat.gcd_dvd_left ..)
  have d2 : ((Nat.gcd (co head p).natAbs (co row p).natAbs : Nat) : Int) ∣ co row p := Int.ofNat_dvd_left.mpr (Nat.gcd_dvd_right ..)
  have e1 := fdiv_ex d1
  have e2 := fdiv_ex d2
  generalize ((Nat.gcd (co head p).natAbs (co row p).natAbs : Nat) : Int) = g at e1 e2 ⊢
  rw [co_tb]
  by_cases hj : j < row.length
  · rw [if_pos hj]
    grind
  · rw [if_neg hj, co_far (l := row) (by omega), co_far (l := head) (i := j) (by omega), Int.mul_zero, Int.mul_zero, Int.mul_zero]
    rfl
theorem gcd_ne {a b : Int} (h : a ≠ 0) : ((Nat.gcd a.natAbs b.natAbs : Nat) : Int) ≠ 0 := by
  have := Nat.gcd_pos_of_pos_left b.natAbs (show 0 < a.natAbs by omega)
  omega
theorem lless_lin {row head : List Int} {p : Nat} (h : co head p ≠ 0) (hl : row.length = head.length) : ∃ c : Int, c ≠ 0 ∧ ∀ j, c * co (lless row head p) j = co head p * co row j - co row p * co head j := by
  unfold lless
  have g0 := gcd_ne (b := co row p) h
  by_cases d : 1 < gl (lf row head p)
  · rw [if_pos d]
    refine ⟨_, Int.mul_ne_zero g0 (show ((gl (lf row head p) : Nat) : Int) ≠ 0 by omega), fun j => ?_⟩
    rw [Int.mul_assoc, dv_ex (by omega), lf_lin h hl]
  · rw [if_neg d]
    exact ⟨_, g0, lf_lin h hl⟩
theorem lless_red (row head : List Int) (p : Nat) : gl (lless row head p) ≤ 1 := by
  unfold lless
  by_cases d : 1 < gl (lf row head p)
  · rw [if_pos d, gl_dv (by omega)]
    exact Nat.le_refl _
  · rw [if_neg d]
    omega
theorem lePL : LeP lless := ⟨fun _ _ _ h hl => lless_lin h hl, lless_len, fun _ _ _ => .inl (lless_red ..)⟩
structure Inv (w : Nat) (rows : List (List Int)) (p : Nat) (left found Hh : List (List Int)) (P : List Nat) : Prop where
  hr : ∀ x ∈ Hh, x ∈ rows
  hl : Hh.length = found.length
  pl : P.length = found.length
  lf : ∀ r ∈ left, ∃ x ∈ rows, SpM w (Hh ++ [x]) r
  ff : ∀ r ∈ found, SpM w Hh r
  lz : ∀ r ∈ left, ∀ j, j < p → co r j = 0
  pp : ∀ k, k < found.length → P.getD k 0 < p
  nz : ∀ k, k < found.length → row found k (P.getD k 0) ≠ 0
  z : ∀ i k, i < found.length → k < found.length → k ≠ i → row found k (P.getD i 0) = 0
  be : ∀ k, k < found.length → ∀ j, j < P.getD k 0 → row found k j = 0
  rd : ∀ r, r ∈ left ∨ r ∈ found → gl r ≤ 1 ∨ r ∈ rows
  rv : ∀ x ∈ rows, SpM w (found ++ left) x
  ll : ∀ r, r ∈ left ∨ r ∈ found → r.length = w
theorem row_app {A : List (List Int)} {x : List Int} {k : Nat} : row (A ++ [x]) k = if k < A.length then row A k else if k = A.length then co x else co [] := by
  unfold row
  rw [List.getD_eq_getElem?_getD, List.getD_eq_getElem?_getD]
  by_cases h : k < A.length
  · rw [if_pos h, List.getElem?_append_left h]
  · rw [if_neg h, List.getElem?_append_right (by omega)]
    by_cases e : k = A.length
    · rw [if_pos e, e, Nat.sub_self]
      rfl
    · rw [if_neg e, List.getElem?_eq_none (by show 1 ≤ _; omega)]
      rfl
theorem row_map {A : List (List Int)} {f : List Int → List Int} {k : Nat} (h : k < A.length) : row (A.map f) k = co (f (A.getD k [])) := by
  unfold row
  rw [List.getD_eq_getElem?_getD, List.getD_eq_getElem?_getD, List.getElem?_map, List.getElem?_eq_getElem h]
  rfl
theorem getD_app {P : List Nat} {x k : Nat} : (P ++ [x]).getD k 0 = if k < P.length then P.getD k 0 else if k = P.length then x else 0 := by
  rw [List.getD_eq_getElem?_getD, List.getD_eq_getElem?_getD]
  by_cases h : k < P.length
  · rw [if_pos h, List.getElem?_append_left h]
  · rw [if_neg h, List.getElem?_append_right (by omega)]
    by_cases e : k = P.length
    · rw [if_pos e, e, Nat.sub_self]
      rfl
    · rw [if_neg e, List.getElem?_eq_none (by show 1 ≤ _; omega)]
      rfl
theorem hix_some {left : List (List Int)} {p h : Nat} (e : hix left p = some h) : h < left.length ∧ co (left.getD h []) p ≠ 0 := by
  obtain ⟨hh, h1, _⟩ := List.findIdx?_eq_some_iff_getElem.mp e
  refine ⟨hh, ?_⟩
  rw [List.getD_eq_getElem?_getD, List.getElem?_eq_getElem hh]
  show co left[h] p ≠ 0
  simpa using h1
theorem hix_none {left : List (List Int)} {p : Nat} (e : hix left p = none) : ∀ r ∈ left, co r p = 0 := fun r hr => by
  have := List.findIdx?_eq_none_iff.mp e r hr
  simpa using this
theorem Inv.init {w : Nat} {rows : List (List Int)} (hw : ∀ r ∈ rows, r.length = w) : Inv w rows 0 rows [] [] [] :=
  ⟨fun x hx => absurd hx List.not_mem_nil, rfl, rfl, fun r hr => ⟨r, hr, SpM.own (by simp)⟩, fun r hr => absurd hr List.not_mem_nil, fun r _ j hj => absurd hj (Nat.not_lt_zero _), fun k hk => absurd hk (Nat.not_lt_zero _), fun k hk => absurd hk (Nat.not_lt_zero _), fun i k hi => absurd hi (Nat.not_lt_zero _), fun k hk => absurd hk (Nat.not_lt_zero _), fun r hr => .inr (hr.resolve_right List.not_mem_nil), fun x hx => SpM.own (by simpa using hx), fun r hr => hw r (hr.resolve_right List.not_mem_nil)⟩
theorem Inv.none {w p : Nat} {rows left found Hh : List (List Int)} {P : List Nat} (I : Inv w rows p left found Hh P) (e : hix left p = none) : Inv w rows (p + 1) left found Hh P :=
  ⟨I.hr, I.hl, I.pl, I.lf, I.ff, fun r hr j hj => by
    by_cases c : j = p
    · rw [c]
      exact hix_none e r hr
    · exact I.lz r hr j (by omega), fun k hk => Nat.lt_succ_of_lt (I.pp k hk), I.nz, I.z, I.be, I.rd, I.rv, I.ll⟩
theorem Inv.some {le : List Int → List Int → Nat → List Int} (hle : LeP le) {w p h : Nat} {rows left found Hh : List (List Int)} {P : List Nat} (I : Inv w rows p left found Hh P) (hp : p < w) (e : hix left p = .some h) :
    ∃ x, Inv w rows (p + 1) ((left.eraseIdx h).map fun r => le r (left.getD h []) p) ((found.map fun r => le r (left.getD h []) p) ++ [left.getD h []]) (Hh ++ [x]) (P ++ [p]) := by
  obtain ⟨hh, hd⟩ := hix_some e
  have hm : left.getD h [] ∈ left := mem_row hh
  generalize hH : left.getD h [] = hed at hd hm
  obtain ⟨x, hx, hs⟩ := I.lf hed hm
  have hlen := I.ll hed (.inl hm)
  have sub : ∀ r ∈ left.eraseIdx h, r ∈ left := fun r hr => List.mem_of_mem_eraseIdx hr
  have lin : ∀ r, r ∈ left ∨ r ∈ found → ∃ c : Int, c ≠ 0 ∧ ∀ j, c * co (le r hed p) j = co hed p * co r j - co r p * co hed j := fun r hr => hle.lin r hed p hd (by rw [I.ll r hr, hlen])
  have van : ∀ r, r ∈ left ∨ r ∈ found → ∀ j, co r j = 0 → co hed j = 0 → co (le r hed p) j = 0 := fun r hr j h1 h2 => by
    obtain ⟨c, hc, q⟩ := lin r hr
    have := q j
    rw [h1, h2, Int.mul_zero, Int.mul_zero] at this
    exact (Int.mul_eq_zero.mp this).resolve_left hc
  have vanp : ∀ r, r ∈ left ∨ r ∈ found → co (le r hed p) p = 0 := fun r hr => by
    obtain ⟨c, hc, q⟩ := lin r hr
    have := q p
    rw [Int.mul_comm (co hed p), Int.sub_self] at this
    · exact (Int.mul_eq_zero.mp this).resolve_left hc
  have keep : ∀ r, r ∈ left ∨ r ∈ found → ∀ j, co r j ≠ 0 → co hed j = 0 → co (le r hed p) j ≠ 0 := fun r hr j h1 h2 z => by
    obtain ⟨c, hc, q⟩ := lin r hr
    have := q j
    rw [z, h2, Int.mul_zero, Int.mul_zero, Int.sub_zero] at this
    rcases Int.mul_eq_zero.mp this.symm with z | z
    · exact hd z
    · exact h1 z
  have hz : ∀ j, j < p → co hed j = 0 := I.lz hed hm
  have fl : (found.map fun r => le r hed p).length = found.length := List.length_map ..
  have rw1 : ∀ k, k < found.length → row ((found.map fun r => le r hed p) ++ [hed]) k = co (le (found.getD k []) hed p) := fun k hk => by
    rw [row_app, fl, if_pos hk, row_map hk]
  have rw2 : row ((found.map fun r => le r hed p) ++ [hed]) found.length = co hed := by
    rw [row_app, fl, if_neg (Nat.lt_irrefl _), if_pos rfl]
  have pw1 : ∀ k, k < found.length → (P ++ [p]).getD k 0 = P.getD k 0 := fun k hk => by rw [getD_app, I.pl, if_pos hk]
  have pw2 : (P ++ [p]).getD found.length 0 = p := by rw [getD_app, I.pl, if_neg (Nat.lt_irrefl _), if_pos rfl]
  have nl : ((found.map fun r => le r hed p) ++ [hed]).length = found.length + 1 := by
    rw [List.length_append, fl]
    rfl
  refine ⟨x, fun y hy => ?_, ?_, ?_, fun r hr => ?_, fun r hr => ?_, fun r hr j hj => ?_, fun k hk => ?_, fun k hk => ?_, fun i k hi hk hne => ?_, fun k hk j hj => ?_, fun r hr => ?_, fun y hy => ?_, fun r hr => ?_⟩
  · rcases List.mem_append.mp hy with hy | hy
    · exact I.hr y hy
    · rw [List.mem_singleton.mp hy]
      exact hx
  · rw [List.length_append, List.length_append, fl, I.hl]
    rfl
  · rw [List.length_append, List.length_append, fl, I.pl]
    rfl
  · obtain ⟨r0, hr0, rfl⟩ := List.mem_map.mp hr
    obtain ⟨y, hy, hs2⟩ := I.lf r0 (sub r0 hr0)
    obtain ⟨c, hc, q⟩ := lin r0 (.inl (sub r0 hr0))
    refine ⟨y, hy, SpM.lin (co hed p) (- co r0 p) hc (hs2.mono fun z hz => ?_) (hs.mono fun z hz => ?_) fun j _ => by rw [q j, Int.neg_mul, Int.sub_eq_add_neg]⟩
    · simp only [List.mem_append, List.mem_singleton] at hz ⊢
      rcases hz with hz | hz
      · exact .inl (.inl hz)
      · exact .inr hz
    · exact List.mem_append.mpr (.inl hz)
  · rcases List.mem_append.mp hr with hr | hr
    · obtain ⟨r0, hr0, rfl⟩ := List.mem_map.mp hr
      obtain ⟨c, hc, q⟩ := lin r0 (.inr hr0)
      exact SpM.lin (co hed p) (- co r0 p) hc ((I.ff r0 hr0).mono fun z hz => List.mem_append.mpr (.inl hz)) hs fun j _ => by rw [q j, Int.neg_mul, Int.sub_eq_add_neg]
    · rw [List.mem_singleton.mp hr]
      exact hs
  · obtain ⟨r0, hr0, rfl⟩ := List.mem_map.mp hr
    by_cases c : j = p
    · rw [c]
      exact vanp r0 (.inl (sub r0 hr0))
    · exact van r0 (.inl (sub r0 hr0)) j (I.lz r0 (sub r0 hr0) j (by omega)) (hz j (by omega))
  · rw [nl] at hk
    by_cases c : k = found.length
    · rw [c, pw2]
      exact Nat.lt_succ_self _
    · rw [pw1 k (by omega)]
      exact Nat.lt_succ_of_lt (I.pp k (by omega))
  · rw [nl] at hk
    by_cases c : k = found.length
    · rw [c, pw2, rw2]
      exact hd
    · have hk : k < found.length := by omega
      rw [pw1 k hk, rw1 k hk]
      exact keep _ (.inr (mem_row hk)) _ (I.nz k hk) (hz _ (I.pp k hk))
  · rw [nl] at hi hk
    by_cases c : k = found.length
    · have hi : i < found.length := by omega
      rw [c, rw2, pw1 i hi]
      exact hz _ (I.pp i hi)
    · have hk : k < found.length := by omega
      rw [rw1 k hk]
      by_cases d : i = found.length
      · rw [d, pw2]
        exact vanp _ (.inr (mem_row hk))
      · have hi : i < found.length := by omega
        rw [pw1 i hi]
        exact van _ (.inr (mem_row hk)) _ (I.z i k hi hk hne) (hz _ (I.pp i hi))
  · rw [nl] at hk
    by_cases c : k = found.length
    · rw [c, pw2] at hj
      rw [c, rw2]
      exact hz j hj
    · have hk : k < found.length := by omega
      rw [pw1 k hk] at hj
      rw [rw1 k hk]
      exact van _ (.inr (mem_row hk)) _ (I.be k hk j hj) (hz j (Nat.lt_trans hj (I.pp k hk)))
  · have key : ∀ r0, r0 ∈ left ∨ r0 ∈ found → gl (le r0 hed p) ≤ 1 ∨ le r0 hed p ∈ rows := fun r0 h0 => by
      rcases hle.red r0 hed p with g | g
      · exact .inl g
      · rw [g]
        exact I.rd r0 h0
    rcases hr with hr | hr
    · obtain ⟨r0, hr0, rfl⟩ := List.mem_map.mp hr
      exact key r0 (.inl (sub r0 hr0))
    · rcases List.mem_append.mp hr with hr | hr
      · obtain ⟨r0, hr0, rfl⟩ := List.mem_map.mp hr
        exact key r0 (.inr hr0)
      · rw [List.mem_singleton.mp hr]
        exact I.rd hed (.inl hm)
  · refine (I.rv y hy).trans fun r hr => ?_
    have hin : SpM w (((found.map fun r => le r hed p) ++ [hed]) ++ ((left.eraseIdx h).map fun r => le r hed p)) hed := SpM.own (by simp)
    have back : ∀ r0, r0 ∈ left ∨ r0 ∈ found → le r0 hed p ∈ ((found.map fun r => le r hed p) ++ [hed]) ++ ((left.eraseIdx h).map fun r => le r hed p) → SpM w (((found.map fun r => le r hed p) ++ [hed]) ++ ((left.eraseIdx h).map fun r => le r hed p)) r0 := fun r0 h0 hm0 => by
      obtain ⟨c, hc, q⟩ := lin r0 h0
      exact SpM.lin c (co r0 p) hd (SpM.own hm0) hin fun j _ => by rw [q j]; omega
    rcases List.mem_append.mp hr with hr | hr
    · exact back r (.inr hr) (List.mem_append.mpr (.inl (List.mem_append.mpr (.inl (List.mem_map.mpr ⟨r, hr, rfl⟩)))))
    · obtain ⟨i, hi, ei⟩ := List.mem_iff_getElem.mp hr
      by_cases c : i = h
      · have : r = hed := by
          rw [← ei, ← hH, List.getD_eq_getElem?_getD]
          subst c
          rw [List.getElem?_eq_getElem hi]
          rfl
        rw [this]
        exact hin
      · exact back r (.inl hr) (List.mem_append.mpr (.inr (List.mem_map.mpr ⟨r, List.mem_eraseIdx_iff_getElem.mpr ⟨i, hi, c, ei⟩, rfl⟩)))
  · have key : ∀ r0, r0 ∈ left ∨ r0 ∈ found → (le r0 hed p).length = w := fun r0 h0 => by
      rw [hle.len]
      exact I.ll r0 h0
    rcases hr with hr | hr
    · obtain ⟨r0, hr0, rfl⟩ := List.mem_map.mp hr
      exact key r0 (.inl (sub r0 hr0))
    · rcases List.mem_append.mp hr with hr | hr
      · obtain ⟨r0, hr0, rfl⟩ := List.mem_map.mp hr
        exact key r0 (.inr hr0)
      · rw [List.mem_singleton.mp hr]
        exact hlen
theorem inv {le : List Int → List Int → Nat → List Int} (hle : LeP le) {w : Nat} {rows : List (List Int)} (hw : ∀ r ∈ rows, r.length = w) : ∀ p, p ≤ w → ∃ Hh P, Inv w rows p (eS le rows p).1 (eS le rows p).2 Hh P
  | 0, _ => ⟨[], [], Inv.init hw⟩
  | p + 1, hp => by
    obtain ⟨Hh, P, I⟩ := inv hle hw p (by omega)
    show ∃ Hh P, Inv w rows (p + 1) (stp le p (eS le rows p)).1 (stp le p (eS le rows p)).2 Hh P
    cases e : hix (eS le rows p).1 p with
    | none =>
      rw [stp_none e]
      exact ⟨Hh, P, I.none e⟩
    | some h =>
      rw [stp_some e]
      obtain ⟨x, J⟩ := I.some hle (by omega) e
      exact ⟨_, _, J⟩
theorem Inv.ind {w p : Nat} {rows left found Hh : List (List Int)} {P : List Nat} (I : Inv w rows p left found Hh P) (hp : p ≤ w) : Ind found.length found.length fun k j => row Hh k (P.getD j 0) := by
  refine ind_of (A := fun k j => row found k (P.getD j 0)) ?_ fun i hi => ?_
  · exact Ech.ind (lead := fun i => i) ⟨fun i hi => hi, fun i hi => I.nz i hi, fun i k hi hk hne => I.z i k hi hk hne⟩
  · obtain ⟨c, hc, a, ha⟩ := I.ff _ (mem_row hi)
    rw [I.hl] at ha
    exact ⟨c, hc, a, fun j hj => ha _ (Nat.lt_of_lt_of_le (I.pp j hj) hp)⟩
theorem co_bd {rows : List (List Int)} {M : Nat} (hM : ∀ r ∈ rows, ∀ x ∈ r, x.natAbs ≤ M) {r : List Int} (hr : r ∈ rows) (j : Nat) : (co r j).natAbs ≤ M := by
  by_cases h : j < r.length
  · exact hM r hr _ (co_memE h)
  · rw [co_far (by omega)]
    exact Nat.zero_le _
theorem Inv.bd {w p M : Nat} {rows left found Hh : List (List Int)} {P : List Nat} (I : Inv w rows p left found Hh P) (hp : p ≤ w) (hM : ∀ r ∈ rows, ∀ x ∈ r, x.natAbs ≤ M) (hc : left.length + found.length = rows.length) :
    ∀ r, r ∈ left ∨ r ∈ found → ∀ j, (co r j).natAbs ≤ BdE rows.length M := fun r hr j => by
  by_cases hj : j < w
  · rcases I.rd r hr with hv | hv
    · rcases hr with hr | hr
      · obtain ⟨x, hx, hs⟩ := I.lf r hr
        have hp1 := List.length_pos_of_mem hr
        refine Nat.le_trans (bd_left (r := found.length) (B := row (Hh ++ [x])) (P := fun k => P.getD k 0) (I.ll r (.inl hr)) hv (fun i hi j => ?_) (fun k hk => Nat.lt_of_lt_of_le (I.pp k hk) hp) (fun a ha => I.ind hp a fun k hk => ?_) ?_ (fun k hk => I.lz r hr _ (I.pp k hk)) j hj) (Bd_mono (by omega))
        · rw [row_app, I.hl]
          by_cases c : i < found.length
          · rw [if_pos c]
            exact co_bd hM (I.hr _ (mem_row (by rw [I.hl]; exact c))) j
          · rw [if_neg c, if_pos (by omega)]
            exact co_bd hM hx j
        · rw [← ha k hk]
          exact S_congr fun i hi => by
            show _ = a i * row (Hh ++ [x]) i (P.getD k 0)
            rw [row_app, I.hl, if_pos hi]
        · unfold SpM at hs
          rw [List.length_append, I.hl] at hs
          exact hs
      · obtain ⟨i0, hi0, e⟩ := row_mem hr
        obtain ⟨m, hm⟩ : ∃ m, found.length = m + 1 := ⟨found.length - 1, by omega⟩
        have hI := I.ind hp
        have hs := I.ff r hr
        unfold SpM at hs
        rw [I.hl] at hs
        rw [hm] at hI hs hi0
        refine Nat.le_trans (bd_found (B := row Hh) (P := fun k => P.getD k 0) (i0 := i0) (I.ll r (.inr hr)) hv (fun i hi j => co_bd hM (I.hr _ (mem_row (by rw [I.hl, hm]; exact hi))) j) (fun k hk => Nat.lt_of_lt_of_le (I.pp k (by omega)) hp) hI hs hi0 (fun k hk hne => ?_) j hj) (Bd_mono (by omega))
        rw [← e]
        exact I.z k i0 (by omega) (by omega) (Ne.symm hne)
    · exact Nat.le_trans (co_bd hM hv j) (Bd_le (List.length_pos_of_mem hv))
  · rw [co_far (by rw [I.ll r hr]; omega)]
    exact Nat.zero_le _
theorem quot_le {c q x : Int} (h : c * q = x) (hc : c ≠ 0) : q.natAbs ≤ x.natAbs := by
  rw [← h, Int.natAbs_mul]
  exact Nat.le_mul_of_pos_left _ (by omega)
theorem cdiv_of {x c : Int} (hc : c ≠ 0) (hd : c ∣ x) (hb : x.natAbs < 2 ^ 4470) : CDivQ x c := by
  have e := fdiv_ex hd
  refine CDivQ.exact hc (q := x.fdiv c) (by rw [Int.mul_comm]; exact e.symm) ?_
  have := quot_le e hc
  generalize 2 ^ 4470 = Z at hb ⊢
  omega
theorem log_lt {n k : Nat} (h : n < 2 ^ k) (hk : 0 < k) : n.log2 < k := by
  by_cases h0 : n = 0
  · rw [h0, Nat.log2_zero]
    exact hk
  · exact (Nat.log2_lt h0).mpr h
theorem cmul_of {a b : Int} (h1 : a.natAbs < 2 ^ 4470) (h2 : b.natAbs < 2 ^ 4470) : CMulW a b := by
  have := log_lt h1 (by decide)
  have := log_lt h2 (by decide)
  unfold CMulW
  omega
theorem divOk_of {l : List Int} (h : ∀ j, (co l j).natAbs < 2 ^ 4470) : DivOk l := fun h0 x hx => by
  obtain ⟨k, _, e⟩ := mem_co hx
  refine cdiv_of (by omega) (gl_dvdI hx) ?_
  rw [← e]
  exact h k
theorem lessOk_of {r hd : List Int} {p : Nat} (hp : co hd p ≠ 0) (hl : r.length = hd.length) (h1 : ∀ j, (co r j).natAbs < 2 ^ 4470) (h2 : ∀ j, (co hd j).natAbs < 2 ^ 4470) (h3 : co r p ≠ 0 → ∀ j, (co (lless r hd p) j).natAbs < 2 ^ 4470) : LessOk r hd p := by
  have g0 := gcd_ne (b := co r p) hp
  have d1 : ((Nat.gcd (co hd p).natAbs (co r p).natAbs : Nat) : Int) ∣ co hd p := Int.ofNat_dvd_left.mpr (Nat.gcd_dvd_left ..)
  have d2 : ((Nat.gcd (co hd p).natAbs (co r p).natAbs : Nat) : Int) ∣ co r p := Int.ofNat_dvd_left.mpr (Nat.gcd_dvd_right ..)
  have q1 := quot_le (fdiv_ex d1) g0
  have q2 := quot_le (fdiv_ex d2) g0
  refine ⟨cdiv_of g0 d1 (h2 p), cdiv_of g0 d2 (h1 p), fun k _ => cmul_of (h1 k) (Nat.lt_of_le_of_lt q1 (h2 p)), fun k _ => cmul_of (Nat.lt_of_le_of_lt q2 (h1 p)) (h2 k), ?_⟩
  by_cases c : co r p = 0
  · refine divOk_of fun j => ?_
    have e := lf_lin (row := r) hp hl j
    rw [c, Int.zero_mul, Int.sub_zero] at e
    have e2 : (Nat.gcd (co hd p).natAbs (0 : Int).natAbs) = (co hd p).natAbs := Nat.gcd_zero_right _
    rw [e2] at e
    have e3 : (co hd p).natAbs * (co (lf r hd p) j).natAbs = (co hd p).natAbs * (co r j).natAbs := by
      have := congrArg Int.natAbs e
      rwa [Int.natAbs_mul, Int.natAbs_mul, Int.natAbs_natCast] at this
    rw [Nat.eq_of_mul_eq_mul_left (by omega) e3]
    exact h1 j
  · intro h0 x hx
    obtain ⟨k, _, e⟩ := mem_co hx
    have q := h3 c k
    unfold lless at q
    by_cases d : 1 < gl (lf r hd p)
    · rw [if_pos d] at q
      have e1 := dv_ex h0 k
      rw [e] at e1
      exact CDivQ.exact (q := co (dv (lf r hd p) (gl (lf r hd p))) k) (by omega) (by rw [Int.mul_comm]; exact e1.symm) q
    · rw [if_neg d, e] at q
      exact cdiv_of (by omega) (gl_dvdI hx) q
theorem eok {le : List Int → List Int → Nat → List Int} (hle : LeP le) (hl2 : ∀ r hd p, co r p ≠ 0 → le r hd p = lless r hd p) {w M : Nat} {rows : List (List Int)} (hw : ∀ r ∈ rows, r.length = w) (hM : ∀ r ∈ rows, ∀ x ∈ r, x.natAbs ≤ M) (hb : BdE rows.length M < 2 ^ 4470) : EOk le rows w := by
  have bd : ∀ p, p ≤ w → ∀ r, r ∈ (eS le rows p).1 ∨ r ∈ (eS le rows p).2 → ∀ j, (co r j).natAbs < 2 ^ 4470 := fun p hp r hr j => by
    obtain ⟨Hh, P, I⟩ := inv hle hw p hp
    exact Nat.lt_of_le_of_lt (I.bd hp hM (eS_cnt le rows p) r hr j) hb
  refine ⟨fun r hr => divOk_of (bd w (Nat.le_refl _) r (.inr hr)), fun p hp h e r hr => ?_⟩
  obtain ⟨hh, hd⟩ := hix_some e
  obtain ⟨Hh, P, I⟩ := inv hle hw p (by omega)
  have hm := mem_row hh
  have hr1 : r ∈ (eS le rows p).1 ∨ r ∈ (eS le rows p).2 := hr.imp List.mem_of_mem_eraseIdx id
  refine lessOk_of hd (by rw [I.ll r hr1, I.ll _ (.inl hm)]) (bd p (by omega) r hr1) (bd p (by omega) _ (.inl hm)) fun c => ?_
  rw [← hl2 _ _ _ c]
  refine bd (p + 1) hp _ ?_
  show _ ∈ (stp le p (eS le rows p)).1 ∨ _ ∈ (stp le p (eS le rows p)).2
  rw [stp_some e]
  rcases hr with hr | hr
  · exact .inl (List.mem_map.mpr ⟨r, hr, rfl⟩)
  · exact .inr (List.mem_append.mpr (.inl (List.mem_map.mpr ⟨r, hr, rfl⟩)))
theorem eokL {w M : Nat} {rows : List (List Int)} (hw : ∀ r ∈ rows, r.length = w) (hM : ∀ r ∈ rows, ∀ x ∈ r, x.natAbs ≤ M) (hb : BdE rows.length M < 2 ^ 4470) : EOk lless rows w := eok lePL (fun _ _ _ _ => rfl) hw hM hb
theorem gl_mul (c : Int) : ∀ (l : List Int) (a : Nat), (l.map (c * ·)).foldl (fun a x => Nat.gcd a x.natAbs) (c.natAbs * a) = c.natAbs * l.foldl (fun a x => Nat.gcd a x.natAbs) a
  | [], _ => rfl
  | x :: l, a => by
    rw [List.map_cons, List.foldl_cons, List.foldl_cons, Int.natAbs_mul, Nat.gcd_mul_left]
    exact gl_mul c l _
theorem gl_scale (c : Int) (l : List Int) : gl (l.map (c * ·)) = c.natAbs * gl l := gl_mul c l 0
theorem co_scale (c : Int) (l : List Int) (j : Nat) : co (l.map (c * ·)) j = c * co l j := by
  by_cases h : j < l.length
  · rw [co_get (by rw [List.length_map]; exact h), co_get h, List.getElem_map]
  · rw [co_far (by rw [List.length_map]; omega), co_far (by omega), Int.mul_zero]
theorem gl0_of {l : List Int} (h : ∀ j, co l j = 0) : gl l = 0 := Nat.eq_zero_of_zero_dvd (dvd_glc fun k _ => by rw [h k]; exact Nat.dvd_refl _)
theorem ld_char {l : List Int} {k : Nat} (h : co l k ≠ 0) (hz : ∀ j, j < k → co l j = 0) : ld l = k := by
  have hk : k < l.length := by
    refine Classical.byContradiction fun c => h (co_far (by omega))
  unfold ld
  refine (List.findIdx_eq hk).mpr ⟨?_, fun j hj => ?_⟩
  · rw [← co_get hk]
    simpa using h
  · have := hz j hj
    rw [co_get (by omega)] at this
    simpa using this
theorem fo_ld : ∀ {l : List Int}, (∃ k, co l k ≠ 0) → foE l = co l (ld l) ∧ co l (ld l) ≠ 0 ∧ ∀ j, j < ld l → co l j = 0
  | [], ⟨k, h⟩ => absurd (co_far (Nat.zero_le _)) h
  | x :: l, ⟨k, h⟩ => by
    by_cases c : x = 0
    · have hk : ∃ k, co l k ≠ 0 := by
        cases k with
        | zero => exact absurd c h
        | succ k => exact ⟨k, h⟩
      obtain ⟨h1, h2, h3⟩ := fo_ld hk
      have e1 : foE (x :: l) = foE l := by
        unfold foE
        rw [List.find?_cons_of_neg (by simp [c])]
      have e2 : ld (x :: l) = ld l + 1 := ld_char (l := x :: l) (k := ld l + 1) h2 fun j hj => by
        cases j with
        | zero => exact c
        | succ j => exact h3 j (by omega)
      rw [e1, e2]
      refine ⟨h1, h2, fun j hj => ?_⟩
      cases j with
      | zero => exact c
      | succ j => exact h3 j (by omega)
    · have e1 : foE (x :: l) = x := by
        unfold foE
        rw [List.find?_cons_of_pos (by simp [c])]
        rfl
      have e2 : ld (x :: l) = 0 := ld_char (l := x :: l) (k := 0) c fun j hj => absurd hj (Nat.not_lt_zero _)
      rw [e1, e2]
      exact ⟨rfl, c, fun j hj => absurd hj (Nat.not_lt_zero _)⟩
def pf (l : List Int) : Int := if gl l = 0 then 1 else if 0 < foE l then (gl l : Int) else -(gl l : Int)
theorem pf_ne (l : List Int) : pf l ≠ 0 := by
  unfold pf
  split
  · decide
  · split <;> omega
theorem prim_ex (l : List Int) (j : Nat) : pf l * co (primE l) j = co l j := by
  unfold pf primE
  by_cases c : gl l = 0
  · rw [if_pos c, if_pos c, Int.one_mul]
  · rw [if_neg c, if_neg c, co_dv]
    refine fdiv_ex ?_
    have := Int.ofNat_dvd_left.mpr (gl_dvdc l j)
    split
    · exact this
    · exact Int.neg_dvd.mpr this
theorem prim_le (l : List Int) (j : Nat) : (co (primE l) j).natAbs ≤ (co l j).natAbs := quot_le (prim_ex l j) (pf_ne l)
def Pq (w : Nat) (r r' : List Int) : Prop := r.length = w ∧ r'.length = w ∧ ∃ α β : Int, α ≠ 0 ∧ β ≠ 0 ∧ ∀ j, α * co r j = β * co r' j
theorem Pq.zero {w : Nat} {r r' : List Int} (h : Pq w r r') (j : Nat) : co r j = 0 ↔ co r' j = 0 := by
  obtain ⟨_, _, α, β, ha, hb, e⟩ := h
  have := e j
  constructor <;> intro z <;> rw [z, Int.mul_zero] at this
  · exact (Int.mul_eq_zero.mp this.symm).resolve_left hb
  · exact (Int.mul_eq_zero.mp this).resolve_left ha
theorem sq_pos {a : Int} (h : a ≠ 0) : 0 < a * a := by
  rcases Int.lt_or_gt_of_ne h with z | z
  · exact Int.mul_pos_of_neg_of_neg z z
  · exact Int.mul_pos z z
theorem prim_pq {w : Nat} {r r' : List Int} (h : Pq w r r') : primE r = primE r' := by
  have hz := h.zero
  obtain ⟨hl, hl', α, β, ha, hb, e⟩ := h
  by_cases c : gl r = 0
  · have c' : gl r' = 0 := gl0_of fun j => (hz j).mp (gl_zero c j)
    unfold primE
    rw [if_pos c, if_pos c']
    exact co_inj (hl.trans hl'.symm) fun j => by rw [gl_zero c j, gl_zero c' j]
  · have c' : gl r' ≠ 0 := fun z => c (gl0_of fun j => (hz j).mpr (gl_zero z j))
    have ex : ∀ l : List Int, gl l ≠ 0 → ∃ k, co l k ≠ 0 := fun l hl => Classical.byContradiction fun z => hl (gl0_of fun j => Classical.byContradiction fun q => z ⟨j, q⟩)
    obtain ⟨f1, f2, f3⟩ := fo_ld (ex r c)
    obtain ⟨g1, g2, g3⟩ := fo_ld (ex r' c')
    have el : ld r' = ld r := ld_char (fun z => f2 ((hz _).mpr z)) fun j hj => (hz j).mp (f3 j hj)
    have e0 : α * foE r = β * foE r' := by rw [f1, g1, el]; exact e _
    have eg : α.natAbs * gl r = β.natAbs * gl r' := by
      rw [← gl_scale, ← gl_scale]
      refine congrArg gl (co_inj (by rw [List.length_map, List.length_map, hl, hl']) fun j => ?_)
      rw [co_scale, co_scale]
      exact e j
    have s1 : 0 < pf r * foE r := by
      unfold pf
      rw [if_neg c]
      split
      · exact Int.mul_pos (by omega) ‹_›
      · exact Int.mul_pos_of_neg_of_neg (by omega) (by omega)
    have s2 : 0 < pf r' * foE r' := by
      unfold pf
      rw [if_neg c']
      split
      · exact Int.mul_pos (by omega) ‹_›
      · exact Int.mul_pos_of_neg_of_neg (by omega) (by omega)
    have n1 : (α * pf r).natAbs = (β * pf r').natAbs := by
      have q : ∀ l, gl l ≠ 0 → (pf l).natAbs = gl l := fun l hl => by
        unfold pf
        rw [if_neg hl]
        split <;> omega
      rw [Int.natAbs_mul, Int.natAbs_mul, q r c, q r' c', eg]
    have z0 : α * foE r ≠ 0 := Int.mul_ne_zero ha (by omega)
    have t1 : 0 < α * pf r * (α * foE r) := by
      have : α * pf r * (α * foE r) = α * α * (pf r * foE r) := by grind
      rw [this]
      exact Int.mul_pos (sq_pos ha) s1
    have t2 : 0 < β * pf r' * (α * foE r) := by
      rw [e0]
      have : β * pf r' * (β * foE r') = β * β * (pf r' * foE r') := by grind
      rw [this]
      exact Int.mul_pos (sq_pos hb) s2
    have key : α * pf r = β * pf r' := by
      rcases Int.natAbs_eq_natAbs_iff.mp n1 with q | q
      · exact q
      · exfalso
        rw [q, Int.neg_mul] at t1
        omega
    refine co_inj (by rw [primE_len, primE_len, hl, hl']) fun j => ?_
    have a1 := prim_ex r j
    have a2 := prim_ex r' j
    have q : α * pf r * co (primE r) j = α * pf r * co (primE r') j := by
      rw [Int.mul_assoc, a1, e j, ← a2, ← Int.mul_assoc, key]
    exact Int.eq_of_mul_eq_mul_left (Int.mul_ne_zero ha (pf_ne r)) q
def PL (w : Nat) : List (List Int) → List (List Int) → Prop
  | [], [] => True
  | a :: as, b :: bs => Pq w a b ∧ PL w as bs
  | _, _ => False
theorem PL.hix {w p : Nat} : ∀ {A B : List (List Int)}, PL w A B → hix A p = hix B p
  | [], [], _ => rfl
  | a :: as, b :: bs, h => by
    have ih := PL.hix (p := p) h.2
    unfold K76.hix at ih ⊢
    rw [List.findIdx?_cons, List.findIdx?_cons, ih]
    have : (co a p != 0) = (co b p != 0) := by
      by_cases c : co a p = 0
      · rw [c, (h.1.zero p).mp c]
      · have c2 : co b p ≠ 0 := fun z => c ((h.1.zero p).mpr z)
        rw [bne_iff_ne.mpr c, bne_iff_ne.mpr c2]
    rw [this]
theorem PL.get {w : Nat} : ∀ {A B : List (List Int)} {k : Nat}, PL w A B → k < A.length → Pq w (A.getD k []) (B.getD k [])
  | [], [], _, _, hk => absurd hk (Nat.not_lt_zero _)
  | a :: as, b :: bs, 0, h, _ => h.1
  | a :: as, b :: bs, k + 1, h, hk => PL.get (k := k) h.2 (Nat.lt_of_succ_lt_succ hk)
theorem PL.erase {w : Nat} : ∀ {A B : List (List Int)} (k : Nat), PL w A B → PL w (A.eraseIdx k) (B.eraseIdx k)
  | [], [], _, _ => True.intro
  | a :: as, b :: bs, 0, h => h.2
  | a :: as, b :: bs, k + 1, h => ⟨h.1, PL.erase k h.2⟩
theorem PL.map {w : Nat} {f g : List Int → List Int} (hf : ∀ a b, Pq w a b → Pq w (f a) (g b)) : ∀ {A B : List (List Int)}, PL w A B → PL w (A.map f) (B.map g)
  | [], [], _ => True.intro
  | a :: as, b :: bs, h => ⟨hf _ _ h.1, PL.map hf h.2⟩
theorem PL.app {w : Nat} {a b : List Int} (h : Pq w a b) : ∀ {A B : List (List Int)}, PL w A B → PL w (A ++ [a]) (B ++ [b])
  | [], [], _ => ⟨h, True.intro⟩
  | a :: as, b :: bs, g => ⟨g.1, PL.app h g.2⟩
theorem PL.rf {w : Nat} : ∀ {A : List (List Int)}, (∀ a ∈ A, a.length = w) → PL w A A
  | [], _ => True.intro
  | a :: as, h => ⟨⟨h a List.mem_cons_self, h a List.mem_cons_self, 1, 1, by decide, by decide, fun _ => rfl⟩, PL.rf fun b hb => h b (List.mem_cons_of_mem _ hb)⟩
theorem PL.primE {w : Nat} : ∀ {A B : List (List Int)}, PL w A B → A.map primE = B.map primE
  | [], [], _ => rfl
  | a :: as, b :: bs, h => by
    rw [List.map_cons, List.map_cons, prim_pq h.1, PL.primE h.2]
structure Told (w M : Nat) (rows T : List (List Int)) : Prop where
  len : ∀ t ∈ T, t.length = w
  lt : ∀ t ∈ T, ld t < w
  nz : ∀ t ∈ T, co t (ld t) ≠ 0
  z : ∀ i k, i < T.length → k < T.length → k ≠ i → row T k (ld (T.getD i [])) = 0
  base : Base w rows.length (row rows) T.length (row T)
  bd : ∀ t ∈ T, ∀ j, (co t j).natAbs ≤ BdE T.length M
theorem getD_map {A : List (List Int)} {f : List Int → List Int} {k : Nat} (h : k < A.length) : (A.map f).getD k [] = f (A.getD k []) := by
  rw [List.getD_eq_getElem?_getD, List.getD_eq_getElem?_getD, List.getElem?_map, List.getElem?_eq_getElem h]
  rfl
theorem told {le : List Int → List Int → Nat → List Int} (hle : LeP le) {w M : Nat} {rows : List (List Int)} (hw : ∀ r ∈ rows, r.length = w) (hM : ∀ r ∈ rows, ∀ x ∈ r, x.natAbs ≤ M) : Told w M rows (ech le rows w) := by
  obtain ⟨Hh, P, I⟩ := inv hle hw w (Nat.le_refl _)
  unfold ech
  generalize (eS le rows w).1 = left at I
  generalize (eS le rows w).2 = found at I
  have hz : ∀ (r : List Int) (j : Nat), co (primE r) j = 0 ↔ co r j = 0 := fun r j => by
    have := prim_ex r j
    constructor <;> intro z <;> rw [z] at this
    · rw [Int.mul_zero] at this
      exact this.symm
    · exact (Int.mul_eq_zero.mp this).resolve_left (pf_ne r)
  have hld : ∀ k, k < found.length → ld (primE (found.getD k [])) = P.getD k 0 := fun k hk => ld_char (fun z => I.nz k hk ((hz _ _).mp z)) fun j hj => (hz _ _).mpr (I.be k hk j hj)
  have mem : ∀ t ∈ found.map primE, ∃ k, k < found.length ∧ t = primE (found.getD k []) := fun t ht => by
    obtain ⟨r, hr, rfl⟩ := List.mem_map.mp ht
    obtain ⟨k, hk, e⟩ := List.mem_iff_getElem.mp hr
    exact ⟨k, hk, by rw [List.getD_eq_getElem?_getD, List.getElem?_eq_getElem hk, e]; rfl⟩
  have z' : ∀ i k, i < (found.map primE).length → k < (found.map primE).length → k ≠ i → row (found.map primE) k (ld ((found.map primE).getD i [])) = 0 := fun i k hi hk hne => by
    rw [List.length_map] at hi hk
    rw [row_map hk, getD_map hi, hld i hi]
    exact (hz _ _).mpr (I.z i k hi hk hne)
  have nz' : ∀ k, k < (found.map primE).length → row (found.map primE) k (ld ((found.map primE).getD k [])) ≠ 0 := fun k hk => by
    rw [List.length_map] at hk
    rw [row_map hk, getD_map hk, hld k hk]
    exact fun z => I.nz k hk ((hz _ _).mp z)
  have lt' : ∀ k, k < (found.map primE).length → ld ((found.map primE).getD k []) < w := fun k hk => by
    rw [List.length_map] at hk
    rw [getD_map hk, hld k hk]
    exact I.pp k hk
  refine ⟨fun t ht => ?_, fun t ht => ?_, fun t ht => ?_, z', ⟨?_, fun k hk => ?_, fun i hi => ?_⟩, fun t ht j => ?_⟩
  · obtain ⟨k, hk, rfl⟩ := mem t ht
    rw [primE_len]
    exact I.ll _ (.inr (mem_row hk))
  · obtain ⟨k, hk, rfl⟩ := mem t ht
    rw [hld k hk]
    exact I.pp k hk
  · obtain ⟨k, hk, rfl⟩ := mem t ht
    rw [hld k hk]
    exact fun z => I.nz k hk ((hz _ _).mp z)
  · exact Ech.ind (lead := fun k => ld ((found.map primE).getD k [])) ⟨lt', nz', z'⟩
  · rw [List.length_map] at hk
    rw [row_map hk]
    have h1 : SpM w rows (found.getD k []) := (I.ff _ (mem_row hk)).trans fun x hx => SpM.own (I.hr x hx)
    exact SpM.mul (c := pf (found.getD k [])) (α := 1) (pf_ne _) h1 fun j _ => by rw [prim_ex, Int.one_mul]
  · refine (I.rv _ (mem_row hi)).trans fun x hx => ?_
    rcases List.mem_append.mp hx with hx | hx
    · exact SpM.mul (c := 1) (α := pf x) (by decide) (SpM.own (List.mem_map.mpr ⟨x, hx, rfl⟩)) fun j _ => by rw [prim_ex, Int.one_mul]
    · exact SpM.zero (I.lz x hx)
  · obtain ⟨k, hk, rfl⟩ := mem t ht
    rw [List.length_map]
    refine Nat.le_trans (prim_le _ j) ?_
    have hr := mem_row hk
    generalize hR : found.getD k [] = r at hr
    by_cases hj : j < w
    · rcases I.rd r (.inr hr) with hv | hv
      · obtain ⟨m, hm⟩ : ∃ m, found.length = m + 1 := ⟨found.length - 1, by omega⟩
        have hI := I.ind (Nat.le_refl _)
        have hs := I.ff r hr
        unfold SpM at hs
        rw [I.hl] at hs
        have hk0 := hk
        rw [hm] at hI hs hk ⊢
        refine bd_found (B := row Hh) (P := fun k => P.getD k 0) (i0 := k) (I.ll r (.inr hr)) hv (fun i hi j => co_bd hM (I.hr _ (mem_row (by rw [I.hl, hm]; exact hi))) j) (fun k hk => I.pp k (by omega)) hI hs hk (fun i hi hne => ?_) j hj
        rw [← hR]
        exact I.z i k (by omega) hk0 (Ne.symm hne)
      · exact Nat.le_trans (co_bd hM hv j) (Bd_le (by omega))
    · rw [co_far (by rw [I.ll r (.inr hr)]; omega)]
      exact Nat.zero_le _
abbrev le0 (t : List Int) : Int := co t (ld t)
def wst (a : Int) (t : List Int) : Int := a * (le0 t).fdiv (Nat.gcd a.natAbs (le0 t).natAbs : Nat)
def whl (T : List (List Int)) : Int := T.foldl wst 1
def frees (T : List (List Int)) (w : Nat) : List Nat := (List.range w).filter fun p => !(T.map ld).contains p
def kst (W : Int) (f : Nat) (o : List Int) (t : List Int) : List Int := o.set (ld t) (-(W.fdiv (le0 t)) * co t f)
def k0 (W : Int) (w f : Nat) : List Int := (List.replicate w (0 : Int)).set f W
def kone (T : List (List Int)) (w f : Nat) : List Int := T.foldl (kst (whl T) f) (k0 (whl T) w f)
def kvs (T : List (List Int)) (w : Nat) : List (List Int) := (frees T w).map (kone T w)
structure KOk (T : List (List Int)) : Prop where
  c1 : ∀ A t B, T = A ++ t :: B → CDivQ (le0 t) (Nat.gcd (whl A).natAbs (le0 t).natAbs : Nat)
  m1 : ∀ A t B, T = A ++ t :: B → CMulW (whl A) ((le0 t).fdiv (Nat.gcd (whl A).natAbs (le0 t).natAbs : Nat))
  c2 : ∀ t ∈ T, CDivQ (whl T) (le0 t)
  m2 : ∀ t ∈ T, ∀ f, CMulW (-((whl T).fdiv (le0 t))) (co t f)
  m3 : ∀ t ∈ T, ∀ f, CMulW (whl T) (co t f)
  c3 : ∀ t ∈ T, ∀ f, CDivQ (whl T * co t f) (le0 t)
structure Kv (n : Nat) (T : List (List Int)) : Prop where
  free : ∀ f ∈ frees T n, ∀ g ∈ frees T n, co (kone T n f) g = if g = f then whl T else 0
  dot : ∀ f ∈ frees T n, ∀ t ∈ T, S n (fun j => co (kone T n f) j * co t j) = 0
  nz : whl T ≠ 0
  bd : ∀ B, (∀ t ∈ T, ∀ j, (co t j).natAbs ≤ B) → 1 ≤ B → ∀ f ∈ frees T n, ∀ j, (co (kone T n f) j).natAbs ≤ B ^ (T.length + 1)
theorem Told.nodup {w M : Nat} {rows T : List (List Int)} (h : Told w M rows T) : (T.map ld).Nodup := by
  unfold List.Nodup
  rw [List.pairwise_iff_getElem]
  intro i j hi hj hij e
  rw [List.length_map] at hi hj
  rw [List.getElem_map, List.getElem_map] at e
  have hz := h.z i j hi hj (by omega)
  have g : ∀ k, (hk : k < T.length) → T.getD k [] = T[k] := fun k hk => by rw [List.getD_eq_getElem?_getD, List.getElem?_eq_getElem hk]; rfl
  unfold row at hz
  rw [g i hi, g j hj, e] at hz
  exact h.nz _ (List.getElem_mem hj) hz
theorem Told.split {w M : Nat} {rows T : List (List Int)} (h : Told w M rows T) {t : List Int} (ht : t ∈ T) : ∃ A C, T = A ++ t :: C ∧ (∀ u ∈ C, ld u ≠ ld t) ∧ ∀ u ∈ T, u ≠ t → co t (ld u) = 0 := by
  obtain ⟨i, hi, e⟩ := List.mem_iff_getElem.mp ht
  have g : ∀ k, (hk : k < T.length) → T.getD k [] = T[k] := fun k hk => by rw [List.getD_eq_getElem?_getD, List.getElem?_eq_getElem hk]; rfl
  obtain ⟨A, C, es⟩ := List.append_of_mem ht
  refine ⟨A, C, es, fun u hu eq => ?_, fun u hu ne => ?_⟩
  · have nd := h.nodup
    rw [es, List.map_append, List.map_cons] at nd
    have := (List.nodup_append.mp nd).2.1
    exact (List.nodup_cons.mp this).1 (List.mem_map.mpr ⟨u, hu, eq⟩)
  · obtain ⟨k, hk, e2⟩ := List.mem_iff_getElem.mp hu
    have hki : i ≠ k := fun z => by
      subst z
      exact ne (e2.symm.trans e)
    have hz := h.z k i hk hi hki
    unfold row at hz
    rw [g k hk, g i hi, e, e2] at hz
    exact hz
end K76

set_option Elab.async false
set_option linter.all false
set_option maxRecDepth 100000
set_option maxHeartbeats 2000000
set_option exponentiation.threshold 10000
/-! levels: acting is a sum of products with the level entries -/
namespace K76
open PySem PySem.Spec PyProof.Rows L2 FDivQ LA
def dotn (r c : List Int) (i : Nat) : List Int := tb i fun k => co r k * co c k
def dot (r c : List Int) : Int := (dotn r c r.length).sum
def fc : Nat → Nat
  | 0 => 1
  | n + 1 => (n + 1) * fc n
/-- the level entries -/
def lev (l : List Int) : List Int := tb l.length fun i => (fc i : Int) * (fc (l.length - 1 - i) : Int) * co l i
theorem S_ext {f : Nat → Int} {n : Nat} : ∀ {N : Nat}, n ≤ N → (∀ i, n ≤ i → f i = 0) → S N f = S n f
  | 0, h, _ => by
    have : n = 0 := by omega
    rw [this]
  | N + 1, h, hz => by
    by_cases c : n = N + 1
    · rw [c]
    · show S N f + f N = _
      rw [hz N (by omega), Int.add_zero, S_ext (by omega) hz]
theorem S_head (f : Nat → Int) (n : Nat) : S (n + 1) f = f 0 + S n fun i => f (i + 1) := by
  rw [S_skip f 0 n (Nat.zero_le _)]
  rfl
theorem conv_aux {m : List Int} : ∀ (l : List Int) (g : Nat → Int) (N : Nat), l.length + m.length ≤ N + 1 → S N (fun c => cv l (co m) c * g c) = S l.length fun a => co l a * S m.length fun b => co m b * g (a + b)
  | [], g, N, _ => by
    rw [S_zero fun i _ => by rw [cv_nil, Int.zero_mul]]
    rfl
  | x :: xs, g, N, h => by
    have hm : m.length ≤ N := by rw [List.length_cons] at h; omega
    have e1 : S m.length (fun b => co m b * g (0 + b)) = S N fun b => co m b * g b := by
      rw [S_ext (f := fun b => co m b * g b) hm fun i hi => by rw [co_far hi, Int.zero_mul]]
      exact S_congr fun b _ => by rw [Nat.zero_add]
    rw [List.length_cons, S_head]
    show _ = x * _ + S xs.length fun i => co xs i * S m.length fun b => co m b * g (i + 1 + b)
    rw [e1, ← S_mul]
    have e2 : (S xs.length fun i => co xs i * S m.length fun b => co m b * g (i + 1 + b)) = S xs.length fun i => co xs i * S m.length fun b => co m b * (fun c => g (c + 1)) (i + b) := S_congr fun i _ => by
      congr 1
      exact S_congr fun b _ => by
        show co m b * g (i + 1 + b) = co m b * g (i + b + 1)
        congr 2
        omega
    rw [e2]
    cases N with
    | zero =>
      rw [List.length_cons] at h
      have hx : xs = [] := List.eq_nil_of_length_eq_zero (by omega)
      subst hx
      rfl
    | succ N =>
      rw [← conv_aux xs (fun c => g (c + 1)) N (by rw [List.length_cons] at h; omega), S_head, S_head, cv_zero]
      have e3 : (S N fun i => cv (x :: xs) (co m) (i + 1) * g (i + 1)) = S N (fun i => x * (co m (i + 1) * g (i + 1))) + S N fun c => cv xs (co m) c * (fun c => g (c + 1)) c := by
        rw [← S_add]
        exact S_congr fun i _ => by rw [cv_succ, Int.add_mul, Int.mul_assoc]
      rw [e3, ← Int.mul_assoc, Int.add_assoc]
theorem conv {l m : List Int} (hm : m ≠ []) (g : Nat → Int) : S (ml l m).length (fun c => co (ml l m) c * g c) = S l.length fun a => co l a * S m.length fun b => co m b * g (a + b) := by
  rw [← conv_aux l g (ml l m).length (by rw [ml_len]; omega)]
  exact S_congr fun c _ => by rw [co_ml hm]
/-- the rows of the level table -/
def lrow (l : List Int) (d at_ : Nat) : List Int := tb (d + 1) fun a => co (lev l) (at_ + a)
def lrows (l : List Int) (d : Nat) : List (List Int) := (List.range (l.length - d)).map (lrow l d)
end K76

set_option Elab.async false
set_option linter.all false
set_option maxRecDepth 100000
set_option maxHeartbeats 2000000
set_option exponentiation.threshold 10000
/-! killers: kernels of level tables -/
namespace K76
open PySem PySem.Spec PyProof.Rows L2 FDivQ LA
def kern (rows : List (List Int)) (n : Nat) : List (List Int) := ech less (kvs (ech less rows n) n) n
/-- all of a kernel -/
structure KA (rows : List (List Int)) (w : Nat) : Prop where
  e : EOk less rows w
  t : ∀ t ∈ ech less rows w, t.length = w ∧ ld t < w
  k : KOk (ech less rows w)
  e2 : EOk less (kvs (ech less rows w) w) w
  len : ∀ k ∈ kern rows w, k.length = w
  dot : ∀ k ∈ kern rows w, ∀ r ∈ rows, S w (fun j => co k j * co r j) = 0
  bd : ∀ k ∈ kern rows w, ∀ j, (co k j).natAbs < 2 ^ 1500
  cnt : (kern rows w).length ≤ w
  sh : w ≤ 4 → ∀ k ∈ kern rows w, ∀ j, (co k j).natAbs < 10 ^ 60
end K76

set_option Elab.async false
set_option linter.all false
set_option maxRecDepth 100000
set_option maxHeartbeats 4000000
set_option exponentiation.threshold 10000
namespace K76
open PySem PySem.Spec PyProof.Rows L2 StX RZ MyR SlX OwnR OwnF EnumT GxR GenNx FDivQ
theorem RX.memA {p : Addr → List Int → Prop} : ∀ {as : List Addr} {rs : List (List Int)} {a : Addr}, RX p as rs → a ∈ as → ∃ r, r ∈ rs ∧ p a r
  | [], [], _, _, h => absurd h List.not_mem_nil
  | b :: as, r :: rs, a, h, ha => by
    rcases List.mem_cons.mp ha with rfl | ha
    · exact ⟨r, List.mem_cons_self, h.1⟩
    · obtain ⟨s, hs, k⟩ := RX.memA h.2 ha
      exact ⟨s, List.mem_cons_of_mem _ hs, k⟩
theorem RR.updN {H : Hp} {D : Addr} {o : HO} {as : List Addr} {rs : List (List Int)} (h : RR H as rs) (hn : ∀ a ∈ as, a ≠ D) : RR (L2.upd H D o) as rs := RX.impM (fun a ha r e => by rw [upd_ne (hn a ha)]; exact e) h
section
variable {P : Program} {w : World} {K : PySem.W.Frag} {mg : Str → Option Value} {base : Heap} {Ps : List Addr}
end
end K76

set_option Elab.async false
set_option linter.all false
set_option maxRecDepth 100000
set_option maxHeartbeats 4000000
set_option exponentiation.threshold 10000
/-! walks: level entries and level rows -/
namespace K76
open PySem PySem.Spec PyProof.Rows L2 StX RZ MyR SlX OwnR OwnF EnumT GxR GenNx FDivQ LA
theorem sm_small {x : Int} (h : x.natAbs ≤ 2 ^ 40) : sm x := Nat.lt_of_le_of_lt h (by decide +kernel)
theorem RT.same {H H' : Hp} {as : List Addr} {rs : List (List Int)} (h : RT H as rs) (s : Same H H') : RT H' as rs := RX.imp (fun a r e => s _ _ e) h
theorem RT.updL {H : Hp} {D : Addr} {o : HO} {xs : List V} {as : List Addr} {rs : List (List Int)} (h : RT H as rs) (hD : H D = some (.lst xs)) : RT (L2.upd H D o) as rs :=
  RX.imp (fun a r e => by rw [upd_ne (fun z => by rw [z, hD] at e; cases e)]; exact e) h
theorem RT.updN {H : Hp} {D : Addr} {o : HO} {as : List Addr} {rs : List (List Int)} (h : RT H as rs) (hn : ∀ a ∈ as, a ≠ D) : RT (L2.upd H D o) as rs := RX.impM (fun a ha r e => by rw [upd_ne (hn a ha)]; exact e) h
/-- a comprehension over a list of rows that makes a row of each -/
theorem lc_rowsT {K : PySem.W.Frag} {a : Addr} {fs : List Addr} {R : List (List Int)} {f : List Int → List Int} {te : TE} {σ : L2.St} {k : Nat} {H1 : Hp} {D : Addr} {Qd : Hp → Prop} (hD : H1 D = none) (ha : H1 a = some (.lst (fs.map V.ref))) (hR : RR H1 fs R) (hl : R.length ≤ 100)
    (hw : ∀ x, wipe ((wipe σ [k]).set k (some x)) [k] = wipe σ [k])
    (hte : ∀ (ad : Addr) (r : List Int) (H2 : Hp) (Q : VK), r ∈ R → Same H1 H2 → H2 ad = some (ls r) → (∀ q H3, Same H2 H3 → H3 q = some (tp (f r)) → Q (.ref q) H3) → te ((wipe σ [k]).set k (some (.ref ad))) H2 Q)
    (hd : ∀ bs H6, Same H1 H6 → H6 D = some (.lst (bs.map V.ref)) → RT H6 bs (R.map f) → Qd H6) :
    ∃ W : Nat → Nat → Hp → Prop, (∃ m, W 0 m (upd H1 D (.lst []))) ∧ ∀ i m H, W i m H →
      ((Itl K a).stop i H ∧ Qd H) ∨ ((Itl K a).go i H ∧ ∃ Nx : Hp → Prop, (∀ H', Nx H' → ∃ m', m' < m ∧ W (i + 1) m' H') ∧ ∀ x H', (Itl K a).yld i H x H' → gName k x (wipe σ [k]) H' fun σ2 H2 => wipe σ2 [k] = wipe σ [k] ∧ tYes σ2 H2 fun b H3 =>
        if b = true then te σ2 H3 fun y H4 => ∃ acc, H4 D = some (.lst acc) ∧ acc.length < sizeLine ∧ Nx (upd H4 D (.lst (acc ++ [y]))) else Nx H3) := by
  refine lc_list (xs := fs.map V.ref) (fun j H' => ∃ bs, Same H1 H' ∧ H' D = some (.lst (bs.map V.ref)) ∧ bs.length = j ∧ RT H' bs ((R.take j).map f)) ⟨[], same_upd0 hD, upd_same, rfl, True.intro⟩ (fun j H' _ hP => SqL.of (hP.choose_spec.1 _ _ ha)) (fun j x H' hx hP => ?_) (fun H' hP => ?_)
  · obtain ⟨bs, s1, h1, h2, h3⟩ := hP
    rw [List.getElem?_map] at hx
    obtain ⟨ad, had, rfl⟩ := Option.map_eq_some_iff.mp hx
    obtain ⟨ad', r, e1, e2, e3⟩ := RX.get hR (by rw [← hR.len]; exact (List.getElem?_eq_some_iff.mp had).1)
    rw [had] at e1
    cases e1
    have hj : j < R.length := (List.getElem?_eq_some_iff.mp e2).1
    refine ⟨hw _, ?_⟩
    show te _ _ _
    refine hte ad r H' _ (List.mem_of_getElem? e2) s1 (s1 _ _ e3) fun q H3 s3 e4 => ⟨bs.map V.ref, s3 _ _ h1, ?_, bs ++ [q], fun b o e => ?_, ?_, ?_, ?_⟩
    · rw [List.length_map, h2]
      exact small1000 (by omega)
    · rw [upd_ne (ne_of_none e hD)]
      exact s3 _ _ (s1 _ _ e)
    · rw [upd_same, List.map_append]
      rfl
    · rw [List.length_append, h2]
      rfl
    · rw [List.take_add_one, e2, List.map_append]
      refine RX.snoc (RT.updL (RT.same h3 s3) (s3 _ _ h1)) ?_
      show upd H3 D _ q = _
      by_cases hq : q = D
      · rw [hq, s3 _ _ h1] at e4
        cases e4
      · rw [upd_ne hq]
        exact e4
  · obtain ⟨bs, s1, h1, h2, h3⟩ := hP
    rw [List.length_map, hR.len, List.take_length] at h3
    exact hd bs H' s1 h1 h3
/-- at t a tuple of tuples of ints -/
def Tl2 (H : Hp) (t : Addr) (rows : List (List Int)) : Prop := ∃ as : List Addr, H t = some (.tup (as.map V.ref)) ∧ RT H as rows
theorem Tl2.same {H H' : Hp} {t : Addr} {rows : List (List Int)} (h : Tl2 H t rows) (s : Same H H') : Tl2 H' t rows := by
  obtain ⟨as, h1, h2⟩ := h
  exact ⟨as, s _ _ h1, h2.same s⟩
/-- a comprehension over range(n) that makes a row of each -/
theorem lc_rangeT {n : Nat} {f : Nat → List Int} {te : TE} {σ : L2.St} {k : Nat} {H1 : Hp} {D : Addr} {Qd : Hp → Prop} (hD : H1 D = none) (hl : n ≤ 100)
    (hw : ∀ x, wipe ((wipe σ [k]).set k (some x)) [k] = wipe σ [k])
    (hte : ∀ (i : Nat) (H2 : Hp) (Q : VK), i < n → Same H1 H2 → (∀ q H3, Same H2 H3 → H3 q = some (tp (f i)) → Q (.ref q) H3) → te ((wipe σ [k]).set k (some (.int (i : Nat)))) H2 Q)
    (hd : ∀ bs H6, Same H1 H6 → H6 D = some (.lst (bs.map V.ref)) → RT H6 bs ((List.range n).map f) → Qd H6) :
    ∃ W : Nat → Nat → Hp → Prop, (∃ m, W 0 m (upd H1 D (.lst []))) ∧ ∀ i m H, W i m H →
      ((Itr 0 n).stop i H ∧ Qd H) ∨ ((Itr 0 n).go i H ∧ ∃ Nx : Hp → Prop, (∀ H', Nx H' → ∃ m', m' < m ∧ W (i + 1) m' H') ∧ ∀ x H', (Itr 0 n).yld i H x H' → gName k x (wipe σ [k]) H' fun σ2 H2 => wipe σ2 [k] = wipe σ [k] ∧ tYes σ2 H2 fun b H3 =>
        if b = true then te σ2 H3 fun y H4 => ∃ acc, H4 D = some (.lst acc) ∧ acc.length < sizeLine ∧ Nx (upd H4 D (.lst (acc ++ [y]))) else Nx H3) := by
  refine lc_range (n := n) (fun j H' => ∃ bs, Same H1 H' ∧ H' D = some (.lst (bs.map V.ref)) ∧ bs.length = j ∧ RT H' bs ((List.range j).map f)) ⟨[], same_upd0 hD, upd_same, rfl, True.intro⟩ (fun j H' hj hP => ?_) (fun H' hP => ?_)
  · obtain ⟨bs, s1, h1, h2, h3⟩ := hP
    rw [Int.zero_add]
    refine ⟨hw _, ?_⟩
    show te _ _ _
    refine hte j H' _ hj s1 fun q H3 s3 e4 => ⟨bs.map V.ref, s3 _ _ h1, ?_, bs ++ [q], fun b o e => ?_, ?_, ?_, ?_⟩
    · rw [List.length_map, h2]
      exact small1000 (by omega)
    · rw [upd_ne (ne_of_none e hD)]
      exact s3 _ _ (s1 _ _ e)
    · rw [upd_same, List.map_append]
      rfl
    · rw [List.length_append, h2]
      rfl
    · rw [List.range_succ, List.map_append]
      have hD3 := s3 _ _ h1
      refine RX.snoc ((h3.same s3).updN fun a ha => ?_) ?_
      · obtain ⟨r, _, e⟩ := RX.memA (h3.same s3) ha
        intro z
        rw [z, hD3] at e
        cases e
      · show upd H3 D _ q = _
        rw [upd_ne fun z => by rw [z, hD3] at e4; cases e4]
        exact e4
  · obtain ⟨bs, s1, h1, h2, h3⟩ := hP
    exact hd bs H' s1 h1 h3
/-- forms that levels are asked of -/
structure Lw (l : List Int) : Prop where
  l1 : 1 ≤ l.length
  l8 : l.length ≤ 9
  sm : ∀ x ∈ l, x.natAbs < 2 ^ 3900
section
variable {P : Program} {w : World} {K : PySem.W.Frag} {mg : Str → Option Value} {base : Heap} {Ps : List Addr}
end
end K76

set_option Elab.async false
set_option linter.all false
set_option maxRecDepth 100000
set_option maxHeartbeats 4000000
set_option exponentiation.threshold 10000
namespace K76
open PySem PySem.Spec PyProof.Rows L2 StX RZ MyR SlX OwnR OwnF EnumT GxR GenNx FDivQ LA
theorem gl_cont : ∀ (l : List Int), cont l = gl l := fun l => by
  have key : ∀ n, n ≤ l.length → cont (l.take n) = gl (l.take n) := fun n => by
    induction n with
    | zero => exact fun _ => rfl
    | succ n ih =>
      intro h
      rw [take_snoc (by omega), cont_snoc, ih (by omega)]
      unfold gl
      rw [List.foldl_append]
      rfl
  have := key l.length (Nat.le_refl _)
  rw [List.take_length] at this
  exact this
section
variable {P : Program} {w : World} {K : PySem.W.Frag} {mg : Str → Option Value} {base : Heap} {Ps : List Addr}
def spLLess : Sp := fun vs H Q _ => ∃ (a b : Addr) (row head : List Int) (p : Nat), vs = [.ref a, .ref b, .int p] ∧ H a = some (ls row) ∧ H b = some (ls head) ∧ row.length = head.length ∧ row.length ≤ 100 ∧ p < row.length ∧ LessOk row head p ∧ ∀ q H', Same H H' → H' q = some (ls (lless row head p)) → Q (.ref q) H'
theorem ok_law_sharedG (T : Facts K mg) : FnOk P w K mg base CX0 2 T.f_law_shared T.fd_law_shared ["_law_numbers"] (spSharedS K) := (ok_law_sharedC T).imp fun vs H Q E h => by
  obtain ⟨t, ns, rfl, ht, q⟩ := h
  rw [← gl_cont] at q
  exact ⟨t, ns, rfl, ht, q⟩
theorem ok_law_less (T : Facts K mg) : FnOk P w K mg base CX0 3 T.f_law_less T.fd_law_less ["_law_row", "_law_head", "_law_place"] spLLess := by
  have G_law_shared : FnOk P w K mg base CX0 2 T.f_law_shared T.fd_law_shared ["_law_numbers"] (spSharedS K) := ok_law_sharedG T
  have G_law_gcd : FnOk P w K mg base CX0 1 T.f_law_gcd T.fd_law_gcd ["_law_one", "_law_other"] spLGcd := ok_law_gcd T
  refine T.F_law_less.ok sc_law_less (fun vs H Q E h => ?_) (fun cdv A outer s H vs Q E hr h => ?_)
  · obtain ⟨a, b, row, head, p, rfl, _⟩ := h
    rfl
  · obtain ⟨a, b, row, head, p, rfl, ha, hb, hl, hl1, hp, k, q⟩ := h
    refine ⟨_, (PSs.nox (pss_cons (ps_asg (pe_tup (pa_cons (pe_ix ix_list (pv 1) (pv 2) (fun _ _ => rfl)) (pa_cons (pe_ix ix_list (pv 0) (pv 2) (fun _ _ => rfl)) pa_nil))) (pg_tup (by rfl) (pgs_cons (pg_name (i := 3) sc_law_less.nd rfl (.inr rfl)) (pgs_cons (pg_name (i := 4) sc_law_less.nd rfl (.inr rfl)) pgs_nil))))
    (pss_cons (ps_set (i := 5) sc_law_less.nd rfl (.inr rfl) (pe_call G_law_gcd (hr.mono (by decide)) (by rfl) T.g_law_gcd T.F_law_gcd.kp T.b_law_gcd .nil pass0 (pa_cons (pv 3) (pa_cons (pv 4) pa_nil))))
    (pss_cons (ps_setLc (i := 6) (own := [("_law_entry", 7), ("_law_taken", 8)]) (g := (gTup K 2 (gCons (gName 7) (gCons (gName 8) gNil)))) (tt := tYes) rfl sc_law_less.nd rfl rfl (sw_true rfl rfl rfl (by decide +kernel)) (pi_zipA (by rfl) T.z_zip (pa_cons (pv 0) (pa_cons (pv 1) pa_nil))) (blkOk_by (N := N_law_less) (sc := defScope s_law_less) (by decide +kernel)) (fun _ _ _ _ _ => (pg_tup (by rfl) (pgs_cons (pg_name (i := 7) sc_law_less.nd rfl (.inl rfl)) (pgs_cons (pg_name (i := 8) sc_law_less.nd rfl (.inl rfl)) pgs_nil)))) (fun _ _ _ _ _ => pts_nil) (fun _ _ _ _ _ => (pe_op op_sub (pe_op op_mulW (pv 7) (pe_op FDivQ.op_fdivQ (pv 3) (pv 5))) (pe_op op_mulW (pe_op FDivQ.op_fdivQ (pv 4) (pv 5)) (pv 8)))))
    (pss_cons (ps_set (i := 9) sc_law_less.nd rfl (.inr rfl) (pe_call G_law_shared hr (by rfl) T.g_law_shared T.F_law_shared.kp T.b_law_shared .nil pass0 (pa_cons (pv 6) pa_nil)))
    (pss_one (ps_ret (pe_ifExp (pt_cmpR op_gt (pv 9) pe_int (nomark _)) (pe_lc (own := [("_law_entry", 7)]) (g := (gName 7)) (tt := tYes) (by rfl) sc_law_less.nd (pi_list (pv 6)) (blkOk_by (N := N_law_less) (sc := defScope s_law_less) (by decide +kernel)) (fun _ _ _ _ _ => (pg_name (i := 7) sc_law_less.nd rfl (.inl rfl))) (fun _ _ _ _ _ => pts_nil) (fun _ _ _ _ _ => (pe_op FDivQ.op_fdivQ (pv 7) (pv 9)))) (pv 6))))))))), ?_⟩
    refine ⟨_, rfl, _, rfl, b, _, p, .int (co head p), rfl, rfl, SqL.of hb, atI_nat (get_int (by omega)), _, rfl, _, rfl, a, _, p, .int (co row p), rfl, rfl, SqL.of ha, atI_nat (get_int hp), sz2, fun t1 n1 => ?_⟩
    refine ⟨t1, _, rfl, SqT.of upd_same, rfl, _, _, rfl, _, _, rfl, rfl, ?_⟩
    have s2 := same_upd0 (o := .tup [.int (co head p), .int (co row p)]) n1
    generalize upd H t1 (.tup [.int (co head p), .int (co row p)]) = H2 at s2 ⊢
    refine ⟨_, rfl, _, rfl, _, _, rfl, ?_⟩
    have m1 := k.m1
    have m2 := k.m2
    have dd := k.d
    have c1 := k.c1
    have c2 := k.c2
    have el : lless row head p = if 1 < gl (lf row head p) then dv (lf row head p) (gl (lf row head p)) else lf row head p := rfl
    have ef : lf row head p = tb row.length fun k => co row k * (co head p).fdiv (Nat.gcd (co head p).natAbs (co row p).natAbs : Nat) - (co row p).fdiv (Nat.gcd (co head p).natAbs (co row p).natAbs : Nat) * co head k := rfl
    rw [el] at q
    clear k el
    generalize lf row head p = f at ef q dd
    refine ⟨_, rfl, _, rfl, a, b, _, _, rfl, .inl ⟨SqL.of (s2 _ _ ha), SqL.of (s2 _ _ hb), fun D hD => ?_⟩⟩
    refine lc_zipL (xs := row.map V.int) (ys := head.map V.int) (by rw [List.length_map, List.length_map, hl]) (fun j H' => Same H2 H' ∧ H' D = some (.lst (tab j fun k => co row k * (co head p).fdiv (Nat.gcd (co head p).natAbs (co row p).natAbs : Nat) - (co row p).fdiv (Nat.gcd (co head p).natAbs (co row p).natAbs : Nat) * co head k))) ⟨same_upd0 hD, upd_same⟩ (fun j H' _ hP => ⟨SqL.of (hP.1 _ _ (s2 _ _ ha)), SqL.of (hP.1 _ _ (s2 _ _ hb))⟩) (fun j x y A H' hx hy hP hA => ?_) (fun H' hP => ?_)
    · obtain ⟨sH, hD'⟩ := hP
      obtain ⟨hj, rfl⟩ := int_get hx
      obtain ⟨_, rfl⟩ := int_get hy
      have sA := same_upd0 (o := .tup [.int (co row j), .int (co head j)]) hA
      refine ⟨A, _, rfl, SqT.of upd_same, rfl, _, _, rfl, _, _, rfl, rfl, rfl, _, rfl, _, rfl, _, rfl, _, _, rfl, rfl, c1, _, _, rfl, rfl, m1 j hj, _, rfl, _, rfl, _, _, rfl, rfl, c2, _, rfl, _, _, rfl, rfl, m2 j hj, _, _, rfl, rfl, _, sA _ _ hD', ?_, fun b o e => ?_, ?_⟩
      · rw [tab_len]
        exact small1000 (by omega)
      · rw [upd_ne (ne_of_none e hD)]
        exact sA _ _ (sH _ _ e)
      · rw [upd_same, ← tab_snoc]
    · obtain ⟨s3, hL⟩ := hP
      rw [List.length_map, tab_tb, ← ef] at hL
      have hfl : f.length ≤ 100 := by rw [ef, tb_len]; exact hl1
      have s4 : Same H H' := fun b o e => s3 _ _ (s2 _ _ e)
      refine ⟨_, rfl, D, f, rfl, .inr (SqL.of hL), ?_⟩
      refine ⟨_, rfl, _, _, rfl, rfl, _, rfl, ?_⟩
      by_cases d : 1 < gl f
      · rw [decide_eq_true (show (1 : Int) < ((gl f : Nat) : Int) by omega)]
        rw [if_pos d] at q
        refine iteT ⟨_, rfl, D, rfl, ⟨_, SqL.of hL⟩, fun D2 hD2 => ?_⟩
        refine lc_list (xs := f.map V.int) (fun j H3 => H3 = upd H' D2 (.lst (tab j fun k => (co f k).fdiv (gl f)))) rfl (fun j H3 _ hP => ?_) (fun j x H3 hx hP => ?_) (fun H3 hP => ?_)
        · rw [hP]
          exact SqL.of (same_upd0 hD2 _ _ hL)
        · subst hP
          obtain ⟨hj, rfl⟩ := int_get hx
          refine ⟨rfl, _, rfl, _, rfl, _, _, rfl, rfl, dd (by omega) _ (co_memE hj), _, upd_same, ?_, ?_⟩
          · rw [tab_len]
            exact small1000 (by omega)
          · rw [upd_upd, ← tab_snoc]
        · subst hP
          rw [List.length_map]
          refine q D2 _ (fun b o e => same_upd0 hD2 _ _ (s4 _ _ e)) ?_
          rw [upd_same, tab_tb, dv_tb]
      · rw [decide_eq_false (show ¬ (1 : Int) < ((gl f : Nat) : Int) by omega)]
        rw [if_neg d] at q
        exact iteF ⟨_, rfl, q D H' s4 hL⟩
end
theorem gl_all0 : ∀ (l : List Int), (∀ x ∈ l, x = 0) → gl l = 0 := fun l h => by
  unfold gl
  induction l with
  | nil => rfl
  | cons x l ih =>
    rw [List.foldl_cons, h x List.mem_cons_self]
    exact ih fun y hy => h y (List.mem_cons_of_mem _ hy)
theorem foE_filter {l : List Int} (h : gl l ≠ 0) : ∃ r, l.filter (fun x => x != 0) = foE l :: r := by
  cases e : l.filter (fun x => x != 0) with
  | nil =>
    exfalso
    refine h (gl_all0 l fun x hx => ?_)
    have := List.filter_eq_nil_iff.mp e x hx
    simpa using this
  | cons y r =>
    refine ⟨r, ?_⟩
    have q : l.find? (· != 0) = some y := by
      rw [← List.head?_filter, e]
      rfl
    unfold foE
    rw [q]
    rfl
section
variable {P : Program} {w : World} {K : PySem.W.Frag} {mg : Str → Option Value} {base : Heap} {Ps : List Addr}
def spPlain : Sp := fun vs H Q _ => ∃ (t : Addr) (l : List Int), vs = [.ref t] ∧ H t = some (tp l) ∧ l.length ≤ 100 ∧ DivOk l ∧ ∀ p H', Same H H' → H' p = some (tp (primE l)) → Q (.ref p) H'
theorem ok_law_plainE (T : Facts K mg) : FnOk P w K mg base CX0 3 T.f_law_plain T.fd_law_plain ["_law_form_here"] spPlain := by
  have G_law_shared : FnOk P w K mg base CX0 2 T.f_law_shared T.fd_law_shared ["_law_numbers"] (spSharedS K) := ok_law_sharedG T
  refine T.F_law_plain.ok sc_law_plain (fun vs H Q E h => ?_) (fun cdv A outer s H vs Q E hr h => ?_)
  · obtain ⟨t, ns, rfl, _⟩ := h
    rfl
  · obtain ⟨t, ns, rfl, ht, hl, hdo, q⟩ := h
    refine ⟨_, (PSs.nox (pss_cons (ps_set (i := 1) sc_law_plain.nd rfl (.inr rfl) (pe_call G_law_shared hr (by rfl) T.g_law_shared T.F_law_shared.kp T.b_law_shared .nil pass0 (pa_cons (pv 0) pa_nil)))
    (pss_cons (ps_if (pt_cmpR op_eq (pv 1) pe_int (nomark _))
      (pss_one (ps_ret (pv 0)))
      pss_nil)
    (pss_cons (ps_set (i := 2) sc_law_plain.nd rfl (.inr rfl) (pe_ix ix_list (pe_lc (own := [("_law_entry", 3)]) (g := (gName 3)) (by rfl) sc_law_plain.nd (pi_tup (pv 0)) (blkOk_by (N := N_law_plain) (sc := defScope s_law_plain) (by decide +kernel)) (fun _ _ _ _ _ => (pg_name (i := 3) sc_law_plain.nd rfl (.inl rfl))) (fun _ _ _ _ _ => (pts_one (pt_cmpR op_ne (pv 3) pe_int (nomark _)))) (fun _ _ _ _ _ => (pv 3))) pe_int (fun _ _ => rfl)))
    (pss_one (ps_ret (pe_tupleOf (by rfl) T.z_tuple (pe_lc (own := [("_law_entry", 3)]) (g := (gName 3)) (tt := tYes) (by rfl) sc_law_plain.nd (pi_tup (pv 0)) (blkOk_by (N := N_law_plain) (sc := defScope s_law_plain) (by decide +kernel)) (fun _ _ _ _ _ => (pg_name (i := 3) sc_law_plain.nd rfl (.inl rfl))) (fun _ _ _ _ _ => pts_nil) (fun _ _ _ _ _ => (pe_op FDivQ.op_fdivQ (pv 3) (pe_ifExp (pt_cmpR op_gt (pv 2) pe_int (nomark _)) (pv 1) (pe_op op_sub pe_int (pv 1))))))))))))), ?_⟩
    refine ⟨_, rfl, t, ns, rfl, .inl (SqT.of ht), _, rfl, rfl, _, rfl, ?_⟩
    by_cases c : gl ns = 0
    · rw [decide_eq_true (show V.int ((gl ns : Nat) : Int) = V.int 0 by rw [c]; rfl)]
      refine iteT ⟨_, rfl, q t H (fun _ _ e => e) ?_⟩
      unfold primE
      rw [if_pos c]
      exact ht
    · rw [decide_eq_false fun z => c (Int.natCast_eq_zero.mp (V.int.inj z))]
      obtain ⟨r0, e1⟩ := foE_filter c
      refine iteF ⟨_, rfl, t, rfl, ⟨_, SqT.of ht⟩, fun D hD => lc_tup (xs := ns.map V.int) (fun j H' => Same H H' ∧ H' D = some (.lst (((ns.take j).filter (fun x => x != 0)).map V.int))) ⟨same_upd0 hD, upd_same⟩ (fun j H' _ hP => SqT.of (hP.1 _ _ ht)) (fun j x H' hx hP => ?_) (fun H1 hP => ?_)⟩
      · obtain ⟨sH, hL⟩ := hP
        obtain ⟨hj, rfl⟩ := int_get hx
        refine ⟨rfl, _, rfl, rfl, _, rfl, ?_⟩
        rw [take_snoc hj, List.filter_append]
        by_cases d : co ns j = 0
        · rw [decide_eq_true (show V.int (co ns j) = V.int 0 by rw [d])]
          refine iteF ⟨sH, ?_⟩
          rw [hL, List.filter_cons_of_neg (by rw [d]; decide), List.filter_nil, List.append_nil]
        · rw [decide_eq_false fun z => d (V.int.inj z)]
          refine iteT ⟨_, rfl, _, hL, ?_, fun b o e => ?_, ?_⟩
          · have h1 := List.length_filter_le (fun x => x != 0) (ns.take j)
            rw [List.length_take] at h1
            rw [List.length_map]
            exact small1000 (by omega)
          · rw [upd_ne (ne_of_none e hD)]
            exact sH _ _ e
          · rw [upd_same, List.filter_cons_of_pos (by simpa using d), List.filter_nil, List.map_append]
            rfl
      · obtain ⟨s1, hL⟩ := hP
        rw [List.length_map, List.take_length, e1] at hL
        refine ⟨D, _, _, .int (foE ns), rfl, rfl, SqL.of hL, atI_nat (j := 0) rfl, ?_⟩
        have ht1 := s1 _ _ ht
        have en : primE ns = dv ns (if 0 < foE ns then ((gl ns : Nat) : Int) else 0 - ((gl ns : Nat) : Int)) := by
          unfold primE
          rw [if_neg c, Int.zero_sub]
        refine ⟨_, rfl, t, rfl, ⟨_, SqT.of ht1⟩, fun D2 hD2 => lc_tup (xs := ns.map V.int) (fun j H' => H' = upd H1 D2 (.lst (tab j fun k => (co ns k).fdiv (if 0 < foE ns then ((gl ns : Nat) : Int) else 0 - ((gl ns : Nat) : Int))))) rfl (fun j H' _ hP => ?_) (fun j x H' hx hP => ?_) (fun H' hP => ?_)⟩
        · rw [hP]
          exact SqT.of (same_upd0 hD2 _ _ ht1)
        · subst hP
          obtain ⟨hj, rfl⟩ := int_get hx
          refine ⟨rfl, _, rfl, _, rfl, foE ns, 0, rfl, rfl, _, rfl, ?_⟩
          by_cases d : 0 < foE ns
          · rw [decide_eq_true d]
            refine iteT ⟨_, rfl, _, _, rfl, rfl, hdo c _ (co_memE hj), _, upd_same, ?_, ?_⟩
            · rw [tab_len]
              exact small1000 (by omega)
            · rw [upd_upd, ← tab_snoc, if_pos d]
          · rw [decide_eq_false d]
            refine iteF ⟨_, rfl, _, _, rfl, rfl, _, _, rfl, rfl, by rw [Int.zero_sub]; exact cdivQ_neg (hdo c _ (co_memE hj)), _, upd_same, ?_, ?_⟩
            · rw [tab_len]
              exact small1000 (by omega)
            · rw [upd_upd, ← tab_snoc, if_neg d]
        · subst hP
          rw [List.length_map, tab_tb, dv_tb]
          refine .inl ⟨D2, _, rfl, SqL.of upd_same, fun p hp2 => ?_⟩
          refine q p _ (fun b o e => same_upd0 hp2 _ _ (same_upd0 hD2 _ _ (s1 _ _ e))) ?_
          rw [upd_same, en]
end
theorem eS_lenL {rows : List (List Int)} {n : Nat} (h : ∀ r ∈ rows, r.length = n) : ∀ p, (∀ r ∈ (eS lless rows p).1, r.length = n) ∧ ∀ r ∈ (eS lless rows p).2, r.length = n
  | 0 => ⟨h, fun r hr => absurd hr List.not_mem_nil⟩
  | p + 1 => by
    obtain ⟨h1, h2⟩ := eS_lenL h p
    show (∀ r ∈ (stp lless p (eS lless rows p)).1, r.length = n) ∧ ∀ r ∈ (stp lless p (eS lless rows p)).2, r.length = n
    cases e : hix (eS lless rows p).1 p with
    | none =>
      rw [stp_none e]
      exact ⟨h1, h2⟩
    | some k =>
      rw [stp_some e]
      refine ⟨fun r hr => ?_, fun r hr => ?_⟩
      · obtain ⟨x, hx, rfl⟩ := List.mem_map.mp hr
        rw [lless_len]
        exact h1 x (List.mem_of_mem_eraseIdx hx)
      · rcases List.mem_append.mp hr with hr | hr
        · obtain ⟨x, hx, rfl⟩ := List.mem_map.mp hr
          rw [lless_len]
          exact h2 x hx
        · rw [List.mem_singleton.mp hr]
          obtain ⟨hk, _, _⟩ := List.findIdx?_eq_some_iff_getElem.mp e
          rw [List.getD_eq_getElem?_getD, List.getElem?_eq_getElem hk]
          exact h1 _ (List.getElem_mem hk)
section
variable {P : Program} {w : World} {K : PySem.W.Frag} {mg : Str → Option Value} {base : Heap} {Ps : List Addr}
def spLEch : Sp := fun vs H Q _ => ∃ (t : Addr) (as : List Addr) (rows : List (List Int)) (n : Nat), vs = [.ref t, .int n] ∧ (H t = some (.tup (as.map V.ref)) ∨ H t = some (.lst (as.map V.ref))) ∧ RA H as rows ∧ rows.length ≤ 100 ∧ n ≤ 100 ∧ (∀ r ∈ rows, r.length = n) ∧
  EOk lless rows n ∧ ∀ p bs H', Same H H' → H' p = some (.lst (bs.map V.ref)) → RT H' bs (ech lless rows n) → Q (.ref p) H'
theorem ok_law_cleared (T : Facts K mg) : FnOk P w K mg base CX0 4 T.f_law_cleared T.fd_law_cleared ["_law_rows", "_law_width"] spLEch := by
  have G_law_less : FnOk P w K mg base CX0 3 T.f_law_less T.fd_law_less ["_law_row", "_law_head", "_law_place"] spLLess := ok_law_less T
  have G_law_plain : FnOk P w K mg base CX0 3 T.f_law_plain T.fd_law_plain ["_law_form_here"] spPlain := ok_law_plainE T
  refine T.F_law_cleared.ok sc_law_cleared (fun vs H Q E h => ?_) (fun cdv A outer s H vs Q E hr h => ?_)
  · obtain ⟨t, as, rows, n, rfl, _⟩ := h
    rfl
  · obtain ⟨t, as, rows, n, rfl, hS, hA, hl, hn, hw, ok, q⟩ := h
    refine ⟨_, (PSs.nox (pss_cons (ps_par (i := 2) (j := 3) (by rfl) sc_law_cleared.nd rfl rfl (by decide) rfl rfl (pa_cons (pe_lc (own := [("_law_row", 4)]) (g := (gName 4)) (tt := tYes) (by rfl) sc_law_cleared.nd (SeqE.PI_or (pi_tup (pv 0)) (pi_list (pv 0))) (blkOk_by (N := N_law_cleared) (sc := defScope s_law_cleared) (by decide +kernel)) (fun _ _ _ _ _ => (pg_name (i := 4) sc_law_cleared.nd rfl (.inl rfl))) (fun _ _ _ _ _ => pts_nil) (fun _ _ _ _ _ => (pe_callTy (ListOf.call_list_ofK (by rfl) : CallR _ (.type "list") (ListOf.rListOf K)) (by rfl) T.z_list (by decide +kernel) (pa_cons (pv 4) pa_nil)))) (pa_cons (pe_lst pa_nil) pa_nil)) (by rfl))
    (pss_cons (ps_for PassesOwn.never (by rfl) (pi_range1 (by rfl) T.z_range (pa_cons (pv 1) pa_nil)) (pg_name (i := 5) sc_law_cleared.nd rfl (.inr rfl))
      (pss_cons (ps_setLc (i := 6) (own := [("_law_row", 4), ("_law_at", 7)]) (g := (gTup K 2 (gCons (gName 7) (gCons (gName 4) gNil)))) rfl sc_law_cleared.nd rfl rfl (sw_true rfl rfl rfl (by decide +kernel)) (pi_enum (by rfl) T.z_enumerate (pa_cons (pv 2) pa_nil)) (blkOk_by (N := N_law_cleared) (sc := defScope s_law_cleared) (by decide +kernel)) (fun _ _ _ _ _ => (pg_tup (by rfl) (pgs_cons (pg_name (i := 7) sc_law_cleared.nd rfl (.inl rfl)) (pgs_cons (pg_name (i := 4) sc_law_cleared.nd rfl (.inl rfl)) pgs_nil)))) (fun _ _ _ _ _ => (pts_one (pt_cmpR op_ne (pe_ix (ix_list : IxR _ (rIxL K)) (pv 4) (pv 5) (fun _ _ => rfl)) pe_int (nomark _)))) (fun _ _ _ _ _ => (pv 7)))
      (pss_one (ps_if (pt_cmpR (op_neD (hu64 hr)) (pv 6) (pe_lst pa_nil) (nomark _))
        (pss_cons (ps_set (i := 8) sc_law_cleared.nd rfl (.inr rfl) (pe_bm PySem.F.plainAttrs_list PySem.F.slot_list_pop PySem.F.type_list_pop mt_popAt (pv 2) (pa_cons (pe_ix ix_list (pv 6) pe_int (fun _ _ => rfl)) pa_nil)))
        (pss_cons (ps_set (i := 3) sc_law_cleared.nd rfl (.inl rfl) (pe_op op_cat (pe_lc (own := [("_law_row", 4)]) (g := (gName 4)) (tt := tYes) (by rfl) sc_law_cleared.nd (pi_list (pv 3)) (blkOk_by (N := N_law_cleared) (sc := defScope s_law_cleared) (by decide +kernel)) (fun _ _ _ _ _ => (pg_name (i := 4) sc_law_cleared.nd rfl (.inl rfl))) (fun _ _ _ _ _ => pts_nil) (fun _ _ _ _ _ => (pe_call G_law_less hr (by rfl) T.g_law_less T.F_law_less.kp T.b_law_less .nil pass0 (pa_cons (pv 4) (pa_cons (pv 8) (pa_cons (pv 5) pa_nil)))))) (pe_lst (pa_cons (pv 8) pa_nil))))
        (pss_one (ps_setLc (i := 2) (own := [("_law_row", 4)]) (g := (gName 4)) (tt := tYes) rfl sc_law_cleared.nd rfl rfl (sw_true rfl rfl rfl (by decide +kernel)) (pi_list (pv 2)) (blkOk_by (N := N_law_cleared) (sc := defScope s_law_cleared) (by decide +kernel)) (fun _ _ _ _ _ => (pg_name (i := 4) sc_law_cleared.nd rfl (.inl rfl))) (fun _ _ _ _ _ => pts_nil) (fun _ _ _ _ _ => (pe_call G_law_less hr (by rfl) T.g_law_less T.F_law_less.kp T.b_law_less .nil pass0 (pa_cons (pv 4) (pa_cons (pv 8) (pa_cons (pv 5) pa_nil)))))))))
        pss_nil))))
    (pss_one (ps_ret (pe_lc (own := [("_law_row", 4)]) (g := (gName 4)) (tt := tYes) (by rfl) sc_law_cleared.nd (pi_list (pv 3)) (blkOk_by (N := N_law_cleared) (sc := defScope s_law_cleared) (by decide +kernel)) (fun _ _ _ _ _ => (pg_name (i := 4) sc_law_cleared.nd rfl (.inl rfl))) (fun _ _ _ _ _ => pts_nil) (fun _ _ _ _ _ => (pe_call G_law_plain hr (by rfl) T.g_law_plain T.F_law_plain.kp T.b_law_plain .nil pass0 (pa_cons (pe_tupleOf (by rfl) T.z_tuple (pv 4) : PE _ _ (tThen _ (kTup K))) pa_nil))))))))), ?_⟩
    have step : ∀ (i : Nat) (x : V) (D : Addr) (H' : Hp), H D = none → (as.map V.ref)[i]? = some x → (∃ bs, Same H H' ∧ H' D = some (.lst (bs.map V.ref)) ∧ bs.length = i ∧ RR H' bs (rows.take i)) →
        ∃ a r, x = .ref a ∧ (H' a = some (ls r) ∨ H' a = some (tp r)) ∧ ∀ l, H' l = none → ∃ acc, (upd H' l (ls r)) D = some (.lst acc) ∧ acc.length < sizeLine ∧ ∃ bs, Same H (upd (upd H' l (ls r)) D (.lst (acc ++ [.ref l]))) ∧ (upd (upd H' l (ls r)) D (.lst (acc ++ [.ref l]))) D = some (.lst (bs.map V.ref)) ∧ bs.length = i + 1 ∧ RR (upd (upd H' l (ls r)) D (.lst (acc ++ [.ref l]))) bs (rows.take (i + 1)) := fun i x D H' hD hx hP => by
      obtain ⟨bs, s1, h1, h2, h3⟩ := hP
      rw [List.getElem?_map] at hx
      obtain ⟨a, ha, rfl⟩ := Option.map_eq_some_iff.mp hx
      have hi : i < rows.length := by
        rw [← hA.len]
        exact (List.getElem?_eq_some_iff.mp ha).1
      obtain ⟨a', r, e1, e2, k⟩ := RX.get hA hi
      rw [ha] at e1
      cases e1
      refine ⟨a, r, rfl, k.symm.imp (s1 _ _) (s1 _ _), fun l hl => ⟨bs.map V.ref, ?_, ?_, bs ++ [l], ?_, ?_, ?_, ?_⟩⟩
      · exact same_upd0 hl _ _ h1
      · rw [List.length_map, h2]
        exact small1000 (by omega)
      · intro b o e
        rw [upd_ne (ne_of_none e hD)]
        exact same_upd0 hl _ _ (s1 _ _ e)
      · rw [upd_same, List.map_append]
        rfl
      · rw [List.length_append, h2]
        rfl
      · have lD : l ≠ D := fun e => by
          rw [e, h1] at hl
          cases hl
        have hr2 : RR (upd H' l (ls r)) bs (rows.take i) := h3.same (same_upd0 hl)
        have et : rows.take (i + 1) = rows.take i ++ [r] := by
          rw [List.take_add_one, e2]
          rfl
        rw [et]
        refine RX.snoc (RR.upd hr2 (same_upd0 hl _ _ h1) fun z => z) ?_
        show upd (upd H' l (ls r)) D _ l = _
        rw [upd_ne lD]
        exact upd_same
    rcases hS with hS | hS
    case' inl =>
      refine .inl ⟨_, rfl, t, rfl, ⟨_, SqT.of hS⟩, fun D hD => ?_⟩
      refine lc_tup (xs := as.map V.ref) (fun j H' => ∃ bs, Same H H' ∧ H' D = some (.lst (bs.map V.ref)) ∧ bs.length = j ∧ RR H' bs (rows.take j)) ⟨[], same_upd0 hD, upd_same, rfl, True.intro⟩ (fun j H' _ hP => SqT.of (hP.choose_spec.1 _ _ hS)) (fun j x H' hx hP => by
        obtain ⟨a, r, rfl, k, f⟩ := step j x D H' hD hx hP
        exact ⟨rfl, _, rfl, a, r.map V.int, rfl, k.imp SqL.of SqT.of, fun l hl => f l hl⟩) (fun H1 hP => ?_)
    case' inr =>
      refine .inr ⟨_, rfl, t, rfl, ⟨_, SqL.of hS⟩, fun D hD => ?_⟩
      refine lc_list (xs := as.map V.ref) (fun j H' => ∃ bs, Same H H' ∧ H' D = some (.lst (bs.map V.ref)) ∧ bs.length = j ∧ RR H' bs (rows.take j)) ⟨[], same_upd0 hD, upd_same, rfl, True.intro⟩ (fun j H' _ hP => SqL.of (hP.choose_spec.1 _ _ hS)) (fun j x H' hx hP => by
        obtain ⟨a, r, rfl, k, f⟩ := step j x D H' hD hx hP
        exact ⟨rfl, _, rfl, a, r.map V.int, rfl, k.imp SqL.of SqT.of, fun l hl => f l hl⟩) (fun H1 hP => ?_)
    all_goals
      clear step
      obtain ⟨bs, s1, h1, h2, h3⟩ := hP
      rw [show rows.take ((as.map V.ref).length) = rows by rw [List.length_map, hA.len, List.take_length]] at h3
      have hbl := h3.len
      dsimp only [tCons, tLst, tNil]
      refine ⟨by decide, fun F hF => ⟨_, _, rfl, ?_⟩⟩
      have s2 : Same H (upd H1 F (.lst [])) := fun b o e => same_upd0 hF _ _ (s1 _ _ e)
      refine ⟨_, rfl, _, rfl, by omega, by omega, for_range (n := n) (fun i σ H' => ∃ L F ls' fs y4 y5 y6 y7 y8, σ = [some (.ref t), some (.int n), some (.ref L), some (.ref F), y4, y5, y6, y7, y8] ∧ Same H H' ∧ H L = none ∧ L ≠ F ∧ H' L = some (.lst (ls'.map V.ref)) ∧ H' F = some (.lst (fs.map V.ref)) ∧ RR H' ls' (eS lless rows i).1 ∧ RR H' fs (eS lless rows i).2) ⟨D, F, bs, [], none, none, none, none, none, rfl, s2, hD, (fun e => by rw [e, hF] at h1; cases h1), same_upd0 hF _ _ h1, upd_same, h3.same (same_upd0 hF), True.intro⟩ (fun i σ H' hi hP => ?_) (fun σ H' hP => ?_)⟩
      · obtain ⟨L, F, ls', fs, y4, y5, y6, y7, y8, rfl, sH, nL, nLF, eL, eF, rL, rF⟩ := hP
        rw [Int.zero_add]
        refine ⟨_, rfl, L, _, rfl, SqL.of eL, fun D2 hD2 => ?_⟩
        refine lc_enumL (xs := ls'.map V.ref) (fun j H3 => Same H' H3 ∧ H3 D2 = some (.lst ((((List.range j).filter fun k => co ((eS lless rows i).1.getD k []) i != 0).map fun (k : Nat) => (k : Int)).map V.int))) ⟨same_upd0 hD2, upd_same⟩ (fun j H3 _ hP => SqL.of (hP.1 _ _ eL)) (fun j x A H3 hx hP hA => ?_) (fun H3 hP => ?_)
        · obtain ⟨s3, hL⟩ := hP
          rw [List.getElem?_map] at hx
          obtain ⟨a, ha, rfl⟩ := Option.map_eq_some_iff.mp hx
          obtain ⟨a', r, e1, e2, k⟩ := RX.get rL (by rw [← rL.len]; exact (List.getElem?_eq_some_iff.mp ha).1)
          rw [ha] at e1
          cases e1
          have eg : (eS lless rows i).1.getD j [] = r := by rw [List.getD_eq_getElem?_getD, e2]; rfl
          have sA := same_upd0 (o := .tup [.int (j : Nat), .ref a]) hA
          have hri : i < r.length := by rw [(eS_lenL hw i).1 r (List.mem_of_getElem? e2)]; exact hi
          refine ⟨A, _, rfl, SqT.of upd_same, rfl, _, _, rfl, _, _, rfl, rfl, rfl, _, rfl, _, rfl, a, _, _, .int (co r i), rfl, rfl, SqL.of (sA _ _ (s3 _ _ k)), atI_nat (get_int hri), rfl, _, rfl, ?_⟩
          rw [List.range_succ, List.filter_append]
          by_cases d : co r i = 0
          · rw [decide_eq_true (show V.int (co r i) = V.int 0 by rw [d])]
            refine iteF ⟨fun b o e => sA _ _ (s3 _ _ e), ?_⟩
            rw [sA _ _ hL, List.filter_cons_of_neg (by rw [eg, d]; decide), List.filter_nil, List.append_nil]
          · rw [decide_eq_false fun z => d (V.int.inj z)]
            refine iteT ⟨_, rfl, _, sA _ _ hL, ?_, fun b o e => ?_, ?_⟩
            · rw [List.length_map, List.length_map]
              have hj : j < (eS lless rows i).1.length := (List.getElem?_eq_some_iff.mp e2).1
              have h1 := List.length_filter_le (fun k => co ((eS lless rows i).1.getD k []) i != 0) (List.range j)
              rw [List.length_range] at h1
              have := eS_cnt lless rows i
              exact small1000 (by omega)
            · rw [upd_ne (ne_of_none e hD2)]
              exact sA _ _ (s3 _ _ e)
            · rw [upd_same, List.filter_cons_of_pos (by rw [eg]; simpa using d), List.filter_nil, List.map_append, List.map_append]
              rfl
        · obtain ⟨s3, hL⟩ := hP
          rw [List.length_map, rL.len] at hL
          have hL : H3 D2 = some (.lst ((hds (eS lless rows i).1 i).map V.int)) := hL
          have s4 : Same H H3 := fun b o e => s3 _ _ (sH _ _ e)
          refine ⟨_, rfl, by decide, fun N hN => ne_lintsL (xs := hds (eS lless rows i).1 i) (ys := []) (SqL.of (same_upd0 hN _ _ hL)) (SqL.of upd_same) ⟨_, rfl, ?_⟩⟩
          have s5 : Same H (upd H3 N (.lst [])) := fun b o e => same_upd0 hN _ _ (s4 _ _ e)
          have s6 : Same H' (upd H3 N (.lst [])) := fun b o e => same_upd0 hN _ _ (s3 _ _ e)
          cases eh : hix (eS lless rows i).1 i with
          | none =>
            have e0 : hds (eS lless rows i).1 i = [] := by
              have q := hds_hix (eS lless rows i).1 i
              rw [eh] at q
              cases e1 : hds (eS lless rows i).1 i with
              | nil => rfl
              | cons y ys =>
                rw [e1] at q
                cases q
            rw [e0]
            refine iteF ⟨L, F, ls', fs, y4, some (.int i), some (.ref D2), y7, y8, rfl, s5, nL, nLF, s6 _ _ eL, s6 _ _ eF, ?_, ?_⟩
            · show RR _ ls' (stp lless i (eS lless rows i)).1
              rw [stp_none eh]
              exact rL.same s6
            · show RR _ fs (stp lless i (eS lless rows i)).2
              rw [stp_none eh]
              exact rF.same s6
          | some h =>
            have q := hds_hix (eS lless rows i).1 i
            rw [eh] at q
            have en : hds (eS lless rows i).1 i ≠ [] := fun z => by
              rw [z] at q
              cases q
            rw [decide_eq_false en]
            have hL2 := same_upd0 (o := .lst []) hN _ _ hL
            generalize upd H3 N (.lst []) = H4 at s5 s6 hL2 ⊢
            refine iteT ?_
            obtain ⟨hh, _, _⟩ := List.findIdx?_eq_some_iff_getElem.mp eh
            obtain ⟨ad, r, g1, g2, g3⟩ := RX.get rL hh
            have eg : (eS lless rows i).1.getD h [] = r := by rw [List.getD_eq_getElem?_getD, g2]; rfl
            have hll : h < (ls'.map V.ref).length := by
              rw [List.length_map]
              exact (List.getElem?_eq_some_iff.mp g1).1
            have hsm : (ls'.map V.ref).length ≤ 100 := by have := eS_cnt lless rows i; rw [List.length_map, rL.len]; omega
            have hsi : seqIndex? (h : Int) (ls'.map V.ref).length = some h := by
              unfold seqIndex?
              have n1 : ¬ ((h : Int) < 0) := by omega
              simp only [if_neg n1]
              rw [if_pos (by simp; simpa using hll)]
              rfl
            have q0 : ((hds (eS lless rows i).1 i).map V.int)[0]? = some (V.int (h : Nat)) := by
              rw [List.getElem?_map, q]
              rfl
            refine ⟨_, rfl, .inl ⟨rfl, _, SqL.of (s6 _ _ eL)⟩, _, rfl, D2, _, 0, .int (h : Nat), rfl, rfl, SqL.of hL2, atI_nat (j := 0) q0, L, _, (h : Nat), h, .ref ad, rfl, rfl, s6 _ _ eL, by omega, by omega, hsi, by rw [List.getElem?_map, g1]; rfl, ?_⟩
            have s7 : Same H (upd H4 L (.lst ((ls'.map V.ref).eraseIdx h))) := fun b o e => by
              rw [upd_ne (ne_of_none e nL)]
              exact s5 _ _ e
            have eL7 : (upd H4 L (.lst ((ls'.map V.ref).eraseIdx h))) L = some (.lst ((ls'.eraseIdx h).map V.ref)) := by
              rw [upd_same]
              rw [erase_map]
            have eF7 : (upd H4 L (.lst ((ls'.map V.ref).eraseIdx h))) F = some (.lst (fs.map V.ref)) := by
              rw [upd_ne (Ne.symm nLF)]
              exact s6 _ _ eF
            have hls : ls' ≠ [] := fun z => by
              rw [z] at hll
              exact absurd hll (Nat.not_lt_zero _)
            have rL7 : RR (upd H4 L (.lst ((ls'.map V.ref).eraseIdx h))) (ls'.eraseIdx h) ((eS lless rows i).1.eraseIdx h) := RX.erase h (RR.upd (rL.same s6) (s6 _ _ eL) fun _ => hls)
            have rF7 : RR (upd H4 L (.lst ((ls'.map V.ref).eraseIdx h))) fs (eS lless rows i).2 := RR.upd (rF.same s6) (s6 _ _ eL) fun _ => hls
            have g7 : (upd H4 L (.lst ((ls'.map V.ref).eraseIdx h))) ad = some (ls r) := by
              rw [upd_ne (row_ne (s6 _ _ g3) (s6 _ _ eL) hls)]
              exact s6 _ _ g3
            generalize upd H4 L (.lst ((ls'.map V.ref).eraseIdx h)) = H7 at s7 eL7 eF7 rL7 rF7 g7 ⊢
            have hok := ok.l i hi h eh
            rw [eg] at hok
            obtain ⟨n1, n2⟩ := eS_lenL hw i
            have hrl : r.length = n := n1 r (List.mem_of_getElem? g2)
            have hFl : (eS lless rows i).2.length ≤ 100 := by have := eS_cnt lless rows i; omega
            refine ⟨_, rfl, F, rfl, ⟨_, SqL.of eF7⟩, fun N2 hN2 => lc_rows (f := fun x => lless x r i) hN2 eF7 rF7 hFl (fun _ => rfl) (fun ad2 r2 H2 Q2 hr2 s8 e8 kq => ⟨_, rfl, _, rfl, _, rfl, ad2, ad, r2, r, i, rfl, e8, s8 _ _ g7, by rw [n2 r2 hr2, hrl], by rw [n2 r2 hr2]; exact hn, by rw [n2 r2 hr2]; exact hi, hok r2 (.inr hr2), kq⟩) (fun r2 hr2 z => ?_) (fun bs8 H8 s8 e8 r8 => ?_)⟩
            · have := lless_len r2 r i
              rw [z, n2 r2 hr2] at this
              have : 0 = n := this
              omega
            · refine ⟨_, rfl, (show 1 ≤ sizeLine by decide), fun N3 hN3 => ⟨N2, N3, bs8.map V.ref, [.ref ad], rfl, rfl, same_upd0 hN3 _ _ e8, upd_same, ?_, fun F2 hF2 => ?_⟩⟩
              · rw [List.length_map, r8.len, List.length_map]
                exact Nat.le_trans (Nat.add_le_add_right hFl 1) (by decide)
              have s8' : Same H7 (upd H8 N3 (.lst [.ref ad])) := fun b o e => same_upd0 hN3 _ _ (s8 _ _ e)
              have r8' := r8.same (same_upd0 (o := .lst [.ref ad]) hN3)
              generalize upd H8 N3 (.lst [.ref ad]) = H8' at s8' r8' hF2 ⊢
              have s9 : Same H7 (upd H8' F2 (.lst (bs8.map V.ref ++ [.ref ad]))) := fun b o e => same_upd0 hF2 _ _ (s8' _ _ e)
              have eF9 : (upd H8' F2 (.lst (bs8.map V.ref ++ [.ref ad]))) F2 = some (.lst ((bs8 ++ [ad]).map V.ref)) := by
                rw [upd_same, List.map_append]
                rfl
              have r9 : RR (upd H8' F2 (.lst (bs8.map V.ref ++ [.ref ad]))) (bs8 ++ [ad]) ((eS lless rows i).2.map (fun x => lless x r i) ++ [r]) := RX.snoc (r8'.same (same_upd0 hF2)) (s9 _ _ g7)
              generalize upd H8' F2 (.lst (bs8.map V.ref ++ [.ref ad])) = H9 at s9 eF9 r9 ⊢
              have hLl : ((eS lless rows i).1.eraseIdx h).length ≤ 100 := by have := eS_cnt lless rows i; rw [List.length_eraseIdx_of_lt hh]; omega
              refine ⟨_, rfl, L, rfl, ⟨_, SqL.of (s9 _ _ eL7)⟩, fun L2 hL2 => lc_rows (f := fun x => lless x r i) hL2 (s9 _ _ eL7) (rL7.same s9) hLl (fun _ => rfl) (fun ad2 r2 H2 Q2 hr2 s8 e8 kq => ⟨_, rfl, _, rfl, _, rfl, ad2, ad, r2, r, i, rfl, e8, s8 _ _ (s9 _ _ g7), by rw [n1 r2 (List.mem_of_mem_eraseIdx hr2), hrl], by rw [n1 r2 (List.mem_of_mem_eraseIdx hr2)]; exact hn, by rw [n1 r2 (List.mem_of_mem_eraseIdx hr2)]; exact hi, hok r2 (.inl hr2), kq⟩) (fun r2 hr2 z => ?_) (fun bsA HA sA eA rA => ?_)⟩
              · have := lless_len r2 r i
                rw [z, n1 r2 (List.mem_of_mem_eraseIdx hr2)] at this
                have : 0 = n := this
                omega
              · have nL2 : H L2 = none := by
                  cases e : H L2 with
                  | none => rfl
                  | some o =>
                    rw [s9 _ _ (s7 _ _ e)] at hL2
                    cases hL2
                refine ⟨L2, F2, bsA, bs8 ++ [ad], y4, some (.int i), some (.ref D2), y7, some (.ref ad), rfl, fun b o e => sA _ _ (s9 _ _ (s7 _ _ e)), nL2, fun e => ?_, eA, sA _ _ eF9, ?_, ?_⟩
                · rw [e, eF9] at hL2
                  cases hL2
                · show RR HA bsA (stp lless i (eS lless rows i)).1
                  rw [stp_some eh, eg]
                  exact rA
                · show RR HA (bs8 ++ [ad]) (stp lless i (eS lless rows i)).2
                  rw [stp_some eh, eg]
                  exact r9.same sA
      · obtain ⟨L, F, ls', fs, y4, y5, y6, y7, y8, rfl, sH, nL, nLF, eL, eF, rL, rF⟩ := hP
        have hFl : (eS lless rows n).2.length ≤ 100 := by have := eS_cnt lless rows n; omega
        have n2 := (eS_lenL hw n).2
        refine ⟨_, rfl, F, rfl, ⟨_, SqL.of eF⟩, fun D2 hD2 => lc_rowsT (f := primE) hD2 eF rF hFl (fun _ => rfl) (fun ad r H2 Q2 hr2 s8 e8 kq => ⟨_, rfl, .inl ⟨ad, _, rfl, SqL.of e8, fun p hp => ⟨p, r, rfl, upd_same, by rw [n2 r hr2]; exact hn, ok.d r hr2, fun q3 H3 s3 e3 => kq q3 H3 (fun b o e => s3 _ _ (same_upd0 hp _ _ e)) e3⟩⟩⟩) (fun bs8 H8 s8 e8 r8 => q D2 bs8 H8 (fun b o e => s8 _ _ (sH _ _ e)) e8 r8)⟩
end
section
variable {P : Program} {w : World} {K : PySem.W.Frag} {mg : Str → Option Value} {base : Heap} {Ps : List Addr}
def spLRank : Sp := fun vs H Q _ => ∃ (t : Addr) (as : List Addr) (rows : List (List Int)) (n : Nat), vs = [.ref t, .int n] ∧ (H t = some (.tup (as.map V.ref)) ∨ H t = some (.lst (as.map V.ref))) ∧ RA H as rows ∧ rows.length ≤ 100 ∧ n ≤ 100 ∧ (∀ r ∈ rows, r.length = n) ∧
  EOk lless rows n ∧ ∀ H', Same H H' → Q (.int ((ech lless rows n).length : Nat)) H'
theorem ok_law_rank (T : Facts K mg) : FnOk P w K mg base CX0 5 T.f_law_rank T.fd_law_rank ["_law_rows", "_law_width"] spLRank := by
  have G_law_cleared := ok_law_cleared (P := P) (w := w) (base := base) T
  refine T.F_law_rank.ok sc_law_rank (fun vs H Q E h => ?_) (fun cdv A outer s H vs Q E hr h => ?_)
  · obtain ⟨t, as, rows, n, rfl, _⟩ := h
    rfl
  · obtain ⟨t, as, rows, n, rfl, hS, hA, hl, hn, hw, ok, q⟩ := h
    refine ⟨_, (PSs.nox (pss_one (ps_ret (pe_callB call_len_seq (by rfl) T.z_len (by decide +kernel) (pa_cons (pe_call G_law_cleared hr (by rfl) T.g_law_cleared T.F_law_cleared.kp T.b_law_cleared .nil pass0 (pa_cons (pv 0) (pa_cons (pv 1) pa_nil))) pa_nil))))), ?_⟩
    refine ⟨_, rfl, _, rfl, t, as, rows, n, rfl, hS, hA, hl, hn, hw, ok, fun p bs H1 s1 e1 r1 => ⟨p, bs.map V.ref, rfl, .inl (SqL.of e1), ?_⟩⟩
    rw [List.length_map, RX.len r1]
    exact q H1 s1
end
section
variable {P : Program} {w : World} {K : PySem.W.Frag} {mg : Str → Option Value} {base : Heap} {Ps : List Addr}
end
section
variable {P : Program} {w : World} {K : PySem.W.Frag} {mg : Str → Option Value} {base : Heap} {Ps : List Addr}
end
end K76

set_option Elab.async false
set_option linter.all false
set_option maxRecDepth 100000
set_option maxHeartbeats 4000000
namespace K76
open PySem PySem.Spec PyProof.Rows L2 StX RZ MyR SlX OwnR OwnF EnumT GxR
/-! ### dividing rows -/
/-- what is left behind i turns -/
def rmd (xs ys : List Int) : Nat → Nat → Int
  | 0 => co xs
  | i + 1 => fun k => rmd xs ys i k - (if i ≤ k then (rmd xs ys i (i + fi ys)).fdiv (co ys (fi ys)) * co ys (k - i) else 0)
def quo (xs ys : List Int) (i : Nat) : Int := (rmd xs ys i (i + fi ys)).fdiv (co ys (fi ys))
theorem rmd_succ (xs ys : List Int) (i k : Nat) : rmd xs ys (i + 1) k = rmd xs ys i k - (if i ≤ k then quo xs ys i * co ys (k - i) else 0) := rfl
theorem tb_snoc (n : Nat) (f : Nat → Int) : tb (n + 1) f = tb n f ++ [f n] := by
  unfold tb
  rw [List.range_succ, List.map_append]
  rfl
/-- how many turns there are -/
def mny (xs ys : List Int) : Nat := xs.length + 1 - ys.length
def GoodTo (xs ys : List Int) (i : Nat) : Prop := ∀ j, j < i → rmd xs ys (j + 1) (j + fi ys) = 0
instance (xs ys : List Int) (i : Nat) : Decidable (GoodTo xs ys i) := by unfold GoodTo; infer_instance
/-- the quotient of rows -/
def qd (xs ys : List Int) : Option (List Int) :=
  if xs.length < ys.length ∨ nzr (xs.take (fi ys)) = true then none
  else if GoodTo xs ys (mny xs ys) ∧ nzr (tb xs.length (rmd xs ys (mny xs ys))) = false then some (tb (mny xs ys) (quo xs ys)) else none
theorem qd_of {xs ys q : List Int} (h : qd xs ys = some q) : ys.length ≤ xs.length ∧ GoodTo xs ys (mny xs ys) ∧ nzr (tb xs.length (rmd xs ys (mny xs ys))) = false ∧ q = tb (mny xs ys) (quo xs ys) := by
  unfold qd at h
  by_cases h1 : xs.length < ys.length ∨ nzr (xs.take (fi ys)) = true
  · rw [if_pos h1] at h
    cases h
  · rw [if_neg h1] at h
    by_cases h2 : GoodTo xs ys (mny xs ys) ∧ nzr (tb xs.length (rmd xs ys (mny xs ys))) = false
    · rw [if_pos h2] at h
      exact ⟨Nat.le_of_not_lt fun z => h1 (.inl z), h2.1, h2.2, (Option.some.inj h).symm⟩
    · rw [if_neg h2] at h
      cases h
theorem qd_len {xs ys q : List Int} (h : qd xs ys = some q) : q.length = mny xs ys := by rw [(qd_of h).2.2.2, tb_len]
theorem rmd_bd {xs ys : List Int} {M B : Nat} (hx : ∀ z ∈ xs, z.natAbs ≤ M) (hy : ∀ z ∈ ys, z.natAbs ≤ B) : ∀ i k, (rmd xs ys i k).natAbs ≤ M * (1 + B) ^ i
  | 0, k => by
    rw [Nat.pow_zero, Nat.mul_one]
    show (co xs k).natAbs ≤ M
    rcases co_mem (l := xs) (k := k) with e | e
    · rw [e]; exact Nat.zero_le _
    · exact hx _ e
  | i + 1, k => by
    have h1 := rmd_bd hx hy i k
    have h2 := Nat.le_trans (Int.natAbs_fdiv_le_natAbs (rmd xs ys i (i + fi ys)) (co ys (fi ys))) (rmd_bd hx hy i (i + fi ys))
    have h3 : (co ys (k - i)).natAbs ≤ B := by
      rcases co_mem (l := ys) (k := k - i) with e | e
      · rw [e]; exact Nat.zero_le _
      · exact hy _ e
    rw [rmd_succ, Nat.pow_succ, ← Nat.mul_assoc, Nat.mul_add, Nat.mul_one]
    refine Nat.le_trans (Int.natAbs_sub_le _ _) (Nat.add_le_add h1 ?_)
    split
    · rw [Int.natAbs_mul]
      exact Nat.mul_le_mul h2 h3
    · exact Nat.zero_le _
theorem quo_bd {xs ys : List Int} {M B : Nat} (hx : ∀ z ∈ xs, z.natAbs ≤ M) (hy : ∀ z ∈ ys, z.natAbs ≤ B) (i : Nat) : (quo xs ys i).natAbs ≤ M * (1 + B) ^ i :=
  Nat.le_trans (Int.natAbs_fdiv_le_natAbs _ _) (rmd_bd hx hy i _)
/-- what is asked for dividing -/
structure QdOk (xs ys : List Int) : Prop where
  nz : nzr ys = true
  nx : xs ≠ []
  lx : xs.length ≤ 100
  ly : ys.length ≤ 100
  ex : ∃ M B : Nat, (∀ z ∈ xs, z.natAbs ≤ M) ∧ (∀ z ∈ ys, z.natAbs ≤ B) ∧ B < 2 ^ 4000 ∧ M * (1 + B) ^ (mny xs ys) < 2 ^ 4000
theorem QdOk.sy {xs ys : List Int} (h : QdOk xs ys) : ∀ z ∈ ys, sm z := by
  obtain ⟨M, B, h1, h2, h3, h4⟩ := h.ex
  exact fun z hz => Nat.lt_of_le_of_lt (h2 z hz) h3
theorem QdOk.sr {xs ys : List Int} (h : QdOk xs ys) {i : Nat} (hi : i ≤ mny xs ys) (k : Nat) : sm (rmd xs ys i k) := by
  obtain ⟨M, B, h1, h2, h3, h4⟩ := h.ex
  exact Nat.lt_of_le_of_lt (rmd_bd h1 h2 i k) (Nat.lt_of_le_of_lt (Nat.mul_le_mul_left M (Nat.pow_le_pow_right (by omega) hi)) h4)
theorem QdOk.sq {xs ys : List Int} (h : QdOk xs ys) {i : Nat} (hi : i ≤ mny xs ys) : sm (quo xs ys i) := sm_of_le (h.sr hi (i + fi ys)) (Int.natAbs_fdiv_le_natAbs _ _)
theorem QdOk.ny {xs ys : List Int} (h : QdOk xs ys) : ys ≠ [] := fun e => by
  have := h.nz
  rw [e] at this
  cases this
theorem QdOk.lead {xs ys : List Int} (h : QdOk xs ys) : co ys (fi ys) ≠ 0 := fi_ne h.nz
end K76

set_option Elab.async false
set_option linter.all false
set_option maxRecDepth 100000
set_option maxHeartbeats 4000000
namespace K76
open PySem PySem.Spec PyProof.Rows L2 StX RZ MyR SlX OwnR OwnF EnumT GxR
/-- the first entry other than 0, or 0 -/
def fo (l : List Int) : Int := if nzr l = true then co l (fi l) else 0
/-- a row, or none -/
def OV (H : Hp) (v : V) : Option (List Int) → Prop
  | none => v = .non
  | some q => ∃ t, v = .ref t ∧ H t = some (tp q)
theorem OV.same {H H' : Hp} {v : V} {r : Option (List Int)} (h : OV H v r) (s : Same H H') : OV H' v r := by
  cases r with
  | none => exact h
  | some q =>
    obtain ⟨t, e, k⟩ := h
    exact ⟨t, e, s _ _ k⟩
/-- points -/
structure Pt (u v : Int) : Prop where
  cop : Nat.gcd u.natAbs v.natAbs = 1
  pos : 0 < fo [u, v]
theorem Pt.ne {u v : Int} (h : Pt u v) : [u, v] ≠ [0, 0] := fun e => by
  have h1 := h.cop
  cases e
  cases h1
section
variable {P : Program} {w : World} {K : PySem.W.Frag} {mg : Str → Option Value} {base : Heap} {Ps : List Addr}
end
end K76

set_option Elab.async false
set_option linter.all false
set_option maxRecDepth 100000
set_option maxHeartbeats 4000000
namespace K76
open PySem PySem.Spec PyProof.Rows L2 StX RZ MyR SlX OwnR OwnF EnumT GxR
structure TmOk (xs ys : List Int) : Prop where
  nz : nzr ys = true
  nx : xs ≠ []
  ly : ys.length = 2
  ex : ∃ n M B : Nat, n ≤ 100 ∧ xs.length ≤ n ∧ (∀ z ∈ xs, z.natAbs ≤ M) ∧ (∀ z ∈ ys, z.natAbs ≤ B) ∧ B < 2 ^ 4000 ∧ M * ((1 + B) ^ n) ^ xs.length < 2 ^ 4000
theorem TmOk.next {xs ys q : List Int} (h : TmOk xs ys) (e : qd xs ys = some q) : TmOk q ys := by
  obtain ⟨n, M, B, h1, h2, h3, h4, h5, h6⟩ := h.ex
  have ly := h.ly
  obtain ⟨g1, _, _, g4⟩ := qd_of e
  have g2 : q.length = xs.length + 1 - ys.length := qd_len e
  have e1 : xs.length = q.length + 1 := by omega
  refine ⟨h.nz, fun z => ?_, ly, n, M * (1 + B) ^ n, B, h1, by omega, fun z hz => ?_, h4, h5, ?_⟩
  · rw [z] at g2
    have : 0 = xs.length + 1 - ys.length := g2
    omega
  · rw [g4] at hz
    obtain ⟨i, hi, rfl⟩ := List.mem_map.mp hz
    have hi := List.mem_range.mp hi
    have hi2 : i < xs.length + 1 - ys.length := hi
    exact Nat.le_trans (quo_bd h3 h4 i) (Nat.mul_le_mul_left M (Nat.pow_le_pow_right (by omega) (by omega)))
  · rw [Nat.mul_assoc, Nat.mul_comm ((1 + B) ^ n), ← Nat.pow_succ, Nat.succ_eq_add_one, ← e1]
    exact h6
section
variable {P : Program} {w : World} {K : PySem.W.Frag} {mg : Str → Option Value} {base : Heap} {Ps : List Addr}
end
end K76

set_option Elab.async false
set_option linter.all false
set_option maxRecDepth 100000
set_option maxHeartbeats 4000000
namespace K76
open PySem PySem.Spec PyProof.Rows L2 StX RZ MyR SlX OwnR OwnF EnumT GxR
theorem nzr_ml {l m : List Int} (nl : nzr l = true) (nm : nzr m = true) : nzr (ml l m) = true := by
  have hl : l ≠ [] := fun e => by rw [e] at nl; cases nl
  have hm : m ≠ [] := fun e => by rw [e] at nm; cases nm
  cases e : nzr (ml l m) with
  | true => rfl
  | false =>
    have h := (cont_nzr _).mpr e
    rw [cont_ml hl hm] at h
    rcases Nat.mul_eq_zero.mp h with z | z
    · rw [(cont_nzr _).mp z] at nl
      cases nl
    · rw [(cont_nzr _).mp z] at nm
      cases nm
section
variable {P : Program} {w : World} {K : PySem.W.Frag} {mg : Str → Option Value} {base : Heap}
end
end K76

set_option Elab.async false
set_option linter.all false
set_option maxRecDepth 100000
set_option maxHeartbeats 4000000
set_option exponentiation.threshold 10000
namespace K76
open PySem PySem.Spec PyProof.Rows L2 StX RZ MyR SlX OwnR OwnF EnumT GxR GenNx FDivQ
def TD (ls : List (List Int)) : List PyData := ls.map fun l => .tuple (l.map PyData.int)
theorem lay_td : ∀ ls : List (List Int), PyData.canLayAll0 (TD ls) = true
  | [] => rfl
  | l :: r => by
    show (PyData.canLay0 (.tuple (l.map PyData.int)) && PyData.canLayAll0 (TD r)) = true
    rw [lay_td r, show PyData.canLay0 (.tuple (l.map PyData.int)) = PyData.canLayAll0 (l.map PyData.int) from rfl, lay_ints]
    rfl
theorem depth_td : ∀ ls : List (List Int), PyData.depthAll (TD ls) ≤ 1
  | [] => Nat.zero_le _
  | l :: r => by
    show max (PyData.depth (.tuple (l.map PyData.int))) (PyData.depthAll (TD r)) ≤ 1
    have h := depth_td r
    rw [show PyData.depth (.tuple (l.map PyData.int)) = PyData.depthAll (l.map PyData.int) + 1 from rfl, depth_ints]
    omega
end K76

set_option Elab.async false
set_option linter.all false
set_option maxRecDepth 100000
set_option maxHeartbeats 4000000
namespace K76
open PySem PySem.Spec PyProof.Rows L2 StX RZ MyR SlX OwnR OwnF EnumT GxR
theorem bd_small_pow {n : Nat} (h : n ≤ 8) : Bd (pow [1, 1] n) n (100000000000000) := (bd_pow (l := [1, 1]) (b := 2) ⟨rfl, by decide⟩ n).mono (Nat.le_trans (Nat.pow_le_pow_right (n := 2) (by decide) h) (by decide))
theorem nzr_pow {l : List Int} (h : nzr l = true) : ∀ n, nzr (pow l n) = true
  | 0 => rfl
  | n + 1 => nzr_ml (nzr_pow h n) h
section
variable {P : Program} {w : World} {K : PySem.W.Frag} {mg : Str → Option Value} {base : Heap} {Ps : List Addr}
def spLive : Sp := fun vs H Q _ => ∃ (d : Addr) (n : Nat), vs = [.ref d, .int n] ∧ Dc H d ∧ n ≤ 8 ∧ ∀ p H' l, Sx d H H' → Dc H' d → H' p = some (tp l) → Bd l n (100000000000000) → nzr l = true → Q (.ref p) H'
theorem ok_law_live_form (T : Facts K mg) : FnOk P w K mg base CX0 6 T.f_law_live_form T.fd_law_live_form ["_law_dice_here", "_law_degree"] spLive := by
  have G_law_form := ok_law_form (P := P) (w := w) (base := base) T
  have G_law_shared := ok_law_shared (P := P) (w := w) (base := base) T
  have G_law_power := ok_law_power (P := P) (w := w) (base := base) T
  refine T.F_law_live_form.ok sc_law_live_form (fun vs H Q E h => ?_) (fun cdv A outer s H vs Q E hr h => ?_)
  · obtain ⟨d, n, rfl, _⟩ := h
    rfl
  · obtain ⟨d, n, rfl, hd, hn, q⟩ := h
    refine ⟨_, (PSs.nox (pss_cons (ps_set (i := 2) sc_law_live_form.nd rfl (.inl rfl) (pe_call G_law_form hr (by rfl) T.g_law_form T.F_law_form.kp T.b_law_form .nil pass0 (pa_cons (pv 0) (pa_cons (pv 1) pa_nil))))
    (pss_one (ps_ret (pe_ifExp (pt_cmpR op_gt (pe_call G_law_shared (hr.mono (by decide)) (by rfl) T.g_law_shared T.F_law_shared.kp T.b_law_shared .nil pass0 (pa_cons (pv 2) pa_nil)) pe_int (nomark _)) (pv 2) (pe_call G_law_power (hr.mono (by decide)) (by rfl) T.g_law_power T.F_law_power.kp T.b_law_power .nil pass0 (pa_cons (pe_tup (pa_cons pe_int (pa_cons pe_int pa_nil))) (pa_cons (pv 1) pa_nil)))))))), ?_⟩
    refine ⟨_, rfl, _, rfl, d, n, rfl, hd, by omega, fun p H1 l s1 d1 hp bl => ⟨_, rfl, p, l, rfl, hp, _, _, rfl, rfl, _, rfl, ?_⟩⟩
    cases hz : nzr l with
    | true =>
      rw [decide_eq_true (show (0 : Int) < (cont l : Nat) from by
        have : cont l ≠ 0 := fun e => by
          have := (cont_nzr l).mp e
          rw [hz] at this
          cases this
        omega)]
      exact iteT ⟨_, rfl, q p H1 l s1 d1 hp (bl.mono (by decide)) hz⟩
    | false =>
      rw [decide_eq_false (show ¬ (0 : Int) < (cont l : Nat) from by
        rw [(cont_nzr l).mpr hz]
        omega)]
      have b11 : ∀ i, i ≤ 8 → Bd (pow [1, 1] i) i (100000000000000) := fun i hi => bd_small_pow hi
      refine iteF ⟨by show 2 ≤ sizeLine; decide, fun p2 n2 => gen_upd H1 p2 (tp [1, 1]) n2 fun H2 s2 k2 => ⟨_, rfl, p2, [1, 1], n, rfl, k2, by simp, by show 2 ≤ 100; decide, fun x hx => ?_, fun i hi => ⟨((b11 i (by omega)).rw (by omega) (by decide +kernel)).ne, ((b11 i (by omega)).rw (by omega) (by decide +kernel)).len, ((b11 i (by omega)).rw (by omega) (by decide +kernel)).sm⟩, by omega, fun p3 H3 s3 k3 => ?_⟩⟩
      · simp only [List.mem_cons, List.not_mem_nil, or_false] at hx
        rcases hx with e | e <;> rw [e] <;> (show (1 : Int).natAbs < 2 ^ 4000; decide +kernel)
      · exact q p3 H3 _ (s1.trans (Sx.of (s2.trans s3))) (d1.same (s2.trans s3)) k3 (b11 n hn) (nzr_pow rfl n)
end
theorem Fo.sl {C a : Addr} {H : Hp} {ns : List Int} (h : Fo C H a ns) : Slt H a C h.slt.choose [some (.ref h.slt.choose_spec.choose)] := h.slt.choose_spec.choose_spec.1
end K76

set_option Elab.async false
set_option linter.all false
set_option maxRecDepth 100000
set_option maxHeartbeats 2000000
set_option exponentiation.threshold 10000
/-! plain: forms as functions; common divisors, up to factors -/
namespace K76
open LA
/-- a function that a row of n entries tells -/
def Fm (n : Nat) (φ : Int → Int → Int) : Prop := ∃ l : List Int, l.length = n ∧ ∀ x y, ev l x y = φ x y
theorem co_appz (l : List Int) (n j : Nat) : co (l ++ List.replicate n 0) j = co l j := by
  by_cases h : j < l.length
  · rw [co_get (by rw [List.length_append]; omega), co_get h, List.getElem_append_left h]
  · rw [co_far (l := l) (by omega)]
    by_cases g : j < (l ++ List.replicate n (0 : Int)).length
    · rw [co_get g, List.getElem_append_right (by omega), List.getElem_replicate]
    · exact co_far (by omega)
theorem ev_sx (l : List Int) (n : Nat) (x y : Int) : ev (l ++ List.replicate n 0) x y = x ^ n * ev l x y := by
  unfold ev
  rw [List.length_append, List.length_replicate, evF_congr _ fun i _ => co_appz l n i]
  exact evF_far x y (fun i hi => co_far hi) n
theorem ev_sy (l : List Int) (x y : Int) : ev (0 :: l) x y = y * ev l x y := by
  rw [ev_cons, Int.zero_mul, Int.zero_add]
theorem ev_ry (l : List Int) (x y : Int) : ∀ n, ev (List.replicate n 0 ++ l) x y = y ^ n * ev l x y
  | 0 => by rw [Int.pow_zero, Int.one_mul]; rfl
  | n + 1 => by
    rw [List.replicate_succ, List.cons_append, ev_sy, ev_ry l x y n, Int.pow_succ]
    grind
theorem ev_lead (l : List Int) : ev l 1 0 = co l 0 := by
  cases l with
  | nil => rfl
  | cons a l => rw [ev_cons, Int.one_pow, Int.mul_one, Int.zero_mul, Int.add_zero]; rfl
theorem Fm.of (l : List Int) : Fm l.length (ev l) := ⟨l, rfl, fun _ _ => rfl⟩
theorem Fm.congr {n : Nat} {φ ψ : Int → Int → Int} (h : Fm n φ) (e : ∀ x y, φ x y = ψ x y) : Fm n ψ := by
  obtain ⟨l, hl, q⟩ := h
  exact ⟨l, hl, fun x y => (q x y).trans (e x y)⟩
theorem Fm.cast {n m : Nat} {φ : Int → Int → Int} (h : Fm n φ) (e : n = m) : Fm m φ := e ▸ h
theorem Fm.zero (n : Nat) : Fm n fun _ _ => 0 := ⟨List.replicate n 0, List.length_replicate, fun x y => ev_zero (fun z hz => List.eq_of_mem_replicate hz) x y⟩
theorem Fm.none {φ : Int → Int → Int} (h : Fm 0 φ) (x y : Int) : φ x y = 0 := by
  obtain ⟨l, hl, q⟩ := h
  rw [← q, List.length_eq_zero_iff.mp hl]
  rfl
theorem Fm.one : Fm 1 fun _ _ => 1 := ⟨[1], rfl, ev_one⟩
theorem Fm.mulc {n : Nat} {φ : Int → Int → Int} (c : Int) (h : Fm n φ) : Fm n fun x y => c * φ x y := by
  obtain ⟨l, hl, q⟩ := h
  exact ⟨l.map (c * ·), by rw [List.length_map, hl], fun x y => by rw [ev_map, q]⟩
theorem Fm.add {n : Nat} {φ ψ : Int → Int → Int} (h : Fm n φ) (g : Fm n ψ) : Fm n fun x y => φ x y + ψ x y := by
  obtain ⟨l, hl, q⟩ := h
  obtain ⟨m, hm, r⟩ := g
  exact ⟨zs 1 l m, by unfold zs; rw [List.length_zipWith]; omega, fun x y => by rw [ev_zs 1 (by omega), q, r, Int.one_mul]⟩
theorem Fm.px {n : Nat} {φ : Int → Int → Int} (h : Fm n φ) (k : Nat) : Fm (n + k) fun x y => x ^ k * φ x y := by
  obtain ⟨l, hl, q⟩ := h
  exact ⟨l ++ List.replicate k 0, by rw [List.length_append, List.length_replicate, hl], fun x y => by rw [ev_sx l k, q]⟩
theorem Fm.py {n : Nat} {φ : Int → Int → Int} (h : Fm n φ) (k : Nat) : Fm (n + k) fun x y => y ^ k * φ x y := by
  obtain ⟨l, hl, q⟩ := h
  exact ⟨List.replicate k 0 ++ l, by rw [List.length_append, List.length_replicate, hl, Nat.add_comm], fun x y => by rw [ev_ry l x y k, q]⟩
theorem Fm.mul {n m k : Nat} {φ ψ : Int → Int → Int} (h : Fm n φ) (g : Fm m ψ) (e : n = 0 ∨ m = 0 ∨ n + m = k + 1) : Fm k fun x y => φ x y * ψ x y := by
  by_cases c1 : n = 0
  · subst c1
    exact (Fm.zero k).congr fun x y => by rw [h.none, Int.zero_mul]
  by_cases c2 : m = 0
  · subst c2
    exact (Fm.zero k).congr fun x y => by rw [g.none, Int.mul_zero]
  obtain ⟨l, hl, q⟩ := h
  obtain ⟨p, hp, r⟩ := g
  exact ⟨ml l p, by rw [ml_len]; omega, fun x y => by rw [ev_ml (fun z => c1 (by rw [← hl, z]; rfl)) (fun z => c2 (by rw [← hp, z]; rfl)), q, r]⟩
/-- the first entry, and the others -/
theorem Fm.split {n : Nat} {φ : Int → Int → Int} (h : Fm (n + 1) φ) : ∃ (a : Int) (ψ : Int → Int → Int), Fm n ψ ∧ ∀ x y, φ x y = a * x ^ n + y * ψ x y := by
  obtain ⟨l, hl, q⟩ := h
  cases l with
  | nil => exact absurd hl (by simp)
  | cons a l => exact ⟨a, ev l, ⟨l, by rw [List.length_cons] at hl; omega, fun _ _ => rfl⟩, fun x y => by rw [← q, ev_cons, show l.length = n by rw [List.length_cons] at hl; omega]⟩
theorem Fm.const {φ : Int → Int → Int} (h : Fm 1 φ) : ∃ a : Int, ∀ x y, φ x y = a := by
  obtain ⟨a, ψ, p, q⟩ := h.split
  exact ⟨a, fun x y => by rw [q, p.none, Int.pow_zero]; omega⟩
theorem Fm.cy {n : Nat} {φ ψ : Int → Int → Int} (h : Fm n φ) (g : Fm n ψ) (e : ∀ x y, y * φ x y = y * ψ x y) (x y : Int) : φ x y = ψ x y := by
  obtain ⟨l, hl, q⟩ := h
  obtain ⟨m, hm, r⟩ := g
  have : 0 :: l = 0 :: m := ev_inj (by rw [List.length_cons, List.length_cons, hl, hm]) fun x y => by rw [ev_sy, ev_sy, q, r, e]
  rw [← q, ← r, List.tail_eq_of_cons_eq this]
def Nz (φ : Int → Int → Int) : Prop := ∃ x y, φ x y ≠ 0
theorem ev0_all {l : List Int} (h : ∀ x y, ev l x y = 0) : ∀ z ∈ l, z = 0 := by
  have e : l = List.replicate l.length 0 := ev_inj (by rw [List.length_replicate]) fun x y => by
    rw [h, ev_zero fun z hz => List.eq_of_mem_replicate hz]
  intro z hz
  rw [e] at hz
  exact List.eq_of_mem_replicate hz
/-- a form other than 0 may be left out of a product -/
theorem Fm.can0 {n m : Nat} {φ α : Int → Int → Int} (hn : Fm n φ) (nz : Nz φ) (hm : Fm m α) (e : ∀ x y, φ x y * α x y = 0) (x y : Int) : α x y = 0 := by
  obtain ⟨l, hl, q⟩ := hn
  obtain ⟨p, hp, r⟩ := hm
  rw [← r]
  by_cases c1 : l = []
  · obtain ⟨x0, y0, h0⟩ := nz
    exact absurd (by rw [← q, c1]; rfl) h0
  by_cases c2 : p = []
  · rw [c2]; rfl
  have h0 : cont (ml l p) = 0 := Classical.byContradiction fun ne => ne (by
    have := ev0_all (l := ml l p) fun x y => by rw [ev_ml c1 c2, q, r, e]
    rw [gl_cont]
    exact gl0_of fun j => by
      by_cases c : j < (ml l p).length
      · exact this _ (co_memE c)
      · exact co_far (by omega))
  rw [cont_ml c1 c2] at h0
  rcases Nat.mul_eq_zero.mp h0 with z | z
  · obtain ⟨x0, y0, h1⟩ := nz
    exact absurd (by rw [← q]; exact ev_zero (cont_zero z) x0 y0) h1
  · exact ev_zero (cont_zero z) x y
theorem Fm.can {n m : Nat} {φ α β : Int → Int → Int} (hn : Fm n φ) (nz : Nz φ) (ha : Fm m α) (hb : Fm m β) (e : ∀ x y, φ x y * α x y = φ x y * β x y) (x y : Int) : α x y = β x y := by
  have := hn.can0 nz (ha.add (hb.mulc (-1))) (fun x y => by rw [Int.mul_add, e]; grind) x y
  omega
/-- h divides φ, up to a factor -/
def Dv (k n : Nat) (h φ : Int → Int → Int) : Prop := ∃ (c : Int) (A : Int → Int → Int), c ≠ 0 ∧ Fm (n + 1 - k) A ∧ ∀ x y, c * φ x y = h x y * A x y
theorem Dv.le {k n : Nat} {h φ : Int → Int → Int} (d : Dv k n h φ) (nz : Nz φ) : k ≤ n := by
  obtain ⟨c, A, hc, hA, e⟩ := d
  obtain ⟨x, y, h0⟩ := nz
  refine Classical.byContradiction fun c1 => ?_
  have := (hA.cast (show n + 1 - k = 0 by omega)).none x y
  have e1 := e x y
  rw [this, Int.mul_zero] at e1
  exact (Int.mul_eq_zero.mp e1).elim hc h0
theorem Dv.self {n : Nat} (h : Int → Int → Int) : Dv n n h h := ⟨1, fun _ _ => 1, by decide, Fm.one.cast (by omega), fun x y => by rw [Int.one_mul, Int.mul_one]⟩
theorem Dv.zero {k n : Nat} (h : Int → Int → Int) : Dv k n h fun _ _ => 0 := ⟨1, fun _ _ => 0, by decide, Fm.zero _, fun x y => by rw [Int.mul_zero, Int.mul_zero]⟩
theorem Dv.congr {k n : Nat} {h φ ψ : Int → Int → Int} (d : Dv k n h φ) {a b : Int} (ha : a ≠ 0) (e : ∀ x y, a * φ x y = b * ψ x y) (hb : b ≠ 0) : Dv k n h ψ := by
  obtain ⟨c, A, hc, hA, q⟩ := d
  exact ⟨c * b, _, Int.mul_ne_zero hc hb, hA.mulc a, fun x y => by
    have := q x y
    have := e x y
    grind⟩
theorem Dv.congrL {k n : Nat} {h h' φ : Int → Int → Int} (d : Dv k n h φ) {a b : Int} (ha : a ≠ 0) (e : ∀ x y, a * h x y = b * h' x y) : Dv k n h' φ := by
  obtain ⟨c, A, hc, hA, q⟩ := d
  exact ⟨a * c, _, Int.mul_ne_zero ha hc, hA.mulc b, fun x y => by
    have := q x y
    have := e x y
    grind⟩
theorem Dv.trans {k m n : Nat} {h φ ψ : Int → Int → Int} (d : Dv k m h φ) (g : Dv m n φ ψ) : Dv k n h ψ := by
  obtain ⟨c, A, hc, hA, q⟩ := d
  obtain ⟨c', B, hc', hB, q'⟩ := g
  exact ⟨c * c', _, Int.mul_ne_zero hc hc', (hA.mul hB (by omega) : Fm (n + 1 - k) _), fun x y => by
    have := q x y
    have := q' x y
    grind⟩
theorem Dv.mul {k n k' n' : Nat} {h φ h' φ' : Int → Int → Int} (d : Dv k n h φ) (g : Dv k' n' h' φ') (h1 : 1 ≤ k) (h2 : 1 ≤ k') (n1 : 1 ≤ n) (n2 : 1 ≤ n') : Dv (k + k' - 1) (n + n' - 1) (fun x y => h x y * h' x y) fun x y => φ x y * φ' x y := by
  obtain ⟨c, A, hc, hA, q⟩ := d
  obtain ⟨c', B, hc', hB, q'⟩ := g
  exact ⟨c * c', _, Int.mul_ne_zero hc hc', hA.mul hB (by omega), fun x y => by
    have := q x y
    have := q' x y
    grind⟩
/-- φ is made of F and G -/
def Idl (n m q : Nat) (F G φ : Int → Int → Int) : Prop := ∃ (c : Int) (U V : Int → Int → Int), c ≠ 0 ∧ Fm (q + 1 - n) U ∧ Fm (q + 1 - m) V ∧ ∀ x y, c * φ x y = U x y * F x y + V x y * G x y
theorem Idl.sw {n m q : Nat} {F G φ : Int → Int → Int} (h : Idl n m q F G φ) : Idl m n q G F φ := by
  obtain ⟨c, U, V, hc, hU, hV, e⟩ := h
  exact ⟨c, V, U, hc, hV, hU, fun x y => by rw [e, Int.add_comm]⟩
theorem Idl.dv {n m q d : Nat} {F G φ D : Int → Int → Int} (h : Idl n m q F G φ) (f : Dv d n D F) (g : Dv d m D G) : Dv d q D φ := by
  obtain ⟨c, U, V, hc, hU, hV, e⟩ := h
  obtain ⟨a, A, ha, hA, p⟩ := f
  obtain ⟨b, B, hb, hB, r⟩ := g
  refine ⟨c * a * b, _, Int.mul_ne_zero (Int.mul_ne_zero hc ha) hb, ((hU.mul hA (k := q + 1 - d) (by omega)).mulc b).add ((hV.mul hB (k := q + 1 - d) (by omega)).mulc a), fun x y => ?_⟩
  have := e x y
  have := p x y
  have := r x y
  grind
theorem Idl.dv2 {n m q k1 k2 : Nat} {F G φ D1 D2 : Int → Int → Int} (h : Idl n m q F G φ) (f : Dv k1 n D1 F) (g : Dv k2 m D2 G) : Idl k1 k2 q D1 D2 φ := by
  obtain ⟨c, U, V, hc, hU, hV, e⟩ := h
  obtain ⟨a, A, ha, hA, p⟩ := f
  obtain ⟨b, B, hb, hB, r⟩ := g
  refine ⟨c * a * b, _, _, Int.mul_ne_zero (Int.mul_ne_zero hc ha) hb, (hU.mul hA (k := q + 1 - k1) (by omega)).mulc b, (hV.mul hB (k := q + 1 - k2) (by omega)).mulc a, fun x y => ?_⟩
  have := e x y
  have := p x y
  have := r x y
  grind
/-- what divides x ^ N φ and y ^ N φ divides φ -/
theorem Dv.both {d k N : Nat} {D φ : Int → Int → Int} (hD : Fm d D) (nD : Nz D) (hφ : Fm k φ) (h1 : Dv d (k + N) D fun x y => x ^ N * φ x y) (h2 : Dv d (k + N) D fun x y => y ^ N * φ x y) : Dv d k D φ := by
  obtain ⟨c, A, hc, ⟨a, la, qa⟩, e1⟩ := h1
  obtain ⟨c', B, hc', ⟨b, lb, qb⟩, e2⟩ := h2
  have key : ∀ x y, ev (List.replicate N 0 ++ a.map (c' * ·)) x y = ev (b.map (c * ·) ++ List.replicate N 0) x y := fun x y => by
    rw [ev_ry, ev_sx, ev_map, ev_map]
    refine hD.can nD (m := (k + N + 1 - d) + N) (α := fun x y => y ^ N * (c' * ev a x y)) (β := fun x y => x ^ N * (c * ev b x y)) ((((Fm.of a).cast la).mulc c').py N) ((((Fm.of b).cast lb).mulc c).px N) (fun x y => ?_) x y
    have := e1 x y
    have := e2 x y
    rw [qa, qb]
    grind
  have keyL := ev_inj (by simp; omega) key
  have z : ∀ j, a.length ≤ j + N → co a j = 0 := fun j hj => by
    by_cases c0 : j < a.length
    · have t := congrArg (fun l => co l (N + j)) keyL
      rw [co_appz, co_far (l := b.map (c * ·)) (by rw [List.length_map]; omega), co_get (by simp; omega), List.getElem_append_right (by simp)] at t
      simp only [List.length_replicate, Nat.add_sub_cancel_left, List.getElem_map] at t
      rw [co_get c0]
      exact (Int.mul_eq_zero.mp t).resolve_left hc'
    · exact co_far (by omega)
  have eA : ∀ x y, A x y = x ^ N * ev (a.take (k + 1 - d)) x y := by
    by_cases cs : a.length < N
    · have zz : ∀ w ∈ a, w = 0 := fun w hw => by
        obtain ⟨j, hj, e⟩ := List.mem_iff_getElem.mp hw
        rw [← e, ← co_get hj]
        exact z j (by omega)
      intro x y
      rw [← qa, ev_zero (l := a) zz, ev_zero (l := a.take (k + 1 - d)) (fun w hw => zz w (List.mem_of_mem_take hw)), Int.mul_zero]
    · intro x y
      rw [← ev_sx, ← qa]
      congr 1
      refine co_inj (by simp; omega) fun j => ?_
      rw [co_appz]
      by_cases cj : j < k + 1 - d
      · by_cases cl : j < a.length
        · rw [co_get cl, co_get (by rw [List.length_take]; omega), List.getElem_take]
        · rw [co_far (by omega), co_far (by rw [List.length_take]; omega)]
      · rw [z j (by omega), co_far (by rw [List.length_take]; omega)]
  refine ⟨c, ev (a.take (k + 1 - d)), hc, ?_, fun x y => ?_⟩
  · by_cases cs : a.length < k + 1 - d
    · exact absurd cs (by omega)
    · exact ⟨_, by rw [List.length_take]; omega, fun _ _ => rfl⟩
  · have hx : Fm (1 + N) fun x y => x ^ N * 1 := Fm.one.px N
    have nx : Nz fun x y => x ^ N * 1 := ⟨1, 0, by show (1 : Int) ^ N * 1 ≠ 0; rw [Int.one_pow]; decide⟩
    by_cases cs : k + 1 ≤ d
    · have t0 : ∀ x y, ev (a.take (k + 1 - d)) x y = 0 := fun x y => by rw [show k + 1 - d = 0 by omega]; rfl
      have p0 : ∀ x y, φ x y = 0 := hx.can0 nx hφ fun x y => by
        have := e1 x y
        rw [eA, t0] at this
        have : c * (x ^ N * φ x y) = 0 := by grind
        rw [Int.mul_one]
        exact (Int.mul_eq_zero.mp this).resolve_left hc
      rw [p0, t0, Int.mul_zero, Int.mul_zero]
    · refine hx.can nx (m := k) (α := fun x y => c * φ x y) (β := fun x y => D x y * ev (a.take (k + 1 - d)) x y) (hφ.mulc c) (hD.mul ⟨_, rfl, fun _ _ => rfl⟩ ?_) (fun x y => ?_) x y
      · rw [List.length_take]
        omega
      · have := e1 x y
        rw [eA] at this
        grind
end K76

set_option Elab.async false
set_option linter.all false
set_option maxRecDepth 100000
set_option maxHeartbeats 2000000
set_option exponentiation.threshold 10000
/-! plain: steps of Euclid; common forms, told by what they divide and what they are made of -/
namespace K76
open LA
abbrev Bi : Type := Int → Int → Int
structure Mm (n m k : Nat) (f g h : Bi) : Prop where
  hh : Fm k h
  h0 : h 1 0 ≠ 0
  df : Dv k n h f
  dg : Dv k m h g
  st : ∀ E, Fm (n + m - 2 * k) E → ∃ (c : Int) (U V : Bi), c ≠ 0 ∧ Fm (m - k) U ∧ Fm (n - k) V ∧ ∀ x y, c * (E x y * h x y) = U x y * f x y + V x y * g x y
section
variable {n m k : Nat} {f g h : Bi}
theorem Mm.sw (M : Mm n m k f g h) : Mm m n k g f h := ⟨M.hh, M.h0, M.dg, M.df, fun E hE => by
  obtain ⟨c, U, V, hc, hU, hV, e⟩ := M.st E (hE.cast (by omega))
  exact ⟨c, V, U, hc, hV, hU, fun x y => by rw [e, Int.add_comm]⟩⟩
theorem Mm.zero (hg : Fm m g) (g0 : g 1 0 ≠ 0) (hf : ∀ x y, f x y = 0) : Mm n m m f g g :=
  ⟨hg, g0, (Dv.zero g).congr (a := 1) (b := 1) (by decide) (fun x y => by rw [hf]) (by decide), Dv.self g, fun E hE => ⟨1, fun _ _ => 0, E, by decide, (Fm.zero _).cast rfl, hE.cast (by omega), fun x y => by rw [hf]; simp⟩⟩
theorem Mm.scale {f' : Bi} {a b : Int} (M : Mm n m k f' g h) (ha : a ≠ 0) (hb : b ≠ 0) (e : ∀ x y, a * f' x y = b * f x y) : Mm n m k f g h :=
  ⟨M.hh, M.h0, M.df.congr ha e hb, M.dg, fun E hE => by
    obtain ⟨c, U, V, hc, hU, hV, q⟩ := M.st E hE
    exact ⟨a * c, _, _, Int.mul_ne_zero ha hc, hU.mulc b, hV.mulc a, fun x y => by
      have := q x y
      have := e x y
      grind⟩⟩
theorem Mm.scaleH {h' : Bi} {a b : Int} (M : Mm n m k f g h) (hh' : Fm k h') (ha : a ≠ 0) (hb : b ≠ 0) (e : ∀ x y, a * h x y = b * h' x y) : Mm n m k f g h' :=
  ⟨hh', fun z => by
    have := e 1 0
    rw [z, Int.mul_zero] at this
    exact (Int.mul_eq_zero.mp this).elim ha M.h0, M.df.congrL ha e, M.dg.congrL ha e, fun E hE => by
    obtain ⟨c, U, V, hc, hU, hV, q⟩ := M.st E hE
    exact ⟨c * b, _, _, Int.mul_ne_zero hc hb, hU.mulc a, hV.mulc a, fun x y => by
      have := q x y
      have := e x y
      grind⟩⟩
/-- one step: the first entries are taken away -/
theorem Mm.step {f' R : Bi} {γ : Int} (M : Mm n m k f' g h) (hf' : Fm n f') (hg : Fm m g) (g0 : g 1 0 ≠ 0) (hγ : γ ≠ 0) (hR : (∀ x y, R x y = 0) ∨ ∃ r, Fm r R ∧ r + m = n + 2)
    (hk : k ≤ n ∨ m ≤ n + 1) (e : ∀ x y, y * f' x y = γ * f x y - R x y * g x y) : Mm (n + 1) m k f g h := by
  have km : k ≤ m := M.dg.le ⟨1, 0, g0⟩
  have hRm : ∀ {p q : Nat} {U : Bi}, Fm p U → p + n + 1 = q + m → Fm q fun x y => R x y * U x y := fun {p q U} hU hp => by
    rcases hR with z | ⟨r, hr, er⟩
    · exact (Fm.zero q).congr fun x y => by rw [z, Int.zero_mul]
    · exact hr.mul hU (by omega)
  refine ⟨M.hh, M.h0, ?_, M.dg, fun E hE => ?_⟩
  · obtain ⟨c, A, hc, hA, p⟩ := M.df
    obtain ⟨d, B, hd, hB, q⟩ := M.dg
    refine ⟨c * d * γ, fun x y => d * (y ^ 1 * A x y) + c * (R x y * B x y), Int.mul_ne_zero (Int.mul_ne_zero hc hd) hγ, (((hA.py 1).cast (by omega)).mulc d).add ((hRm hB (by omega)).mulc c), fun x y => ?_⟩
    have := p x y
    have := q x y
    have := e x y
    dsimp only
    rw [Int.pow_one]
    grind
  · by_cases c0 : n + 1 + m - 2 * k = 0
    · rw [c0] at hE
      exact ⟨1, fun _ _ => 0, fun _ _ => 0, by decide, Fm.zero _, Fm.zero _, fun x y => by rw [hE.none]; simp⟩
    · obtain ⟨L, eL⟩ : ∃ L, n + 1 + m - 2 * k = L + 1 := ⟨n + 1 + m - 2 * k - 1, by omega⟩
      have kn : k ≤ n := by omega
      rw [eL] at hE
      obtain ⟨s, E', hE', eE⟩ := hE.split
      obtain ⟨d, B, hd, hB, q⟩ := M.dg
      obtain ⟨β, B', hB', eB⟩ := (hB.cast (show m + 1 - k = (m - k) + 1 by omega)).split
      have hβ : β ≠ 0 := fun z => by
        have t := q 1 0
        rw [eB, z] at t
        have : h 1 0 * (0 * 1 ^ (m - k) + 0 * B' 1 0) = 0 := by rw [Int.zero_mul, Int.zero_mul]; exact Int.mul_zero _
        rw [this] at t
        exact (Int.mul_eq_zero.mp t).elim hd g0
      obtain ⟨c, U, V, hc, hU, hV, r⟩ := M.st (fun x y => β * E' x y + -s * (x ^ (n - k) * B' x y)) (((hE'.mulc β).add (((hB'.px (n - k)).cast (by omega)).mulc (-s))).cast (by omega))
      refine ⟨c * β, fun x y => γ * U x y, fun x y => c * s * d * (x ^ (n - k) * 1) + (-1) * (R x y * U x y) + y ^ 1 * V x y, Int.mul_ne_zero hc hβ, hU.mulc γ, ((((Fm.one.px (n - k)).cast (by omega)).mulc _).add ((hRm hU (by omega)).mulc (-1))).add ((hV.py 1).cast (by omega)), fun x y => ?_⟩
      have t1 := r x y
      have t2 := e x y
      have t3 := eE x y
      have t4 := eB x y
      have t5 := q x y
      rw [t4] at t5
      dsimp only
      rw [Int.pow_one, t3]
      have t6 : x ^ L = x ^ (n - k) * x ^ (m - k) := by rw [← Int.pow_add, show n - k + (m - k) = L by omega]
      rw [t6]
      generalize x ^ (n - k) = X at *
      generalize x ^ (m - k) = Z at *
      clear t3 t4 t6 e q r eE eB
      generalize U x y = u at *
      generalize V x y = v at *
      generalize f x y = F at *
      generalize g x y = G at *
      generalize h x y = H at *
      generalize R x y = ρ at *
      generalize f' x y = F' at *
      generalize E' x y = e' at *
      generalize B' x y = b' at *
      have : c * ((β * e' + -s * (X * b')) * H) * y = y * F' * u + v * G * y := by grind
      rw [t2] at this
      grind
/-- zeros ahead of both -/
theorem lift (M : Mm n m k f g h) (z : Nat) : Dv (k + z) (n + z) (fun x y => y ^ z * h x y) (fun x y => y ^ z * f x y) ∧ Dv (k + z) (m + z) (fun x y => y ^ z * h x y) (fun x y => y ^ z * g x y) := by
  obtain ⟨c, A, hc, hA, p⟩ := M.df
  obtain ⟨d, B, hd, hB, q⟩ := M.dg
  exact ⟨⟨c, A, hc, hA.cast (by omega), fun x y => by have := p x y; grind⟩, ⟨d, B, hd, hB.cast (by omega), fun x y => by have := q x y; grind⟩⟩
end
/-- T is the common form of F and G, up to a factor -/
structure Com (n m k : Nat) (F G T : Bi) : Prop where
  hT : Fm k T
  nz : Nz T
  df : Dv k n T F
  dg : Dv k m T G
  id : ∃ N, Idl n m (k + N) F G (fun x y => x ^ N * T x y) ∧ Idl n m (k + N) F G fun x y => y ^ N * T x y
/-- all forms of a degree, times T, are made of F and G -/
def Full (n m k : Nat) (F G T : Bi) : Prop := ∀ t E, Fm (n + m - 2 * k + t) E → ∃ (c : Int) (U V : Bi), c ≠ 0 ∧ Fm (m - k + t) U ∧ Fm (n - k + t) V ∧ ∀ x y, c * (E x y * T x y) = U x y * F x y + V x y * G x y
section
variable {n m k : Nat} {F G T : Bi}
theorem Com.sw (h : Com n m k F G T) : Com m n k G F T := ⟨h.hT, h.nz, h.dg, h.df, h.id.imp fun N p => ⟨p.1.sw, p.2.sw⟩⟩
theorem full_of (hT : Fm k T) (nT : Nz T) (df : Dv k n T F) (dg : Dv k m T G) (nF : Nz F) (nG : Nz G)
    (st : ∀ E, Fm (n + m - 2 * k) E → ∃ (c : Int) (U V : Bi), c ≠ 0 ∧ Fm (m - k) U ∧ Fm (n - k) V ∧ ∀ x y, c * (E x y * T x y) = U x y * F x y + V x y * G x y) : Full n m k F G T := by
  have kn := df.le nF
  have km := dg.le nG
  by_cases c0 : n + m - 2 * k = 0
  · obtain ⟨d, A, hd, hA, p⟩ := df
    obtain ⟨a, ea⟩ := (hA.cast (show n + 1 - k = 1 by omega)).const
    have ha : a ≠ 0 := fun z => by
      obtain ⟨x, y, h0⟩ := nF
      have := p x y
      rw [ea, z, Int.mul_zero] at this
      exact (Int.mul_eq_zero.mp this).elim hd h0
    intro t E hE
    exact ⟨a, _, fun _ _ => 0, ha, (hE.cast (by omega)).mulc d, Fm.zero _, fun x y => by
      have := p x y
      rw [ea] at this
      grind⟩
  · intro t
    induction t with
    | zero => exact st
    | succ t ih =>
      intro E hE
      obtain ⟨s, E', hE', eE⟩ := (hE.cast (show n + m - 2 * k + (t + 1) = n + m - 2 * k + t + 1 by omega)).split
      obtain ⟨c, U, V, hc, hU, hV, e⟩ := ih E' hE'
      obtain ⟨c', U', V', hc', hU', hV', e'⟩ := ih (fun x y => x ^ (n + m - 2 * k + t - 1) * 1) ((Fm.one.px _).cast (by omega))
      refine ⟨c * c', fun x y => (s * c) * (x ^ 1 * U' x y) + c' * (y ^ 1 * U x y), fun x y => (s * c) * (x ^ 1 * V' x y) + c' * (y ^ 1 * V x y), Int.mul_ne_zero hc hc', (((hU'.px 1).mulc _).add ((hU.py 1).mulc _)).cast (by omega), (((hV'.px 1).mulc _).add ((hV.py 1).mulc _)).cast (by omega), fun x y => ?_⟩
      have t1 := e x y
      have t2 := e' x y
      dsimp only
      rw [eE, Int.pow_one, Int.pow_one, show n + m - 2 * k + t = n + m - 2 * k + t - 1 + 1 by omega, Int.pow_succ]
      generalize x ^ (n + m - 2 * k + t - 1) = X at *
      grind
theorem Full.com (h : Full n m k F G T) (hT : Fm k T) (nT : Nz T) (df : Dv k n T F) (dg : Dv k m T G) (nF : Nz F) (nG : Nz G) : Com n m k F G T := by
  have kn := df.le nF
  have km := dg.le nG
  refine ⟨hT, nT, df, dg, n + m - 2 * k, ?_, ?_⟩
  · obtain ⟨c, U, V, hc, hU, hV, e⟩ := h 1 (fun x y => x ^ (n + m - 2 * k) * 1) ((Fm.one.px _).cast (by omega))
    exact ⟨c, U, V, hc, hU.cast (by omega), hV.cast (by omega), fun x y => by rw [← e, Int.mul_one]⟩
  · obtain ⟨c, U, V, hc, hU, hV, e⟩ := h 1 (fun x y => y ^ (n + m - 2 * k) * 1) ((Fm.one.py _).cast (by omega))
    exact ⟨c, U, V, hc, hU.cast (by omega), hV.cast (by omega), fun x y => by rw [← e, Int.mul_one]⟩
/-- the common form divides all that divide both -/
theorem Com.most {d : Nat} {D : Bi} (h : Com n m k F G T) (hD : Fm d D) (nD : Nz D) (f : Dv d n D F) (g : Dv d m D G) : Dv d k D T := by
  obtain ⟨N, p, q⟩ := h.id
  exact Dv.both hD nD h.hT (p.dv f g) (q.dv f g)
theorem Com.scale {F' : Bi} {a b : Int} (h : Com n m k F G T) (ha : a ≠ 0) (hb : b ≠ 0) (e : ∀ x y, a * F x y = b * F' x y) : Com n m k F' G T :=
  ⟨h.hT, h.nz, h.df.congr ha e hb, h.dg, h.id.imp fun N p => by
    have go : ∀ {φ : Bi}, Idl n m (k + N) F G φ → Idl n m (k + N) F' G φ := fun {φ} q => by
      obtain ⟨c, U, V, hc, hU, hV, q⟩ := q
      exact ⟨a * c, _, _, Int.mul_ne_zero ha hc, hU.mulc b, hV.mulc a, fun x y => by
        have := q x y
        have := e x y
        grind⟩
    exact ⟨go p.1, go p.2⟩⟩
/-- a divisor is the common form -/
theorem Com.divisor (hF : Fm n F) (nF : Nz F) (d : Dv n m F G) : Com n m n F G F :=
  ⟨hF, nF, Dv.self F, d, 0, ⟨1, fun _ _ => 1, fun _ _ => 0, by decide, Fm.one.cast (by omega), Fm.zero _, fun x y => by simp⟩, ⟨1, fun _ _ => 1, fun _ _ => 0, by decide, Fm.one.cast (by omega), Fm.zero _, fun x y => by simp⟩⟩
/-- apart: no common form but 1 -/
def Ap (n m : Nat) (F G : Bi) : Prop := Com n m 1 F G fun _ _ => 1
theorem Ap.sw (h : Ap n m F G) : Ap m n G F := Com.sw h
theorem dv1 (hF : Fm n F) : Dv 1 n (fun _ _ => 1) F := ⟨1, F, by decide, hF.cast (by omega), fun _ _ => rfl⟩
theorem nz1 : Nz fun _ _ => 1 := ⟨0, 0, by decide⟩
theorem Idl.mul {n n' z k k' N N' : Nat} {X Y Z D1 D2 φ ψ : Bi} (i : Idl n z (k + N) X Z (fun x y => φ x y * D1 x y)) (j : Idl n' z (k' + N') Y Z (fun x y => ψ x y * D2 x y)) (n1 : 1 ≤ n) (n2 : 1 ≤ n') (k1 : 1 ≤ k) (k2 : 1 ≤ k') (z1 : 1 ≤ z) (hX : Fm n X) (hY : Fm n' Y) (hZ : Fm z Z) :
    Idl (n + n' - 1) z ((k + k' - 1) + (N + N')) (fun x y => X x y * Y x y) Z fun x y => φ x y * ψ x y * (D1 x y * D2 x y) := by
  obtain ⟨c, U, V, hc, hU, hV, e⟩ := i
  obtain ⟨d, U', V', hd, hU', hV', e'⟩ := j
  refine ⟨c * d, fun x y => U x y * U' x y, fun x y => U x y * X x y * V' x y + V x y * U' x y * Y x y + V x y * V' x y * Z x y, Int.mul_ne_zero hc hd, hU.mul hU' (by omega), ?_, fun x y => ?_⟩
  · refine ((((hU.mul hX (k := k + N) (by omega)).mul hV' (by omega)).add ?_).add ?_)
    · refine ((hV.mul (hU'.mul hY (k := k' + N') (by omega)) (k := k + k' - 1 + (N + N') + 1 - z) (by omega)).congr fun x y => by rw [Int.mul_assoc])
    · refine ((hV.mul (hV'.mul hZ (k := k' + N') (by omega)) (k := k + k' - 1 + (N + N') + 1 - z) (by omega)).congr fun x y => by rw [Int.mul_assoc])
  · have := e x y
    have := e' x y
    grind
theorem Ap.mul {n' z : Nat} {X Y Z : Bi} (h1 : Ap n z X Z) (h2 : Ap n' z Y Z) (n1 : 1 ≤ n) (n2 : 1 ≤ n') (z1 : 1 ≤ z) (hX : Fm n X) (hY : Fm n' Y) (hZ : Fm z Z) : Ap (n + n' - 1) z (fun x y => X x y * Y x y) Z := by
  obtain ⟨N, i1, i2⟩ := h1.id
  obtain ⟨N', j1, j2⟩ := h2.id
  refine ⟨Fm.one, nz1, dv1 (hX.mul hY (by omega)), dv1 hZ, N + N', ?_, ?_⟩
  · obtain ⟨c, U, V, hc, hU, hV, e⟩ := i1.mul j1 n1 n2 (Nat.le_refl 1) (Nat.le_refl 1) z1 hX hY hZ
    exact ⟨c, U, V, hc, hU, hV, fun x y => by dsimp only; rw [Int.pow_add]; exact e x y⟩
  · obtain ⟨c, U, V, hc, hU, hV, e⟩ := i2.mul j2 n1 n2 (Nat.le_refl 1) (Nat.le_refl 1) z1 hX hY hZ
    exact ⟨c, U, V, hc, hU, hV, fun x y => by dsimp only; rw [Int.pow_add]; exact e x y⟩
/-- the common form of a product of two that are apart -/
theorem Com.mul {n' k' z : Nat} {X Y Z D1 D2 : Bi} (ap : Ap n n' X Y) (h1 : Com n z k X Z D1) (h2 : Com n' z k' Y Z D2) (n1 : 1 ≤ n) (n2 : 1 ≤ n') (k1 : 1 ≤ k) (k2 : 1 ≤ k') (z1 : 1 ≤ z) (nZ : Nz Z) (hX : Fm n X) (hY : Fm n' Y) (hZ : Fm z Z) :
    Com (n + n' - 1) z (k + k' - 1) (fun x y => X x y * Y x y) Z (fun x y => D1 x y * D2 x y) := by
  have hn : Nz fun x y => D1 x y * D2 x y := Classical.byContradiction fun c => by
    have := h1.hT.can0 h1.nz h2.hT fun x y => Classical.byContradiction fun ne => c ⟨x, y, ne⟩
    obtain ⟨x, y, h0⟩ := h2.nz
    exact h0 (this x y)
  have kz := h1.dg.le nZ
  have kz' := h2.dg.le nZ
  refine ⟨h1.hT.mul h2.hT (by omega), hn, h1.df.mul h2.df k1 k2 n1 n2, ?_, ?_⟩
  · obtain ⟨a, A, ha, hA, p⟩ := h1.dg
    obtain ⟨b, B, hb, hB, q⟩ := h2.dg
    obtain ⟨N, i1, i2⟩ := ap.id
    have go : ∀ {φ : Bi}, Idl n n' (1 + N) X Y (fun x y => φ x y * 1) → Dv k' ((z + 1 - k) + N) D2 fun x y => φ x y * A x y := fun {φ} i => by
      obtain ⟨c, U, V, hc, hU, hV, r⟩ := i.dv2 h1.df h2.df
      refine ⟨b * c, _, Int.mul_ne_zero hb hc, ((hU.mul hB (k := z + 1 - k + N + 1 - k') (by omega)).mulc a).add ((hV.mul hA (k := z + 1 - k + N + 1 - k') (by omega)).mulc b), fun x y => ?_⟩
      have := p x y
      have := q x y
      have := r x y
      grind
    obtain ⟨c, A3, hc, hA3, r⟩ := Dv.both h2.hT h2.nz hA (go i1) (go i2)
    exact ⟨a * c, A3, Int.mul_ne_zero ha hc, hA3.cast (by omega), fun x y => by
      have := p x y
      have := r x y
      grind⟩
  · obtain ⟨N, i1, i2⟩ := h1.id
    obtain ⟨N', j1, j2⟩ := h2.id
    refine ⟨N + N', ?_, ?_⟩
    · obtain ⟨c, U, V, hc, hU, hV, e⟩ := i1.mul j1 n1 n2 k1 k2 z1 hX hY hZ
      exact ⟨c, U, V, hc, hU, hV, fun x y => by dsimp only; rw [Int.pow_add]; exact e x y⟩
    · obtain ⟨c, U, V, hc, hU, hV, e⟩ := i2.mul j2 n1 n2 k1 k2 z1 hX hY hZ
      exact ⟨c, U, V, hc, hU, hV, fun x y => by dsimp only; rw [Int.pow_add]; exact e x y⟩
end
end K76

set_option Elab.async false
set_option linter.all false
/-! while, by a word and a measure of the state, where the test is read at once -/
namespace WhileD
open PySem PySem.Spec PyProof.Rows L2
/-- what stands behind a turn -/
def Nxt (Pv : L2.St → Hp → Prop) (μ : L2.St → Nat) (n : Nat) : L2.St → Hp → Prop := fun σ H => Pv σ H ∧ μ σ < n
theorem while_dir {c : TT} {tb : TS} {D : Ends} {σ : L2.St} {H : Hp} (Pv : L2.St → Hp → Prop) (μ : L2.St → Nat) (h0 : Pv σ H)
    (hs : ∀ σ H, Pv σ H → c σ H fun b H1 => if b = true then ∃ N : L2.St → Hp → Prop, (∀ σ' H', N σ' H' → ∃ m', m' < μ σ ∧ m' = μ σ' ∧ Pv σ' H') ∧ tb { D with nx := N, ct := N, bk := D.nx } σ H1 else D.nx σ H1) : tWhile c tb D σ H := by
  refine ⟨fun m σ H => m = μ σ ∧ Pv σ H, ⟨_, rfl, h0⟩, ?_⟩
  rintro m σ H ⟨rfl, p⟩
  exact hs σ H p
theorem turn {tb : TS} {D : Ends} {σ : L2.St} {H1 : Hp} {Pv : L2.St → Hp → Prop} {μ : L2.St → Nat} {n : Nat} (h : tb { D with nx := Nxt Pv μ n, ct := Nxt Pv μ n, bk := D.nx } σ H1) :
    ∃ N : L2.St → Hp → Prop, (∀ σ' H', N σ' H' → ∃ m', m' < n ∧ m' = μ σ' ∧ Pv σ' H') ∧ tb { D with nx := N, ct := N, bk := D.nx } σ H1 :=
  ⟨_, fun σ' H' p => ⟨_, p.2, rfl, p.1⟩, h⟩
end WhileD
namespace WhileD
open PySem PySem.Spec PyProof.Rows L2
def NxtM (Pv : Nat → L2.St → Hp → Prop) (n : Nat) : L2.St → Hp → Prop := fun σ H => ∃ m, m < n ∧ Pv m σ H
theorem while_m {c : TT} {tb : TS} {D : Ends} {σ : L2.St} {H : Hp} (Pv : Nat → L2.St → Hp → Prop) (h0 : ∃ m, Pv m σ H)
    (hs : ∀ m σ H, Pv m σ H → c σ H fun b H1 => if b = true then ∃ N : L2.St → Hp → Prop, (∀ σ' H', N σ' H' → ∃ m', m' < m ∧ Pv m' σ' H') ∧ tb { D with nx := N, ct := N, bk := D.nx } σ H1 else D.nx σ H1) : tWhile c tb D σ H := by
  refine ⟨Pv, h0, ?_⟩
  exact fun m σ H p => hs m σ H p
theorem turnM {tb : TS} {D : Ends} {σ : L2.St} {H1 : Hp} {Pv : Nat → L2.St → Hp → Prop} {n : Nat} (h : tb { D with nx := NxtM Pv n, ct := NxtM Pv n, bk := D.nx } σ H1) :
    ∃ N : L2.St → Hp → Prop, (∀ σ' H', N σ' H' → ∃ m', m' < n ∧ Pv m' σ' H') ∧ tb { D with nx := N, ct := N, bk := D.nx } σ H1 := ⟨_, fun _ _ p => p, h⟩
end WhileD

set_option Elab.async false
set_option linter.all false
set_option maxRecDepth 100000
set_option maxHeartbeats 4000000
set_option exponentiation.threshold 10000
/-! cut lines, rests -/
namespace K76
open PySem PySem.Spec PyProof.Rows L2 StX RZ MyR SlX OwnR OwnF EnumT SeqE GxR GenNx FDivQ
/-- without the zeros ahead -/
def cut (l : List Int) : List Int := l.dropWhile (· == 0)
def ah (l : List Int) : Nat := (l.takeWhile (· == 0)).length
theorem cut_z (l : List Int) : cut (0 :: l) = cut l := rfl
theorem ah_z (l : List Int) : ah (0 :: l) = ah l + 1 := rfl
theorem cut_n {a : Int} (h : a ≠ 0) (l : List Int) : cut (a :: l) = a :: l := by
  unfold cut
  rw [List.dropWhile_cons_of_neg (by simpa using h)]
theorem ah_n {a : Int} (h : a ≠ 0) (l : List Int) : ah (a :: l) = 0 := by
  unfold ah
  rw [List.takeWhile_cons_of_neg (by simpa using h)]
  rfl
theorem cut_drop : ∀ l : List Int, l.drop (ah l) = cut l
  | [] => rfl
  | a :: l => by
    by_cases h : a = 0
    · subst h
      rw [ah_z, cut_z, List.drop_succ_cons, cut_drop l]
    · rw [ah_n h, cut_n h]
      rfl
theorem ah_zero : ∀ {l : List Int} {j : Nat}, j < ah l → co l j = 0
  | [], j, h => absurd h (Nat.not_lt_zero _)
  | a :: l, j, h => by
    by_cases e : a = 0
    · subst e
      rw [ah_z] at h
      cases j with
      | zero => rfl
      | succ j => exact ah_zero (l := l) (by omega)
    · rw [ah_n e] at h
      exact absurd h (Nat.not_lt_zero _)
theorem ah_le : ∀ l : List Int, ah l ≤ l.length
  | [] => Nat.le_refl _
  | a :: l => by
    by_cases e : a = 0
    · subst e
      rw [ah_z, List.length_cons]
      exact Nat.succ_le_succ (ah_le l)
    · rw [ah_n e]
      exact Nat.zero_le _
theorem ah_lead : ∀ {l : List Int}, ah l < l.length → co l (ah l) ≠ 0
  | [], h => absurd h (Nat.not_lt_zero _)
  | a :: l, h => by
    by_cases e : a = 0
    · subst e
      rw [ah_z] at h ⊢
      exact ah_lead (l := l) (by rw [List.length_cons] at h; omega)
    · rw [ah_n e]
      exact e
section
variable {P : Program} {w : World} {K : PySem.W.Frag} {mg : Str → Option Value} {base : Heap} {Ps : List Addr}
theorem slice_from {H : Hp} {t : Addr} {l : List Int} {k : Nat} {R : VK} (ht : H t = some (tp l) ∨ H t = some (ls l)) (hk : k ≤ l.length) (q : ∀ p H', Same H H' → (H' p = some (tp (l.drop k)) ∨ H' p = some (ls (l.drop k))) → R (.ref p) H') :
    rSlL K (.ref t) (some (k : Int)) none H R ∨ rSlA K (.ref t) (some (k : Int)) none H R := by
  have ec : cutV (l.map V.int) (some (k : Int)) none = (l.drop k).map V.int := by
    unfold cutV
    rw [HT.sIx_none, HT.sIx_nat, List.length_map, Nat.min_eq_left hk, ← List.map_drop, ← List.map_take, List.take_of_length_le (by rw [List.length_drop]; omega)]
  rcases ht with e | e
  · refine .inr ⟨t, l.map V.int, rfl, SqT.of e, fun z => q t H (Same.rf H) (.inl ?_), fun _ p hp => q p _ (same_upd0 hp) (.inl ?_)⟩
    · have z1 := z.1
      rw [HT.sIx_nat, List.length_map, Nat.min_eq_left hk] at z1
      rw [z1]
      exact e
    · rw [upd_same, ec]
  · refine .inl ⟨t, l.map V.int, rfl, SqL.of e, fun p hp => q p _ (same_upd0 hp) (.inr ?_)⟩
    rw [upd_same, ec]
def spCut : Sp := fun vs H Q _ => ∃ (t : Addr) (l : List Int), vs = [.ref t] ∧ (H t = some (tp l) ∨ H t = some (ls l)) ∧ l.length ≤ 100 ∧ ∀ p H', Same H H' → H' p = some (ls (cut l)) → Q (.ref p) H'
theorem ok_cut_line (T : Facts K mg) : FnOk P w K mg base CX0 1 T.f_cut_line T.fd_cut_line ["numbers"] spCut := by
  refine T.F_cut_line.ok sc_cut_line (fun vs H Q E h => ?_) (fun cdv A outer s H vs Q E hr h => ?_)
  · obtain ⟨t, l, rfl, _⟩ := h
    rfl
  · obtain ⟨t, l, rfl, ht, hl, q⟩ := h
    refine ⟨_, (PSs.nox (pss_cons (ps_set (i := 1) sc_cut_line.nd rfl (.inl rfl) pe_int)
    (pss_cons (ps_while PassesOwn.never (pw_and (pt_cmpR op_lt (pv 1) (pe_callB call_len_seq (by rfl) T.z_len (by decide +kernel) (pa_cons (pv 0) pa_nil)) (nomark _)) (pw_and1 (pt_cmpR op_eq (pe_ix ix_seq (pv 0) (pv 1) (fun _ _ => rfl)) pe_int (nomark _)))).pt
      (pss_one (ps_aug (i := 1) sc_cut_line.nd rfl (.inl rfl) pe_int ip_add)))
    (pss_one (ps_ret (pe_callTy call_list_of (by rfl) T.z_list (by decide +kernel) (pa_cons (pe_slice (L2.SlR.or (sl_list : L2.SlR _ (rSlL K)) (sl_tupA : L2.SlR _ (rSlA K))) (pv 0) (po_some (pv 1)) po_none) pa_nil))))))), ?_⟩
    refine WhileD.while_dir (fun σ H' => ∃ k : Nat, σ = [some (.ref t), some (.int k)] ∧ k ≤ ah l ∧ H' = H) (fun σ => l.length - yOf σ) ⟨0, rfl, Nat.zero_le _, rfl⟩ (fun σ H' hP => ?_)
    obtain ⟨k, rfl, hk, rfl⟩ := hP
    have sq : SqL K H' t (l.map V.int) ∨ SqT K H' t (l.map V.int) := ht.elim (fun e => .inr (SqT.of e)) fun e => .inl (SqL.of e)
    refine ⟨_, rfl, _, rfl, t, _, rfl, sq, _, _, rfl, rfl, _, rfl, ?_⟩
    rw [List.length_map]
    by_cases c : k < l.length
    · rw [decide_eq_true (show (k : Int) < (l.length : Int) by omega)]
      refine iteT ⟨_, rfl, _, rfl, SeqE.ix_sq (xs := l.map V.int) ht (atI_nat (j := k) (get_int c)) ⟨rfl, _, rfl, ?_⟩⟩
      by_cases z : co l k = 0
      · rw [z]
        refine iteT (WhileD.turn ⟨_, rfl, _, _, rfl, rfl, ?_⟩)
        refine ⟨⟨k + 1, rfl, ?_, rfl⟩, ?_⟩
        · refine Classical.byContradiction fun n => ?_
          exact ah_lead (l := l) (by omega) (by rw [show ah l = k by omega]; exact z)
        · show l.length - ((k : Int) + 1).toNat < l.length - (k : Int).toNat
          omega
      · rw [decide_eq_false fun e => z (V.int.inj e)]
        have ek : ah l = k := Nat.le_antisymm (Classical.byContradiction fun n => z (ah_zero (by omega))) hk
        refine iteF ⟨_, rfl, _, rfl, _, rfl, slice_from ht (by have := ah_le l; omega) fun p H1 s1 e1 => ⟨p, (l.drop k).map V.int, rfl, e1.elim (fun e => .inr (SqT.of e)) fun e => .inl (SqL.of e), fun D hD => q D _ (s1.trans (same_upd0 hD)) ?_⟩⟩
        rw [upd_same, ← cut_drop, ek]
    · rw [decide_eq_false (show ¬ (k : Int) < (l.length : Int) by omega)]
      have := ah_le l
      have ek : ah l = k := by omega
      refine iteF ⟨_, rfl, _, rfl, _, rfl, slice_from ht (by have := ah_le l; omega) fun p H1 s1 e1 => ⟨p, (l.drop k).map V.int, rfl, e1.elim (fun e => .inr (SqT.of e)) fun e => .inl (SqL.of e), fun D hD => q D _ (s1.trans (same_upd0 hD)) ?_⟩⟩
      rw [upd_same, ← cut_drop, ek]
end
end K76

set_option Elab.async false
set_option linter.all false
set_option maxRecDepth 100000
set_option maxHeartbeats 4000000
set_option exponentiation.threshold 10000
/-! rests, shared parts -/
namespace K76
open PySem PySem.Spec PyProof.Rows L2 StX RZ MyR SlX OwnR OwnF EnumT SeqE GxR GenNx FDivQ
/-- one turn: the first entries are taken away -/
def lng (l g : List Int) : List Int := g ++ List.replicate (l.length - g.length) 0
def sub1 (l g : List Int) : List Int := tb l.length fun k => co l k * co g 0 - co l 0 * co (lng l g) k
def stp1 (l g : List Int) : List Int := (sub1 l g).drop 1
def rlN : Nat → List Int → List Int → List Int
  | 0, l, _ => l
  | n + 1, l, g => stp1 (rlN n l g) g
theorem lng_len {l g : List Int} (h : g.length ≤ l.length) : (lng l g).length = l.length := by
  unfold lng
  rw [List.length_append, List.length_replicate]
  omega
theorem sub1_len (l g : List Int) : (sub1 l g).length = l.length := tb_len _ _
theorem stp1_len (l g : List Int) : (stp1 l g).length = l.length - 1 := by
  unfold stp1
  rw [List.length_drop, sub1_len]
theorem rlN_len (f g : List Int) : ∀ n, (rlN n f g).length = f.length - n
  | 0 => rfl
  | n + 1 => by
    show (stp1 (rlN n f g) g).length = _
    rw [stp1_len, rlN_len f g n]
    omega
theorem co_lng (l g : List Int) (k : Nat) : co (lng l g) k = co g k := co_appz g _ k
def rlf (f g : List Int) : List Int := rlN (f.length + 1 - g.length) f g
def rst (f g : List Int) : List Int := primE (cut (rlf f g))
/-- the sizes of a turn -/
structure StOk (l g : List Int) : Prop where
  m1 : ∀ k, CMulW (co l k) (co g 0)
  m2 : ∀ k, CMulW (co l 0) (co g k)
def RsOk (f g : List Int) : Prop := (∀ n, n < f.length + 1 - g.length → StOk (rlN n f g) g) ∧ DivOk (cut (rlf f g))
section
variable {P : Program} {w : World} {K : PySem.W.Frag} {mg : Str → Option Value} {base : Heap} {Ps : List Addr}
theorem sz1 : 1 ≤ sizeLine := by decide
def spRest (Ps : List Addr) : Sp := fun vs H Q _ => ∃ (a b : Addr) (f g : List Int), vs = [.ref a, .ref b] ∧ H a = some (ls f) ∧ H b = some (ls g) ∧ f.length ≤ 100 ∧ g.length ≤ 100 ∧ 1 ≤ g.length ∧ RsOk f g ∧ Tg Ps H ∧ ∀ p H', Sts Ps H H' → Tg Ps H' → H' p = some (ls (rst f g)) → Q (.ref p) H'
theorem ok_rest_of (T : Facts K mg) (TB_first_of : TabB base mg T.c_first_of T.P_first_of) (hP : T.P_first_of ∈ Ps) : FnOk P w K mg base CX0 3 T.f_rest_of T.fd_rest_of ["one", "other"] (spRest Ps) := by
  have G_cut_line : FnOk P w K mg base CX0 1 T.f_cut_line T.fd_cut_line ["numbers"] spCut := ok_cut_line T
  have G_primitive_of := ok_primitive_of (P := P) (w := w) (base := base) T TB_first_of hP
  refine T.F_rest_of.ok sc_rest_of (fun vs H Q E h => ?_) (fun cdv A outer s H vs Q E hr h => ?_)
  · obtain ⟨a, b, f, g, rfl, _⟩ := h
    rfl
  · obtain ⟨a, b, f, g, rfl, ha, hb, hf, hg, g1, ok, hG, q⟩ := h
    refine ⟨_, (PSs.nox (pss_cons (ps_set (i := 2) sc_rest_of.nd rfl (.inl rfl) (pe_callTy call_list_of (by rfl) T.z_list (by decide +kernel) (pa_cons (pv 0) pa_nil)))
    (pss_cons (ps_while PassesOwn.never (pt_cmpR op_ge (pe_callB call_len_seq (by rfl) T.z_len (by decide +kernel) (pa_cons (pv 2) pa_nil)) (pe_callB call_len_seq (by rfl) T.z_len (by decide +kernel) (pa_cons (pv 1) pa_nil)) (nomark _))
      (pss_cons (ps_asg (pe_tup (pa_cons (pe_ix ix_list (pv 2) pe_int (fun _ _ => rfl)) (pa_cons (pe_lst (pa_star (pv 1) (pa_star (pe_op op_rep (pe_lst (pa_cons pe_int pa_nil)) (pe_op op_sub (pe_callB call_len_seq (by rfl) T.z_len (by decide +kernel) (pa_cons (pv 2) pa_nil)) (pe_callB call_len_seq (by rfl) T.z_len (by decide +kernel) (pa_cons (pv 1) pa_nil)))) pa_nil))) pa_nil))) (pg_tup (by rfl) (pgs_cons (pg_name (i := 3) sc_rest_of.nd rfl (.inr rfl)) (pgs_cons (pg_name (i := 4) sc_rest_of.nd rfl (.inl rfl)) pgs_nil))))
      (pss_one (ps_set (i := 2) sc_rest_of.nd rfl (.inl rfl) (pe_slice sl_list (pe_lc (own := [("number", 5), ("taken", 6)]) (g := (gTup K 2 (gCons (gName 5) (gCons (gName 6) gNil)))) (tt := tYes) (by rfl) sc_rest_of.nd (pi_zipA (by rfl) T.z_zip (pa_cons (pv 2) (pa_cons (pv 4) pa_nil))) (blkOk_by (N := N_rest_of) (sc := defScope s_rest_of) (by decide +kernel)) (fun _ _ _ _ _ => (pg_tup (by rfl) (pgs_cons (pg_name (i := 5) sc_rest_of.nd rfl (.inl rfl)) (pgs_cons (pg_name (i := 6) sc_rest_of.nd rfl (.inl rfl)) pgs_nil)))) (fun _ _ _ _ _ => pts_nil) (fun _ _ _ _ _ => (pe_op op_sub (pe_op op_mulW (pv 5) (pe_ix (ix_list : IxR _ (rIxL K)) (pv 1) pe_int (fun _ _ => rfl))) (pe_op op_mulW (pv 3) (pv 6))))) (po_some pe_int) po_none)))))
    (pss_one (ps_ret (pe_call G_primitive_of hr (by rfl) T.g_primitive_of T.F_primitive_of.kp T.b_primitive_of .nil pass0 (pa_cons (pe_call G_cut_line (hr.mono (by decide)) (by rfl) T.g_cut_line T.F_cut_line.kp T.b_cut_line .nil pass0 (pa_cons (pv 2) pa_nil)) pa_nil))))))), ?_⟩
    refine ⟨_, rfl, a, f.map V.int, rfl, .inl (SqL.of ha), fun L0 hL0 => ?_⟩
    refine WhileD.while_m (fun m σ H' => ∃ (n : Nat) (L : Addr) (o3 o4 : Option V), m = f.length + 1 - g.length - n ∧ n ≤ f.length + 1 - g.length ∧ σ = [some (.ref a), some (.ref b), some (.ref L), o3, o4, none, none] ∧ Same H H' ∧ H' L = some (ls (rlN n f g))) ⟨_, 0, L0, none, none, rfl, Nat.zero_le _, rfl, same_upd0 hL0, upd_same⟩ (fun m σ H' hP => ?_)
    obtain ⟨n, L, o3, o4, rfl, hn, rfl, sH, hL⟩ := hP
    have ln := rlN_len f g n
    have hb' := sH _ _ hb
    refine ⟨_, rfl, L, _, rfl, .inl (SqL.of hL), _, rfl, b, _, rfl, .inl (SqL.of hb'), _, _, rfl, rfl, _, rfl, ?_⟩
    rw [List.length_map, List.length_map]
    by_cases c : g.length ≤ (rlN n f g).length
    · rw [decide_eq_true (show (g.length : Int) ≤ ((rlN n f g).length : Int) by omega)]
      have so := ok.1 n (by omega)
      have lb : (rlN n f g).length ≤ 100 := by omega
      generalize hl : rlN n f g = l at *
      refine iteT (WhileD.turnM ⟨_, rfl, L, _, 0, .int (co l 0), rfl, rfl, SqL.of hL, atI_nat (j := 0) (get_int (by omega)), _, rfl, b, _, rfl, .inr (SqL.of hb'), sz1, fun p1 n1 => gen_upd H' p1 (ls [0]) n1 fun H1 s1 e1 => ?_⟩)
      refine ⟨_, rfl, L, _, rfl, .inl (SqL.of (s1 _ _ hL)), _, rfl, b, _, rfl, .inl (SqL.of (s1 _ _ hb')), _, _, rfl, rfl, ?_⟩
      rw [List.length_map, List.length_map]
      refine ⟨p1, _, [V.int 0], rfl, rfl, e1, by omega, by omega, ?_, fun p2 n2 => gen_upd H1 p2 _ n2 fun H2 s2 e2 => ⟨p2, _, rfl, .inr (SqL.of e2), ?_⟩⟩
      · exact Nat.le_trans (show [V.int 0].length * ((l.length : Int) - (g.length : Int)).toNat ≤ 100 by rw [List.length_singleton]; omega) (by decide)
      · have e3 : g.map V.int ++ ((List.replicate ((l.length : Int) - (g.length : Int)).toNat [V.int 0]).flatten ++ []) = (lng l g).map V.int := by
          unfold lng
          rw [List.append_nil, List.map_append, List.map_replicate, List.flatten_replicate_singleton, show ((l.length : Int) - (g.length : Int)).toNat = l.length - g.length by omega]
        dsimp only [tNil]
        rw [e3]
        refine ⟨by rw [List.length_map, lng_len c]; exact Nat.le_trans lb (by decide), fun p3 n3 => gen_upd H2 p3 (ls (lng l g)) n3 fun H3 s3 e3' => ⟨sz2, fun p4 n4 => gen_upd H3 p4 _ n4 fun H4 s4 e4 => ?_⟩⟩
        refine ⟨p4, _, rfl, SqT.of e4, rfl, _, _, rfl, _, _, rfl, rfl, ?_⟩
        have s14 := s1.trans (s2.trans (s3.trans s4))
        have hL4 := s14 _ _ hL
        have hb4 := s14 _ _ hb'
        have h34 := s4 _ _ e3'
        refine ⟨_, rfl, _, rfl, L, p3, _, _, rfl, .inl ⟨SqL.of hL4, SqL.of h34, fun D hD => ?_⟩⟩
        refine lc_zipL (xs := l.map V.int) (ys := (lng l g).map V.int) (by rw [List.length_map, List.length_map, lng_len c]) (fun j H' => Same H4 H' ∧ H' D = some (.lst (tab j fun k => co l k * co g 0 - co l 0 * co (lng l g) k))) ⟨same_upd0 hD, upd_same⟩ (fun j H' _ hP => ⟨SqL.of (hP.1 _ _ hL4), SqL.of (hP.1 _ _ h34)⟩) (fun j x y A H' hx hy hP hA => ?_) (fun H' hP => ?_)
        · obtain ⟨sH5, hD'⟩ := hP
          obtain ⟨hj, rfl⟩ := int_get hx
          obtain ⟨_, rfl⟩ := int_get hy
          have sA := same_upd0 (o := .tup [.int (co l j), .int (co (lng l g) j)]) hA
          refine ⟨A, _, rfl, SqT.of upd_same, rfl, _, _, rfl, _, _, rfl, rfl, rfl, _, rfl, _, rfl, b, _, 0, .int (co g 0), rfl, rfl, SqL.of (sA _ _ (sH5 _ _ hb4)), atI_nat (j := 0) (get_int (by omega)), _, _, rfl, rfl, so.m1 j, _, rfl, _, rfl, _, _, rfl, rfl, (by rw [co_lng]; exact so.m2 j), _, _, rfl, rfl, _, sA _ _ hD', ?_, fun b o e => ?_, ?_⟩
          · rw [tab_len]
            exact small1000 (by omega)
          · rw [upd_ne (ne_of_none e hD)]
            exact sA _ _ (sH5 _ _ e)
          · rw [upd_same, ← tab_snoc]
        · obtain ⟨s5, hD'⟩ := hP
          rw [List.length_map, tab_tb] at hD'
          have e6 : cutV ((tb l.length fun k => co l k * co g 0 - co l 0 * co (lng l g) k).map V.int) (some ((1 : Nat) : Int)) none = (stp1 l g).map V.int := by
            unfold cutV
            rw [HT.sIx_none, HT.sIx_nat, List.length_map, tb_len, Nat.min_eq_left (by omega), ← List.map_drop, ← List.map_take, List.take_of_length_le (by rw [List.length_drop, tb_len]; omega)]
            rfl
          refine ⟨_, rfl, D, _, rfl, SqL.of hD', fun p5 n5 => ⟨_, ?_, n + 1, p5, _, _, rfl, by omega, rfl, sH.trans (s14.trans (s5.trans (same_upd0 n5))), ?_⟩⟩
          · show f.length + 1 - g.length - (n + 1) < f.length + 1 - g.length - n
            omega
          · rw [upd_same]
            show some (HO.lst (cutV ((tb l.length fun k => co l k * co g 0 - co l 0 * co (lng l g) k).map V.int) (some ((1 : Nat) : Int)) none)) = some (ls (stp1 (rlN n f g) g))
            rw [e6, hl]
    · rw [decide_eq_false (show ¬ (g.length : Int) ≤ ((rlN n f g).length : Int) by omega)]
      have en : n = f.length + 1 - g.length := by omega
      subst en
      refine iteF ⟨_, rfl, L, _, rfl, .inr hL, by omega, fun p1 H1 s1 e1 => ⟨p1, _, rfl, e1, ?_, ok.2, hG.same (sH.trans s1), fun p2 H2 s2 g2 e2 => q p2 H2 ((Sts.of (sH.trans s1)).trans s2) g2 e2⟩⟩
      refine Nat.le_trans (m := (rlf f g).length) ?_ (by unfold rlf; omega)
      unfold cut
      exact (List.dropWhile_sublist _).length_le
end
end K76

set_option Elab.async false
set_option linter.all false
set_option maxRecDepth 100000
set_option maxHeartbeats 4000000
set_option exponentiation.threshold 10000
/-! shared parts, common forms by entries -/
namespace K76
open PySem PySem.Spec PyProof.Rows L2 StX RZ MyR SlX OwnR OwnF EnumT SeqE GxR GenNx FDivQ
theorem cut_len (l : List Int) : (cut l).length ≤ l.length := by
  unfold cut
  exact (List.dropWhile_sublist _).length_le
theorem rlf_len (f g : List Int) : (rlf f g).length = min f.length (g.length - 1) ∨ g = [] := by
  unfold rlf
  rw [rlN_len]
  by_cases h : g = []
  · exact .inr h
  · have := List.length_pos_iff.mpr h
    exact .inl (by omega)
theorem rst_len {f g : List Int} (h : 1 ≤ g.length) : (rst f g).length ≤ f.length ∧ (rst f g).length ≤ g.length - 1 := by
  unfold rst
  rw [primE_len]
  have := cut_len (rlf f g)
  rcases rlf_len f g with e | e
  · omega
  · rw [e] at h
    exact absurd h (by decide)
/-- the last one of Euclid's rests -/
def shp : Nat → List Int → List Int → List Int
  | 0, f, _ => f
  | n + 1, f, g => if g = [] then f else shp n g (rst f g)
theorem shp_len : ∀ (n : Nat) (f g : List Int), (shp n f g).length ≤ max f.length g.length
  | 0, f, g => Nat.le_max_left _ _
  | n + 1, f, g => by
    show (if g = [] then f else shp n g (rst f g)).length ≤ _
    by_cases c : g = []
    · rw [if_pos c]
      exact Nat.le_max_left _ _
    · rw [if_neg c]
      have := shp_len n g (rst f g)
      have := rst_len (f := f) (List.length_pos_iff.mpr c)
      omega
def ShOk : Nat → List Int → List Int → Prop
  | 0, f, g => g = [] ∧ DivOk f
  | n + 1, f, g => (g = [] → DivOk f) ∧ (g ≠ [] → RsOk f g ∧ ShOk n g (rst f g))
section
variable {P : Program} {w : World} {K : PySem.W.Frag} {mg : Str → Option Value} {base : Heap} {Ps : List Addr}
theorem sz0 : 0 ≤ sizeLine := by decide
def spSharedP (Ps : List Addr) : Sp := fun vs H Q _ => ∃ (a b : Addr) (f g : List Int) (n : Nat), vs = [.ref a, .ref b] ∧ H a = some (ls f) ∧ H b = some (ls g) ∧ f.length ≤ 100 ∧ g.length ≤ 100 ∧ ShOk n f g ∧ Tg Ps H ∧ ∀ p H', Sts Ps H H' → Tg Ps H' → H' p = some (ls (primE (shp n f g))) → Q (.ref p) H'
theorem ok_shared_part (T : Facts K mg) (TB_first_of : TabB base mg T.c_first_of T.P_first_of) (hP : T.P_first_of ∈ Ps) : FnOk P w K mg base CX0 4 T.f_shared_part T.fd_shared_part ["one", "other"] (spSharedP Ps) := by
  have G_rest_of := ok_rest_of (P := P) (w := w) (base := base) T TB_first_of hP
  have G_primitive_of := ok_primitive_of (P := P) (w := w) (base := base) T TB_first_of hP
  refine T.F_shared_part.ok sc_shared_part (fun vs H Q E h => ?_) (fun cdv A outer s H vs Q E hr h => ?_)
  · obtain ⟨a, b, f, g, n, rfl, _⟩ := h
    rfl
  · obtain ⟨a, b, f, g, n, rfl, ha, hb, hf, hg, ok, hG, q⟩ := h
    refine ⟨_, (PSs.nox (pss_cons (ps_while PassesOwn.never (pt_cmpR (op_neD (hu64 hr)) (pv 1) (pe_lst pa_nil) (nomark _))
      (pss_one (ps_par (i := 0) (j := 1) (by rfl) sc_shared_part.nd rfl rfl (by decide) rfl rfl (pa_cons (pv 1) (pa_cons (pe_call G_rest_of hr (by rfl) T.g_rest_of T.F_rest_of.kp T.b_rest_of .nil pass0 (pa_cons (pv 0) (pa_cons (pv 1) pa_nil))) pa_nil)) (by rfl))))
    (pss_one (ps_ret (pe_call G_primitive_of (hr.mono (by decide)) (by rfl) T.g_primitive_of T.F_primitive_of.kp T.b_primitive_of .nil pass0 (pa_cons (pv 0) pa_nil)))))), ?_⟩
    refine WhileD.while_m (fun m σ H' => ∃ (a b : Addr) (f' g' : List Int), σ = [some (.ref a), some (.ref b)] ∧ H' a = some (ls f') ∧ H' b = some (ls g') ∧ f'.length ≤ 100 ∧ g'.length ≤ 100 ∧ ShOk m f' g' ∧ shp m f' g' = shp n f g ∧ Sts Ps H H' ∧ Tg Ps H') ⟨n, a, b, f, g, rfl, ha, hb, hf, hg, ok, rfl, Sts.rf Ps H, hG⟩ (fun m σ H' hP => ?_)
    obtain ⟨a', b', f', g', rfl, ha', hb', hf', hg', ok', es, sH, gH⟩ := hP
    refine ⟨_, rfl, sz0, fun p0 n0 => gen_upd H' p0 (ls []) n0 fun H1 s1 e1 => ne_lintsL (xs := g') (ys := []) (SqL.of (s1 _ _ hb')) (SqL.of e1) ⟨_, rfl, ?_⟩⟩
    by_cases c : g' = []
    · rw [decide_eq_true c]
      have hd : DivOk f' ∧ shp m f' g' = f' := by
        cases m with
        | zero => exact ⟨ok'.2, rfl⟩
        | succ m => exact ⟨ok'.1 c, if_pos c⟩
      rw [← es, hd.2] at q
      exact iteF ⟨_, rfl, a', f', rfl, s1 _ _ ha', hf', hd.1, gH.same s1, fun p H2 s2 g2 e2 => q p H2 (sH.trans ((Sts.of s1).trans s2)) g2 e2⟩
    · rw [decide_eq_false c]
      cases m with
      | zero => exact absurd ok'.1 c
      | succ m =>
        obtain ⟨r1, r2⟩ := ok'.2 c
        have gl := List.length_pos_iff.mpr c
        have rl := rst_len (f := f') (g := g') gl
        rw [show shp (m + 1) f' g' = shp m g' (rst f' g') from if_neg c] at es
        refine iteT (WhileD.turnM ⟨_, rfl, _, rfl, _, rfl, a', b', f', g', rfl, s1 _ _ ha', s1 _ _ hb', hf', hg', gl, r1, gH.same s1, fun p H2 s2 g2 e2 => ⟨_, _, rfl, ?_⟩⟩)
        exact ⟨m, Nat.lt_succ_self m, b', p, g', rst f' g', rfl, s2.lst (gH.same s1) (s1 _ _ hb'), e2, hg', by omega, r2, es, sH.trans ((Sts.of s1).trans s2), g2⟩
def spAhead : Sp := fun vs H Q _ => ∃ (t : Addr) (l : List Int), vs = [.ref t] ∧ (H t = some (tp l) ∨ H t = some (ls l)) ∧ l.length ≤ 100 ∧ ∀ H', Same H H' → Q (.int (ah l)) H'
theorem ok_ahead_of (T : Facts K mg) : FnOk P w K mg base CX0 2 T.f_ahead_of T.fd_ahead_of ["entries"] spAhead := by
  have G_cut_line : FnOk P w K mg base CX0 1 T.f_cut_line T.fd_cut_line ["numbers"] spCut := ok_cut_line T
  refine T.F_ahead_of.ok sc_ahead_of (fun vs H Q E h => ?_) (fun cdv A outer s H vs Q E hr h => ?_)
  · obtain ⟨t, l, rfl, _⟩ := h
    rfl
  · obtain ⟨t, l, rfl, ht, hl, q⟩ := h
    refine ⟨_, (PSs.nox (pss_one (ps_ret (pe_op op_sub (pe_callB call_len_seq (by rfl) T.z_len (by decide +kernel) (pa_cons (pv 0) pa_nil)) (pe_callB call_len_seq (by rfl) T.z_len (by decide +kernel) (pa_cons (pe_call G_cut_line hr (by rfl) T.g_cut_line T.F_cut_line.kp T.b_cut_line .nil pass0 (pa_cons (pv 0) pa_nil)) pa_nil)))))), ?_⟩
    refine ⟨_, rfl, t, l.map V.int, rfl, ht.symm.imp (fun e => SqL.of e) (fun e => SqT.of e), _, rfl, t, l, rfl, ht, hl, fun p H1 s1 e1 => ⟨p, _, rfl, .inl (SqL.of e1), _, _, rfl, rfl, ?_⟩⟩
    rw [List.length_map, List.length_map, ← cut_drop, List.length_drop]
    have := ah_le l
    have e := q H1 s1
    rw [show (ah l : Int) = (l.length : Int) - ((l.length - ah l : Nat) : Int) by omega] at e
    exact e
/-- the entries of the common form -/
def cmn (F G : List Int) : List Int := List.replicate (min (ah F) (ah G)) 0 ++ primE (shp (cut G).length (cut F) (cut G))
def spCommonIn (Ps : List Addr) : Sp := fun vs H Q _ => ∃ (a b : Addr) (F G : List Int), vs = [.ref a, .ref b] ∧ H a = some (tp F) ∧ H b = some (tp G) ∧ F.length ≤ 100 ∧ G.length ≤ 100 ∧ ShOk (cut G).length (cut F) (cut G) ∧ Tg Ps H ∧ ∀ p H', Sts Ps H H' → Tg Ps H' → H' p = some (ls (cmn F G)) → Q (.ref p) H'
theorem ok_common_in (T : Facts K mg) (TB_first_of : TabB base mg T.c_first_of T.P_first_of) (hP : T.P_first_of ∈ Ps) : FnOk P w K mg base CX0 5 T.f_common_in T.fd_common_in ["one", "other"] (spCommonIn Ps) := by
  have G_cut_line : FnOk P w K mg base CX0 1 T.f_cut_line T.fd_cut_line ["numbers"] spCut := ok_cut_line T
  have G_ahead_of : FnOk P w K mg base CX0 2 T.f_ahead_of T.fd_ahead_of ["entries"] spAhead := ok_ahead_of T
  have G_shared_part := ok_shared_part (P := P) (w := w) (base := base) T TB_first_of hP
  refine T.F_common_in.ok sc_common_in (fun vs H Q E h => ?_) (fun cdv A outer s H vs Q E hr h => ?_)
  · obtain ⟨a, b, F, G, rfl, _⟩ := h
    rfl
  · obtain ⟨a, b, F, G, rfl, ha, hb, hF, hG, ok, hg, q⟩ := h
    refine ⟨_, (PSs.nox (pss_cons (ps_set (i := 2) sc_common_in.nd rfl (.inl rfl) (pe_callB (call_min2 (by rfl)) (by rfl) T.z_min (by decide +kernel) (pa_cons (pe_call G_ahead_of (hr.mono (by decide)) (by rfl) T.g_ahead_of T.F_ahead_of.kp T.b_ahead_of .nil pass0 (pa_cons (pv 0) pa_nil)) (pa_cons (pe_call G_ahead_of (hr.mono (by decide)) (by rfl) T.g_ahead_of T.F_ahead_of.kp T.b_ahead_of .nil pass0 (pa_cons (pv 1) pa_nil)) pa_nil))))
    (pss_one (ps_ret (pe_op op_cat (pe_op op_rep (pe_lst (pa_cons pe_int pa_nil)) (pv 2)) (pe_call G_shared_part hr (by rfl) T.g_shared_part T.F_shared_part.kp T.b_shared_part .nil pass0 (pa_cons (pe_call G_cut_line (hr.mono (by decide)) (by rfl) T.g_cut_line T.F_cut_line.kp T.b_cut_line .nil pass0 (pa_cons (pv 0) pa_nil)) (pa_cons (pe_call G_cut_line (hr.mono (by decide)) (by rfl) T.g_cut_line T.F_cut_line.kp T.b_cut_line .nil pass0 (pa_cons (pv 1) pa_nil)) pa_nil)))))))), ?_⟩
    have la := ah_le F
    have lb := ah_le G
    refine ⟨_, rfl, a, F, rfl, .inl ha, hF, fun H1 s1 => ⟨_, rfl, b, G, rfl, .inl (s1 _ _ hb), hG, fun H2 s2 => ⟨_, _, rfl, ?_⟩⟩⟩
    rw [show (if (ah G : Int) < (ah F : Int) then (ah G : Int) else (ah F : Int)) = ((min (ah F) (ah G) : Nat) : Int) by split <;> omega]
    have s12 := s1.trans s2
    refine ⟨sz1, fun p0 n0 => gen_upd H2 p0 (ls [0]) n0 fun H3 s3 e3 => ⟨_, rfl, p0, _, [V.int 0], rfl, rfl, e3, by omega, by omega, ?_, fun p1 n1 => gen_upd H3 p1 _ n1 fun H4 s4 e4 => ?_⟩⟩
    · exact Nat.le_trans (show [V.int 0].length * ((min (ah F) (ah G) : Nat) : Int).toNat ≤ 100 by rw [List.length_singleton]; omega) (by decide)
    · have s14 := s12.trans (s3.trans s4)
      refine ⟨_, rfl, a, F, rfl, .inl (s14 _ _ ha), hF, fun pc H5 s5 e5 => ⟨_, rfl, b, G, rfl, .inl (s5 _ _ (s14 _ _ hb)), hG, fun pd H6 s6 e6 => ?_⟩⟩
      have s16 := s14.trans (s5.trans s6)
      refine ⟨pc, pd, cut F, cut G, _, rfl, s6 _ _ e5, e6, Nat.le_trans (cut_len F) hF, Nat.le_trans (cut_len G) hG, ok, hg.same s16, fun p7 H7 s7 g7 e7 => ?_⟩
      have e8 : (List.replicate ((min (ah F) (ah G) : Nat) : Int).toNat [V.int 0]).flatten ++ (primE (shp (cut G).length (cut F) (cut G))).map V.int = (cmn F G).map V.int := by
        unfold cmn
        rw [List.map_append, List.map_replicate, List.flatten_replicate_singleton, Int.toNat_natCast]
      refine ⟨p1, p7, _, _, rfl, rfl, s7.lst (hg.same s16) (s6 _ _ (s5 _ _ e4)), e7, ?_, fun p8 n8 => q p8 _ ((Sts.of s16).trans (s7.trans (Sts.of (same_upd0 n8)))) (g7.same (same_upd0 n8)) ?_⟩
      · rw [← List.length_append, e8, List.length_map]
        unfold cmn
        rw [List.length_append, List.length_replicate, primE_len]
        have := shp_len (cut G).length (cut F) (cut G)
        have := cut_len F
        have := cut_len G
        exact Nat.le_trans (m := 200) (by omega) (by decide)
      · rw [upd_same, e8]
end
end K76

set_option Elab.async false
set_option linter.all false
set_option maxRecDepth 100000
set_option maxHeartbeats 4000000
set_option exponentiation.threshold 10000
/-! common forms -/
namespace K76
open PySem PySem.Spec PyProof.Rows L2 StX RZ MyR SlX OwnR OwnF EnumT SeqE GxR GenNx FDivQ
section
variable {P : Program} {w : World} {K : PySem.W.Frag} {mg : Str → Option Value} {base : Heap} {Ps : List Addr}
def spReqForm (C : Addr) : Sp := fun vs H Q _ => ∃ (a : Addr) (l : List Int), vs = [.ref a] ∧ Fo C H a l ∧ Q .non H
theorem ok_require_form (T : Facts K mg) : FnOk P w K mg base CX0 1 T.f_require_form T.fd_require_form ["value"] (spReqForm T.C_Form) := by
  refine T.F_require_form.ok sc_require_form (fun vs H Q E h => ?_) (fun cdv A outer s H vs Q E hr h => ?_)
  · obtain ⟨a, l, rfl, _⟩ := h
    rfl
  · obtain ⟨a, l, rfl, fa, q⟩ := h
    obtain ⟨dx, t, ha, ht⟩ := fa.slt
    refine ⟨_, (PSs.nox (pss_one (ps_if (pt_not (pt_val (pe_callB (call_isiF T.C_Form) (by rfl) T.z_isinstance (by decide +kernel) (pa_cons (pv 0) (pa_cons (pe_glob (v := .ref T.C_Form) (by rfl) T.g_Form rfl) pa_nil)))))
      (pss_one ps_never)
      pss_nil))), ?_⟩
    exact ⟨_, rfl, isi_form (X := (cxOf CX0 P w K mg base N_require_form (Str.ofString "require_form") (defScope s_require_form) T.f_require_form cdv A outer s H E).nox) T.oc_Form ha ⟨true, rfl, iteF q⟩⟩
def spReqTwo (C : Addr) : Sp := fun vs H Q _ => ∃ (a b : Addr) (F G : List Int), vs = [.ref a, .ref b] ∧ Fo C H a F ∧ Fo C H b G ∧ Q .non H
theorem ok_require_two (T : Facts K mg) : FnOk P w K mg base CX0 2 T.f_require_two T.fd_require_two ["one", "other"] (spReqTwo T.C_Form) := by
  have G_require_form : FnOk P w K mg base CX0 1 T.f_require_form T.fd_require_form ["value"] (spReqForm T.C_Form) := ok_require_form T
  refine T.F_require_two.ok sc_require_two (fun vs H Q E h => ?_) (fun cdv A outer s H vs Q E hr h => ?_)
  · obtain ⟨a, b, F, G, rfl, _⟩ := h
    rfl
  · obtain ⟨a, b, F, G, rfl, fa, fb, q⟩ := h
    refine ⟨_, (PSs.nox (pss_cons (ps_expr (pe_call G_require_form hr (by rfl) T.g_require_form T.F_require_form.kp T.b_require_form .nil pass0 (pa_cons (pv 0) pa_nil)))
    (pss_one (ps_expr (pe_call G_require_form hr (by rfl) T.g_require_form T.F_require_form.kp T.b_require_form .nil pass0 (pa_cons (pv 1) pa_nil)))))), ?_⟩
    exact ⟨_, rfl, a, F, rfl, fa, _, rfl, b, G, rfl, fb, q⟩
/-- other than 0 -/
def lv (l : List Int) : Prop := l.any (· != 0) = true
def spReqLive (C : Addr) : Sp := fun vs H Q _ => ∃ (a : Addr) (F : List Int), vs = [.ref a] ∧ Fo C H a F ∧ lv F ∧ Q .non H
theorem ok_require_live (T : Facts K mg) : FnOk P w K mg base CX0 4 T.f_require_live T.fd_require_live ["form"] (spReqLive T.C_Form) := by
  have G_require_form : FnOk P w K mg base CX0 1 T.f_require_form T.fd_require_form ["value"] (spReqForm T.C_Form) := ok_require_form T
  have G_Form_is_zero := ok_Form_is_zero (P := P) (w := w) (base := base) T
  refine T.F_require_live.ok sc_require_live (fun vs H Q E h => ?_) (fun cdv A outer s H vs Q E hr h => ?_)
  · obtain ⟨a, F, rfl, _⟩ := h
    rfl
  · obtain ⟨a, F, rfl, fa, hl, q⟩ := h
    refine ⟨_, (PSs.nox (pss_cons (ps_expr (pe_call G_require_form (hr.mono (by decide)) (by rfl) T.g_require_form T.F_require_form.kp T.b_require_form .nil pass0 (pa_cons (pv 0) pa_nil)))
    (pss_one (ps_if (pt_val (pe_prp (pv 0) T.oc_Form T.pr_Form_is_zero G_Form_is_zero T.b_Form_is_zero (hr.mono (by decide))))
      (pss_one ps_never)
      pss_nil)))), ?_⟩
    refine ⟨_, rfl, a, F, rfl, fa, _, rfl, prop_zero fa ⟨_, rfl, ?_⟩⟩
    unfold lv at hl
    rw [hl]
    exact iteF q
def spCF (C : Addr) (Ps : List Addr) : Sp := fun vs H Q _ => ∃ (a b : Addr) (F G : List Int), vs = [.ref a, .ref b] ∧ Fo C H a F ∧ Fo C H b G ∧ F.length ≤ 100 ∧ G.length ≤ 100 ∧ lv F ∧ lv G ∧ ShOk (cut G).length (cut F) (cut G) ∧ Tg Ps H ∧ ∀ p H', Sts Ps H H' → Tg Ps H' → Fo C H' p (cmn F G) → Q (.ref p) H'
theorem ok_common_form (T : Facts K mg) (TB_first_of : TabB base mg T.c_first_of T.P_first_of) (hP : T.P_first_of ∈ Ps) : FnOk P w K mg base CX0 8 T.f_common_form T.fd_common_form ["one", "other"] (spCF T.C_Form Ps) := by
  have G_require_two : FnOk P w K mg base CX0 2 T.f_require_two T.fd_require_two ["one", "other"] (spReqTwo T.C_Form) := ok_require_two T
  have G_require_live : FnOk P w K mg base CX0 4 T.f_require_live T.fd_require_live ["form"] (spReqLive T.C_Form) := ok_require_live T
  have G_common_in := ok_common_in (P := P) (w := w) (base := base) T TB_first_of hP
  have G_form_of : FnOk P w K mg base CX0 7 T.f_form_of T.fd_form_of ["entries"] (spMake T.C_Form) := ok_form_of T
  have G_Form_entries : FnOk P w K mg base CX0 1 T.f_Form_entries T.fd_Form_entries ["self"] (spEnt T.C_Form) := ok_Form_entries T
  refine T.F_common_form.ok sc_common_form (fun vs H Q E h => ?_) (fun cdv A outer s H vs Q E hr h => ?_)
  · obtain ⟨a, b, F, G, rfl, _⟩ := h
    rfl
  · obtain ⟨a, b, F, G, rfl, fa, fb, hF, hG, lF, lG, ok, gH, q⟩ := h
    refine ⟨_, (PSs.nox (pss_cons (ps_expr (pe_call G_require_two (hr.mono (by decide)) (by rfl) T.g_require_two T.F_require_two.kp T.b_require_two .nil pass0 (pa_cons (pv 0) (pa_cons (pv 1) pa_nil))))
    (pss_cons (ps_expr (pe_call G_require_live (hr.mono (by decide)) (by rfl) T.g_require_live T.F_require_live.kp T.b_require_live .nil pass0 (pa_cons (pv 0) pa_nil)))
    (pss_cons (ps_expr (pe_call G_require_live (hr.mono (by decide)) (by rfl) T.g_require_live T.F_require_live.kp T.b_require_live .nil pass0 (pa_cons (pv 1) pa_nil)))
    (pss_one (ps_ret (pe_call G_form_of hr (by rfl) T.g_form_of T.F_form_of.kp T.b_form_of .nil pass0 (pa_cons (pe_tupleOf (by rfl) T.z_tuple (pe_call G_common_in (hr.mono (by decide)) (by rfl) T.g_common_in T.F_common_in.kp T.b_common_in .nil pass0 (pa_cons (pe_prp (pv 0) T.oc_Form T.pr_Form_entries G_Form_entries T.b_Form_entries (hr.mono (by decide))) (pa_cons (pe_prp (pv 1) T.oc_Form T.pr_Form_entries G_Form_entries T.b_Form_entries (hr.mono (by decide))) pa_nil)))) pa_nil)))))))), ?_⟩
    refine ⟨_, rfl, _, rfl, a, b, F, G, rfl, fa, fb, _, rfl, a, F, rfl, fa, lF, _, rfl, b, G, rfl, fb, lG, ?_⟩
    refine ⟨_, rfl, prop_ent fa fun u hu => ⟨_, rfl, prop_ent fb fun v hv => ⟨u, v, F, G, rfl, hu, hv, hF, hG, ok, gH, fun p H1 s1 g1 e1 => .inl ⟨p, _, rfl, SqL.of e1, fun t nt => gen_upd H1 t _ nt fun H2 s2 e2 => ⟨t, cmn F G, rfl, e2, fun r H3 s3 _ f3 => q r H3 (s1.trans (Sts.of (s2.trans s3))) (g1.same (s2.trans s3)) f3⟩⟩⟩⟩⟩
end
end K76

set_option Elab.async false
set_option linter.all false
set_option maxRecDepth 100000
set_option maxHeartbeats 4000000
set_option exponentiation.threshold 10000
/-! plain: the told entries are those of the common form -/
namespace K76
open PySem PySem.Spec PyProof.Rows L2 FDivQ LA
theorem sub1_0 (l g : List Int) (h : g.length ≤ l.length) (g1 : 1 ≤ g.length) : sub1 l g = 0 :: stp1 l g := by
  unfold stp1
  have e : co (sub1 l g) 0 = 0 := by
    unfold sub1
    rw [co_get (by rw [tb_len]; omega)]
    simp only [tb, List.getElem_map, List.getElem_range, co_lng]
    omega
  have n : (sub1 l g).length = l.length := sub1_len l g
  generalize sub1 l g = t at *
  cases t with
  | nil =>
    rw [List.length_nil] at n
    omega
  | cons a t =>
    have : a = 0 := e
    rw [this]
    rfl
theorem ev_stp {l g : List Int} (h : g.length ≤ l.length) (g1 : 1 ≤ g.length) (x y : Int) : y * ev (stp1 l g) x y = co g 0 * ev l x y - co l 0 * (x ^ (l.length - g.length) * ev g x y) := by
  rw [← ev_sy, ← sub1_0 l g h g1]
  unfold sub1
  rw [ev_tb, evF_congr _ (fun i _ => show _ = co g 0 * co l i + (-co l 0) * co (lng l g) i by rw [Int.mul_comm (co g 0)]; grind), evF_add, evF_mul, evF_mul]
  have e1 : evF l.length (co (lng l g)) x y = ev (lng l g) x y := by
    unfold ev
    rw [lng_len h]
  rw [e1, show ev (lng l g) x y = x ^ (l.length - g.length) * ev g x y from ev_sx g _ x y]
  show co g 0 * ev l x y + _ = _
  grind
theorem cut_lead {l : List Int} (h : cut l ≠ []) : co (cut l) 0 ≠ 0 := by
  have e := cut_drop l
  have hl : ah l < l.length := Classical.byContradiction fun n => h (by rw [← e]; exact List.drop_eq_nil_of_le (by omega))
  rw [← e, co_get (by rw [List.length_drop]; omega), List.getElem_drop, ← co_get (by omega), Nat.add_zero]
  exact ah_lead hl
theorem cut_rep (l : List Int) : l = List.replicate (ah l) 0 ++ cut l := by
  have ha := ah_le l
  refine co_inj (by rw [List.length_append, List.length_replicate, ← cut_drop, List.length_drop]; omega) fun j => ?_
  by_cases c : j < l.length
  · by_cases d : j < ah l
    · rw [ah_zero d, co_get (by rw [List.length_append, List.length_replicate]; omega), List.getElem_append_left (by rw [List.length_replicate]; exact d), List.getElem_replicate]
    · have e2 : (List.replicate (ah l) (0 : Int) ++ cut l).length = l.length := by rw [List.length_append, List.length_replicate, ← cut_drop, List.length_drop]; omega
      rw [co_get c, co_get (by omega), List.getElem_append_right (by rw [List.length_replicate]; omega)]
      simp only [← cut_drop, List.getElem_drop, List.length_replicate]
      congr 1
      omega
  · rw [co_far (by omega), co_far (by rw [List.length_append, List.length_replicate, ← cut_drop, List.length_drop]; omega)]
theorem ev_cut (l : List Int) (x y : Int) : ev l x y = y ^ ah l * ev (cut l) x y := by
  rw [← ev_ry, ← cut_rep]
theorem ev_pf (l : List Int) (x y : Int) : pf l * ev (primE l) x y = ev l x y := by
  rw [← ev_map]
  congr 1
  exact co_inj (by rw [List.length_map, primE_len]) fun j => by rw [co_scale, prim_ex]
theorem prim_lead {l : List Int} (h : co l 0 ≠ 0) : co (primE l) 0 ≠ 0 := fun z => by
  have := prim_ex l 0
  rw [z, Int.mul_zero] at this
  exact h this.symm
theorem prim_nil : primE [] = [] := List.length_eq_zero_iff.mp (primE_len [])
theorem rst_lead (f g : List Int) : rst f g = [] ∨ co (rst f g) 0 ≠ 0 := by
  unfold rst
  by_cases c : cut (rlf f g) = []
  · rw [c]
    exact .inl prim_nil
  · exact .inr (prim_lead (cut_lead c))
theorem shp_nil (n : Nat) (f : List Int) : shp n f [] = f := by
  cases n with
  | zero => rfl
  | succ n => exact if_pos rfl
theorem Nz.y {n : Nat} {f : Bi} (h : Fm n f) (nz : Nz f) : Nz fun x y => y ^ 1 * f x y := Classical.byContradiction fun c => by
  obtain ⟨x, y, h0⟩ := nz
  refine h0 (h.cy (Fm.zero n) (fun x y => ?_) x y)
  rw [Int.mul_zero]
  exact Classical.byContradiction fun ne => c ⟨x, y, by dsimp only; rw [Int.pow_one]; exact ne⟩
theorem Nz.yk {n : Nat} {f : Bi} (nz : Nz f) (h : Fm n f) : ∀ e : Nat, Nz fun x y => y ^ e * f x y
  | 0 => by
    obtain ⟨x, y, h0⟩ := nz
    exact ⟨x, y, by dsimp only; rw [Int.pow_zero, Int.one_mul]; exact h0⟩
  | e + 1 => by
    obtain ⟨x, y, h0⟩ := (nz.yk h e).y (h.py e)
    exact ⟨x, y, by dsimp only at h0 ⊢; rw [Int.pow_succ, Int.mul_comm (y ^ e) y, Int.mul_assoc]; rw [Int.pow_one] at h0; exact h0⟩
/-- zeros ahead of the first one -/
theorem zeros {m k : Nat} {f g h : Bi} (hg : Fm m g) (g0 : g 1 0 ≠ 0) : ∀ (z n : Nat) (f' : Bi), Fm n f' → Nz f' → (∀ x y, f x y = y ^ z * f' x y) → Mm n m k f' g h → Mm (n + z) m k f g h
  | 0, n, f', _, _, e, M => M.scale (a := 1) (b := 1) (by decide) (by decide) fun x y => by rw [e, Int.pow_zero, Int.one_mul, Int.one_mul]
  | z + 1, n, f', hf, nf, e, M => by
    rw [show n + (z + 1) = n + 1 + z by omega]
    refine zeros hg g0 z (n + 1) (fun x y => y ^ 1 * f' x y) (hf.py 1) (nf.y hf) (fun x y => ?_) (M.step (R := fun _ _ => 0) (γ := 1) hf hg g0 (by decide) (.inl fun _ _ => rfl) (.inl (M.df.le nf)) fun x y => by rw [Int.pow_one]; simp)
    rw [e, Int.pow_succ, Int.pow_one, Int.mul_assoc]
theorem nz_lead {f : Bi} (h : f 1 0 ≠ 0) : Nz f := ⟨1, 0, h⟩
theorem stps {f g : List Int} {k : Nat} {h : Bi} (g0 : co g 0 ≠ 0) (g1 : 1 ≤ g.length) : ∀ j, j ≤ f.length + 1 - g.length → Mm (rlN j f g).length g.length k (ev (rlN j f g)) (ev g) h → Mm f.length g.length k (ev f) (ev g) h
  | 0, _, M => M
  | j + 1, hj, M => by
    have ln := rlN_len f g j
    refine stps g0 g1 j (by omega) ?_
    have M' : Mm (stp1 (rlN j f g) g).length g.length k (ev (stp1 (rlN j f g) g)) (ev g) h := M
    have l1 := stp1_len (rlN j f g) g
    generalize rlN j f g = l at *
    have e : l.length = (stp1 l g).length + 1 := by omega
    rw [e]
    refine M'.step (R := fun x y => co l 0 * (x ^ (l.length - g.length) * 1)) (γ := co g 0) (Fm.of _) (Fm.of _) (by rw [ev_lead]; exact g0) g0 (.inr ⟨1 + (l.length - g.length), (Fm.one.px _).mulc _, by omega⟩) (.inr (by omega)) fun x y => ?_
    rw [ev_stp (by omega) g1]
    grind
/-- Euclid's steps tell the common form -/
theorem euc : ∀ (n : Nat) (f g : List Int), co f 0 ≠ 0 → (g = [] ∨ co g 0 ≠ 0) → g.length ≤ n → Mm f.length g.length (shp n f g).length (ev f) (ev g) (ev (shp n f g))
  | 0, f, g, hf, _, hn => by
    have : g = [] := List.length_eq_zero_iff.mp (by omega)
    subst this
    exact (Mm.zero (n := 0) (Fm.of f) (by rw [ev_lead]; exact hf) fun x y => rfl).sw
  | n + 1, f, g, hf, hg, hn => by
    by_cases c : g = []
    · subst c
      rw [shp_nil]
      exact (Mm.zero (n := 0) (Fm.of f) (by rw [ev_lead]; exact hf) fun x y => rfl).sw
    · have g0 := hg.resolve_left c
      have g1 := List.length_pos_iff.mpr c
      have g0' : ev g 1 0 ≠ 0 := by rw [ev_lead]; exact g0
      rw [show shp (n + 1) f g = shp n g (rst f g) from if_neg c]
      have lr := rst_len (f := f) g1
      have M1 := euc n g (rst f g) g0 (rst_lead f g) (by omega)
      refine stps g0 g1 (f.length + 1 - g.length) (Nat.le_refl _) ?_
      show Mm (rlf f g).length g.length _ (ev (rlf f g)) (ev g) _
      by_cases d : cut (rlf f g) = []
      · have e : rst f g = [] := by
          unfold rst
          rw [d]
          exact prim_nil
        rw [e, shp_nil]
        exact Mm.zero (Fm.of g) g0' fun x y => by
          rw [ev_cut, d, ev_nil, Int.mul_zero]
      · have M2 : Mm (cut (rlf f g)).length g.length (shp n g (rst f g)).length (ev (cut (rlf f g))) (ev g) (ev (shp n g (rst f g))) := by
          have := M1.sw
          have e : (rst f g).length = (cut (rlf f g)).length := primE_len _
          rw [e] at this
          exact this.scale (a := pf (cut (rlf f g))) (b := 1) (pf_ne _) (by decide) fun x y => by
            rw [Int.one_mul]
            exact ev_pf _ x y
        have lc : (rlf f g).length = (cut (rlf f g)).length + ah (rlf f g) := by
          have := congrArg List.length (cut_rep (rlf f g))
          rw [List.length_append, List.length_replicate] at this
          omega
        rw [lc]
        exact zeros (Fm.of g) g0' (ah (rlf f g)) _ _ (Fm.of _) (nz_lead (by rw [ev_lead]; exact cut_lead d)) (ev_cut _) M2
theorem cut_split (l : List Int) : l.length = (cut l).length + ah l := by
  have := congrArg List.length (cut_rep l)
  rw [List.length_append, List.length_replicate] at this
  omega
theorem cut_ne {l : List Int} (h : Nz (ev l)) : cut l ≠ [] := fun e => by
  obtain ⟨x, y, h0⟩ := h
  rw [ev_cut, e, ev_nil, Int.mul_zero] at h0
  exact h0 rfl
theorem cmn_len (F G : List Int) : (cmn F G).length = (shp (cut G).length (cut F) (cut G)).length + min (ah F) (ah G) := by
  unfold cmn
  rw [List.length_append, List.length_replicate, primE_len, Nat.add_comm]
theorem ev_cmn (F G : List Int) (x y : Int) : ev (cmn F G) x y = y ^ min (ah F) (ah G) * ev (primE (shp (cut G).length (cut F) (cut G))) x y := ev_ry _ x y _
/-- two forms and what is told of them -/
theorem cmn_full {F G : List Int} (nF : Nz (ev F)) (nG : Nz (ev G)) : Fm (cmn F G).length (ev (cmn F G)) ∧ Nz (ev (cmn F G)) ∧ Dv (cmn F G).length F.length (ev (cmn F G)) (ev F) ∧ Dv (cmn F G).length G.length (ev (cmn F G)) (ev G) ∧ Full F.length G.length (cmn F G).length (ev F) (ev G) (ev (cmn F G)) := by
  have cF := cut_lead (cut_ne nF)
  have cG := cut_lead (cut_ne nG)
  have eF := cut_split F
  have eG := cut_split G
  have M0 := euc (cut G).length (cut F) (cut G) cF (.inr cG) (Nat.le_refl _)
  have eT := cmn_len F G
  have vT := ev_cmn F G
  generalize cmn F G = T at *
  generalize hh : shp (cut G).length (cut F) (cut G) = h at *
  have M1 : Mm (cut F).length (cut G).length h.length (ev (cut F)) (ev (cut G)) (ev (primE h)) := M0.scaleH ((Fm.of _).cast (primE_len h)) (a := 1) (b := pf h) (by decide) (pf_ne h) fun x y => by rw [ev_pf, Int.one_mul]
  have lF : ev (cut F) 1 0 ≠ 0 := by rw [ev_lead]; exact cF
  have lG : ev (cut G) 1 0 ≠ 0 := by rw [ev_lead]; exact cG
  obtain ⟨e, he⟩ : ∃ e, e = min (ah F) (ah G) := ⟨_, rfl⟩
  rw [← he] at eT vT
  have M2 : Mm (F.length - e) (G.length - e) h.length (fun x y => y ^ (ah F - e) * ev (cut F) x y) (fun x y => y ^ (ah G - e) * ev (cut G) x y) (ev (primE h)) := by
    by_cases c : ah F ≤ ah G
    · have q := (zeros (f := fun x y => y ^ (ah G - e) * ev (cut G) x y) (Fm.of (cut F)) lF (ah G - e) _ _ (Fm.of (cut G)) (nz_lead lG) (fun _ _ => rfl) M1.sw).sw
      have q2 := q.scale (f := fun x y => y ^ (ah F - e) * ev (cut F) x y) (a := 1) (b := 1) (by decide) (by decide) fun x y => by
        rw [show ah F - e = 0 by omega, Int.pow_zero, Int.one_mul, Int.one_mul]
      rw [show F.length - e = (cut F).length by omega, show G.length - e = (cut G).length + (ah G - e) by omega]
      exact q2
    · have q := (zeros (f := fun x y => y ^ (ah F - e) * ev (cut F) x y) (Fm.of (cut G)) lG (ah F - e) _ _ (Fm.of (cut F)) (nz_lead lF) (fun _ _ => rfl) M1).sw
      have q2 := q.scale (f := fun x y => y ^ (ah G - e) * ev (cut G) x y) (a := 1) (b := 1) (by decide) (by decide) fun x y => by
        rw [show ah G - e = 0 by omega, Int.pow_zero, Int.one_mul, Int.one_mul]
      rw [show G.length - e = (cut G).length by omega, show F.length - e = (cut F).length + (ah F - e) by omega]
      exact q2.sw
  have vF : ∀ x y, ev F x y = y ^ e * (y ^ (ah F - e) * ev (cut F) x y) := fun x y => by
    rw [ev_cut, ← Int.mul_assoc, ← Int.pow_add, show e + (ah F - e) = ah F by omega]
  have vG : ∀ x y, ev G x y = y ^ e * (y ^ (ah G - e) * ev (cut G) x y) := fun x y => by
    rw [ev_cut, ← Int.mul_assoc, ← Int.pow_add, show e + (ah G - e) = ah G by omega]
  have nT : Nz (ev T) := by
    obtain ⟨x, y, h0⟩ := (nz_lead M1.h0).yk (Fm.of _) e
    exact ⟨x, y, by rw [vT]; exact h0⟩
  obtain ⟨d1, d2⟩ := lift M2 e
  have d1' : Dv T.length F.length (ev T) (ev F) := by
    rw [eT, show F.length = F.length - e + e by omega]
    exact (d1.congr (a := 1) (b := 1) (by decide) (fun x y => by rw [vF]) (by decide)).congrL (a := 1) (b := 1) (by decide) fun x y => by rw [vT]
  have d2' : Dv T.length G.length (ev T) (ev G) := by
    rw [eT, show G.length = G.length - e + e by omega]
    exact (d2.congr (a := 1) (b := 1) (by decide) (fun x y => by rw [vG]) (by decide)).congrL (a := 1) (b := 1) (by decide) fun x y => by rw [vT]
  refine ⟨Fm.of T, nT, d1', d2', full_of (Fm.of T) nT d1' d2' nF nG fun E hE => ?_⟩
  obtain ⟨c, U, V, hc, hU, hV, q⟩ := M2.st E (hE.cast (by omega))
  refine ⟨c, U, V, hc, hU.cast (by omega), hV.cast (by omega), fun x y => ?_⟩
  have := q x y
  rw [vF, vG, vT]
  grind
theorem cmn_com {F G : List Int} (nF : Nz (ev F)) (nG : Nz (ev G)) : Com F.length G.length (cmn F G).length (ev F) (ev G) (ev (cmn F G)) := by
  obtain ⟨a, b, c, d, e⟩ := cmn_full nF nG
  exact e.com a b c d nF nG
end K76

set_option Elab.async false
set_option linter.all false
set_option maxRecDepth 100000
set_option maxHeartbeats 2000000
/-! kernels without bounds; the ranks of level tables -/
namespace K76
open PySem PySem.Spec PyProof.Rows L2 FDivQ LA
structure KS (rows : List (List Int)) (w : Nat) : Prop where
  len : ∀ k ∈ kern rows w, k.length = w
  dot : ∀ k ∈ kern rows w, ∀ r ∈ rows, S w (fun j => co k j * co r j) = 0
  ind : Ind w (kern rows w).length (row (kern rows w))
  all : ∀ y : Nat → Int, (∀ r ∈ rows, S w (fun j => y j * co r j) = 0) → Sp w (kern rows w).length (row (kern rows w)) y
  cnt : (ech less rows w).length + (kern rows w).length = w
  nz : ∀ k ∈ kern rows w, co k (ld k) ≠ 0
  lt : ∀ k ∈ kern rows w, ld k < w
  gl : ∀ k ∈ kern rows w, gl k ≤ 1
  base : ∃ n E, Base w rows.length (row rows) (ech less rows w).length E ∧ n = (ech less rows w).length
theorem leastE {p : Nat → Prop} : ∀ n, p n → ∃ m, p m ∧ ∀ j, j < m → ¬ p j := fun n => by
  induction n using Nat.strongRecOn with
  | ind n ih =>
    intro h
    by_cases c : ∃ j, j < n ∧ p j
    · obtain ⟨j, hj, pj⟩ := c
      exact ih j hj pj
    · exact ⟨n, h, fun j hj pj => c ⟨j, hj, pj⟩⟩
/-! ### level tables -/
def rk (l : List Int) (d : Nat) : Nat := (ech less (lrows l d) (d + 1)).length
/-- times x, times y -/
def tx (d : Nat) (f : Nat → Int) : Nat → Int := fun j => if j < d + 1 then f j else 0
def ty (f : Nat → Int) : Nat → Int
  | 0 => 0
  | j + 1 => f j
end K76

set_option Elab.async false
set_option linter.all false
set_option maxRecDepth 100000
set_option maxHeartbeats 2000000
/-! the ranks of all level tables -/
namespace K76
open PySem PySem.Spec PyProof.Rows L2 FDivQ LA
end K76

set_option Elab.async false
set_option linter.all false
set_option maxRecDepth 100000
set_option maxHeartbeats 2000000
set_option exponentiation.threshold 10000
/-! a span has one echelon only; sizes of the rows of a kernel -/
namespace K76
open PySem PySem.Spec PyProof.Rows L2 FDivQ LA
theorem inv2 {le : List Int → List Int → Nat → List Int} (hle : LeP le) {w : Nat} {rows : List (List Int)} (hw : ∀ r ∈ rows, r.length = w) : ∀ p, p ≤ w → ∃ Hh P, Inv w rows p (eS le rows p).1 (eS le rows p).2 Hh P ∧ P.Pairwise (· < ·)
  | 0, _ => ⟨[], [], Inv.init hw, List.Pairwise.nil⟩
  | p + 1, hp => by
    obtain ⟨Hh, P, I, sP⟩ := inv2 hle hw p (by omega)
    show ∃ Hh P, Inv w rows (p + 1) (stp le p (eS le rows p)).1 (stp le p (eS le rows p)).2 Hh P ∧ _
    cases e : hix (eS le rows p).1 p with
    | none =>
      rw [stp_none e]
      exact ⟨Hh, P, I.none e, sP⟩
    | some h =>
      rw [stp_some e]
      obtain ⟨x, J⟩ := I.some hle (by omega) e
      refine ⟨_, _, J, List.pairwise_append.mpr ⟨sP, List.pairwise_singleton _ _, fun a ha b hb => ?_⟩⟩
      obtain ⟨k, hk, rfl⟩ := List.mem_iff_getElem.mp ha
      rw [List.mem_singleton.mp hb]
      have := I.pp k (by rw [← I.pl]; exact hk)
      rwa [List.getD_eq_getElem?_getD, List.getElem?_eq_getElem hk] at this
/-- an echelon as it is told: leads go up, each is alone in its column, no row has a common divisor -/
structure RE (w : Nat) (T : List (List Int)) : Prop where
  len : ∀ t ∈ T, t.length = w
  lt : ∀ t ∈ T, ld t < w
  nz : ∀ t ∈ T, co t (ld t) ≠ 0
  be : ∀ t ∈ T, ∀ j, j < ld t → co t j = 0
  z : ∀ i k, i < T.length → k < T.length → k ≠ i → row T k (ld (T.getD i [])) = 0
  so : (T.map ld).Pairwise (· < ·)
  pr : ∀ t ∈ T, primE t = t
theorem primE_idem (z : List Int) : primE (primE z) = primE z := by
  refine prim_pq (w := (primE z).length) ⟨rfl, (primE_len z).symm, pf z, 1, pf_ne z, by decide, fun j => ?_⟩
  rw [prim_ex, Int.one_mul]
theorem re_ech {le : List Int → List Int → Nat → List Int} (hle : LeP le) {w : Nat} {rows : List (List Int)} (hw : ∀ r ∈ rows, r.length = w) : RE w (ech le rows w) := by
  have hT := told hle (M := nm rows.flatten) hw fun r hr x hx => nm_mem (List.mem_flatten.mpr ⟨r, hr, hx⟩)
  refine ⟨hT.len, hT.lt, hT.nz, fun t ht j hj => (fo_ld ⟨_, hT.nz t ht⟩).2.2 j hj, hT.z, ?_, fun t ht => ?_⟩
  · obtain ⟨Hh, P, I, sP⟩ := inv2 hle hw w (Nat.le_refl _)
    unfold ech
    generalize (eS le rows w).1 = left at I
    generalize (eS le rows w).2 = found at I
    have hz : ∀ (r : List Int) (j : Nat), co (primE r) j = 0 ↔ co r j = 0 := fun r j => by
      have := prim_ex r j
      constructor <;> intro z <;> rw [z] at this
      · rw [Int.mul_zero] at this
        exact this.symm
      · exact (Int.mul_eq_zero.mp this).resolve_left (pf_ne r)
    have e : (found.map primE).map ld = P := by
      refine List.ext_getElem (by rw [List.length_map, List.length_map, I.pl]) fun k h1 h2 => ?_
      rw [List.length_map, List.length_map] at h1
      rw [List.getElem_map, List.getElem_map]
      have a1 := I.nz k h1
      have a2 := I.be k h1
      have e1 : found.getD k [] = found[k] := by rw [List.getD_eq_getElem?_getD, List.getElem?_eq_getElem h1]; rfl
      have e2 : P.getD k 0 = P[k] := by rw [List.getD_eq_getElem?_getD, List.getElem?_eq_getElem h2]; rfl
      unfold row at a1 a2
      rw [e1, e2] at a1
      rw [e1, e2] at a2
      exact ld_char (fun z => a1 ((hz _ _).mp z)) fun j hj => (hz _ _).mpr (a2 j hj)
    rw [e]
    exact sP
  · obtain ⟨z, _, rfl⟩ := List.mem_map.mp ht
    exact primE_idem z
theorem sorted_ext : ∀ {A B : List Nat}, A.Pairwise (· < ·) → B.Pairwise (· < ·) → (∀ x, x ∈ A ↔ x ∈ B) → A = B
  | [], [], _, _, _ => rfl
  | [], b :: bs, _, _, h => absurd ((h b).mpr List.mem_cons_self) List.not_mem_nil
  | a :: as, [], _, _, h => absurd ((h a).mp List.mem_cons_self) List.not_mem_nil
  | a :: as, b :: bs, hA, hB, h => by
    obtain ⟨a1, a2⟩ := List.pairwise_cons.mp hA
    obtain ⟨b1, b2⟩ := List.pairwise_cons.mp hB
    have e : a = b := by
      rcases List.mem_cons.mp ((h a).mp List.mem_cons_self) with q | q
      · exact q
      · rcases List.mem_cons.mp ((h b).mpr List.mem_cons_self) with r | r
        · exact r.symm
        · have := a1 b r
          have := b1 a q
          omega
    subst e
    rw [sorted_ext a2 b2 fun x => ⟨fun hx => ?_, fun hx => ?_⟩]
    · rcases List.mem_cons.mp ((h x).mp (List.mem_cons_of_mem _ hx)) with q | q
      · have := a1 x hx
        omega
      · exact q
    · rcases List.mem_cons.mp ((h x).mpr (List.mem_cons_of_mem _ hx)) with q | q
      · have := b1 x hx
        omega
      · exact q
theorem RE.at_lead {w : Nat} {T : List (List Int)} (h : RE w T) {c : Int} {v a : Nat → Int} (e : ∀ j, j < w → c * v j = S T.length (fun k => a k * row T k j)) {i : Nat} (hi : i < T.length) : c * v (ld (T.getD i [])) = a i * row T i (ld (T.getD i [])) := by
  rw [e _ (h.lt _ (mem_row hi)), S_one hi fun k hk hne => by rw [h.z i k hi hk hne, Int.mul_zero]]
theorem RE.lead {w : Nat} {T : List (List Int)} (h : RE w T) {t : List Int} (hl : ld t < w) (nz : co t (ld t) ≠ 0) (be : ∀ j, j < ld t → co t j = 0) (s : SpM w T t) : ld t ∈ T.map ld := by
  obtain ⟨c, hc, a, ha⟩ := s
  refine Classical.byContradiction fun no => ?_
  have e := ha (ld t) hl
  rw [S_zero fun k hk => ?_] at e
  · exact (Int.mul_eq_zero.mp e).elim hc nz
  · have ne : ld (T.getD k []) ≠ ld t := fun z => no (List.mem_map.mpr ⟨_, mem_row hk, z⟩)
    by_cases q : ld t < ld (T.getD k [])
    · rw [show row T k (ld t) = 0 from h.be _ (mem_row hk) _ q, Int.mul_zero]
    · have e1 := h.at_lead ha hk
      rw [be _ (by omega), Int.mul_zero] at e1
      rw [(Int.mul_eq_zero.mp e1.symm).resolve_right (h.nz _ (mem_row hk)), Int.zero_mul]
theorem re_uniq {w : Nat} {A B : List (List Int)} (hA : RE w A) (hB : RE w B) (s1 : ∀ t ∈ A, SpM w B t) (s2 : ∀ t ∈ B, SpM w A t) : A = B := by
  have el : A.map ld = B.map ld := sorted_ext hA.so hB.so fun x => ⟨fun hx => by
    obtain ⟨t, ht, rfl⟩ := List.mem_map.mp hx
    exact hB.lead (hA.lt t ht) (hA.nz t ht) (hA.be t ht) (s1 t ht), fun hx => by
    obtain ⟨t, ht, rfl⟩ := List.mem_map.mp hx
    exact hA.lead (hB.lt t ht) (hB.nz t ht) (hB.be t ht) (s2 t ht)⟩
  have ll : A.length = B.length := by
    have := congrArg List.length el
    rwa [List.length_map, List.length_map] at this
  have lk : ∀ k, k < A.length → ld (A.getD k []) = ld (B.getD k []) := fun k hk => by
    have e : (A.map ld)[k]'(by rw [List.length_map]; exact hk) = (B.map ld)[k]'(by rw [List.length_map]; omega) := by
      congr 1
    rw [List.getElem_map, List.getElem_map] at e
    rw [List.getD_eq_getElem?_getD, List.getElem?_eq_getElem hk, List.getD_eq_getElem?_getD, List.getElem?_eq_getElem (show k < B.length by omega)]
    exact e
  refine List.ext_getElem ll fun i h1 h2 => ?_
  have eA : A.getD i [] = A[i] := by rw [List.getD_eq_getElem?_getD, List.getElem?_eq_getElem h1]; rfl
  have eB : B.getD i [] = B[i] := by rw [List.getD_eq_getElem?_getD, List.getElem?_eq_getElem h2]; rfl
  have mA := mem_row h1
  have mB := mem_row h2
  obtain ⟨c, hc, a, ha⟩ := s2 _ mB
  have az : ∀ k, k < A.length → k ≠ i → a k = 0 := fun k hk hne => by
    have e1 := hA.at_lead ha hk
    rw [lk k hk, show co (B.getD i []) (ld (B.getD k [])) = 0 from hB.z k i (by omega) h2 (Ne.symm hne), Int.mul_zero, ← lk k hk] at e1
    exact (Int.mul_eq_zero.mp e1.symm).resolve_right (hA.nz _ (mem_row hk))
  have e2 : ∀ j, c * co (B.getD i []) j = a i * co (A.getD i []) j := fun j => by
    by_cases hj : j < w
    · rw [ha j hj, S_one h1 fun k hk hne => by rw [az k hk hne, Int.zero_mul]]
    · rw [co_far (by rw [hB.len _ mB]; omega), co_far (by rw [hA.len _ mA]; omega), Int.mul_zero, Int.mul_zero]
  have ai : a i ≠ 0 := fun z => by
    have := e2 (ld (B.getD i []))
    rw [z, Int.zero_mul] at this
    exact (Int.mul_eq_zero.mp this).elim hc (hB.nz _ mB)
  have p := prim_pq (w := w) ⟨hB.len _ mB, hA.len _ mA, c, a i, hc, ai, e2⟩
  rw [hA.pr _ mA, hB.pr _ mB, eA, eB] at p
  exact p.symm
/-- rows with one span have one echelon -/
theorem ech_same {le le' : List Int → List Int → Nat → List Int} (hle : LeP le) (hle' : LeP le') {w : Nat} {A B : List (List Int)} (hA : ∀ r ∈ A, r.length = w) (hB : ∀ r ∈ B, r.length = w) (s1 : ∀ t ∈ A, SpM w B t) (s2 : ∀ t ∈ B, SpM w A t) : ech le A w = ech le' B w := by
  have tA := told hle (M := nm A.flatten) hA fun r hr x hx => nm_mem (List.mem_flatten.mpr ⟨r, hr, hx⟩)
  have tB := told hle' (M := nm B.flatten) hB fun r hr x hx => nm_mem (List.mem_flatten.mpr ⟨r, hr, hx⟩)
  have to : ∀ {C D : List (List Int)}, Base w C.length (row C) D.length (row D) → ∀ t ∈ C, SpM w D t := fun {C D} b t ht => by
    obtain ⟨k, hk, e⟩ := row_mem ht
    have := b.to k hk
    rw [e] at this
    exact this
  have of : ∀ {C D : List (List Int)}, Base w C.length (row C) D.length (row D) → ∀ t ∈ D, SpM w C t := fun {C D} b t ht => by
    obtain ⟨k, hk, e⟩ := row_mem ht
    have := b.of k hk
    rw [e] at this
    exact this
  exact re_uniq (re_ech hle hA) (re_ech hle' hB) (fun t ht => ((of tA.base t ht).trans s1).trans (to tB.base)) fun t ht => ((of tB.base t ht).trans s2).trans (to tA.base)
end K76

set_option Elab.async false
set_option linter.all false
set_option maxRecDepth 100000
set_option maxHeartbeats 2000000
set_option exponentiation.threshold 20000
/-! plain: the rank of the shifts of two forms, by their common form (the parts on rows are those of LBd) -/
namespace K76
open PySem PySem.Spec PyProof.Rows L2 FDivQ LA
/-- x^(m - i) y^i times a form of degree d, by entries -/
def shi (d : Nat) (g : Nat → Int) (i : Nat) : Nat → Int := fun j => if i ≤ j ∧ j - i ≤ d then g (j - i) else 0
theorem shifts_ind {g : Nat → Int} {d m p : Nat} (hp : p ≤ d) (h0 : g p ≠ 0) (hl : ∀ j, j < p → g j = 0) : Ind (d + m + 1) (m + 1) (shi d g) := fun a ha i hi => Classical.byContradiction fun ne => by
  obtain ⟨i0, ⟨hi0, n0⟩, lo⟩ := leastE (p := fun i => i < m + 1 ∧ a i ≠ 0) i ⟨hi, ne⟩
  have e := ha (i0 + p) (by omega)
  rw [S_one (p := i0) hi0 fun k hk hne => ?_] at e
  · rw [show shi d g i0 (i0 + p) = g p by
      unfold shi
      rw [if_pos ⟨by omega, by omega⟩, Nat.add_sub_cancel_left]] at e
    exact (Int.mul_eq_zero.mp e).elim n0 h0
  · by_cases c : k < i0
    · have := lo k c
      have ak : a k = 0 := Classical.byContradiction fun q => this ⟨hk, q⟩
      rw [ak, Int.zero_mul]
    · have z : shi d g k (i0 + p) = 0 := by
        unfold shi
        split
        · exact hl _ (by omega)
        · rfl
      rw [z, Int.mul_zero]
/-! ### rows -/
/-- the products of a form and all x ^ i y ^ j, of a degree -/
def shf (g : List Int) (d : Nat) : List (List Int) := (List.range (d + 2 - g.length)).map fun i => List.replicate i 0 ++ g ++ List.replicate (d + 1 - g.length - i) 0
theorem shf_len (g : List Int) (d : Nat) : (shf g d).length = d + 2 - g.length := by
  unfold shf
  rw [List.length_map, List.length_range]
theorem shf_w {g : List Int} {d : Nat} : ∀ r ∈ shf g d, r.length = d + 1 := fun r hr => by
  obtain ⟨i, hi, rfl⟩ := List.mem_map.mp hr
  have := List.mem_range.mp hi
  rw [List.length_append, List.length_append, List.length_replicate, List.length_replicate]
  omega
theorem co_app (l m : List Int) (j : Nat) : co (l ++ m) j = if j < l.length then co l j else co m (j - l.length) := by
  by_cases c : j < l.length
  · rw [if_pos c, co_get (by rw [List.length_append]; omega), co_get c, List.getElem_append_left c]
  · rw [if_neg c]
    by_cases d : j < (l ++ m).length
    · rw [List.length_append] at d
      rw [co_get (by rw [List.length_append]; omega), co_get (show j - l.length < m.length by omega), List.getElem_append_right (by omega)]
    · rw [List.length_append] at d
      rw [co_far (by rw [List.length_append]; omega), co_far (by omega)]
theorem co_z (n k : Nat) : co (List.replicate n (0 : Int)) k = 0 := by
  by_cases c : k < (List.replicate n (0 : Int)).length
  · rw [co_get c, List.getElem_replicate]
  · exact co_far (by omega)
theorem co_shrow {g : List Int} {i n : Nat} (hg : 1 ≤ g.length) (j : Nat) : co (List.replicate i 0 ++ g ++ List.replicate n 0) j = shi (g.length - 1) (co g) i j := by
  rw [co_app, co_app, List.length_append, List.length_replicate, co_z, co_z]
  unfold shi
  by_cases c : i ≤ j
  · by_cases e : j - i ≤ g.length - 1
    · rw [if_pos (by omega), if_neg (by omega), if_pos ⟨c, e⟩]
    · rw [if_neg (by omega), if_neg (fun z => e z.2)]
  · rw [if_pos (by omega), if_pos (by omega), if_neg (fun z => c z.1)]
theorem row_shf {g : List Int} {d i : Nat} (hg : 1 ≤ g.length) (hi : i < d + 2 - g.length) : row (shf g d) i = shi (g.length - 1) (co g) i := by
  funext j
  unfold row shf
  rw [List.getD_eq_getElem?_getD, List.getElem?_map, List.getElem?_range hi]
  exact co_shrow hg j
def urows (f g : List Int) (d : Nat) : List (List Int) := shf f d ++ shf g d
theorem urows_w {f g : List Int} {d : Nat} : ∀ r ∈ urows f g d, r.length = d + 1 := fun r hr => (List.mem_append.mp hr).elim (shf_w r) (shf_w r)
theorem urows_len (f g : List Int) (d : Nat) : (urows f g d).length = (d + 2 - f.length) + (d + 2 - g.length) := by
  unfold urows
  rw [List.length_append, shf_len, shf_len]
theorem shf_mem {M : Nat} {g : List Int} {d : Nat} (h : ∀ x ∈ g, x.natAbs ≤ M) : ∀ r ∈ shf g d, ∀ x ∈ r, x.natAbs ≤ M := fun r hr x hx => by
  obtain ⟨i, _, rfl⟩ := List.mem_map.mp hr
  rcases List.mem_append.mp hx with q | q
  · rcases List.mem_append.mp q with q | q
    · rw [List.eq_of_mem_replicate q]
      exact Nat.zero_le _
    · exact h x q
  · rw [List.eq_of_mem_replicate q]
    exact Nat.zero_le _
theorem urows_mem {M : Nat} {f g : List Int} {d : Nat} (hf : ∀ x ∈ f, x.natAbs ≤ M) (hg : ∀ x ∈ g, x.natAbs ≤ M) : ∀ r ∈ urows f g d, ∀ x ∈ r, x.natAbs ≤ M := fun r hr => (List.mem_append.mp hr).elim (shf_mem hf r) (shf_mem hg r)
theorem row_urows {f g : List Int} {d i : Nat} (hf : 1 ≤ f.length) (hg : 1 ≤ g.length) (hi : i < (d + 2 - f.length) + (d + 2 - g.length)) : row (urows f g d) i = if i < d + 2 - f.length then shi (f.length - 1) (co f) i else shi (g.length - 1) (co g) (i - (d + 2 - f.length)) := by
  unfold urows row
  rw [List.getD_eq_getElem?_getD]
  by_cases c : i < d + 2 - f.length
  · rw [if_pos c, List.getElem?_append_left (by rw [shf_len]; exact c), ← row_shf hf c]
    unfold row
    rw [List.getD_eq_getElem?_getD]
  · rw [if_neg c, List.getElem?_append_right (by rw [shf_len]; omega), shf_len, ← row_shf (d := d) hg (by omega)]
    unfold row
    rw [List.getD_eq_getElem?_getD]
theorem full_ind {le : List Int → List Int → Nat → List Int} (hle : LeP le) {w : Nat} {A : List (List Int)} (hA : ∀ r ∈ A, r.length = w) (h : Ind w A.length (row A)) : (ech le A w).length = A.length := by
  have hT := told hle (M := nm A.flatten) hA fun r hr x hx => nm_mem (List.mem_flatten.mpr ⟨r, hr, hx⟩)
  exact hT.base.ind_all h
theorem Fm.list {n : Nat} {φ : Bi} (h : Fm n φ) : ∃ l : List Int, l.length = n ∧ ∀ x y, ev l x y = φ x y := h
theorem ev_shrow (F : List Int) (i n : Nat) (x y : Int) : ev (List.replicate i 0 ++ F ++ List.replicate n 0) x y = y ^ i * (x ^ n * ev F x y) := by
  rw [ev_sx, ev_ry]
  grind
/-- products of a form are made of its shifts -/
theorem sp_prod {F : List Int} {d : Nat} (h1 : 1 ≤ F.length) (h2 : F.length ≤ d + 1) : ∀ (U : List Int) (z : Nat) (v : List Int), z + U.length = d + 2 - F.length → v.length = d + 1 → (∀ x y, ev v x y = y ^ z * (ev U x y * ev F x y)) → SpM (d + 1) (shf F d) v
  | [], z, v, _, hv, e => SpM.zero fun j hj => by
    have : ∀ w ∈ v, w = 0 := ev0_all fun x y => by rw [e, ev_nil, Int.zero_mul, Int.mul_zero]
    exact this _ (co_memE (by omega))
  | u :: U, z, v, hz, hv, e => by
    rw [List.length_cons] at hz
    obtain ⟨v', lv, ev'⟩ : ∃ l : List Int, l.length = d + 1 ∧ ∀ x y, ev l x y = y ^ (z + 1) * (ev U x y * ev F x y) := by
      have h := ((Fm.of U).mul (Fm.of F) (k := U.length + F.length - 1) (by omega)).py (z + 1)
      by_cases c : U.length = 0
      · refine ⟨List.replicate (d + 1) 0, List.length_replicate, fun x y => ?_⟩
        rw [ev_zero (fun w hw => List.eq_of_mem_replicate hw), List.length_eq_zero_iff.mp c, ev_nil, Int.zero_mul, Int.mul_zero]
      · exact h.cast (by omega)
    have r : List.replicate z 0 ++ F ++ List.replicate (d + 1 - F.length - z) 0 ∈ shf F d := List.mem_map.mpr ⟨z, List.mem_range.mpr (by omega), rfl⟩
    have s1 := SpM.own (w := d + 1) r
    have s2 := sp_prod h1 h2 U (z + 1) v' (by omega) lv ev'
    have lr := shf_w _ r
    have eu : d + 1 - F.length - z = U.length := by omega
    rw [eu] at s1 lr
    refine SpM.lin (c := 1) u 1 (by decide) s1 s2 fun j hj => ?_
    have q : v = zs 1 ((List.replicate z 0 ++ F ++ List.replicate U.length 0).map (u * ·)) v' := by
      refine ev_inj ?_ fun x y => ?_
      · unfold zs
        rw [List.length_zipWith, List.length_map]
        omega
      · rw [ev_zs 1 (by rw [List.length_map, lr, lv]), ev_map, ev_shrow, ev', e, ev_cons, Int.pow_succ]
        grind
    rw [q, co_zs' 1 (by rw [List.length_map, lr, lv]), co_scale]
    omega
/-- the rank of the shifts of two forms -/
theorem full_rank {F G T : List Int} {d : Nat} (hd : F.length + G.length = d + 3) (f2 : 2 ≤ F.length) (g2 : 2 ≤ G.length) (nF : Nz (ev F)) (nG : Nz (ev G)) (nT : Nz (ev T)) (df : Dv T.length F.length (ev T) (ev F)) (dg : Dv T.length G.length (ev T) (ev G)) (h : Full F.length G.length T.length (ev F) (ev G) (ev T)) :
    (ech lless (urows F G d) (d + 1)).length + T.length = F.length + G.length - 1 := by
  have tf := df.le nF
  have tg := dg.le nG
  have t1 : 1 ≤ T.length := Classical.byContradiction fun c => by
    obtain ⟨x, y, h0⟩ := nT
    rw [List.length_eq_zero_iff.mp (show T.length = 0 by omega)] at h0
    exact h0 rfl
  have sub : ∀ {X : List Int}, 2 ≤ X.length → X.length ≤ d + 1 → T.length ≤ X.length → Dv T.length X.length (ev T) (ev X) → ∀ r ∈ shf X d, SpM (d + 1) (shf T d) r := fun {X} x2 xd tx dx r hr => by
    obtain ⟨i, hi, rfl⟩ := List.mem_map.mp hr
    have hi := List.mem_range.mp hi
    have lr := shf_w _ hr
    obtain ⟨c, A, hc, hA, e⟩ := dx
    obtain ⟨U, lU, eU⟩ := ((hA.px (d + 1 - X.length - i)).py i).list
    refine SpM.mul (α := 1) hc (sp_prod t1 (by omega) U 0 ((List.replicate i 0 ++ X ++ List.replicate (d + 1 - X.length - i) 0).map (c * ·)) (by omega) (by rw [List.length_map, lr]) fun x y => ?_) fun j hj => by rw [co_scale, Int.one_mul]
    rw [ev_map, ev_shrow, eU, Int.pow_zero]
    have := e x y
    grind
  have e := ech_same lePL lePL (w := d + 1) (A := urows F G d) (B := shf T d) urows_w shf_w (fun t ht => (List.mem_append.mp ht).elim (sub f2 (by omega) tf df t) (sub g2 (by omega) tg dg t)) (fun t ht => ?_)
  · rw [e, full_ind lePL shf_w, shf_len]
    · omega
    · obtain ⟨p, hp, lo⟩ : ∃ p, co T p ≠ 0 ∧ ∀ j, j < p → co T j = 0 := by
        obtain ⟨q, hq⟩ : ∃ q, co T q ≠ 0 := Classical.byContradiction fun c => by
          obtain ⟨x, y, h0⟩ := nT
          refine h0 (ev_zero (fun w hw => ?_) x y)
          obtain ⟨k, hk, ek⟩ := List.mem_iff_getElem.mp hw
          rw [← ek, ← co_get hk]
          exact Classical.byContradiction fun n => c ⟨k, n⟩
        obtain ⟨p, hp, lo⟩ := leastE (p := fun j => co T j ≠ 0) q hq
        exact ⟨p, hp, fun j hj => Classical.byContradiction fun n => lo j hj n⟩
      have hpl : p < T.length := Classical.byContradiction fun c => hp (co_far (by omega))
      have ind := shifts_ind (d := T.length - 1) (m := d + 1 - T.length) (g := co T) (p := p) (by omega) hp lo
      rw [show T.length - 1 + (d + 1 - T.length) + 1 = d + 1 by omega, show d + 1 - T.length + 1 = (shf T d).length by rw [shf_len]; omega] at ind
      intro a ha i hi
      refine ind a (fun j hj => ?_) i hi
      rw [← ha j hj]
      exact S_congr fun k hk => by rw [row_shf t1 (by rw [shf_len] at hk; exact hk)]
  · obtain ⟨i, hi, rfl⟩ := List.mem_map.mp ht
    have hi := List.mem_range.mp hi
    have lr := shf_w _ ht
    obtain ⟨c, U, V, hc, hU, hV, q⟩ := h (T.length - 1) (fun x y => y ^ i * (x ^ (d + 1 - T.length - i) * 1)) (((Fm.one.px _).py i).cast (by omega))
    obtain ⟨u, lu, eu⟩ := hU.list
    obtain ⟨v, lv, ev'⟩ := hV.list
    obtain ⟨a, la, ea⟩ := (hU.mul (Fm.of F) (k := d + 1) (by omega)).list
    obtain ⟨b, lb, eb⟩ := (hV.mul (Fm.of G) (k := d + 1) (by omega)).list
    have s1 : SpM (d + 1) (urows F G d) a := (sp_prod (by omega) (by omega) u 0 a (by omega) la fun x y => by rw [ea, eu, Int.pow_zero, Int.one_mul]).mono fun x hx => List.mem_append_left _ hx
    have s2 : SpM (d + 1) (urows F G d) b := (sp_prod (by omega) (by omega) v 0 b (by omega) lb fun x y => by rw [eb, ev', Int.pow_zero, Int.one_mul]).mono fun x hx => List.mem_append_right _ hx
    refine SpM.lin 1 1 hc s1 s2 fun j hj => ?_
    have e : (List.replicate i 0 ++ T ++ List.replicate (d + 1 - T.length - i) 0).map (c * ·) = zs 1 a b := by
      refine ev_inj ?_ fun x y => ?_
      · unfold zs
        rw [List.length_zipWith, List.length_map]
        omega
      · rw [ev_map, ev_shrow, ev_zs 1 (by omega), ea, eb, Int.one_mul, ← q]
        grind
    rw [← co_scale, e, co_zs' 1 (by omega)]
    omega
end K76

set_option Elab.async false
set_option linter.all false
set_option maxRecDepth 100000
set_option maxHeartbeats 4000000
set_option exponentiation.threshold 10000
/-! plain: dividing leaves nothing; sizes of Euclid's rests -/
namespace K76
open PySem PySem.Spec PyProof.Rows L2 FDivQ LA
/-! ### sizes -/
def bt (L : Nat) (l : List Int) : Prop := ∀ k, (co l k).natAbs < 2 ^ L
theorem bt.mono {L M : Nat} {l : List Int} (h : bt L l) (e : L ≤ M) : bt M l := fun k => Nat.lt_of_lt_of_le (h k) (Nat.pow_le_pow_right (by decide) e)
theorem bt.stp {L M : Nat} {l g : List Int} (h : bt L l) (e : bt M g) : bt (L + (M + 1)) (stp1 l g) := fun k => by
  have hc : ∀ j, (co (sub1 l g) j).natAbs < 2 ^ (L + (M + 1)) := fun j => by
    unfold sub1
    rw [co_tb]
    split
    · have a1 : (co l j * co g 0).natAbs < 2 ^ (L + M) := by
        rw [Int.natAbs_mul, Nat.pow_add]
        exact Nat.mul_lt_mul'' (h j) (e 0)
      have a2 : (co l 0 * co (lng l g) j).natAbs < 2 ^ (L + M) := by
        rw [Int.natAbs_mul, Nat.pow_add, co_lng]
        exact Nat.mul_lt_mul'' (h 0) (e j)
      have e2 : 2 ^ (L + (M + 1)) = 2 ^ (L + M) * 2 := by rw [← Nat.add_assoc, Nat.pow_succ]
      generalize 2 ^ (L + M) = X at *
      generalize co l j * co g 0 = u at *
      generalize co l 0 * co (lng l g) j = v at *
      omega
    · exact Nat.two_pow_pos _
  unfold stp1
  by_cases c : k + 1 < (sub1 l g).length
  · rw [co_get (by rw [List.length_drop]; omega), List.getElem_drop, ← co_get (by omega)]
    exact hc _
  · rw [co_far (by rw [List.length_drop]; omega)]
    exact Nat.two_pow_pos _
theorem bt.rlN {L M : Nat} {f g : List Int} (h : bt L f) (e : bt M g) : ∀ n, bt (L + n * (M + 1)) (rlN n f g)
  | 0 => h.mono (by omega)
  | n + 1 => by
    have := (bt.rlN h e n).stp e
    exact this.mono (by rw [Nat.succ_mul]; omega)
theorem bt.cut {L : Nat} {l : List Int} (h : bt L l) : bt L (cut l) := fun k => by
  rw [← cut_drop]
  by_cases c : ah l + k < l.length
  · rw [co_get (by rw [List.length_drop]; omega), List.getElem_drop, ← co_get c]
    exact h _
  · rw [co_far (by rw [List.length_drop]; omega)]
    exact Nat.two_pow_pos _
theorem bt.prim {L : Nat} {l : List Int} (h : bt L l) : bt L (primE l) := fun k => Nat.lt_of_le_of_lt (prim_le l k) (h k)
theorem mem_bt {L : Nat} {l : List Int} (h : ∀ x ∈ l, x.natAbs < 2 ^ L) : bt L l := fun k => by
  by_cases c : k < l.length
  · exact h _ (co_memE c)
  · rw [co_far (by omega)]
    exact Nat.two_pow_pos _
theorem gl_single (a : Int) : gl [a] = a.natAbs := by
  show Nat.gcd 0 a.natAbs = _
  exact Nat.gcd_zero_left _
theorem len_one {l : List Int} (h : l.length ≤ 1) : l = [] ∨ ∃ a, l = [a] := by
  match l, h with
  | [], _ => exact .inl rfl
  | [a], _ => exact .inr ⟨a, rfl⟩
theorem divOk_1 {l : List Int} (h : l.length ≤ 1) : DivOk l := fun h0 x hx => by
  rcases len_one h with rfl | ⟨a, rfl⟩
  · exact absurd hx (by simp)
  · rw [List.mem_singleton.mp hx] at *
    rw [gl_single] at h0 ⊢
    refine ⟨by omega, .inr ?_⟩
    rw [Int.natAbs_natCast]
    exact Nat.le_add_right _ _
theorem divOk_9 {l : List Int} (h : bt 9000 l) : DivOk l := fun h0 x hx => by
  refine ⟨by omega, .inl ?_⟩
  rw [Int.natAbs_natCast]
  have : ∃ y ∈ l, y ≠ 0 := Classical.byContradiction fun c => h0 (gl_all0 l fun y hy => Classical.byContradiction fun n => c ⟨y, hy, n⟩)
  obtain ⟨y, hy, ny⟩ := this
  obtain ⟨k, hk, ek⟩ := mem_co hy
  have h1 := Nat.le_of_dvd (by omega) (gl_dvd hy)
  have h2 := h k
  rw [ek] at h2
  exact log_lt (Nat.lt_of_le_of_lt h1 h2) (by decide)
theorem prim_1 {l : List Int} (h : l.length ≤ 1) : bt 1 (primE l) := fun k => by
  rcases len_one h with rfl | ⟨a, rfl⟩
  · rw [prim_nil, co_far (Nat.zero_le _)]
    decide
  · by_cases c : k = 0
    · subst c
      have e := prim_ex [a] 0
      have e2 : co [a] 0 = a := rfl
      rw [e2] at e
      by_cases a0 : a = 0
      · have := (Int.mul_eq_zero.mp (e.trans a0)).resolve_left (pf_ne _)
        rw [this]
        decide
      · have p : (pf [a]).natAbs = a.natAbs := by
          unfold pf
          rw [gl_single, if_neg (by omega)]
          split
          · rw [Int.natAbs_natCast]
          · rw [Int.natAbs_neg, Int.natAbs_natCast]
        have e3 := congrArg Int.natAbs e
        rw [Int.natAbs_mul, p] at e3
        have : (co (primE [a]) 0).natAbs = 1 := Nat.eq_of_mul_eq_mul_left (show 0 < a.natAbs by omega) (by rw [e3, Nat.mul_one])
        rw [this]
        decide
    · rw [co_far (by rw [primE_len, List.length_singleton]; omega)]
      decide
/-- whether all rests stay small enough: lengths, bits -/
def szc : Nat → Nat → Nat → Nat → Nat → Bool
  | 0, p, _, L, _ => decide (L ≤ 9000) || decide (p ≤ 1)
  | n + 1, p, q, L, M => if q = 0 then decide (L ≤ 9000) || decide (p ≤ 1) else
      decide (L + (p + 1 - q) * (M + 1) ≤ 100000) && decide (M ≤ 100000) && (List.range (min q (p + 1))).all fun r => if r ≤ 1 then szc n q r M 1 else decide (L + (p + 1 - q) * (M + 1) ≤ 9000) && szc n q r M (L + (p + 1 - q) * (M + 1))
theorem cmulw_of {a b : Int} {L : Nat} (hL : L ≤ 100000) (h1 : a.natAbs < 2 ^ L) (h2 : b.natAbs < 2 ^ L) : CMulW a b := by
  have l1 : a.natAbs.log2 ≤ 100000 := Nat.le_trans (Nat.le_of_lt_succ (log_lt (k := L + 1) (Nat.lt_trans h1 (Nat.pow_lt_pow_right (by decide) (Nat.lt_succ_self L))) (Nat.succ_pos L))) hL
  have l2 : b.natAbs.log2 ≤ 100000 := Nat.le_trans (Nat.le_of_lt_succ (log_lt (k := L + 1) (Nat.lt_trans h2 (Nat.pow_lt_pow_right (by decide) (Nat.lt_succ_self L))) (Nat.succ_pos L))) hL
  show _ < _
  omega
theorem szc_end {p L : Nat} {f : List Int} (h : (decide (L ≤ 9000) || decide (p ≤ 1)) = true) (hp : f.length = p) (hf : bt L f) : DivOk f ∧ bt 9000 (primE f) := by
  rcases Bool.or_eq_true_iff.mp h with c | c
  · exact ⟨divOk_9 (hf.mono (of_decide_eq_true c)), hf.prim.mono (of_decide_eq_true c)⟩
  · exact ⟨divOk_1 (by rw [hp]; exact of_decide_eq_true c), (prim_1 (by rw [hp]; exact of_decide_eq_true c)).mono (by decide)⟩
theorem shOk_of : ∀ (n p q L M : Nat) (f g : List Int), szc n p q L M = true → f.length = p → g.length = q → q ≤ n → bt L f → bt M g → ShOk n f g ∧ bt 9000 (primE (shp n f g))
  | 0, p, q, L, M, f, g, h, hp, hq, hn, hf, hg => by
    have e := szc_end h hp hf
    exact ⟨⟨List.length_eq_zero_iff.mp (by omega), e.1⟩, e.2⟩
  | n + 1, p, q, L, M, f, g, h, hp, hq, hn, hf, hg => by
    by_cases c : g = []
    · subst c
      have q0 : q = 0 := by rw [← hq]; rfl
      subst q0
      have e := szc_end (show _ = true from h) hp hf
      rw [shp_nil]
      exact ⟨⟨fun _ => e.1, fun z => absurd rfl z⟩, e.2⟩
    · have g1 := List.length_pos_iff.mpr c
      have q0 : q ≠ 0 := by omega
      have h' : (decide (L + (p + 1 - q) * (M + 1) ≤ 100000) && decide (M ≤ 100000) && (List.range (min q (p + 1))).all fun r => if r ≤ 1 then szc n q r M 1 else decide (L + (p + 1 - q) * (M + 1) ≤ 9000) && szc n q r M (L + (p + 1 - q) * (M + 1))) = true := by
        have := h
        unfold szc at this
        rw [if_neg q0] at this
        exact this
      obtain ⟨h1, h3⟩ := Bool.and_eq_true_iff.mp h'
      obtain ⟨h1, h2⟩ := Bool.and_eq_true_iff.mp h1
      have h1 := of_decide_eq_true h1
      have h2 := of_decide_eq_true h2
      have lr := rst_len (f := f) g1
      have hr := List.all_eq_true.mp h3 (rst f g).length (List.mem_range.mpr (by omega))
      have bl : bt (L + (p + 1 - q) * (M + 1)) (rlf f g) := by
        have := hf.rlN hg (f.length + 1 - g.length)
        rw [hp, hq] at this
        unfold rlf
        rw [hp, hq]
        exact this
      have lc : (cut (rlf f g)).length = (rst f g).length := (primE_len _).symm
      have st : ∀ j, j < f.length + 1 - g.length → StOk (rlN j f g) g := fun j hj => by
        have b1 := (hf.rlN hg j).mono (M := 100000) (Nat.le_trans (Nat.add_le_add_left (Nat.mul_le_mul_right _ (by omega)) _) h1)
        have b2 := hg.mono h2
        exact ⟨fun k => cmulw_of (Nat.le_refl _) (b1 k) (b2 0), fun k => cmulw_of (Nat.le_refl _) (b1 0) (b2 k)⟩
      rw [show shp (n + 1) f g = shp n g (rst f g) from if_neg c]
      by_cases d : (rst f g).length ≤ 1
      · rw [if_pos d] at hr
        have b : bt 1 (rst f g) := prim_1 (by rw [lc]; exact d)
        have := shOk_of n q _ M 1 g (rst f g) hr hq rfl (by omega) hg b
        exact ⟨⟨fun z => absurd z c, fun _ => ⟨⟨st, divOk_1 (by rw [lc]; exact d)⟩, this.1⟩⟩, this.2⟩
      · rw [if_neg d] at hr
        obtain ⟨r1, r2⟩ := Bool.and_eq_true_iff.mp hr
        have b : bt (L + (p + 1 - q) * (M + 1)) (rst f g) := bl.cut.prim
        have := shOk_of n q _ M _ g (rst f g) r2 hq rfl (by omega) hg b
        exact ⟨⟨fun z => absurd z c, fun _ => ⟨⟨st, divOk_9 (bl.cut.mono (of_decide_eq_true r1))⟩, this.1⟩⟩, this.2⟩
end K76

set_option Elab.async false
set_option linter.all false
set_option maxRecDepth 100000
/-! a loop over enumerate of a list -/
namespace EnumL
open PySem PySem.Spec PyProof.Rows L2 EnumT
end EnumL

set_option Elab.async false
set_option linter.all false
set_option maxRecDepth 100000
set_option maxHeartbeats 4000000
set_option exponentiation.threshold 10000
/-! the law's tools: rows of two forms, division -/
namespace K76
open PySem PySem.Spec PyProof.Rows L2 StX RZ MyR SlX OwnR OwnF EnumT SeqE GxR GenNx FDivQ
section
variable {P : Program} {w : World} {K : PySem.W.Frag} {mg : Str → Option Value} {base : Heap} {Ps : List Addr}
def spTwo : Sp := fun vs H Q _ => ∃ (a b : Addr) (F G : List Int), vs = [.ref a, .ref b] ∧ H a = some (tp F) ∧ H b = some (tp G) ∧ 2 ≤ F.length ∧ 2 ≤ G.length ∧ F.length ≤ 20 ∧ G.length ≤ 20 ∧ ∀ p bs H', Same H H' → H' p = some (.tup (bs.map V.ref)) → RT H' bs (urows F G (F.length + G.length - 3)) → Q (.ref p) H'
theorem ok_law_two_rows (T : Facts K mg) : FnOk P w K mg base CX0 1 T.f_law_two_rows T.fd_law_two_rows ["_law_one", "_law_other"] spTwo := by
  refine T.F_law_two_rows.ok sc_law_two_rows (fun vs H Q E h => ?_) (fun cdv A outer s H vs Q E hr h => ?_)
  · obtain ⟨a, b, F, G, rfl, _⟩ := h
    rfl
  · obtain ⟨a, b, F, G, rfl, ha, hb, f2, g2, f20, g20, q⟩ := h
    refine ⟨_, (PSs.nox (pss_cons (ps_asg (pe_tup (pa_cons (pe_op op_sub (pe_callB call_len_seq (by rfl) T.z_len (by decide +kernel) (pa_cons (pv 0) pa_nil)) pe_int) (pa_cons (pe_op op_sub (pe_callB call_len_seq (by rfl) T.z_len (by decide +kernel) (pa_cons (pv 1) pa_nil)) pe_int) pa_nil))) (pg_tup (by rfl) (pgs_cons (pg_name (i := 2) sc_law_two_rows.nd rfl (.inr rfl)) (pgs_cons (pg_name (i := 3) sc_law_two_rows.nd rfl (.inr rfl)) pgs_nil))))
    (pss_cons (ps_setLc (i := 4) (own := [("_law_at", 5)]) (g := (gName 5)) (tt := tYes) rfl sc_law_two_rows.nd rfl rfl (sw_true rfl rfl rfl (by decide +kernel)) (pi_range1 (by rfl) T.z_range (pa_cons (pv 3) pa_nil)) (blkOk_by (N := N_law_two_rows) (sc := defScope s_law_two_rows) (by decide +kernel)) (fun _ _ _ _ _ => (pg_name (i := 5) sc_law_two_rows.nd rfl (.inl rfl))) (fun _ _ _ _ _ => pts_nil) (fun _ _ _ _ _ => (pe_op (op_catA : OpR _ _ (rCatA K)) (pe_op (op_catA : OpR _ _ (rCatA K)) (pe_op (RepZ.op_rep0 : OpR _ _ (RepZ.rRep0 K)) (pe_tup (pa_cons pe_int pa_nil)) (pv 5)) (pv 0)) (pe_op (RepZ.op_rep0 : OpR _ _ (RepZ.rRep0 K)) (pe_tup (pa_cons pe_int pa_nil)) (pe_op op_sub (pe_op op_sub (pv 3) pe_int) (pv 5))))))
    (pss_one (ps_ret (pe_tupleOf (by rfl) T.z_tuple (pe_op op_cat (pv 4) (pe_lc (own := [("_law_at", 5)]) (g := (gName 5)) (tt := tYes) (by rfl) sc_law_two_rows.nd (pi_range1 (by rfl) T.z_range (pa_cons (pv 2) pa_nil)) (blkOk_by (N := N_law_two_rows) (sc := defScope s_law_two_rows) (by decide +kernel)) (fun _ _ _ _ _ => (pg_name (i := 5) sc_law_two_rows.nd rfl (.inl rfl))) (fun _ _ _ _ _ => pts_nil) (fun _ _ _ _ _ => (pe_op (op_catA : OpR _ _ (rCatA K)) (pe_op (op_catA : OpR _ _ (rCatA K)) (pe_op (RepZ.op_rep0 : OpR _ _ (RepZ.rRep0 K)) (pe_tup (pa_cons pe_int pa_nil)) (pv 5)) (pv 1)) (pe_op (RepZ.op_rep0 : OpR _ _ (RepZ.rRep0 K)) (pe_tup (pa_cons pe_int pa_nil)) (pe_op op_sub (pe_op op_sub (pv 2) pe_int) (pv 5))))))))))))), ?_⟩
    refine ⟨_, rfl, a, _, rfl, .inr (SqT.of ha), _, _, rfl, rfl, _, rfl, b, _, rfl, .inr (SqT.of hb), _, _, rfl, rfl, sz2, fun p0 n0 => gen_upd H p0 _ n0 fun H1 s1 e1 => ?_⟩
    refine ⟨p0, _, rfl, SqT.of e1, rfl, _, _, rfl, _, _, rfl, rfl, ?_⟩
    rw [List.length_map, List.length_map]
    have em : ∀ X : List Int, 2 ≤ X.length → (fun i j => V.int (i - j)) (X.length : Int) 1 = V.int ((X.length - 1 : Nat) : Int) := fun X hX => by
      show V.int _ = V.int _
      congr 1
      omega
    rw [em F f2, em G g2]
    obtain ⟨d, hd⟩ : ∃ d, d = F.length + G.length - 3 := ⟨_, rfl⟩
    have row : ∀ {n j : Nat} {X : List Int} {σ : L2.St} {u : Addr} {H2 : Hp} {iu ic ij : Nat} {Q2 : VK}, n ≤ 20 → X.length ≤ 20 → j < n → n + X.length = d + 2 → σ[iu]? = some (some (.ref u)) → σ[ic]? = some (some (.int (n : Nat))) → σ[ij]? = some (some (.int (j : Nat))) → H2 u = some (tp X) →
        (∀ q H3, Same H2 H3 → H3 q = some (tp (List.replicate j 0 ++ X ++ List.replicate (d + 1 - X.length - j) 0)) → Q2 (.ref q) H3) →
        tOp (rCatA K) (tOp (rCatA K) (tOp (RepZ.rRep0 K) (tTup (tCons (tC (V.int 0)) tNil)) (tVar ij)) (tVar iu)) (tOp (RepZ.rRep0 K) (tTup (tCons (tC (V.int 0)) tNil)) (tOp (rI0 fun i j => V.int (i - j)) (tOp (rI0 fun i j => V.int (i - j)) (tVar ic) (tC (V.int 1))) (tVar ij))) σ H2 Q2 := fun {n j X σ u H2 iu ic ij Q2} hn hX hj hd2 h1 h2 h3 hu kq => by
      refine ⟨sz1, fun p0 n0 => gen_upd H2 p0 (tp [0]) n0 fun H3 s3 f3 => ⟨_, h3, RepZ.rep_any f3 rfl (by omega) fun p1 H4 s4 f4 => ⟨_, h1, cat_rows f4 (s4 _ _ (s3 _ _ hu)) (by rw [List.length_replicate]; omega) fun p2 H5 s5 f5 => ⟨sz1, fun p3 n3 => gen_upd H5 p3 (tp [0]) n3 fun H6 s6 f6 => ⟨_, h2, _, _, rfl, rfl, _, h3, _, _, rfl, rfl, RepZ.rep_any f6 (n := d + 1 - X.length - j) (by omega) (by omega) fun p4 H7 s7 f7 => cat_rows (s7 _ _ (s6 _ _ f5)) f7 (by rw [List.length_append, List.length_replicate, List.length_replicate]; omega) fun p5 H8 s8 f8 => kq p5 H8 (s3.trans (Same.trans s4 (s5.trans (s6.trans (Same.trans s7 s8))))) f8⟩⟩⟩⟩⟩
    refine ⟨_, rfl, _, rfl, by omega, by omega, fun D hD => ?_⟩
    refine lc_rangeT (n := G.length - 1) (f := fun i => List.replicate i 0 ++ F ++ List.replicate (d + 1 - F.length - i) 0) hD (by omega) (fun _ => rfl) (fun j H2 Q2 hj s2 kq => row (n := G.length - 1) (X := F) (by omega) f20 hj (by omega) rfl rfl rfl (s2 _ _ (s1 _ _ ha)) kq) (fun bs H2 s2 d2 r2 => ?_)
    refine ⟨_, rfl, _, rfl, _, rfl, by omega, by omega, fun D2 hD2 => ?_⟩
    refine lc_rangeT (n := F.length - 1) (f := fun i => List.replicate i 0 ++ G ++ List.replicate (d + 1 - G.length - i) 0) hD2 (by omega) (fun _ => rfl) (fun j H3 Q2 hj s3 kq => row (n := F.length - 1) (X := G) (by omega) g20 hj (by omega) rfl rfl rfl (s3 _ _ (s2 _ _ (s1 _ _ hb))) kq) (fun cs H3 s3 d3 r3 => ?_)
    have lb := RX.len r2
    have lc := RX.len r3
    rw [List.length_map, List.length_range] at lb lc
    refine ⟨D, D2, _, _, rfl, rfl, s3 _ _ d2, d3, ?_, fun p4 n4 => gen_upd H3 p4 _ n4 fun H4 s4 e4 => .inl ⟨p4, _, rfl, SqL.of e4, fun p5 n5 => gen_upd H4 p5 _ n5 fun H5 s5 e5 => q p5 (bs ++ cs) H5 (s1.trans (s2.trans (s3.trans (s4.trans s5)))) ?_ ?_⟩⟩
    · rw [List.length_map, List.length_map]
      exact Nat.le_trans (m := 100) (by omega) (by decide)
    · rw [e5, List.map_append]
    · have s35 := s3.trans (s4.trans s5)
      unfold urows shf
      rw [← hd, show d + 2 - F.length = G.length - 1 by omega, show d + 2 - G.length = F.length - 1 by omega]
      exact RX.app (RX.imp (fun _ _ e => s5 _ _ (s4 _ _ e)) r3) (RX.imp (fun _ _ e => s35 _ _ e) r2)
end
end K76

set_option Elab.async false
set_option linter.all false
set_option maxRecDepth 100000
set_option maxHeartbeats 4000000
set_option exponentiation.threshold 10000
/-! a drawn pair -/
namespace K76
open PySem PySem.Spec PyProof.Rows L2 StX RZ MyR SlX OwnR OwnF EnumT SeqE GxR GenNx FDivQ LA
theorem nz_of {l : List Int} (h : nzr l = true) : Nz (ev l) := Classical.byContradiction fun c => by
  obtain ⟨x, hx, h0⟩ := List.any_eq_true.mp h
  have := ev0_all (l := l) (fun x y => Classical.byContradiction fun n => c ⟨x, y, n⟩) x hx
  rw [this] at h0
  exact absurd h0 (by decide)
theorem lv_of {l : List Int} (h : Nz (ev l)) : lv l := Classical.byContradiction fun c => by
  obtain ⟨x, y, h0⟩ := h
  refine h0 (ev_zero (fun z hz => Classical.byContradiction fun n => c ?_) x y)
  exact List.any_eq_true.mpr ⟨z, hz, by simpa using n⟩
theorem Nz.mul {n m : Nat} {f g : Bi} (hf : Fm n f) (nf : Nz f) (hg : Fm m g) (ng : Nz g) : Nz fun x y => f x y * g x y := Classical.byContradiction fun c => by
  have := hf.can0 nf hg fun x y => Classical.byContradiction fun ne => c ⟨x, y, ne⟩
  obtain ⟨x, y, h0⟩ := ng
  exact h0 (this x y)
theorem Bd.bt {l : List Int} {n b L : Nat} (h : Bd l n b) (hb : b < 2 ^ L) : bt L l := mem_bt fun x hx => Nat.lt_of_le_of_lt (h.mem x hx) hb
theorem bt_zeros {L : Nat} {l : List Int} (h : bt L l) (n : Nat) : bt L (List.replicate n 0 ++ l) := fun k => by
  rw [co_app, co_z]
  split
  · exact Nat.two_pow_pos _
  · exact h _
theorem sz_pairs2 : ∀ p, p < 8 → ∀ q, q < 8 → szc q p q 127 97 = true := by decide +kernel
/-- what the walk of a common form asks -/
structure CfOk (F G : List Int) : Prop where
  ok : ShOk (cut G).length (cut F) (cut G)
  bt : bt 9000 (cmn F G)
theorem cf_of {F G : List Int} {p q L M : Nat} (h : szc (cut G).length (cut F).length (cut G).length L M = true) (hF : bt L F) (hG : K76.bt M G) : CfOk F G := by
  obtain ⟨a, b⟩ := shOk_of _ _ _ L M _ _ h rfl rfl (Nat.le_refl _) hF.cut hG.cut
  exact ⟨a, bt_zeros b _⟩
theorem cf_pair {F G : List Int} (lF : F.length ≤ 7) (lG : G.length ≤ 7) (hF : bt 127 F) (hG : K76.bt 97 G) : CfOk F G :=
  cf_of (p := 0) (q := 0) (sz_pairs2 _ (by have := cut_len F; omega) _ (by have := cut_len G; omega)) hF hG
section
variable {P : Program} {w : World} {K : PySem.W.Frag} {mg : Str → Option Value} {base : Heap} {Ps : List Addr}
def spLR (Ps : List Addr) : Sp := fun vs H Q _ => ∃ d : Addr, vs = [.ref d] ∧ Dp d Ps H ∧ ∀ H', Sy d Ps H H' → Dp d Ps H' → Q (.bl true) H'
end
end K76

set_option Elab.async false
set_option linter.all false
set_option maxRecDepth 10000
/-! determinants of tables of integers: Laplace along the first row; each alternating multilinear law is a multiple -/
namespace LA
def sg (j : Nat) : Int := if j % 2 = 0 then 1 else -1
theorem sg_succ (j : Nat) : sg (j + 1) = - sg j := by
  unfold sg
  by_cases h : j % 2 = 0
  · rw [if_pos h, if_neg (by omega)]
  · rw [if_neg h, if_pos (by omega)]
    rfl
theorem sg_sq (j : Nat) : sg j * sg j = 1 := by
  unfold sg
  split <;> rfl
abbrev Tab : Type := Nat → Nat → Int
def det : Nat → Tab → Int
  | 0, _ => 1
  | n + 1, A => S (n + 1) fun j => sg j * A 0 j * det n fun i k => A (i + 1) (sk j k)
theorem sk_lt {j k n : Nat} (h : k < n) : sk j k < n + 1 := by
  unfold sk
  split <;> omega
theorem sk_ne (j k : Nat) : sk j k ≠ j := by
  unfold sk
  split <;> omega
theorem det_congr : ∀ {n : Nat} {A B : Tab}, (∀ i j, i < n → j < n → A i j = B i j) → det n A = det n B
  | 0, _, _, _ => rfl
  | n + 1, A, B, h => S_congr fun j hj => by
    rw [h 0 j (by omega) hj]
    congr 1
    exact det_congr fun i k hi hk => h _ _ (by omega) (sk_lt hk)
/-- a row put in -/
def setR (A : Tab) (p : Nat) (v : Nat → Int) : Tab := fun i => if i = p then v else A i
theorem setR_s (A : Tab) (p : Nat) (v : Nat → Int) : setR A p v p = v := if_pos rfl
theorem setR_n {A : Tab} {p i : Nat} {v : Nat → Int} (h : i ≠ p) : setR A p v i = A i := if_neg h
theorem setR_own (A : Tab) (p : Nat) : setR A p (A p) = A := by
  funext i
  unfold setR
  split
  · next h => rw [h]
  · rfl
theorem setR_set (A : Tab) (p : Nat) (u v : Nat → Int) : setR (setR A p u) p v = setR A p v := by
  funext i
  unfold setR
  split <;> rfl
theorem setR_comm {A : Tab} {p q : Nat} {u v : Nat → Int} (h : p ≠ q) : setR (setR A p u) q v = setR (setR A q v) p u := by
  funext i
  unfold setR
  by_cases h1 : i = q
  · rw [if_pos h1, if_neg (fun z => h (z.symm.trans h1)), if_pos h1]
  · rw [if_neg h1]
    by_cases h2 : i = p
    · rw [if_pos h2, if_pos h2]
    · rw [if_neg h2, if_neg h2, if_neg h1]
theorem minor_set (A : Tab) (p j : Nat) (v : Nat → Int) : (fun i k => setR A (p + 1) v (i + 1) (sk j k)) = setR (fun i k => A (i + 1) (sk j k)) p fun k => v (sk j k) := by
  funext i k
  unfold setR
  by_cases h : i = p
  · rw [if_pos h, if_pos (by omega)]
  · rw [if_neg h, if_neg (by omega)]
/-- linear in each row -/
theorem det_lin : ∀ {n : Nat} {A : Tab} {p : Nat} (a b : Int) (u v : Nat → Int), p < n → det n (setR A p fun j => a * u j + b * v j) = a * det n (setR A p u) + b * det n (setR A p v)
  | 0, _, _, _, _, _, _, h => absurd h (Nat.not_lt_zero _)
  | n + 1, A, 0, a, b, u, v, _ => by
    show S (n + 1) _ = a * S (n + 1) _ + b * S (n + 1) _
    rw [← S_mul, ← S_mul, ← S_add]
    refine S_congr fun j hj => ?_
    have e : ∀ w : Nat → Int, (fun i k => setR A 0 w (i + 1) (sk j k)) = fun i k => A (i + 1) (sk j k) := fun w => by
      funext i k
      rw [setR_n (Nat.succ_ne_zero i)]
    rw [e, e, e, setR_s, setR_s, setR_s]
    generalize det n _ = D
    generalize sg j = s
    grind
  | n + 1, A, p + 1, a, b, u, v, h => by
    show S (n + 1) _ = a * S (n + 1) _ + b * S (n + 1) _
    rw [← S_mul, ← S_mul, ← S_add]
    refine S_congr fun j hj => ?_
    rw [minor_set, minor_set, minor_set, setR_n (Nat.succ_ne_zero p).symm, setR_n (Nat.succ_ne_zero p).symm, setR_n (Nat.succ_ne_zero p).symm, det_lin a b (fun k => u (sk j k)) (fun k => v (sk j k)) (by omega)]
    generalize det n _ = D
    generalize det n _ = D'
    generalize sg j * A 0 j = s
    grind
/-- two columns left out, in both ways -/
theorem sk_sk {j l i : Nat} (h : l < j) : sk j (sk l i) = sk l (sk (j - 1) i) := by
  simp only [sk]
  repeat' split
  all_goals omega
theorem det_adj : ∀ {n : Nat} {A : Tab} {p : Nat}, p + 1 < n → (∀ j, j < n → A p j = A (p + 1) j) → det n A = 0
  | 0, _, _, h, _ => absurd h (Nat.not_lt_zero _)
  | 1, _, _, h, _ => absurd h (by omega)
  | n + 2, A, p + 1, h, e => S_zero fun j hj => by
    rw [det_adj (p := p) (n := n + 1) (by omega) fun k hk => e _ (sk_lt hk), Int.mul_zero]
  | n + 2, A, 0, h, e => by
    -- sums over both columns
    obtain ⟨M, hM⟩ : ∃ M : Nat → Nat → Int, M = fun j l => det n fun i k => A (i + 2) (sk j (sk l k)) := ⟨_, rfl⟩
    obtain ⟨G, hG⟩ : ∃ G : Nat → Nat → Int, G = fun j l => if l < j then sg j * sg l * (A 0 j * A 0 l) * M j l else if j < l then - (sg j * sg l * (A 0 j * A 0 l) * M l j) else 0 := ⟨_, rfl⟩
    have sy : ∀ j l, G l j = - G j l := fun j l => by
      rw [hG]
      dsimp only
      by_cases c : l < j
      · rw [if_pos c, if_neg (by omega), if_pos c]
        grind
      · by_cases d : j < l
        · rw [if_pos d, if_neg c, if_pos d]
          grind
        · rw [if_neg d, if_neg c, if_neg c, if_neg d]
          rfl
    have key : det (n + 2) A = S (n + 2) fun j => S (n + 2) fun l => G j l := by
      refine S_congr fun j hj => ?_
      show sg j * A 0 j * S (n + 1) _ = _
      rw [S_skip (fun l => G j l) j (n + 1) (by omega), ← S_mul]
      have g0 : G j j = 0 := by
        rw [hG]
        dsimp only
        rw [if_neg (Nat.lt_irrefl j), if_neg (Nat.lt_irrefl j)]
      rw [g0, Int.zero_add]
      refine S_congr fun k hk => ?_
      rw [hG, hM]
      dsimp only
      rw [← e _ (sk_lt hk)]
      by_cases c : k < j
      · have es : sk j k = k := by unfold sk; rw [if_pos c]
        rw [es, if_pos c]
        generalize det n _ = D
        grind
      · have es : sk j k = k + 1 := by unfold sk; rw [if_neg c]
        rw [es, if_neg (by omega), if_pos (by omega), sg_succ]
        have em : (fun i l => A (i + 1 + 1) (sk j (sk k l))) = fun i l => A (i + 2) (sk (k + 1) (sk j l)) := by
          funext i l
          rw [sk_sk (show j < k + 1 by omega)]
          rfl
        rw [em]
        generalize det n _ = D
        grind
    have anti : (S (n + 2) fun j => S (n + 2) fun l => G j l) = - S (n + 2) fun j => S (n + 2) fun l => G j l := by
      have h1 := S_swap (fun j l => G j l) (n + 2) (n + 2)
      have h2 : (S (n + 2) fun l => S (n + 2) fun j => G j l) = S (n + 2) fun l => (-1) * S (n + 2) fun j => G l j := S_congr fun l _ => by
        rw [← S_mul]
        exact S_congr fun j _ => by rw [sy l j]; omega
      rw [h2, S_mul] at h1
      omega
    rw [key]
    omega
/-- an alternating multilinear law of n rows -/
structure Alt (n : Nat) (F : Tab → Int) : Prop where
  cg : ∀ {A B : Tab}, (∀ i j, i < n → j < n → A i j = B i j) → F A = F B
  lin : ∀ {A : Tab} {p : Nat} (a b : Int) (u v : Nat → Int), p < n → F (setR A p fun j => a * u j + b * v j) = a * F (setR A p u) + b * F (setR A p v)
  ad : ∀ {A : Tab} {p : Nat}, p + 1 < n → (∀ j, j < n → A p j = A (p + 1) j) → F A = 0
theorem det_alt (n : Nat) : Alt n (det n) := ⟨det_congr, det_lin, det_adj⟩
/-- two rows exchanged -/
def swp (A : Tab) (p q : Nat) : Tab := setR (setR A p (A q)) q (A p)
section
variable {n : Nat} {F : Tab → Int}
theorem Alt.add (h : Alt n F) {A : Tab} {p : Nat} (u v : Nat → Int) (hp : p < n) : F (setR A p fun j => u j + v j) = F (setR A p u) + F (setR A p v) := by
  have := h.lin (A := A) 1 1 u v hp
  rw [Int.one_mul, Int.one_mul] at this
  rw [← this]
  congr 2
  funext j
  omega
theorem Alt.swap1 (h : Alt n F) {A : Tab} {p q : Nat} (hp : p < n) (hq : q < n) (hpq : p ≠ q) (al : ∀ B : Tab, (∀ j, j < n → B p j = B q j) → F B = 0) : F (swp A p q) = - F A := by
  have e : ∀ u v : Nat → Int, F (setR (setR A p u) q v) + F (setR (setR A p v) q u) = 0 := fun u v => by
    have z : ∀ w, F (setR (setR A p w) q w) = 0 := fun w => al _ fun j _ => by
      rw [setR_n hpq, setR_s, setR_s]
    have := z fun j => u j + v j
    rw [h.add u v hq, setR_comm hpq, h.add u v hp, ← setR_comm hpq, ← setR_comm hpq, setR_comm (v := v) hpq, h.add u v hp, ← setR_comm hpq, ← setR_comm hpq, z, z] at this
    omega
  have := e (A p) (A q)
  rw [setR_own, setR_own] at this
  unfold swp
  omega
/-- equal rows -/
theorem Alt.eq (h : Alt n F) : ∀ (g : Nat) {A : Tab} {p q : Nat}, q = p + 1 + g → q < n → (∀ j, j < n → A p j = A q j) → F A = 0
  | 0, A, p, q, e, hq, hr => by
    subst e
    exact h.ad hq hr
  | g + 1, A, p, q, e, hq, hr => by
    have s := h.swap1 (A := A) (p := q - 1) (q := q) (by omega) hq (by omega) fun B hB => h.ad (p := q - 1) (by omega) fun j hj => by
      rw [hB j hj, show q - 1 + 1 = q by omega]
    have z := h.eq g (A := swp A (q - 1) q) (p := p) (q := q - 1) (by omega) (by omega) fun j hj => by
      unfold swp
      rw [setR_n (by omega), setR_n (by omega), setR_n (by omega), setR_s]
      exact hr j hj
    omega
theorem Alt.same (h : Alt n F) {A : Tab} {p q : Nat} (hp : p < n) (hq : q < n) (hpq : p ≠ q) (hr : ∀ j, j < n → A p j = A q j) : F A = 0 := by
  by_cases c : p < q
  · exact h.eq (q - p - 1) (p := p) (q := q) (by omega) hq hr
  · exact h.eq (p - q - 1) (p := q) (q := p) (by omega) hp fun j hj => (hr j hj).symm
theorem Alt.swap (h : Alt n F) {A : Tab} {p q : Nat} (hp : p < n) (hq : q < n) (hpq : p ≠ q) : F (swp A p q) = - F A := h.swap1 hp hq hpq fun _ hB => h.same hp hq hpq hB
/-- a row, multiplied, and a multiple of another one -/
theorem Alt.comb (h : Alt n F) {A : Tab} {p q : Nat} (hp : p < n) (hq : q < n) (hpq : p ≠ q) (a b : Int) : F (setR A p fun j => a * A p j + b * A q j) = a * F A := by
  rw [h.lin a b (A p) (A q) hp, setR_own, h.same hp hq hpq (A := setR A p (A q)) fun j _ => by rw [setR_s, setR_n (Ne.symm hpq)]]
  omega
theorem Alt.zero (h : Alt n F) {A : Tab} {p : Nat} (hp : p < n) (hz : ∀ j, j < n → A p j = 0) : F A = 0 := by
  have := h.lin (A := A) 0 0 (A p) (A p) hp
  rw [Int.zero_mul, Int.zero_add] at this
  rw [← this]
  refine h.cg fun i j hi hj => ?_
  unfold setR
  split
  · next e =>
    show A i j = 0 * A p j + 0 * A p j
    rw [e, hz j hj]
    rfl
  · rfl
/-- a row that is a sum -/
theorem Alt.sum (h : Alt n F) {A : Tab} {p : Nat} (hp : p < n) (c : Nat → Int) (w : Nat → Nat → Int) : ∀ m, F (setR A p fun j => S m fun k => c k * w k j) = S m fun k => c k * F (setR A p (w k))
  | 0 => h.zero hp fun j _ => by rw [setR_s]; rfl
  | m + 1 => by
    show F (setR A p fun j => (S m fun k => c k * w k j) + c m * w m j) = (S m fun k => c k * F (setR A p (w k))) + c m * F (setR A p (w m))
    rw [← h.sum hp c w m, h.add (fun j => S m fun k => c k * w k j) (fun j => c m * w m j) hp]
    congr 1
    have := h.lin (A := A) (c m) 0 (w m) (w m) hp
    rw [Int.zero_mul, Int.add_zero] at this
    rw [← this]
    congr 2
    funext j
    omega
end
/-- the rows of one -/
def idT : Tab := fun i j => if i = j then 1 else 0
theorem S_id (v : Nat → Int) {n j : Nat} (hj : j < n) : S n (fun k => v k * idT k j) = v j := by
  rw [S_one hj fun k _ hk => by unfold idT; rw [if_neg hk, Int.mul_zero]]
  unfold idT
  rw [if_pos rfl, Int.mul_one]
/-- a row of n entries with a 0 put in at j -/
def lif (j : Nat) (v : Nat → Int) : Nat → Int := fun l => if l < j then v l else if l = j then 0 else v (l - 1)
theorem lif_sk (j k : Nat) (v : Nat → Int) : lif j v (sk j k) = v k := by
  unfold lif sk
  by_cases c : k < j
  · rw [if_pos c, if_pos c]
  · rw [if_neg c, if_neg (by omega), if_neg (by omega), Nat.add_sub_cancel]
theorem lif_j (j : Nat) (v : Nat → Int) : lif j v j = 0 := by
  unfold lif
  rw [if_neg (Nat.lt_irrefl j), if_pos rfl]
theorem sk_of {j l : Nat} (h : l ≠ j) : ∃ k, l = sk j k ∧ (∀ n, l < n + 1 → j < n + 1 → k < n) := by
  by_cases c : l < j
  · exact ⟨l, by unfold sk; rw [if_pos c], fun n h1 h2 => by omega⟩
  · exact ⟨l - 1, by unfold sk; rw [if_neg (by omega)]; omega, fun n h1 h2 => by omega⟩
/-- e_j ahead of rows with a 0 at j -/
def bord (j : Nat) (M : Tab) : Tab := fun i => match i with
  | 0 => idT j
  | i + 1 => lif j (M i)
theorem bord_set (j p : Nat) (M : Tab) (v : Nat → Int) : bord j (setR M p v) = setR (bord j M) (p + 1) (lif j v) := by
  funext i
  cases i with
  | zero => rw [setR_n (Nat.succ_ne_zero p).symm]; rfl
  | succ i =>
    show lif j (setR M p v i) = setR (bord j M) (p + 1) (lif j v) (i + 1)
    unfold setR
    by_cases h : i = p
    · rw [if_pos h, if_pos (by omega)]
    · rw [if_neg h, if_neg (by omega)]
      rfl
theorem Alt.bord {n : Nat} {F : Tab → Int} (h : Alt (n + 1) F) {j : Nat} (hj : j < n + 1) : Alt n fun M => F (bord j M) where
  cg := fun {A B} e => h.cg fun i l hi hl => by
    cases i with
    | zero => rfl
    | succ i =>
      show lif j (A i) l = lif j (B i) l
      by_cases c : l = j
      · rw [c, lif_j, lif_j]
      · obtain ⟨k, ek, hk⟩ := sk_of c
        rw [ek, lif_sk, lif_sk]
        exact e i k (by omega) (hk n hl hj)
  lin := fun {A p} a b u v hp => by
    rw [bord_set, bord_set, bord_set]
    rw [← h.lin a b (lif j u) (lif j v) (show p + 1 < n + 1 by omega)]
    congr 2
    funext l
    unfold lif
    split
    · rfl
    · split
      · omega
      · rfl
  ad := fun {A p} hp e => h.ad (p := p + 1) (by omega) fun l hl => by
    show lif j (A p) l = lif j (A (p + 1)) l
    by_cases c : l = j
    · rw [c, lif_j, lif_j]
    · obtain ⟨k, ek, hk⟩ := sk_of c
      rw [ek, lif_sk, lif_sk]
      exact e k (hk n hl hj)
/-- e_j ahead of the other rows of one -/
theorem Alt.move {n : Nat} {F : Tab → Int} (h : Alt (n + 1) F) : ∀ j, j < n + 1 → F (LA.bord j idT) = sg j * F idT
  | 0, _ => by
    show _ = 1 * F idT
    rw [Int.one_mul]
    refine h.cg fun i l hi hl => ?_
    cases i with
    | zero => rfl
    | succ i =>
      show lif 0 (idT i) l = idT (i + 1) l
      unfold lif idT
      rw [if_neg (Nat.not_lt_zero l)]
      by_cases c : l = 0
      · rw [if_pos c, if_neg (by omega)]
      · rw [if_neg c]
        by_cases d : i = l - 1
        · rw [if_pos d, if_pos (by omega)]
        · rw [if_neg d, if_neg (by omega)]
  | j + 1, hj => by
    rw [sg_succ, Int.neg_mul, ← h.move j (by omega), ← h.swap (A := LA.bord j idT) (p := 0) (q := j + 1) (by omega) hj (by omega)]
    refine h.cg fun i l hi hl => ?_
    unfold swp
    cases i with
    | zero =>
      rw [setR_n (by omega), setR_s]
      show idT (j + 1) l = lif j (idT j) l
      unfold lif idT
      by_cases c : l < j
      · rw [if_neg (by omega), if_pos c, if_neg (by omega)]
      · by_cases d : l = j
        · rw [if_neg (by omega), if_neg c, if_pos d]
        · rw [if_neg c, if_neg d]
          by_cases e : j + 1 = l
          · rw [if_pos e, if_pos (by omega)]
          · rw [if_neg e, if_neg (by omega)]
    | succ i =>
      by_cases ci : i = j
      · subst ci
        rw [setR_s]
        show lif (i + 1) (idT i) l = idT i l
        unfold lif idT
        by_cases c : l < i + 1
        · rw [if_pos c]
        · rw [if_neg c]
          by_cases d : l = i + 1
          · rw [if_pos d, if_neg (by omega)]
          · rw [if_neg d, if_neg (by omega), if_neg (by omega)]
      · rw [setR_n (by omega), setR_n (by omega)]
        show lif (j + 1) (idT i) l = lif j (idT i) l
        unfold lif idT
        by_cases c : l < j
        · rw [if_pos (by omega), if_pos c]
        · rw [if_neg c]
          by_cases d : l = j
          · rw [if_pos d, if_pos (by omega), if_neg (by omega)]
          · rw [if_neg d, if_neg (by omega)]
            by_cases f : l = j + 1
            · rw [if_pos f, if_neg (by omega)]
            · rw [if_neg f]
/-- all rows behind the first one, less multiples of it -/
theorem Alt.clear {n : Nat} {F : Tab → Int} (h : Alt (n + 1) F) (A : Tab) (c : Nat → Int) : ∀ m, m ≤ n → F (fun i => match i with | 0 => A 0 | i + 1 => if i < m then fun l => A (i + 1) l + c i * A 0 l else A (i + 1)) = F A
  | 0, _ => by
    congr 1
    funext i
    cases i with
    | zero => rfl
    | succ i => show (if i < 0 then _ else A (i + 1)) = _; rw [if_neg (Nat.not_lt_zero _)]
  | m + 1, hm => by
    rw [← h.clear A c m (by omega)]
    have := h.comb (A := fun i => match i with | 0 => A 0 | i + 1 => if i < m then fun l => A (i + 1) l + c i * A 0 l else A (i + 1)) (p := m + 1) (q := 0) (by omega) (by omega) (by omega) 1 (c m)
    rw [Int.one_mul] at this
    rw [← this]
    congr 1
    funext i
    cases i with
    | zero => rw [setR_n (by omega)]
    | succ i =>
      by_cases e : i = m
      · subst e
        rw [setR_s]
        show (if i < i + 1 then _ else _) = _
        rw [if_pos (Nat.lt_succ_self _)]
        funext l
        show _ = 1 * (if i < i then _ else A (i + 1)) l + c i * A 0 l
        rw [if_neg (Nat.lt_irrefl _), Int.one_mul]
      · rw [setR_n (by omega)]
        show (if i < m + 1 then _ else _) = if i < m then _ else _
        by_cases d : i < m
        · rw [if_pos d, if_pos (by omega)]
        · rw [if_neg d, if_neg (by omega)]
/-- each such law is a multiple of the determinant -/
theorem Alt.det : ∀ {n : Nat} {F : Tab → Int}, Alt n F → ∀ A, F A = LA.det n A * F idT
  | 0, F, h, A => by
    show F A = 1 * F idT
    rw [Int.one_mul]
    exact h.cg fun i j hi => absurd hi (Nat.not_lt_zero i)
  | n + 1, F, h, A => by
    have e1 : F A = S (n + 1) fun k => A 0 k * F (setR A 0 (idT k)) := by
      rw [← h.sum (by omega) (A 0) idT (n + 1)]
      refine h.cg fun i j hi hj => ?_
      unfold setR
      by_cases c : i = 0
      · rw [if_pos c, S_id _ hj, c]
      · rw [if_neg c]
    rw [e1, show LA.det (n + 1) A = S (n + 1) fun j => sg j * A 0 j * LA.det n fun i k => A (i + 1) (sk j k) from rfl, ← S_mulr]
    refine S_congr fun j hj => ?_
    have e2 : F (setR A 0 (idT j)) = F (LA.bord j fun i k => A (i + 1) (sk j k)) := by
      rw [← h.clear (setR A 0 (idT j)) (fun i => - A (i + 1) j) n (Nat.le_refl n)]
      refine h.cg fun i l hi hl => ?_
      cases i with
      | zero => rfl
      | succ i =>
        show (if i < n then fun l => setR A 0 (idT j) (i + 1) l + - A (i + 1) j * setR A 0 (idT j) 0 l else _) l = lif j (fun k => A (i + 1) (sk j k)) l
        rw [if_pos (by omega), setR_n (Nat.succ_ne_zero i), setR_s]
        by_cases c : l = j
        · rw [c, lif_j]
          unfold idT
          rw [if_pos rfl]
          show A (i + 1) j + - A (i + 1) j * 1 = 0
          omega
        · obtain ⟨k, ek, _⟩ := sk_of c
          rw [ek, lif_sk]
          unfold idT
          rw [if_neg (Ne.symm (sk_ne j k)), Int.mul_zero, Int.add_zero]
    rw [e2, (h.bord hj).det, h.move j hj]
    generalize LA.det n _ = D
    grind
/-- products of tables -/
def mulT (n : Nat) (A B : Tab) : Tab := fun i j => S n fun k => A i k * B k j
theorem det_mul (n : Nat) (A B : Tab) : det n (mulT n A B) = det n A * det n B := by
  have al : Alt n fun A => det n (mulT n A B) := {
    cg := fun {A A'} e => det_congr fun i j hi hj => S_congr fun k hk => by rw [e i k hi hk]
    lin := fun {A p} a b u v hp => by
      have e : ∀ w : Nat → Int, mulT n (setR A p w) B = setR (mulT n A B) p fun j => S n fun k => w k * B k j := fun w => by
        funext i j
        unfold mulT setR
        by_cases c : i = p
        · rw [if_pos c, if_pos c]
        · rw [if_neg c, if_neg c]
      rw [e, e, e, ← det_lin a b _ _ hp]
      congr 2
      funext j
      rw [← S_mul, ← S_mul, ← S_add]
      exact S_congr fun k _ => by grind
    ad := fun {A p} hp e => det_adj hp fun j hj => S_congr fun k hk => by rw [e k hk] }
  rw [al.det A]
  congr 1
  refine det_congr fun i j hi hj => ?_
  unfold mulT
  rw [S_one hi fun k _ hk => by unfold idT; rw [if_neg (Ne.symm hk), Int.zero_mul]]
  unfold idT
  rw [if_pos rfl, Int.one_mul]
end LA

set_option Elab.async false
set_option linter.all false
set_option maxRecDepth 10000
/-! determinants: triangular tables, blocks, bounds; elimination without fractions -/
namespace LA
theorem det_col0 : ∀ {n : Nat} {A : Tab}, (∀ i, i < n + 1 → A i 0 = 0) → det (n + 1) A = 0
  | 0, A, h => S_zero fun j hj => by
    rw [Nat.lt_one_iff.mp hj, h 0 (by omega), Int.mul_zero, Int.zero_mul]
  | n + 1, A, h => S_zero fun j hj => by
    by_cases c : j = 0
    · rw [c, h 0 (by omega), Int.mul_zero, Int.zero_mul]
    · rw [det_col0 (n := n) fun i hi => ?_, Int.mul_zero]
      show A (i + 1) (sk j 0) = 0
      rw [show sk j 0 = 0 by unfold sk; rw [if_pos (by omega)]]
      exact h _ (by omega)
theorem det_first {n : Nat} {A : Tab} (h : ∀ i, i < n → A (i + 1) 0 = 0) : det (n + 1) A = A 0 0 * det n fun i k => A (i + 1) (k + 1) := by
  show S (n + 1) _ = _
  rw [S_one (p := 0) (by omega) fun j hj c => ?_]
  · show 1 * A 0 0 * det n _ = _
    rw [Int.one_mul]
    congr 1
  · cases n with
    | zero => omega
    | succ n =>
      rw [det_col0 (n := n) fun i hi => ?_, Int.mul_zero]
      show A (i + 1) (sk j 0) = 0
      rw [show sk j 0 = 0 by unfold sk; rw [if_pos (by omega)]]
      exact h _ hi
def prd : Nat → (Nat → Int) → Int
  | 0, _ => 1
  | n + 1, f => prd n f * f n
theorem prd_first (f : Nat → Int) : ∀ n, prd (n + 1) f = f 0 * prd n fun i => f (i + 1)
  | 0 => by show 1 * f 0 = f 0 * 1; omega
  | n + 1 => by
    show prd (n + 1) f * f (n + 1) = f 0 * (prd n (fun i => f (i + 1)) * f (n + 1))
    rw [prd_first f n, Int.mul_assoc]
theorem prd_congr {f g : Nat → Int} : ∀ {n : Nat}, (∀ i, i < n → f i = g i) → prd n f = prd n g
  | 0, _ => rfl
  | n + 1, h => by
    show prd n f * f n = prd n g * g n
    rw [prd_congr fun i hi => h i (by omega), h n (by omega)]
/-- zeros below the diagonal in the first columns -/
theorem det_up : ∀ (t s : Nat) (L : Tab), (∀ i u, u < t → u < i → i < t + s → L i u = 0) → det (t + s) L = prd t (fun u => L u u) * det s fun i k => L (t + i) (t + k)
  | 0, s, L, _ => by
    show _ = 1 * _
    rw [Int.one_mul, Nat.zero_add]
    exact det_congr fun i j _ _ => by rw [Nat.zero_add, Nat.zero_add]
  | t + 1, s, L, h => by
    rw [show t + 1 + s = t + s + 1 by omega, det_first fun i hi => h _ 0 (by omega) (by omega) (by omega), det_up t s (fun i k => L (i + 1) (k + 1)) fun i u h1 h2 h3 => h _ _ (by omega) (by omega) (by omega), prd_first, Int.mul_assoc]
    congr 2
    exact det_congr fun i j _ _ => by rw [show t + i + 1 = t + 1 + i by omega, show t + j + 1 = t + 1 + j by omega]
theorem det_diagU {n : Nat} {L : Tab} (h : ∀ i u, u < i → i < n → L i u = 0) : det n L = prd n fun u => L u u := by
  have := det_up n 0 L fun i u _ h2 h3 => h i u h2 (by omega)
  rw [Nat.add_zero] at this
  rw [this]
  show _ * 1 = _
  omega
theorem det_diagL : ∀ {n : Nat} {L : Tab}, (∀ i u, i < u → u < n → L i u = 0) → det n L = prd n fun u => L u u
  | 0, _, _ => rfl
  | n + 1, L, h => by
    show S (n + 1) _ = _
    rw [S_one (p := 0) (by omega) fun j hj c => by rw [h 0 j (by omega) hj, Int.mul_zero, Int.zero_mul], prd_first]
    show 1 * L 0 0 * det n _ = _
    rw [Int.one_mul, det_diagL (L := fun i k => L (i + 1) (sk 0 k)) fun i u h1 h2 => ?_]
    · congr 1
    · rw [show sk 0 u = u + 1 by unfold sk; rw [if_neg (Nat.not_lt_zero u)]]
      exact h _ _ (by omega) (by omega)
/-- bounds -/
theorem S_absD {f : Nat → Int} {M : Nat} : ∀ {n : Nat}, (∀ i, i < n → (f i).natAbs ≤ M) → (S n f).natAbs ≤ n * M
  | 0, _ => Nat.zero_le _
  | n + 1, h => by
    show (S n f + f n).natAbs ≤ _
    have h1 := S_absD (n := n) fun i hi => h i (by omega)
    have h2 := h n (by omega)
    rw [Nat.succ_mul]
    omega
theorem det_bd {M : Nat} : ∀ {n : Nat} {A : Tab}, (∀ i j, i < n → j < n → (A i j).natAbs ≤ M) → (det n A).natAbs ≤ (n * M) ^ n
  | 0, _, _ => Nat.le_refl 1
  | n + 1, A, h => by
    refine Nat.le_trans (S_absD (M := M * (n * M) ^ n) fun j hj => ?_) ?_
    · rw [Int.natAbs_mul, Int.natAbs_mul]
      have e : (sg j).natAbs = 1 := by unfold sg; split <;> rfl
      rw [e, Nat.one_mul]
      exact Nat.mul_le_mul (h 0 j (by omega) hj) (det_bd fun i k hi hk => h _ _ (by omega) (sk_lt hk))
    · rw [Nat.pow_succ, ← Nat.mul_assoc, Nat.mul_comm]
      exact Nat.mul_le_mul_right _ (Nat.pow_le_pow_left (Nat.mul_le_mul_right _ (Nat.le_succ n)) n)
/-! ### elimination without fractions -/
structure BInv (n t : Nat) (A L : Tab) (last W : Int) : Prop where
  tri : ∀ i u, u < t → u < i → i < n → L i u = 0
  w : W = prd t fun u => L u u
  wz : W ≠ 0
  lz : last ≠ 0
  inv : ∀ (r : Nat) (ρ γ : Nat → Nat), (∀ i, i < t → ρ i = i ∧ γ i = i) → (∀ i, t ≤ i → i < t + r → (t ≤ ρ i ∧ ρ i < n) ∧ t ≤ γ i ∧ γ i < n) → det (t + r) (fun i j => L (ρ i) (γ j)) * last = det (t + r) (fun i j => A (ρ i) (γ j)) * W * last ^ r
theorem BInv.init (n : Nat) (A : Tab) : BInv n 0 A A 1 1 := ⟨fun i u h => absurd h (Nat.not_lt_zero u), rfl, by decide, by decide, fun r ρ γ _ _ => by
  rw [Int.one_pow, Int.mul_one, Int.mul_one]⟩
section
variable {n t : Nat} {A L : Tab} {last W : Int}
theorem BInv.split (B : BInv n t A L last W) (tn : t ≤ n) (r : Nat) (ρ γ : Nat → Nat) (h1 : ∀ i, i < t → ρ i = i ∧ γ i = i) (h2 : ∀ i, t ≤ i → i < t + r → (t ≤ ρ i ∧ ρ i < n) ∧ t ≤ γ i ∧ γ i < n) : det r (fun i k => L (ρ (t + i)) (γ (t + k))) * last = det (t + r) (fun i j => A (ρ i) (γ j)) * last ^ r := by
  have e := B.inv r ρ γ h1 h2
  rw [det_up t r _ fun i u hu hi ht => ?_] at e
  · rw [prd_congr (g := fun u => L u u) fun u hu => by rw [(h1 u hu).1, (h1 u hu).2], ← B.w] at e
    refine Int.eq_of_mul_eq_mul_left B.wz ?_
    rw [← Int.mul_assoc, e]
    grind
  · rw [(h1 u hu).2]
    by_cases c : i < t
    · rw [(h1 i c).1]
      exact B.tri i u hu hi (by omega)
    · have := (h2 i (by omega) ht).1
      exact B.tri _ u hu (by omega) this.2
/-- what stands in the table is a minor -/
theorem BInv.minor (B : BInv n t A L last W) {i j : Nat} (hi : t ≤ i) (hi2 : i < n) (hj : t ≤ j) (hj2 : j < n) : L i j = det (t + 1) fun x y => A (if x < t then x else i) (if y < t then y else j) := by
  have e := B.split (by omega) 1 (fun x => if x < t then x else i) (fun y => if y < t then y else j) (fun x hx => ⟨if_pos hx, if_pos hx⟩) fun x hx _ => by
    rw [if_neg (by omega), if_neg (by omega)]
    exact ⟨⟨hi, hi2⟩, hj, hj2⟩
  have e2 : det 1 (fun x y => L (if t + x < t then t + x else i) (if t + y < t then t + y else j)) = L i j := by
    show 0 + 1 * L (if t + 0 < t then t + 0 else i) (if t + 0 < t then t + 0 else j) * 1 = _
    rw [if_neg (by omega), if_neg (by omega)]
    omega
  rw [e2, Int.pow_succ, Int.pow_zero, Int.one_mul] at e
  exact Int.eq_of_mul_eq_mul_right B.lz e
theorem BInv.exact (B : BInv n t A L last W) (tn : t < n) {i j : Nat} (hi : t < i) (hi2 : i < n) (hj2 : j < n) : ∃ q : Int, L i j * L t t - L i t * L t j = q * last := by
  by_cases hj : j < t
  · refine ⟨0, ?_⟩
    rw [B.tri i j hj (by omega) hi2, B.tri t j hj hj (by omega), Int.zero_mul, Int.mul_zero, Int.zero_mul]
    rfl
  · have e := B.split (by omega) 2 (fun x => if x ≤ t then x else i) (fun y => if y < t then y else if y = t then t else j) (fun x hx => ⟨if_pos (by omega), if_pos hx⟩) fun x hx _ => by
      rw [if_neg (show ¬ x < t by omega)]
      refine ⟨?_, ?_⟩
      · split <;> omega
      · split <;> omega
    refine ⟨det (t + 2) fun x y => A (if x ≤ t then x else i) (if y < t then y else if y = t then t else j), Int.eq_of_mul_eq_mul_right B.lz (Eq.trans ?_ (e.trans (by rw [Int.pow_succ, Int.pow_succ, Int.pow_zero, Int.one_mul, ← Int.mul_assoc])))⟩
    congr 1
    show _ = (0 + 1 * L (if t + 0 ≤ t then t + 0 else i) (if t + 0 < t then t + 0 else if t + 0 = t then t else j) * (0 + 1 * L (if t + (0 + 1) ≤ t then t + (0 + 1) else i) (if t + sk 0 0 < t then t + sk 0 0 else if t + sk 0 0 = t then t else j) * 1)) + -1 * L (if t + 0 ≤ t then t + 0 else i) (if t + 1 < t then t + 1 else if t + 1 = t then t else j) * (0 + 1 * L (if t + (0 + 1) ≤ t then t + (0 + 1) else i) (if t + sk 1 0 < t then t + sk 1 0 else if t + sk 1 0 = t then t else j) * 1)
    rw [show sk 0 0 = 1 from rfl, show sk 1 0 = 0 from rfl]
    rw [if_pos (show t + 0 ≤ t by omega), if_neg (show ¬ t + 0 < t by omega), if_pos (show t + 0 = t by omega), if_neg (show ¬ t + (0 + 1) ≤ t by omega), if_neg (show ¬ t + 1 < t by omega), if_neg (show ¬ t + 1 = t by omega)]
    rw [Nat.add_zero]
    grind
/-- rows, multiplied, and multiples of one of the others -/
theorem det_rows {N q m : Nat} {B B' : Tab} {a p : Int} (c : Nat → Int) (hq : q < m) (same : ∀ i, i < m → B' i = B i) : ∀ r, m + r ≤ N → (∀ i, m ≤ i → i < m + r → ∀ j, j < N → a * B' i j = p * B i j + c i * B q j) → (∀ i, m + r ≤ i → i < N → B' i = B i) → det N B' * a ^ r = det N B * p ^ r := by
  intro r
  induction r generalizing B' with
  | zero =>
    intro _ _ h2
    rw [Int.pow_zero, Int.pow_zero]
    congr 1
    exact det_congr fun i j hi hj => by
      by_cases d : i < m
      · rw [same i d]
      · rw [h2 i (by omega) hi]
  | succ r ih =>
    intro hr h1 h2
    have e := ih (B' := setR B' (m + r) (B (m + r))) (fun i hi => by rw [setR_n (by omega)]; exact same i hi) (by omega) (fun i h3 h4 j hj => by
      rw [setR_n (by omega)]
      exact h1 i h3 (by omega) j hj) fun i h3 h4 => by
        by_cases d : i = m + r
        · rw [d, setR_s]
        · rw [setR_n d]
          exact h2 i (by omega) h4
    have al := det_alt N
    have e2 := al.comb (A := setR B' (m + r) (B (m + r))) (p := m + r) (q := q) (by omega) (by omega) (by omega) p (c (m + r))
    have e3 := al.lin (A := B') (p := m + r) a 0 (B' (m + r)) (B' (m + r)) (by omega)
    rw [setR_own, Int.zero_mul, Int.add_zero] at e3
    have e4 : det N (setR (setR B' (m + r) (B (m + r))) (m + r) fun j => p * setR B' (m + r) (B (m + r)) (m + r) j + c (m + r) * setR B' (m + r) (B (m + r)) q j) = det N (setR B' (m + r) fun j => a * B' (m + r) j + 0 * B' (m + r) j) := by
      rw [setR_set, setR_s, setR_n (show q ≠ m + r by omega), same q hq]
      refine det_congr fun i j hi hj => ?_
      unfold setR
      by_cases d : i = m + r
      · rw [if_pos d, if_pos d]
        have := h1 (m + r) (by omega) (by omega) j hj
        show p * B (m + r) j + c (m + r) * B q j = a * B' (m + r) j + 0 * B' (m + r) j
        omega
      · rw [if_neg d, if_neg d]
    rw [e4, e3] at e2
    rw [Int.pow_succ, Int.pow_succ]
    generalize det N (setR B' (m + r) (B (m + r))) = D at *
    generalize det N B' = D' at *
    have : D' * (a ^ r * a) = a * D' * a ^ r := by grind
    rw [this, e2]
    have : p * D * a ^ r = p * (D * a ^ r) := by grind
    rw [this, e]
    grind
theorem BInv.step (B : BInv n t A L last W) (tn : t < n) (hp : L t t ≠ 0) {L' : Tab} (same : ∀ i, i ≤ t → L' i = L i) (new : ∀ i j, t < i → i < n → j < n → last * L' i j = L i j * L t t - L i t * L t j) : BInv n (t + 1) A L' (L t t) (W * L t t) := by
  refine ⟨fun i u hu hi hn => ?_, ?_, Int.mul_ne_zero B.wz hp, hp, fun r ρ γ h1 h2 => ?_⟩
  · by_cases c : i ≤ t
    · rw [same i c]
      exact B.tri i u (by omega) hi hn
    · have e := new i u (by omega) hn (by omega)
      have z : L i u * L t t - L i t * L t u = 0 := by
        by_cases d : u = t
        · rw [d]; omega
        · rw [B.tri i u (by omega) hi hn, B.tri t u (by omega) (by omega) tn, Int.zero_mul, Int.mul_zero]
          rfl
      rw [z] at e
      exact (Int.mul_eq_zero.mp e).resolve_left B.lz
  · rw [B.w]
    show _ = prd t (fun u => L' u u) * L' t t
    rw [same t (Nat.le_refl t)]
    congr 1
    exact prd_congr fun i hi => by rw [same i (by omega)]
  · have e1 := B.inv (r + 1) ρ γ (fun i hi => h1 i (by omega)) fun i h3 h4 => by
      by_cases c : i = t
      · rw [c, (h1 t (by omega)).1, (h1 t (by omega)).2]
        exact ⟨⟨Nat.le_refl t, tn⟩, Nat.le_refl t, tn⟩
      · have := h2 i (by omega) (by omega)
        omega
    have e2 := det_rows (N := t + 1 + r) (q := t) (m := t + 1) (B := fun i j => L (ρ i) (γ j)) (B' := fun i j => L' (ρ i) (γ j)) (a := last) (p := L t t) (fun i => - L (ρ i) t) (by omega) (fun i hi => by
      funext j
      rw [(h1 i hi).1, same i (by omega)]) r (Nat.le_refl _) (fun i h3 h4 j hj => by
      have a1 := h2 i h3 h4
      have a2 : γ j < n := by
        by_cases c : j < t + 1
        · rw [(h1 j c).2]; omega
        · exact (h2 j (by omega) hj).2.2
      rw [(h1 t (by omega)).1, new _ _ (by omega) a1.1.2 a2]
      grind) (fun i h3 h4 => absurd h4 (by omega))
    rw [show t + (r + 1) = t + 1 + r by omega] at e1
    generalize det (t + 1 + r) (fun i j => L (ρ i) (γ j)) = D1 at *
    generalize det (t + 1 + r) (fun i j => L' (ρ i) (γ j)) = D2 at *
    generalize det (t + 1 + r) (fun i j => A (ρ i) (γ j)) = D0 at *
    have hz : last ^ (r + 1) ≠ 0 := by
      intro z
      exact B.lz (by
        have : ∀ k, last ^ k ≠ 0 := fun k => by
          induction k with
          | zero => rw [Int.pow_zero]; decide
          | succ k ih => rw [Int.pow_succ]; exact Int.mul_ne_zero ih B.lz
        exact absurd z (this _))
    refine Int.eq_of_mul_eq_mul_right hz ?_
    have : D2 * L t t * last ^ (r + 1) = (D2 * last ^ r) * (L t t * last) := by rw [Int.pow_succ]; grind
    rw [this, e2]
    have : D1 * L t t ^ r * (L t t * last) = (D1 * last) * (L t t ^ r * L t t) := by grind
    rw [this, e1]
    grind
/-- rows exchanged -/
theorem BInv.swap (B : BInv n t A L last W) {h : Nat} (ht : t < h) (hn : h < n) : BInv n t (swp A t h) (swp L t h) last W := by
  have ev : ∀ (X : Tab) (i : Nat), swp X t h i = X (if i = t then h else if i = h then t else i) := fun X i => by
    unfold swp setR
    by_cases c : i = h
    · rw [if_pos c, if_neg (show ¬ i = t by omega), if_pos c]
    · rw [if_neg c]
      by_cases d : i = t
      · rw [if_pos d, if_pos d]
      · rw [if_neg d, if_neg d, if_neg c]
  refine ⟨fun i u hu hi hN => ?_, ?_, B.wz, B.lz, fun r ρ γ h1 h2 => ?_⟩
  · rw [ev]
    exact B.tri _ u hu (by split <;> (try split) <;> omega) (by split <;> (try split) <;> omega)
  · rw [B.w]
    exact prd_congr fun u hu => by rw [ev, if_neg (by omega), if_neg (by omega)]
  · have e := B.inv r (fun i => if ρ i = t then h else if ρ i = h then t else ρ i) γ (fun i hi => by
      have := h1 i hi
      rw [this.1, if_neg (by omega), if_neg (by omega)]
      exact ⟨rfl, this.2⟩) fun i h3 h4 => by
        have := h2 i h3 h4
        refine ⟨?_, this.2⟩
        split <;> (try split) <;> omega
    have e1 : ∀ X : Tab, (fun i j => swp X t h (ρ i) (γ j)) = fun i j => X (if ρ i = t then h else if ρ i = h then t else ρ i) (γ j) := fun X => by
      funext i j
      rw [ev]
    rw [e1, e1]
    exact e
theorem BInv.done (B : BInv n n A L last W) : last = det n A := by
  have e := B.split (Nat.le_refl n) 0 id id (fun i _ => ⟨rfl, rfl⟩) fun i h1 h2 => absurd h2 (by omega)
  rw [Int.pow_zero, Int.mul_one, Nat.add_zero] at e
  have e2 : (1 : Int) * last = det n A := e
  rw [← e2, Int.one_mul]
theorem BInv.none (B : BInv n t A L last W) (tn : t < n) (h : ∀ i, t ≤ i → i < n → L i t = 0) : det n A = 0 := by
  have e := B.split (by omega) (n - t) id id (fun i _ => ⟨rfl, rfl⟩) fun i h1 h2 => ⟨⟨h1, by show i < n; omega⟩, h1, by show i < n; omega⟩
  obtain ⟨m, hm⟩ : ∃ m, n - t = m + 1 := ⟨n - t - 1, by omega⟩
  rw [hm, det_col0 fun i hi => h _ (by show t ≤ t + i; omega) (by show t + i < n; omega), Int.zero_mul, show t + (m + 1) = n by omega] at e
  have hz : ∀ k, last ^ k ≠ 0 := fun k => by
    induction k with
    | zero => rw [Int.pow_zero]; decide
    | succ k ih => rw [Int.pow_succ]; exact Int.mul_ne_zero ih B.lz
  exact (Int.mul_eq_zero.mp e.symm).resolve_right (hz _)
end
end LA

set_option Elab.async false
set_option linter.all false
set_option maxRecDepth 100000
set_option maxHeartbeats 2000000
set_option exponentiation.threshold 10000
/-! plain: determinants of lists of rows, by elimination without fractions -/
namespace K76
open PySem PySem.Spec PyProof.Rows L2 FDivQ LA
/-- a row behind a turn -/
def bnew (r h : List Int) (t : Nat) (last : Int) : List Int := tb h.length fun k => (co r k * co h t - co r t * co h k).fdiv last
/-- the rows behind the first j ones that a turn changes -/
def bst (L : List (List Int)) (t : Nat) (last : Int) (j : Nat) : List (List Int) := (List.range L.length).map fun i => if t < i ∧ i < t + 1 + j then bnew (L.getD i []) (L.getD t []) t last else L.getD i []
def hdt (L : List (List Int)) (t : Nat) : List Nat := ((List.range (L.length - t)).map (t + ·)).filter fun i => co (L.getD i []) t != 0
def lsw (L : List (List Int)) (t h : Nat) : List (List Int) := (L.set t (L.getD h [])).set h (L.getD t [])
def bgo : Nat → Nat → List (List Int) → Int → Int → Int
  | 0, _, _, s, l => s * l
  | r + 1, t, L, s, l => match hdt L t with
    | [] => 0
    | h :: _ => bgo r (t + 1) (bst (lsw L t h) t l L.length) (if h = t then s else -s) (co ((lsw L t h).getD t []) t)
def bdet (L : List (List Int)) : Int := bgo L.length 0 L 1 1
theorem bst_len (L : List (List Int)) (t : Nat) (last : Int) (j : Nat) : (bst L t last j).length = L.length := by
  unfold bst
  rw [List.length_map, List.length_range]
theorem bst_get {L : List (List Int)} {t : Nat} {last : Int} {j i : Nat} (h : i < L.length) : (bst L t last j).getD i [] = if t < i ∧ i < t + 1 + j then bnew (L.getD i []) (L.getD t []) t last else L.getD i [] := by
  unfold bst
  rw [List.getD_eq_getElem?_getD, List.getElem?_map, List.getElem?_range h]
  rfl
theorem lsw_len (L : List (List Int)) (t h : Nat) : (lsw L t h).length = L.length := by
  unfold lsw
  rw [List.length_set, List.length_set]
theorem lsw_get {L : List (List Int)} {t h i : Nat} (ht : t < L.length) (hh : h < L.length) : (lsw L t h).getD i [] = if i = h then L.getD t [] else if i = t then L.getD h [] else L.getD i [] := by
  unfold lsw
  rw [List.getD_eq_getElem?_getD, List.getElem?_set]
  by_cases c : h = i
  · rw [if_pos c, if_pos (by rw [List.length_set]; omega), if_pos c.symm]
    rfl
  · rw [if_neg c, if_neg (Ne.symm c), List.getElem?_set]
    by_cases d : t = i
    · rw [if_pos d, if_pos ht, if_pos d.symm]
      rfl
    · rw [if_neg d, if_neg (Ne.symm d), ← List.getD_eq_getElem?_getD]
theorem mem_hdt {L : List (List Int)} {t i : Nat} : i ∈ hdt L t ↔ (t ≤ i ∧ i < L.length) ∧ co (L.getD i []) t ≠ 0 := by
  unfold hdt
  rw [List.mem_filter, List.mem_map]
  constructor
  · rintro ⟨⟨k, hk, rfl⟩, h⟩
    have := List.mem_range.mp hk
    exact ⟨⟨by omega, by omega⟩, by simpa using h⟩
  · rintro ⟨⟨h1, h2⟩, h⟩
    exact ⟨⟨i - t, List.mem_range.mpr (by omega), by omega⟩, by simpa using h⟩
/-- a state of the elimination -/
structure BS (n t M : Nat) (L : List (List Int)) (last : Int) : Prop where
  ln : L.length = n
  lr : ∀ i, i < n → (L.getD i []).length = n
  ex : ∃ (A : Tab) (W : Int), BInv n t A (row L) last W ∧ ∀ i j, i < n → j < n → (A i j).natAbs ≤ M
section
variable {n t M : Nat} {L : List (List Int)} {last : Int}
theorem minor_bd {A : Tab} (hM : ∀ i j, i < n → j < n → (A i j).natAbs ≤ M) (M1 : 1 ≤ M) {s : Nat} (hs : s ≤ n) (ρ γ : Nat → Nat) (h : ∀ i, i < s → ρ i < n ∧ γ i < n) : (det s fun x y => A (ρ x) (γ y)).natAbs ≤ (n * M) ^ n := by
  refine Nat.le_trans (det_bd (M := M) fun i j hi hj => hM _ _ (h i hi).1 (h j hj).2) ?_
  refine Nat.le_trans (Nat.pow_le_pow_left (Nat.mul_le_mul_right M hs) s) ?_
  by_cases z : n = 0
  · rw [z] at hs ⊢
    rw [show s = 0 by omega]
    exact Nat.le_refl _
  · exact Nat.pow_le_pow_right (Nat.mul_pos (by omega) M1) hs
/-- all that stands from row t on is bounded -/
theorem BS.bd (B : BS n t M L last) (M1 : 1 ≤ M) {i : Nat} (hi : t ≤ i) (hn : i < n) (j : Nat) : (co (L.getD i []) j).natAbs ≤ (n * M) ^ n := by
  obtain ⟨A, W, b, hM⟩ := B.ex
  by_cases c : j < n
  · by_cases d : j < t
    · rw [show co (L.getD i []) j = 0 from b.tri i j d (by omega) hn]
      exact Nat.zero_le _
    · have e : co (L.getD i []) j = det (t + 1) fun x y => A (if x < t then x else i) (if y < t then y else j) := b.minor hi hn (by omega) c
      rw [e]
      exact minor_bd hM M1 (by omega) (fun x => if x < t then x else i) (fun y => if y < t then y else j) fun x hx => ⟨by split <;> omega, by split <;> omega⟩
  · rw [co_far (by rw [B.lr i hn]; omega)]
    exact Nat.zero_le _
theorem BS.lz (B : BS n t M L last) : last ≠ 0 := by
  obtain ⟨A, W, b, _⟩ := B.ex
  exact b.lz
theorem BS.swap (B : BS n t M L last) {h : Nat} (ht : t ≤ h) (hn : h < n) : BS n t M (lsw L t h) last := by
  obtain ⟨A, W, b, hM⟩ := B.ex
  have lt : t < L.length := by rw [B.ln]; omega
  have lh : h < L.length := by rw [B.ln]; exact hn
  refine ⟨by rw [lsw_len, B.ln], fun i hi => ?_, ?_⟩
  · rw [lsw_get lt lh]
    split
    · exact B.lr t (by omega)
    · split
      · exact B.lr h hn
      · exact B.lr i hi
  · by_cases c : h = t
    · subst c
      have e : row (lsw L h h) = row L := by
        funext i
        unfold row
        rw [lsw_get lh lh]
        by_cases d : i = h
        · rw [if_pos d, d]
        · rw [if_neg d, if_neg d]
      rw [e]
      exact ⟨A, W, b, hM⟩
    · have e : row (lsw L t h) = swp (row L) t h := by
        funext i
        unfold row swp setR
        rw [lsw_get lt lh]
        by_cases d : i = h
        · rw [if_pos d, if_pos d]
        · rw [if_neg d, if_neg d]
          by_cases f : i = t
          · rw [if_pos f, if_pos f]
          · rw [if_neg f, if_neg f]
      rw [e]
      refine ⟨_, W, b.swap (by omega) hn, fun i j hi hj => ?_⟩
      unfold swp setR
      split
      · exact hM _ _ (by omega) hj
      · split
        · exact hM _ _ (by omega) hj
        · exact hM _ _ hi hj
theorem BS.exact (B : BS n t M L last) (tn : t < n) {i : Nat} (hi : t < i) (hn : i < n) (j : Nat) : ∃ q : Int, co (L.getD i []) j * co (L.getD t []) t - co (L.getD i []) t * co (L.getD t []) j = q * last := by
  obtain ⟨A, W, b, hM⟩ := B.ex
  by_cases c : j < n
  · exact b.exact tn hi hn c
  · refine ⟨0, ?_⟩
    rw [co_far (l := L.getD i []) (i := j) (by rw [B.lr i hn]; omega), co_far (l := L.getD t []) (i := j) (by rw [B.lr t tn]; omega)]
    omega
theorem bnew_ex (B : BS n t M L last) (tn : t < n) {i : Nat} (hi : t < i) (hn : i < n) (j : Nat) : last * co (bnew (L.getD i []) (L.getD t []) t last) j = co (L.getD i []) j * co (L.getD t []) t - co (L.getD i []) t * co (L.getD t []) j := by
  obtain ⟨q, e⟩ := B.exact tn hi hn j
  unfold bnew
  rw [co_tb]
  split
  · exact Int.mul_fdiv_cancel' ⟨q, by rw [e, Int.mul_comm]⟩
  · next h =>
    rw [B.lr t tn] at h
    rw [co_far (l := L.getD i []) (i := j) (by rw [B.lr i hn]; omega), co_far (l := L.getD t []) (i := j) (by rw [B.lr t tn]; omega)]
    omega
theorem BS.step (B : BS n t M L last) (tn : t < n) (hp : co (L.getD t []) t ≠ 0) : BS n (t + 1) M (bst L t last n) (co (L.getD t []) t) := by
  obtain ⟨A, W, b, hM⟩ := B.ex
  refine ⟨by rw [bst_len, B.ln], fun i hi => ?_, A, _, b.step tn hp (L' := row (bst L t last n)) (fun i hi => ?_) (fun i j hi hn hj => ?_), hM⟩
  · rw [bst_get (by rw [B.ln]; exact hi)]
    split
    · unfold bnew
      rw [tb_len, B.lr t tn]
    · exact B.lr i hi
  · show co ((bst L t last n).getD i []) = co (L.getD i [])
    rw [bst_get (by rw [B.ln]; omega), if_neg (by omega)]
  · show last * co ((bst L t last n).getD i []) j = _
    rw [bst_get (by rw [B.ln]; exact hn), if_pos ⟨hi, by omega⟩]
    exact bnew_ex B tn hi hn j
/-- the quotients of a turn -/
theorem BS.div (B : BS n t M L last) (M1 : 1 ≤ M) (hb : (n * M) ^ n < 2 ^ 4000) (tn : t < n) (hp : co (L.getD t []) t ≠ 0) {i : Nat} (hi : t < i) (hn : i < n) (j : Nat) : CDivQ (co (L.getD i []) j * co (L.getD t []) t - co (L.getD i []) t * co (L.getD t []) j) last := by
  refine CDivQ.exact B.lz (q := co (bnew (L.getD i []) (L.getD t []) t last) j) (by rw [← bnew_ex B tn hi hn j, Int.mul_comm]) ?_
  have := (B.step tn hp).bd M1 (show t + 1 ≤ i by omega) hn j
  rw [bst_get (by rw [B.ln]; exact hn), if_pos ⟨hi, by omega⟩] at this
  exact Nat.lt_of_le_of_lt this (Nat.lt_trans hb (Nat.pow_lt_pow_right (by decide) (by decide)))
end
theorem bgo_det {n : Nat} : ∀ (r t : Nat) (L : List (List Int)) (s last : Int) (A : Tab) (W : Int), t + r = n → L.length = n → (∀ i, i < n → (L.getD i []).length = n) → BInv n t A (row L) last W → bgo r t L s last = s * det n A
  | 0, t, L, s, last, A, W, e, ln, lr, b => by
    rw [Nat.add_zero] at e
    subst e
    show s * last = _
    rw [b.done]
  | r + 1, t, L, s, last, A, W, e, ln, lr, b => by
    have tn : t < n := by omega
    have hM : ∀ i j, i < n → j < n → (A i j).natAbs ≤ (nm (tb (n * n) fun k => A (k / n) (k % n))) := fun i j hi hj => by
      refine nm_mem ?_
      have e2 : A i j = co (tb (n * n) fun k => A (k / n) (k % n)) (i * n + j) := by
        have lt : i * n + j < n * n := Nat.lt_of_lt_of_le (show i * n + j < (i + 1) * n by rw [Nat.succ_mul]; omega) (Nat.mul_le_mul_right n hi)
        rw [co_tb, if_pos lt]
        have d1 : (i * n + j) / n = i := by
          rw [Nat.mul_comm, Nat.mul_add_div (by omega), Nat.div_eq_of_lt hj, Nat.add_zero]
        have d2 : (i * n + j) % n = j := by
          rw [Nat.mul_comm, Nat.mul_add_mod, Nat.mod_eq_of_lt hj]
        rw [d1, d2]
      rw [e2]
      exact co_memE (by rw [tb_len]; exact Nat.lt_of_lt_of_le (show i * n + j < (i + 1) * n by rw [Nat.succ_mul]; omega) (Nat.mul_le_mul_right n hi))
    have B : BS n t _ L last := ⟨ln, lr, A, W, b, hM⟩
    show (match hdt L t with | [] => 0 | h :: _ => bgo r (t + 1) (bst (lsw L t h) t last L.length) (if h = t then s else -s) (co ((lsw L t h).getD t []) t)) = _
    cases hh : hdt L t with
    | nil =>
      have z := b.none tn fun i h1 h2 => Classical.byContradiction fun ne => by
        have : i ∈ hdt L t := mem_hdt.mpr ⟨⟨h1, by omega⟩, ne⟩
        rw [hh] at this
        cases this
      rw [z, Int.mul_zero]
    | cons h tl =>
      obtain ⟨⟨h1, h2⟩, h3⟩ := mem_hdt.mp (show h ∈ hdt L t by rw [hh]; exact .head _)
      rw [ln] at h2
      show bgo r (t + 1) (bst (lsw L t h) t last L.length) _ _ = _
      rw [ln]
      have lt : t < L.length := by omega
      have lh : h < L.length := by omega
      have pv : co ((lsw L t h).getD t []) t = co (L.getD h []) t := by
        rw [lsw_get lt lh]
        by_cases c : t = h
        · rw [if_pos c, c]
        · rw [if_neg c, if_pos rfl]
      have B1 := B.swap h1 h2
      have B2 := B1.step tn (by rw [pv]; exact h3)
      have go : ∀ (A' : Tab) (W' : Int), BInv n t A' (row (lsw L t h)) last W' → bgo r (t + 1) (bst (lsw L t h) t last n) (if h = t then s else -s) (co ((lsw L t h).getD t []) t) = (if h = t then s else -s) * det n A' := fun A' W' b' =>
        bgo_det r (t + 1) _ _ _ A' _ (by omega) B2.ln B2.lr (b'.step tn (by show co ((lsw L t h).getD t []) t ≠ 0; rw [pv]; exact h3) (L' := row (bst (lsw L t h) t last n)) (fun i hi => by
          show co ((bst (lsw L t h) t last n).getD i []) = co ((lsw L t h).getD i [])
          rw [bst_get (by rw [B1.ln]; omega), if_neg (by omega)]) fun i j hi hn hj => by
          show last * co ((bst (lsw L t h) t last n).getD i []) j = _
          rw [bst_get (by rw [B1.ln]; exact hn), if_pos ⟨hi, by omega⟩]
          exact bnew_ex B1 tn hi hn j)
      by_cases c : h = t
      · subst c
        have e3 : row (lsw L h h) = row L := by
          funext i
          unfold row
          rw [lsw_get lh lh]
          by_cases d : i = h
          · rw [if_pos d, d]
          · rw [if_neg d, if_neg d]
        rw [go A W (by rw [e3]; exact b), if_pos rfl]
      · have e3 : row (lsw L t h) = swp (row L) t h := by
          funext i
          unfold row swp setR
          rw [lsw_get lt lh]
          by_cases d : i = h
          · rw [if_pos d, if_pos d]
          · rw [if_neg d, if_neg d]
            by_cases f : i = t
            · rw [if_pos f, if_pos f]
            · rw [if_neg f, if_neg f]
        rw [go (swp A t h) W (by rw [e3]; exact b.swap (by omega) h2), if_neg c, (det_alt n).swap tn h2 (by omega), Int.neg_mul_neg]
theorem bdet_det {n : Nat} {L : List (List Int)} (ln : L.length = n) (lr : ∀ r ∈ L, r.length = n) : bdet L = det n (row L) := by
  unfold bdet
  rw [ln, bgo_det n 0 L 1 1 (row L) 1 (by omega) ln (fun i hi => lr _ (mem_row (by omega))) (BInv.init n (row L)), Int.one_mul]
theorem BS.init {n M : Nat} {L : List (List Int)} (ln : L.length = n) (lr : ∀ r ∈ L, r.length = n) (hM : ∀ r ∈ L, ∀ x ∈ r, x.natAbs ≤ M) : BS n 0 M L 1 :=
  ⟨ln, fun i hi => lr _ (mem_row (by omega)), row L, 1, BInv.init n (row L), fun i j hi hj => hM _ (mem_row (by omega)) _ (co_memE (by rw [lr _ (mem_row (by omega))]; exact hj))⟩
/-- a determinant is 0 exactly if the rows hang on one another -/
theorem det_ind {n : Nat} {A : Tab} : det n A ≠ 0 ↔ Ind n n A := by
  constructor
  · intro h a ha i hi
    refine Classical.byContradiction fun ne => h ?_
    have al := det_alt n
    have e := al.sum (A := A) hi a A n
    rw [S_one hi fun k hk c => by rw [al.same hi hk (Ne.symm c) (A := setR A i (A k)) fun j _ => by rw [setR_s, setR_n c], Int.mul_zero], setR_own] at e
    have z := al.zero hi (A := setR A i fun j => S n fun k => a k * A k j) fun j hj => by rw [setR_s]; exact ha j hj
    rw [z] at e
    exact (Int.mul_eq_zero.mp e.symm).resolve_left ne
  · intro hI z
    have sp : ∀ i, i < n → Sp n n A (idT i) := fun i hi => Classical.byContradiction fun ns => by
      have hs : Ind n (n + 1) (fun k => if k < n then A k else idT i) := fun a ha => by
        have e : ∀ j, j < n → S n (fun k => a k * A k j) + a n * idT i j = 0 := fun j hj => by
          have := ha j hj
          have e2 : S n (fun k => a k * (if k < n then A k else idT i) j) + a n * (if n < n then A n else idT i) j = 0 := this
          rw [if_neg (Nat.lt_irrefl _), S_congr (g := fun k => a k * A k j) fun k hk => by rw [if_pos hk]] at e2
          exact e2
        have an : a n = 0 := Classical.byContradiction fun ne => ns ⟨- a n, by omega, a, fun j hj => by have := e j hj; rw [Int.neg_mul]; omega⟩
        intro k hk
        by_cases c : k = n
        · rw [c]; exact an
        · exact hI a (fun j hj => by have := e j hj; rw [an, Int.zero_mul] at this; omega) k (by omega)
      have := steinitz hs (m := n) (B := idT) fun k _ => ⟨1, by decide, fun l => (if k < n then A k else idT i) l, fun j hj => by
        rw [Int.one_mul, S_id _ hj]⟩
      omega
    have ex : ∃ (c : Nat → Int) (B : Tab), (∀ i, i < n → c i ≠ 0) ∧ ∀ i, i < n → ∀ j, j < n → c i * idT i j = S n fun k => B i k * A k j := by
      refine ⟨fun i => if h : i < n then (sp i h).choose else 1, fun i => if h : i < n then (sp i h).choose_spec.2.choose else fun _ => 0, fun i hi => ?_, fun i hi j hj => ?_⟩
      · simp only [dif_pos hi]
        exact (sp i hi).choose_spec.1
      · simp only [dif_pos hi]
        exact (sp i hi).choose_spec.2.choose_spec j hj
    obtain ⟨c, B, hc, hB⟩ := ex
    have d := det_mul n B A
    rw [z, Int.mul_zero, det_congr (A := mulT n B A) (B := fun i j => c i * idT i j) fun i j hi hj => (hB i hi j hj).symm, det_diagU fun i u h1 _ => by unfold idT; rw [if_neg (by omega), Int.mul_zero]] at d
    have pz : ∀ m, m ≤ n → prd m (fun u => c u * idT u u) ≠ 0 := fun m => by
      induction m with
      | zero => intro _; show (1 : Int) ≠ 0; decide
      | succ m ih =>
        intro hm
        show prd m _ * (c m * idT m m) ≠ 0
        refine Int.mul_ne_zero (ih (by omega)) ?_
        unfold idT
        rw [if_pos rfl, Int.mul_one]
        exact hc m (by omega)
    exact pz n (Nat.le_refl n) d
end K76

set_option Elab.async false
set_option linter.all false
set_option maxRecDepth 100000
set_option maxHeartbeats 2000000
set_option exponentiation.threshold 10000
/-! plain: resultants: exchanged and changed forms, lines, and when they are 0 -/
namespace K76
open PySem PySem.Spec PyProof.Rows L2 FDivQ LA
/-- the resultant of two forms -/
def Res (F G : List Int) : Int := det (F.length + G.length - 2) (row (urows F G (F.length + G.length - 3)))
/-- the monomials of a degree, changed -/
def Cm (X Y : List Int) (d : Nat) (i : Nat) : List Int := ml (pow X (d - i)) (pow Y i)
/-- 1 + 2 + .. + d -/
def tri : Nat → Nat
  | 0 => 0
  | d + 1 => tri d + (d + 1)
/-- when it is 0 -/
theorem res_zero {F G : List Int} (f1 : 2 ≤ F.length) (g1 : 2 ≤ G.length) : Res F G = 0 ↔ (ech lless (urows F G (F.length + G.length - 3)) (F.length + G.length - 2)).length < F.length + G.length - 2 := by
  obtain ⟨d, hd⟩ : ∃ d, F.length + G.length = d + 3 := ⟨F.length + G.length - 3, by omega⟩
  have hu := urows_w (f := F) (g := G) (d := d)
  have hl : (urows F G d).length = d + 1 := by rw [urows_len]; omega
  unfold Res
  rw [show F.length + G.length - 2 = d + 1 by omega, show F.length + G.length - 3 = d by omega]
  have hT := told lePL (M := nm (urows F G d).flatten) hu fun r hr x hx => nm_mem (List.mem_flatten.mpr ⟨r, hr, hx⟩)
  have le : (ech lless (urows F G d) (d + 1)).length ≤ d + 1 := by
    have := steinitz hT.base.ind (m := (urows F G d).length) (B := row (urows F G d)) hT.base.of
    omega
  constructor
  · intro z
    refine Nat.lt_of_le_of_ne le fun e => ?_
    refine det_ind.mpr ?_ z
    have b := hT.base
    rw [e, hl] at b
    exact ind_of b.ind b.of
  · intro lt
    refine Classical.byContradiction fun ne => ?_
    have hI := det_ind.mp ne
    have := full_ind lePL hu (by rw [hl]; exact hI)
    omega
end K76

set_option Elab.async false
set_option linter.all false
set_option maxRecDepth 100000
set_option maxHeartbeats 2000000
set_option exponentiation.threshold 10000
/-! plain: resultants of exchanged forms, and of products with lines -/
namespace K76
open PySem PySem.Spec PyProof.Rows L2 FDivQ LA
end K76

set_option Elab.async false
set_option linter.all false
set_option maxRecDepth 100000
set_option maxHeartbeats 4000000
set_option exponentiation.threshold 10000
/-! heads of rows -/
namespace K76
open PySem PySem.Spec PyProof.Rows L2 StX RZ MyR SlX OwnR OwnF EnumT SeqE GxR GenNx FDivQ LA
def lswA (as : List Addr) (t h : Nat) : List Addr := (as.set t (as.getD h 0)).set h (as.getD t 0)
theorem RX.setA {p : Addr → List Int → Prop} {a : Addr} {r : List Int} (k : p a r) : ∀ {as : List Addr} {rs : List (List Int)} (i : Nat), RX p as rs → RX p (as.set i a) (rs.set i r)
  | [], [], i, _ => True.intro
  | _ :: _, _ :: _, 0, h => ⟨k, h.2⟩
  | _ :: _, _ :: _, i + 1, h => ⟨h.1, RX.setA k i h.2⟩
  | [], _ :: _, _, h => h.elim
  | _ :: _, [], _, h => h.elim
theorem RX.at {p : Addr → List Int → Prop} {as : List Addr} {rs : List (List Int)} (h : RX p as rs) {i : Nat} (hi : i < rs.length) : (as.map V.ref)[i]? = some (.ref (as.getD i 0)) ∧ p (as.getD i 0) (rs.getD i []) := by
  obtain ⟨a, r, e1, e2, k⟩ := RX.get h hi
  rw [List.getElem?_map, e1, List.getD_eq_getElem?_getD, e1, List.getD_eq_getElem?_getD, e2]
  exact ⟨rfl, k⟩
theorem RX.lsw {p : Addr → List Int → Prop} {as : List Addr} {rs : List (List Int)} (h : RX p as rs) {t k : Nat} (ht : t < rs.length) (hk : k < rs.length) : RX p (lswA as t k) (lsw rs t k) :=
  RX.setA (RX.at h ht).2 k (RX.setA (RX.at h hk).2 t h)
end K76

set_option Elab.async false
set_option linter.all false
set_option maxRecDepth 100000
set_option maxHeartbeats 4000000
set_option exponentiation.threshold 10000
/-! determinants -/
namespace K76
open PySem PySem.Spec PyProof.Rows L2 StX RZ MyR SlX OwnR OwnF EnumT SeqE GxR GenNx FDivQ LA
theorem list_ext {A B : List (List Int)} (h : A.length = B.length) (e : ∀ i, i < A.length → A.getD i [] = B.getD i []) : A = B := by
  refine List.ext_getElem h fun i h1 h2 => ?_
  have := e i h1
  rw [List.getD_eq_getElem?_getD, List.getElem?_eq_getElem h1, List.getD_eq_getElem?_getD, List.getElem?_eq_getElem h2] at this
  exact this
theorem bst_zero (L : List (List Int)) (t : Nat) (last : Int) : bst L t last 0 = L :=
  list_ext (bst_len ..) fun i hi => by
    rw [bst_len] at hi
    rw [bst_get hi, if_neg (by omega)]
theorem bst_succ {L : List (List Int)} {t : Nat} {last : Int} {j : Nat} (h : t + 1 + j < L.length) : bst L t last (j + 1) = (bst L t last j).set (t + 1 + j) (bnew (L.getD (t + 1 + j) []) (L.getD t []) t last) :=
  list_ext (by rw [List.length_set, bst_len, bst_len]) fun i hi => by
    rw [bst_len] at hi
    rw [bst_get hi, List.getD_eq_getElem?_getD (l := List.set ..), List.getElem?_set]
    by_cases c : t + 1 + j = i
    · rw [if_pos c, if_pos (show t < i ∧ i < t + 1 + (j + 1) by omega), if_pos (show t + 1 + j < (bst L t last j).length by rw [bst_len]; exact h), ← c]
      rfl
    · rw [if_neg c, ← List.getD_eq_getElem?_getD, bst_get hi]
      by_cases d : t < i ∧ i < t + 1 + j
      · rw [if_pos d, if_pos (by omega)]
      · rw [if_neg d, if_neg (by omega)]
theorem bst_full {L : List (List Int)} {t : Nat} {last : Int} {j k : Nat} (h1 : L.length ≤ t + 1 + j) (h2 : L.length ≤ t + 1 + k) : bst L t last j = bst L t last k :=
  list_ext (by rw [bst_len, bst_len]) fun i hi => by
    rw [bst_len] at hi
    rw [bst_get hi, bst_get hi]
    by_cases d : t < i
    · rw [if_pos ⟨d, by omega⟩, if_pos ⟨d, by omega⟩]
    · rw [if_neg (by omega), if_neg (by omega)]
/-- what a turn of the elimination does -/
theorem bgo_cons {r t h : Nat} {l : List Nat} {L : List (List Int)} {s last : Int} (e : hdt L t = h :: l) : bgo (r + 1) t L s last = bgo r (t + 1) (bst (lsw L t h) t last L.length) (if h = t then s else -s) (co ((lsw L t h).getD t []) t) := by
  show (match hdt L t with | [] => 0 | h :: _ => bgo r (t + 1) (bst (lsw L t h) t last L.length) (if h = t then s else -s) (co ((lsw L t h).getD t []) t)) = _
  rw [e]
theorem bgo_nil {r t : Nat} {L : List (List Int)} {s last : Int} (e : hdt L t = []) : bgo (r + 1) t L s last = 0 := by
  show (match hdt L t with | [] => 0 | h :: _ => bgo r (t + 1) (bst (lsw L t h) t last L.length) (if h = t then s else -s) (co ((lsw L t h).getD t []) t)) = _
  rw [e]
theorem piv {L : List (List Int)} {t h : Nat} (ht : t < L.length) (hh : h < L.length) : (lsw L t h).getD t [] = L.getD h [] := by
  rw [lsw_get ht hh]
  by_cases c : t = h
  · rw [if_pos c, c]
  · rw [if_neg c, if_pos rfl]
theorem rr_upd {H : Hp} {D : Addr} {o : HO} {as : List Addr} {L : List (List Int)} {xs : List Addr} (h : RR H as L) (hD : H D = some (.lst (xs.map V.ref))) (hx : xs ≠ []) : RR (L2.upd H D o) as L := RR.upd h hD fun _ => hx
/-- what the walk of a determinant asks -/
structure DetOk (n M : Nat) (L : List (List Int)) : Prop where
  ln : L.length = n
  lr : ∀ r ∈ L, r.length = n
  hM : ∀ r ∈ L, ∀ x ∈ r, x.natAbs ≤ M
  n1 : 1 ≤ n
  n20 : n ≤ 40
  M1 : 1 ≤ M
  bd : (n * M) ^ n < 2 ^ 4000
theorem DetOk.det {n M : Nat} {L : List (List Int)} (ok : DetOk n M L) : (bdet L).natAbs ≤ (n * M) ^ n := by
  rw [bdet_det ok.ln ok.lr]
  have ln := ok.ln
  exact det_bd fun i j hi hj => ok.hM _ (mem_row (by omega)) _ (co_memE (by rw [ok.lr _ (mem_row (by omega))]; exact hj))
theorem sm_cm {a b : Int} {B : Nat} (hB : B < 2 ^ 4000) (h1 : a.natAbs ≤ B) (h2 : b.natAbs ≤ B) : CMulW a b := cmulw_of (L := 4000) (by decide) (Nat.lt_of_le_of_lt h1 hB) (Nat.lt_of_le_of_lt h2 hB)
end K76

set_option Elab.async false
set_option linter.all false
set_option maxRecDepth 100000
set_option maxHeartbeats 4000000
set_option exponentiation.threshold 10000
/-! the law's determinant -/
namespace K76
open PySem PySem.Spec PyProof.Rows L2 StX RZ MyR SlX OwnR OwnF EnumT SeqE GxR GenNx FDivQ LA
theorem joinS {G : Prop} {R : Int → Hp → Prop} (C : Int → Hp → Prop) (main : (∀ s H, C s H → R s H) → G) (rest : ∀ s H, C s H → R s H) : G := main rest
theorem lswA_comm {as : List Addr} {t h : Nat} (ne : h ≠ t) : (as.set h (as.getD t 0)).set t (as.getD h 0) = lswA as t h := by
  unfold lswA
  exact List.set_comm _ _ ne
section
variable {P : Program} {w : World} {K : PySem.W.Frag} {mg : Str → Option Value} {base : Heap} {Ps : List Addr}
def spLDet : Sp := fun vs H Q _ => ∃ (t : Addr) (as : List Addr) (L : List (List Int)) (n M : Nat), vs = [.ref t] ∧ H t = some (.tup (as.map V.ref)) ∧ RT H as L ∧ DetOk n M L ∧ ∀ H', Same H H' → Q (.int (bdet L)) H'
theorem ok_law_det_of (T : Facts K mg) : FnOk P w K mg base CX0 1 T.f_law_det_of T.fd_law_det_of ["_law_rows"] spLDet := by
  refine T.F_law_det_of.ok sc_law_det_of (fun vs H Q E h => ?_) (fun cdv A outer s0 H vs Q E hr h => ?_)
  · obtain ⟨t, as, L, n, M, rfl, _⟩ := h
    rfl
  · obtain ⟨t, as0, L0, n, M, rfl, ht, hR0, ok, q⟩ := h
    refine ⟨_, (PSs.nox (pss_cons (ps_asg (pe_tup (pa_cons (pe_lc (own := [("_law_row", 4)]) (g := (gName 4)) (tt := tYes) (by rfl) sc_law_det_of.nd (pi_tup (pv 0)) (blkOk_by (N := N_law_det_of) (sc := defScope s_law_det_of) (by decide +kernel)) (fun _ _ _ _ _ => (pg_name (i := 4) sc_law_det_of.nd rfl (.inl rfl))) (fun _ _ _ _ _ => pts_nil) (fun _ _ _ _ _ => (pe_callTy (ListOf.call_list_ofK (by rfl) : CallR _ (.type "list") (ListOf.rListOf K)) (by rfl) T.z_list (by decide +kernel) (pa_cons (pv 4) pa_nil)))) (pa_cons pe_int (pa_cons pe_int pa_nil)))) (pg_tup (by rfl) (pgs_cons (pg_name (i := 1) sc_law_det_of.nd rfl (.inr rfl)) (pgs_cons (pg_name (i := 2) sc_law_det_of.nd rfl (.inl rfl)) (pgs_cons (pg_name (i := 3) sc_law_det_of.nd rfl (.inr rfl)) pgs_nil)))))
    (pss_cons (ps_for PassesOwn.never (by rfl) (pi_range1 (by rfl) T.z_range (pa_cons (pe_callB call_len_seq (by rfl) T.z_len (by decide +kernel) (pa_cons (pv 1) pa_nil)) pa_nil)) (pg_name (i := 5) sc_law_det_of.nd rfl (.inr rfl))
      (pss_cons (ps_setLc (i := 6) (own := [("_law_at", 7)]) (g := (gName 7)) rfl sc_law_det_of.nd rfl rfl (sw_true rfl rfl rfl (by decide +kernel)) (pi_range2 (by rfl) T.z_range (pa_cons (pv 5) (pa_cons (pe_callB call_len_seq (by rfl) T.z_len (by decide +kernel) (pa_cons (pv 1) pa_nil)) pa_nil))) (blkOk_by (N := N_law_det_of) (sc := defScope s_law_det_of) (by decide +kernel)) (fun _ _ _ _ _ => (pg_name (i := 7) sc_law_det_of.nd rfl (.inl rfl))) (fun _ _ _ _ _ => (pts_one (pt_cmpR op_ne (pe_ix (ix_list : IxR _ (rIxL K)) (pe_ix (ix_list : IxR _ (rIxL K)) (pv 1) (pv 7) (fun _ _ => rfl)) (pv 5) (fun _ _ => rfl)) pe_int (nomark _)))) (fun _ _ _ _ _ => (pv 7)))
      (pss_cons (ps_if (pt_cmpR (op_eqD (hu64 hr)) (pv 6) (pe_lst pa_nil) (nomark _))
        (pss_one (ps_ret pe_int))
        pss_nil)
      (pss_cons (ps_set (i := 7) sc_law_det_of.nd rfl (.inl rfl) (pe_ix ix_list (pv 6) pe_int (fun _ _ => rfl)))
      (pss_cons (ps_if (pt_cmpR op_ne (pv 7) (pv 5) (nomark _))
        (pss_cons (ps_asg (pe_tup (pa_cons (pe_ix ix_list (pv 1) (pv 5) (fun _ _ => rfl)) (pa_cons (pe_ix ix_list (pv 1) (pv 7) (fun _ _ => rfl)) pa_nil))) (pg_tup (by rfl) (pgs_cons (pg_sub (pv 1) (pv 7) set_list) (pgs_cons (pg_sub (pv 1) (pv 5) set_list) pgs_nil))))
        (pss_one (ps_set (i := 2) sc_law_det_of.nd rfl (.inl rfl) (pe_op op_sub pe_int (pv 2)))))
        pss_nil)
      (pss_cons (ps_set (i := 8) sc_law_det_of.nd rfl (.inl rfl) (pe_ix ix_list (pv 1) (pv 5) (fun _ _ => rfl)))
      (pss_cons (ps_for PassesOwn.never (by rfl) (pi_range2 (by rfl) T.z_range (pa_cons (pe_op op_add (pv 5) pe_int) (pa_cons (pe_callB call_len_seq (by rfl) T.z_len (by decide +kernel) (pa_cons (pv 1) pa_nil)) pa_nil))) (pg_name (i := 9) sc_law_det_of.nd rfl (.inl rfl))
        (pss_cons (ps_asg (pe_tup (pa_cons (pe_ix ix_list (pv 1) (pv 9) (fun _ _ => rfl)) (pa_cons (pe_ix ix_list (pv 8) (pv 5) (fun _ _ => rfl)) pa_nil))) (pg_tup (by rfl) (pgs_cons (pg_name (i := 4) sc_law_det_of.nd rfl (.inl rfl)) (pgs_cons (pg_name (i := 10) sc_law_det_of.nd rfl (.inr rfl)) pgs_nil))))
        (pss_cons (ps_set (i := 11) sc_law_det_of.nd rfl (.inr rfl) (pe_ix ix_list (pv 4) (pv 5) (fun _ _ => rfl)))
        (pss_one (ps_asg (pe_lc (own := [("_law_entry", 12), ("_law_taken", 13)]) (g := (gTup K 2 (gCons (gName 12) (gCons (gName 13) gNil)))) (tt := tYes) (by rfl) sc_law_det_of.nd (pi_zipA (by rfl) T.z_zip (pa_cons (pv 4) (pa_cons (pv 8) pa_nil))) (blkOk_by (N := N_law_det_of) (sc := defScope s_law_det_of) (by decide +kernel)) (fun _ _ _ _ _ => (pg_tup (by rfl) (pgs_cons (pg_name (i := 12) sc_law_det_of.nd rfl (.inl rfl)) (pgs_cons (pg_name (i := 13) sc_law_det_of.nd rfl (.inl rfl)) pgs_nil)))) (fun _ _ _ _ _ => pts_nil) (fun _ _ _ _ _ => (pe_op FDivQ.op_fdivQ (pe_op op_sub (pe_op op_mulW (pv 12) (pv 10)) (pe_op op_mulW (pv 11) (pv 13))) (pv 3)))) (pg_sub (pv 1) (pv 9) set_list))))))
      (pss_one (ps_set (i := 3) sc_law_det_of.nd rfl (.inr rfl) (pe_ix ix_list (pv 8) (pv 5) (fun _ _ => rfl)))))))))))
    (pss_one (ps_ret (pe_op op_mulW (pv 2) (pv 3))))))), ?_⟩
    have ln := ok.ln
    have n1 := ok.n1
    have n20 := ok.n20
    have la0 := RX.len hR0
    refine ⟨_, rfl, t, rfl, ⟨_, SqT.of ht⟩, fun D hD => ?_⟩
    refine lc_tup (xs := as0.map V.ref) (fun j H' => Same H H' ∧ ∃ bs : List Addr, H' D = some (.lst (bs.map V.ref)) ∧ RR H' bs (L0.take j)) ⟨same_upd0 hD, [], upd_same, True.intro⟩ (fun j H' _ hP => SqT.of (hP.1 _ _ ht)) (fun j x H' hx hP => ?_) (fun H1 hP => ?_)
    · obtain ⟨s1, bs, e1, r1⟩ := hP
      rw [List.getElem?_map] at hx
      obtain ⟨a, ha, rfl⟩ := Option.map_eq_some_iff.mp hx
      have hj : j < L0.length := by
        rw [← la0]
        exact (List.getElem?_eq_some_iff.mp ha).1
      obtain ⟨a', r, e2, e3, k⟩ := RX.get hR0 hj
      rw [ha] at e2
      cases e2
      have lb := RX.len r1
      rw [List.length_take] at lb
      refine ⟨rfl, _, rfl, a, _, rfl, .inr (SqT.of (s1 _ _ k)), fun p np => gen_upd H' p (ls r) np fun H2 s2 e4 => ?_⟩
      have rne : r ≠ [] := fun z => by
        have h1 := ok.lr r (List.mem_of_getElem? e3)
        rw [z] at h1
        have : (0 : Nat) = n := h1
        omega
      have e1' := s2 _ _ e1
      refine ⟨_, e1', ?_, fun b o e => ?_, bs ++ [p], ?_, ?_⟩
      · rw [List.length_map]
        exact small1000 (by omega)
      · rw [upd_ne (ne_of_none e hD)]
        exact s2 _ _ (s1 _ _ e)
      · rw [upd_same, List.map_append]
        rfl
      · rw [List.take_add_one, e3]
        have keep : ∀ {b : Addr} {r : List Int}, r ≠ [] → H2 b = some (ls r) → upd H2 D (.lst (bs.map V.ref ++ [V.ref p])) b = some (ls r) := fun {b r} hr e => by
          rw [upd_ne (row_ne2 e e1' hr)]
          exact e
        refine RX.app (bs := [p]) (ss := [r]) ⟨keep rne e4, True.intro⟩ ?_
        have go : ∀ {as : List Addr} {rs : List (List Int)}, (∀ r ∈ rs, r ≠ []) → RX (fun a r => H' a = some (ls r)) as rs → RX (fun a r => upd H2 D (.lst (bs.map V.ref ++ [V.ref p])) a = some (ls r)) as rs := fun {as rs} hn h => by
          induction rs generalizing as with
          | nil => cases as with
            | nil => exact True.intro
            | cons _ _ => exact h.elim
          | cons x xs ih => cases as with
            | nil => exact h.elim
            | cons y ys => exact ⟨keep (hn x (.head _)) (s2 _ _ h.1), ih (fun r hr => hn r (.tail _ hr)) h.2⟩
        exact go (fun r hr z => by
          have h1 := ok.lr r (List.mem_of_mem_take hr)
          rw [z] at h1
          have : (0 : Nat) = n := h1
          omega) r1
    obtain ⟨s1, bs, e1, r1⟩ := hP
    rw [List.length_map, la0, List.take_length] at r1
    have lb := RX.len r1
    refine ⟨sz3, fun p0 n0 => gen_upd H1 p0 _ n0 fun H2 s2 e2 => ⟨p0, _, rfl, SqT.of e2, rfl, _, _, rfl, _, _, rfl, _, _, rfl, rfl, ?_⟩⟩
    refine ⟨_, rfl, D, _, rfl, .inl (SqL.of (s2 _ _ e1)), n, ?_, by omega, by omega, ?_⟩
    · show [V.int _] = _
      rw [List.length_map, lb, ln]
    refine for_range (n := (n : Int).toNat) (fun i σ H' => ∃ (as : List Addr) (L : List (List Int)) (s last : Int) (y4 y5 y6 y7 y8 y9 y10 y11 : Option V), σ = [some (.ref t), some (.ref D), some (.int s), some (.int last), y4, y5, y6, y7, y8, y9, y10, y11, none, none] ∧ H' D = some (.lst (as.map V.ref)) ∧ RR H' as L ∧ BS n i M L last ∧ bgo (n - i) i L s last = bdet L0 ∧ s.natAbs = 1 ∧ Same H H') ⟨bs, L0, 1, 1, none, none, none, none, none, none, none, none, rfl, s2 _ _ e1, r1.same s2, BS.init ln ok.lr ok.hM, by unfold bdet; rw [ln]; rfl, rfl, s1.trans s2⟩ (fun i σ H' hi hP => ?_) (fun σ H' hP => ?_)
    · obtain ⟨as, L, s, last, y4, y5, y6, y7, y8, y9, y10, y11, rfl, eD, rR, B, eb, s1', sH⟩ := hP
      have hi' : i < n := by omega
      have lL := B.ln
      have la := RX.len rR
      have asne : as ≠ [] := fun z => by
        rw [z] at la
        have : (0 : Nat) = L.length := la
        omega
      obtain ⟨r, er⟩ : ∃ r, n - i = r + 1 := ⟨n - i - 1, by omega⟩
      refine ⟨_, rfl, _, rfl, D, _, rfl, .inl (SqL.of eD), i, (n : Nat), ?_, by omega, fun E1 hE => ?_⟩
      · show [V.int (0 + (i : Int)), V.int _] = _
        rw [Int.zero_add, List.length_map, la, lL]
      rw [show (((n : Nat) : Int) - (i : Int)).toNat = L.length - i by omega]
      refine lc_range (n := L.length - i) (fun j H5 => Same H' H5 ∧ H5 E1 = some (ls ((((List.range j).map (i + ·)).filter fun k => co (L.getD k []) i != 0).map fun (k : Nat) => (k : Int)))) ⟨same_upd0 hE, upd_same⟩ (fun j H5 hj hP => ?_) (fun H5 hP => ?_)
      · obtain ⟨s5, e5⟩ := hP
        obtain ⟨g1, g2⟩ := RX.at rR (show i + j < L.length by omega)
        have hlr := B.lr (i + j) (by omega)
        refine ⟨rfl, _, rfl, _, rfl, D, _, _, _, rfl, rfl, SqL.of (s5 _ _ eD), at_of (show (i : Int) + (j : Int) = ((i + j : Nat) : Int) by omega) g1, _, rfl, as.getD (i + j) 0, _, _, _, rfl, rfl, SqL.of (s5 _ _ g2), at_of (show (0 : Int) + (i : Int) = (i : Nat) by omega) (get_int (by omega)), rfl, _, rfl, ?_⟩
        have ef : ((List.range (j + 1)).map (i + ·)).filter (fun k => co (L.getD k []) i != 0) = ((List.range j).map (i + ·)).filter (fun k => co (L.getD k []) i != 0) ++ if co (L.getD (i + j) []) i = 0 then [] else [i + j] := by
          rw [List.range_succ, List.map_append, List.filter_append]
          congr 1
          show List.filter _ [i + j] = _
          by_cases c : co (L.getD (i + j) []) i = 0
          · rw [if_pos c, List.filter_cons_of_neg (by simpa using c)]
            rfl
          · rw [if_neg c, List.filter_cons_of_pos (by simpa using c)]
            rfl
        rw [ef]
        by_cases c : co (L.getD (i + j) []) i = 0
        · rw [c, if_pos rfl, List.append_nil]
          exact iteF ⟨s5, e5⟩
        · rw [if_neg c, decide_eq_false fun e => c (V.int.inj e)]
          refine iteT ⟨_, rfl, _, e5, ?_, fun b o e => ?_, ?_⟩
          · rw [List.length_map, List.length_map]
            have h1 := List.length_filter_le (fun k => co (L.getD k []) i != 0) ((List.range j).map (i + ·))
            rw [List.length_map, List.length_range] at h1
            exact small1000 (by omega)
          · rw [upd_ne (ne_of_none e hE)]
            exact s5 _ _ e
          · rw [upd_same, List.map_append]
            show _ = some (HO.lst (List.map V.int (_ ++ _)))
            rw [List.map_append]
            show some (HO.lst (_ ++ [V.int ((i : Int) + (j : Int))])) = some (HO.lst (_ ++ [V.int ((i + j : Nat) : Int)]))
            rw [show (i : Int) + (j : Int) = ((i + j : Nat) : Int) by omega]
      · obtain ⟨s5, e5⟩ := hP
        have e5' : H5 E1 = some (ls ((hdt L i).map fun (k : Nat) => (k : Int))) := e5
        refine ⟨_, rfl, sz0, fun p1 n1 => gen_upd H5 p1 (ls []) n1 fun H6 s6 e6 => eq_lints (ys := []) (SqL.of (s6 _ _ e5')) (SqL.of e6) ⟨_, rfl, ?_⟩⟩
        have s56 := s5.trans s6
        cases hh : hdt L i with
        | nil =>
          rw [decide_eq_true (show ([] : List Nat).map (fun (k : Nat) => (k : Int)) = [] from rfl)]
          rw [er, bgo_nil hh] at eb
          have fin := q H6 (sH.trans s56)
          rw [← eb] at fin
          exact iteT fin
        | cons h l =>
          rw [decide_eq_false (show ¬ (h :: l).map (fun (k : Nat) => (k : Int)) = [] by simp)]
          obtain ⟨⟨h1, h2⟩, h3⟩ := mem_hdt.mp (show h ∈ hdt L i by rw [hh]; exact .head _)
          rw [hh] at e5'
          have e7 := s6 _ _ e5'
          have eD6 := s56 _ _ eD
          have rR6 := rR.same s56
          have sH6 := sH.trans s56
          have iL : i < L.length := by omega
          have B1 := B.swap h1 (show h < n by omega)
          have pv := piv iL h2
          rw [er, bgo_cons hh] at eb
          have pne : co ((lsw L i h).getD i []) i ≠ 0 := by rw [pv]; exact h3
          refine iteF ⟨_, rfl, E1, _, 0, .int (h : Nat), rfl, rfl, SqL.of e7, atI_nat (j := 0) rfl, ?_⟩
          apply joinS fun s2 H7 => s2 = (if h = i then s else -s) ∧ H7 D = some (.lst ((lswA as i h).map V.ref)) ∧ RR H7 (lswA as i h) (lsw L i h) ∧ Same H H7
          · intro rest
            refine ⟨_, rfl, _, rfl, rfl, _, rfl, ite2 ?_ ?_⟩
            rotate_left
            · intro c
              have hi0 : h = i := by
                refine Classical.byContradiction fun n => c ?_
                rw [decide_eq_false (fun e => n (by have := V.int.inj e; omega))]
                rfl
              have ea : lswA as i h = as := by
                rw [hi0]
                unfold lswA
                refine List.ext_getElem (by rw [List.length_set, List.length_set]) fun k k1 k2 => ?_
                rw [List.getElem_set]
                by_cases d : i = k
                · subst d
                  rw [if_pos rfl, List.getD_eq_getElem?_getD, List.getElem?_eq_getElem k2]
                  rfl
                · rw [if_neg d, List.getElem_set, if_neg d]
              have el : lsw L i h = L := by
                rw [hi0]
                refine list_ext (lsw_len ..) fun k hk => ?_
                rw [lsw_get iL iL]
                by_cases d : k = i
                · rw [if_pos d, d]
                · rw [if_neg d, if_neg d]
              have facts : s = (if h = i then s else -s) ∧ H6 D = some (.lst ((lswA as i h).map V.ref)) ∧ RR H6 (lswA as i h) (lsw L i h) ∧ Same H H6 := ⟨by rw [if_pos hi0], by rw [ea]; exact eD6, by rw [ea, el]; exact rR6, sH6⟩
              dsimp only [tNext]
              generalize hs9 : s = s9
              generalize hH9 : H6 = H9
              exact rest s9 H9 (by rw [← hs9, ← hH9]; exact facts)
            · intro c
              have hi0 : h ≠ i := fun z => by
                rw [z, decide_eq_true (show V.int ((i : Nat) : Int) = V.int (0 + (i : Int)) by rw [Int.zero_add])] at c
                cases c
              refine ⟨_, rfl, _, rfl, D, _, _, _, rfl, rfl, SqL.of eD6, at_of (show (0 : Int) + (i : Int) = (i : Nat) by omega) (RX.at rR6 iL).1, _, rfl, _, rfl, D, _, _, _, rfl, rfl, SqL.of eD6, atI_nat (RX.at rR6 h2).1, sz2, fun p2 n2 => gen_upd H6 p2 _ n2 fun H7 s7 e8 => ?_⟩
              have eD7 := s7 _ _ eD6
              refine ⟨p2, _, rfl, SqT.of e8, rfl, _, _, rfl, _, rfl, _, rfl, D, _, _, h, rfl, rfl, eD7, ix_at rfl (by rw [List.length_map]; omega), _, _, rfl, _, rfl, _, rfl, D, _, _, i, rfl, rfl, upd_same, ix_at (show (0 : Int) + (i : Int) = (i : Nat) by omega) (by rw [List.length_set, List.length_map]; omega), rfl, ?_⟩
              rw [upd_upd]
              have e5a : ((as.map V.ref).set h (V.ref (as.getD i 0))).set i (V.ref (as.getD h 0)) = (lswA as i h).map V.ref := by
                rw [← lswA_comm hi0, List.map_set, List.map_set]
              rw [e5a]
              refine ⟨_, rfl, _, _, rfl, rfl, ?_⟩
              have facts : 0 - s = (if h = i then s else -s) ∧ upd H7 D (.lst ((lswA as i h).map V.ref)) D = some (.lst ((lswA as i h).map V.ref)) ∧ RR (upd H7 D (.lst ((lswA as i h).map V.ref))) (lswA as i h) (lsw L i h) ∧ Same H (upd H7 D (.lst ((lswA as i h).map V.ref))) := ⟨by rw [if_neg hi0]; omega, upd_same, RX.lsw (rr_upd (rR6.same s7) eD7 asne) iL h2, fun b o e => by
                rw [upd_ne (ne_of_none e hD)]
                exact s7 _ _ (sH6 b o e)⟩
              exact rest (0 - s) _ facts
          · rintro s2' H7 ⟨es, eN, rN, sH3⟩
            have hs2 : s2'.natAbs = 1 := by rw [es]; split <;> omega
            rw [← es] at eb
            have lL1 := B1.ln
            have lA := RX.len rN
            have lr1 := B1.lr
            have lL0 : L.length = n := lL
            rw [lL0] at eb
            generalize lsw L i h = L1 at *
            generalize lswA as i h = as1 at *
            clear es hh h1 h2 h3 pv eD6 rR6 eD rR B asne la sH6 s56 s5 s6 e5 e5' e6 e7 sH
            have hd0 := RX.at rN (show i < L1.length by omega)
            refine ⟨_, rfl, _, rfl, D, _, _, _, rfl, rfl, SqL.of eN, at_of (show (0 : Int) + (i : Int) = (i : Nat) by omega) hd0.1, ?_⟩
            obtain ⟨hd, ehd⟩ : ∃ hd, hd = as1.getD i 0 := ⟨_, rfl⟩
            rw [← ehd] at hd0 ⊢
            refine ⟨_, rfl, _, _, rfl, rfl, _, rfl, D, _, rfl, .inl (SqL.of eN), (i + 1 : Nat), (n : Nat), ?_, by omega, ?_⟩
            · show [V.int (0 + (i : Int) + 1), V.int _] = _
              rw [List.length_map, lA, lL1, show 0 + (i : Int) + 1 = ((i + 1 : Nat) : Int) by omega]
            rw [show (((n : Nat) : Int) - ((i + 1 : Nat) : Int)).toNat = n - (i + 1) by omega]
            refine for_range (n := n - (i + 1)) (fun j σ H4 => ∃ (as : List Addr) (y4 y9 y10 y11 : Option V), σ = [some (.ref t), some (.ref D), some (.int s2'), some (.int last), y4, some (.int (0 + (i : Int))), some (.ref E1), some (.int (h : Nat)), some (.ref hd), y9, y10, y11, none, none] ∧ H4 D = some (.lst (as.map V.ref)) ∧ RR H4 as (bst L1 i last j) ∧ Same H H4 ∧ as.getD i 0 = hd) ⟨as1, y4, y9, y10, y11, rfl, eN, by rw [bst_zero]; exact rN, sH3, ehd.symm⟩ (fun j σ H4 hj hP => ?_) (fun σ H4 hP => ?_)
            · obtain ⟨as, y4, y9, y10, y11, rfl, eD, rR, sH, eh⟩ := hP
              have lb := bst_len L1 i last j
              have la := RX.len rR
              rw [lb] at la
              have asne : as ≠ [] := fun z => by
                rw [z] at la
                have : (0 : Nat) = L1.length := la
                omega
              have ga := RX.at rR (show i + 1 + j < (bst L1 i last j).length by omega)
              have gh := RX.at rR (show i < (bst L1 i last j).length by omega)
              rw [bst_get (by omega), if_neg (by omega)] at ga gh
              rw [eh] at gh
              obtain ⟨ar, ear⟩ : ∃ ar, ar = as.getD (i + 1 + j) 0 := ⟨_, rfl⟩
              rw [← ear] at ga
              have lr0 := lr1 (i + 1 + j) (by omega)
              have lh0 := lr1 i hi'
              have b1 := B1.bd ok.M1 (show i ≤ i + 1 + j by omega) (by omega)
              have b2 := B1.bd ok.M1 (Nat.le_refl i) hi'
              have bdv := B1.div ok.M1 ok.bd hi' pne (show i < i + 1 + j by omega) (by omega)
              have ebn : bnew (L1.getD (i + 1 + j) []) (L1.getD i []) i last = tb n fun k => (co (L1.getD (i + 1 + j) []) k * co (L1.getD i []) i - co (L1.getD (i + 1 + j) []) i * co (L1.getD i []) k).fdiv last := by
                unfold bnew
                rw [lh0]
              have ebs := bst_succ (L := L1) (t := i) (last := last) (j := j) (by omega)
              rw [ebn] at ebs
              generalize L1.getD (i + 1 + j) [] = r0 at *
              generalize L1.getD i [] = h0 at *
              refine ⟨_, rfl, _, rfl, D, _, _, _, rfl, rfl, SqL.of eD, at_of (show ((i + 1 : Nat) : Int) + (j : Int) = ((i + 1 + j : Nat) : Int) by omega) ga.1, _, rfl, _, rfl, hd, _, _, .int (co h0 i), rfl, rfl, SqL.of gh.2, at_of (show (0 : Int) + (i : Int) = (i : Nat) by omega) (get_int (by omega)), sz2, fun p3 n3 => gen_upd H4 p3 _ n3 fun H5 s5 e9 => ⟨p3, _, rfl, SqT.of e9, rfl, _, _, rfl, _, _, rfl, rfl, ?_⟩⟩
              have gaH := s5 _ _ ga.2
              have ghH := s5 _ _ gh.2
              refine ⟨_, rfl, _, rfl, ar, _, _, .int (co r0 i), rfl, rfl, SqL.of gaH, at_of (show (0 : Int) + (i : Int) = (i : Nat) by omega) (get_int (by omega)), ?_⟩
              refine ⟨_, rfl, _, rfl, ar, hd, _, _, rfl, .inl ⟨SqL.of gaH, SqL.of ghH, fun D2 hD2 => ?_⟩⟩
              refine lc_zipL (xs := r0.map V.int) (ys := h0.map V.int) (by rw [List.length_map, List.length_map, lr0, lh0]) (fun k H6 => Same H5 H6 ∧ H6 D2 = some (.lst (tab k fun k => (co r0 k * co h0 i - co r0 i * co h0 k).fdiv last))) ⟨same_upd0 hD2, upd_same⟩ (fun k H6 _ hP => ⟨SqL.of (hP.1 _ _ gaH), SqL.of (hP.1 _ _ ghH)⟩) (fun k x y A1 H6 hx hy hP hA => ?_) (fun H6 hP => ?_)
              · obtain ⟨s6, d5⟩ := hP
                obtain ⟨hk, rfl⟩ := int_get hx
                obtain ⟨_, rfl⟩ := int_get hy
                have sA := same_upd0 (o := .tup [.int (co r0 k), .int (co h0 k)]) hA
                refine ⟨A1, _, rfl, SqT.of upd_same, rfl, _, _, rfl, _, _, rfl, rfl, rfl, _, rfl, _, rfl, _, _, rfl, rfl, sm_cm ok.bd (b1 k) (b2 i), _, rfl, _, rfl, _, _, rfl, rfl, sm_cm ok.bd (b1 i) (b2 k), _, _, rfl, rfl, _, rfl, _, _, rfl, rfl, bdv k, _, sA _ _ d5, ?_, fun b o e => ?_, ?_⟩
                · rw [tab_len]
                  exact small1000 (by omega)
                · rw [upd_ne (ne_of_none e hD2)]
                  exact sA _ _ (s6 _ _ e)
                · rw [upd_same, ← tab_snoc]
              · obtain ⟨s6, d5⟩ := hP
                rw [List.length_map, tab_tb, lr0] at d5
                have s46 := s5.trans s6
                have eD5 := s46 _ _ eD
                have dne : D2 ≠ D := fun z => by rw [z, s5 _ _ eD] at hD2; cases hD2
                have r5 := rr_upd (o := .lst ((as.set (i + 1 + j) D2).map V.ref)) (rR.same s46) eD5 asne
                refine ⟨_, rfl, _, rfl, D, _, _, i + 1 + j, rfl, rfl, eD5, ix_at (show ((i + 1 : Nat) : Int) + (j : Int) = ((i + 1 + j : Nat) : Int) by omega) (by rw [List.length_map]; omega), ?_⟩
                rw [← List.map_set]
                refine ⟨as.set (i + 1 + j) D2, _, _, _, _, rfl, upd_same, ?_, fun b o e => ?_, ?_⟩
                · rw [ebs]
                  exact RX.setA (by rw [upd_ne dne]; exact d5) (i + 1 + j) r5
                · rw [upd_ne (ne_of_none e hD)]
                  exact s46 _ _ (sH b o e)
                · rw [List.getD_eq_getElem?_getD, List.getElem?_set, if_neg (by omega), ← List.getD_eq_getElem?_getD]
                  exact eh
            · obtain ⟨as, y4, y9, y10, y11, rfl, eD, rR, sH, eh⟩ := hP
              have gh := RX.at rR (show i < (bst L1 i last (n - (i + 1))).length by rw [bst_len]; omega)
              rw [bst_get (by omega), if_neg (by omega), eh] at gh
              have B2 := B1.step hi' pne
              have ef : bst L1 i last (n - (i + 1)) = bst L1 i last n := bst_full (by omega) (by omega)
              rw [ef] at rR
              refine ⟨_, rfl, _, rfl, hd, _, _, .int (co (L1.getD i []) i), rfl, rfl, SqL.of gh.2, at_of (show (0 : Int) + (i : Int) = (i : Nat) by omega) (get_int (by rw [lr1 i hi']; exact hi')), ?_⟩
              refine ⟨as, bst L1 i last n, s2', _, _, _, _, _, _, _, _, _, rfl, eD, rR, B2, ?_, hs2, sH⟩
              rw [show n - (i + 1) = r by omega]
              exact eb
    · obtain ⟨as, L, s, last, y4, y5, y6, y7, y8, y9, y10, y11, rfl, eD, rR, B, eb, s1', sH⟩ := hP
      rw [Int.toNat_natCast, Nat.sub_self] at eb
      refine ⟨_, rfl, _, rfl, _, _, rfl, rfl, ?_, ?_⟩
      · have hb := ok.det
        rw [← (show s * last = bdet L0 from eb), Int.natAbs_mul, s1', Nat.one_mul] at hb
        exact sm_cm ok.bd (Nat.le_trans (by rw [s1']; exact Nat.pow_pos (Nat.mul_pos n1 ok.M1)) (Nat.le_refl _)) hb
      · have e : s * last = bdet L0 := eb
        show Q (V.int (s * last)) H'
        rw [e]
        exact q H' sH
end
end K76

set_option Elab.async false
set_option linter.all false
set_option maxRecDepth 100000
set_option maxHeartbeats 2000000
set_option exponentiation.threshold 20000
/-! plain: Bezout tables: symmetric, their determinant is the resultant -/
namespace K76
open PySem PySem.Spec PyProof.Rows L2 FDivQ LA
theorem S_split (f : Nat → Int) (a : Nat) : ∀ b, S (a + b) f = S a f + S b fun k => f (a + k)
  | 0 => by show S a f = S a f + 0; omega
  | b + 1 => by
    show S (a + b) f + f (a + b) = S a f + (S b (fun k => f (a + k)) + f (a + b))
    rw [S_split f a b]
    omega
theorem S_first (f : Nat → Int) (n : Nat) : S (n + 1) f = f 0 + S n fun i => f (i + 1) := by
  have := S_split f 1 n
  rw [Nat.add_comm 1 n] at this
  rw [this]
  congr 1
  · show 0 + f 0 = f 0
    omega
  · exact S_congr fun i _ => by rw [Nat.add_comm]
theorem S_rev : ∀ (n : Nat) (f : Nat → Int), S n f = S n fun k => f (n - 1 - k)
  | 0, _ => rfl
  | n + 1, f => by
    rw [S_first]
    show _ = S n (fun k => f (n + 1 - 1 - k)) + f (n + 1 - 1 - n)
    rw [S_rev n fun i => f (i + 1), Nat.add_sub_cancel, Nat.sub_self, Int.add_comm]
    congr 1
    exact S_congr fun i hi => by rw [show n - 1 - i + 1 = n - i by omega]
theorem S_far {f : Nat → Int} {n : Nat} (h : ∀ i, n ≤ i → f i = 0) (d : Nat) : S (n + d) f = S n f := by
  rw [S_split, S_zero (f := fun k => f (n + k)) fun i _ => h _ (by omega), Int.add_zero]
/-- the coefficients of F(x, y) G(u, v) - F(u, v) G(x, y) -/
def cc (F G : List Int) (i j : Nat) : Int := co F i * co G j - co F j * co G i
theorem cc_anti (F G : List Int) (i j : Nat) : cc F G i j = - cc F G j i := by
  unfold cc
  omega
def bz (F G : List Int) : Nat → Nat → Int
  | 0, j => cc F G 0 (j + 1)
  | i + 1, j => cc F G (i + 1) (j + 1) + bz F G i (j + 1)
section
variable {F G : List Int}
theorem bz_S : ∀ i j, bz F G i j = S (i + 1) fun k => cc F G k (i + j + 1 - k)
  | 0, j => by
    show cc F G 0 (j + 1) = 0 + cc F G 0 (0 + j + 1 - 0)
    rw [Int.zero_add, Nat.zero_add, Nat.sub_zero]
  | i + 1, j => by
    show cc F G (i + 1) (j + 1) + bz F G i (j + 1) = S (i + 1) (fun k => cc F G k (i + 1 + j + 1 - k)) + cc F G (i + 1) (i + 1 + j + 1 - (i + 1))
    rw [bz_S i (j + 1), Int.add_comm, show i + 1 + j + 1 - (i + 1) = j + 1 by omega, show i + (j + 1) + 1 = i + 1 + j + 1 by omega]
theorem cc_sum (s : Nat) : S (s + 1) (fun k => cc F G k (s - k)) = 0 := by
  have h := S_rev (s + 1) fun k => cc F G k (s - k)
  rw [Nat.add_sub_cancel, S_congr (f := fun k => cc F G (s - k) (s - (s - k))) (g := fun k => -1 * cc F G k (s - k)) fun k hk => by
    rw [show s - (s - k) = k by omega, cc_anti]
    omega, S_mul] at h
  omega
theorem bz_sym (i j : Nat) : bz F G i j = bz F G j i := by
  rw [bz_S, bz_S]
  have h := cc_sum (F := F) (G := G) (i + j + 1)
  rw [show i + j + 1 + 1 = (i + 1) + (j + 1) by omega, S_split, S_rev (j + 1), Nat.add_sub_cancel] at h
  rw [S_congr (f := fun k => cc F G (i + 1 + (j - k)) (i + j + 1 - (i + 1 + (j - k)))) (g := fun k => -1 * cc F G k (j + i + 1 - k)) fun k hk => by
    rw [show i + 1 + (j - k) = j + i + 1 - k by omega, show i + j + 1 - (j + i + 1 - k) = k by omega, cc_anti]
    omega, S_mul] at h
  omega
theorem cc_far {n : Nat} (hF : F.length ≤ n) (hG : G.length ≤ n) {i j : Nat} (h : n ≤ j) : cc F G i j = 0 := by
  unfold cc
  rw [co_far (l := F) (i := j) (by omega), co_far (l := G) (i := j) (by omega)]
  omega
theorem bz_far {n : Nat} (hF : F.length ≤ n + 1) (hG : G.length ≤ n + 1) : ∀ {i j : Nat}, n ≤ j → bz F G i j = 0
  | 0, j, h => cc_far hF hG (by omega)
  | i + 1, j, h => by
    show cc F G (i + 1) (j + 1) + bz F G i (j + 1) = 0
    rw [cc_far hF hG (by omega), bz_far hF hG (by omega)]
    rfl
/-- the rule: x v - y u times the table -/
theorem bz_rule (i j : Nat) : cc F G i j = sh (bz F G i) j - sh (fun a => bz F G a j) i := by
  cases j with
  | zero =>
    cases i with
    | zero =>
      show _ = (0 : Int) - 0
      unfold cc
      omega
    | succ i =>
      show _ = 0 - bz F G i 0
      rw [bz_sym]
      show _ = 0 - cc F G 0 (i + 1)
      rw [cc_anti]
      omega
  | succ j =>
    cases i with
    | zero =>
      show cc F G 0 (j + 1) = cc F G 0 (j + 1) - 0
      omega
    | succ i =>
      show cc F G (i + 1) (j + 1) = cc F G (i + 1) (j + 1) + bz F G i (j + 1) - bz F G i (j + 1)
      omega
theorem bz_swap : ∀ i j, bz G F i j = -1 * bz F G i j
  | 0, j => by
    show cc G F 0 (j + 1) = -1 * cc F G 0 (j + 1)
    unfold cc
    grind
  | i + 1, j => by
    show cc G F (i + 1) (j + 1) + bz G F i (j + 1) = -1 * (cc F G (i + 1) (j + 1) + bz F G i (j + 1))
    rw [bz_swap i (j + 1)]
    unfold cc
    grind
theorem bz_add {A B : List Int} (e : ∀ i, co F i = co A i + co B i) : ∀ i j, bz F G i j = bz A G i j + bz B G i j
  | 0, j => by
    show cc F G 0 (j + 1) = cc A G 0 (j + 1) + cc B G 0 (j + 1)
    unfold cc
    rw [e, e]
    grind
  | i + 1, j => by
    show cc F G (i + 1) (j + 1) + bz F G i (j + 1) = cc A G (i + 1) (j + 1) + bz A G i (j + 1) + (cc B G (i + 1) (j + 1) + bz B G i (j + 1))
    rw [bz_add e i (j + 1)]
    unfold cc
    rw [e, e]
    grind
theorem bz_scale (a b : Int) : ∀ i j, bz (F.map (a * ·)) (G.map (b * ·)) i j = a * b * bz F G i j
  | 0, j => by
    show cc (F.map (a * ·)) (G.map (b * ·)) 0 (j + 1) = a * b * cc F G 0 (j + 1)
    unfold cc
    rw [co_scale, co_scale, co_scale, co_scale]
    grind
  | i + 1, j => by
    show cc (F.map (a * ·)) (G.map (b * ·)) (i + 1) (j + 1) + bz (F.map (a * ·)) (G.map (b * ·)) i (j + 1) = a * b * (cc F G (i + 1) (j + 1) + bz F G i (j + 1))
    rw [bz_scale a b i (j + 1)]
    unfold cc
    rw [co_scale, co_scale, co_scale, co_scale]
    grind
theorem bz_zeroF (z : ∀ i, co F i = 0) : ∀ i j, bz F G i j = 0
  | 0, j => by
    show cc F G 0 (j + 1) = 0
    unfold cc
    rw [z, z]
    omega
  | i + 1, j => by
    show cc F G (i + 1) (j + 1) + bz F G i (j + 1) = 0
    rw [bz_zeroF z i (j + 1)]
    unfold cc
    rw [z, z]
    omega
end
/-! ### determinants -/
theorem det_low : ∀ (t s : Nat) (P : Tab), (∀ i j, i < t → i < j → j < t + s → P i j = 0) → det (t + s) P = prd t (fun u => P u u) * det s fun i k => P (t + i) (t + k)
  | 0, s, L, _ => by
    show _ = 1 * _
    rw [Int.one_mul, Nat.zero_add]
    exact det_congr fun i j _ _ => by rw [Nat.zero_add, Nat.zero_add]
  | t + 1, s, L, h => by
    rw [show t + 1 + s = t + s + 1 by omega]
    show S (t + s + 1) _ = _
    rw [S_one (p := 0) (by omega) fun j hj c => by rw [h 0 j (by omega) (by omega) (by omega), Int.mul_zero, Int.zero_mul], prd_first]
    show 1 * L 0 0 * det (t + s) _ = _
    rw [Int.one_mul, det_low t s (fun i k => L (i + 1) (sk 0 k)) fun i u h1 h2 h3 => ?_, Int.mul_assoc]
    · congr 2
      exact det_congr fun i j _ _ => by
        rw [show sk 0 (t + j) = t + 1 + j by unfold sk; rw [if_neg (Nat.not_lt_zero _)]; omega, show t + i + 1 = t + 1 + i by omega]
    · rw [show sk 0 u = u + 1 by unfold sk; rw [if_neg (Nat.not_lt_zero u)]]
      exact h _ _ (by omega) (by omega) (by omega)
/-- the sign of rows that are turned over -/
def sgt : Nat → Int
  | 0 => 1
  | n + 1 => LA.sg n * sgt n
theorem sgt_sq : ∀ n, sgt n * sgt n = 1
  | 0 => rfl
  | n + 1 => by
    show LA.sg n * sgt n * (LA.sg n * sgt n) = 1
    have h1 := sgt_sq n
    have h2 := LA.sg_sq n
    grind
theorem det_anti : ∀ (n : Nat) (Q : Tab), (∀ i p, i + p + 1 < n → Q i p = 0) → det n Q = sgt n * prd n fun i => Q i (n - 1 - i)
  | 0, _, _ => rfl
  | n + 1, Q, h => by
    show S (n + 1) _ = _
    rw [S_one (p := n) (by omega) fun j hj c => by rw [h 0 j (by omega), Int.mul_zero, Int.zero_mul], prd_first, det_anti n (fun i k => Q (i + 1) (sk n k)) fun i p hp => ?_]
    · show LA.sg n * Q 0 n * (sgt n * _) = LA.sg n * sgt n * (Q 0 (n + 1 - 1 - 0) * _)
      rw [Nat.add_sub_cancel, Nat.sub_zero, prd_congr (n := n) (f := fun i => Q (i + 1) (sk n (n - 1 - i))) (g := fun i => Q (i + 1) (n - (i + 1))) fun i hi => by
        rw [show sk n (n - 1 - i) = n - (i + 1) by unfold sk; rw [if_pos (by omega)]; omega]]
      generalize prd n _ = p
      grind
    · rw [show sk n p = p by unfold sk; rw [if_pos (by omega)]]
      exact h _ _ (by omega)
theorem det_mod {t : Int} : ∀ {n : Nat} {A B : Tab}, (∀ i j, i < n → j < n → t ∣ A i j - B i j) → t ∣ det n A - det n B
  | 0, _, _, _ => ⟨0, by show (1 : Int) - 1 = t * 0; omega⟩
  | n + 1, A, B, h => by
    have : ∀ m, m ≤ n + 1 → t ∣ S m (fun j => LA.sg j * A 0 j * det n fun i k => A (i + 1) (sk j k)) - S m fun j => LA.sg j * B 0 j * det n fun i k => B (i + 1) (sk j k) := fun m => by
      induction m with
      | zero => intro _; exact ⟨0, by show (0 : Int) - 0 = t * 0; omega⟩
      | succ m ih =>
        intro hm
        obtain ⟨a, ea⟩ := ih (by omega)
        obtain ⟨b, eb⟩ := h 0 m (by omega) (by omega)
        obtain ⟨c, ec⟩ := det_mod (t := t) (n := n) (A := fun i k => A (i + 1) (sk m k)) (B := fun i k => B (i + 1) (sk m k)) fun i k hi hk => h _ _ (by omega) (sk_lt hk)
        refine ⟨a + LA.sg m * (b * det n (fun i k => A (i + 1) (sk m k)) + B 0 m * c), ?_⟩
        show (S m _ + LA.sg m * A 0 m * det n _) - (S m _ + LA.sg m * B 0 m * det n _) = _
        generalize det n (fun i k => A (i + 1) (sk m k)) = dA at *
        generalize det n (fun i k => B (i + 1) (sk m k)) = dB at *
        generalize S m (fun j => LA.sg j * A 0 j * det n fun i k => A (i + 1) (sk j k)) = sA at *
        generalize S m (fun j => LA.sg j * B 0 j * det n fun i k => B (i + 1) (sk j k)) = sB at *
        grind
    exact this (n + 1) (Nat.le_refl _)
theorem prd_ne {f : Nat → Int} : ∀ {n : Nat}, (∀ i, i < n → f i ≠ 0) → prd n f ≠ 0
  | 0, _ => by show (1 : Int) ≠ 0; decide
  | n + 1, h => Int.mul_ne_zero (prd_ne fun i hi => h i (by omega)) (h n (by omega))
theorem S_shift (h : Nat → Int) (a : Nat) : ∀ b, S (a + b) (fun q => if a ≤ q then h (q - a) else 0) = S b h := fun b => by
  rw [S_split, S_zero fun i hi => by rw [if_neg (by omega)], Int.zero_add]
  exact S_congr fun i _ => by rw [if_pos (by omega), Nat.add_sub_cancel_left]
theorem det_bz0 {F G : List Int} {n : Nat} (lF : F.length = n + 1) (lG : G.length = n + 1) (n1 : 1 ≤ n) (f0 : co F 0 ≠ 0) : det n (bz F G) = sgt n * Res F G := by
  obtain ⟨d, hd⟩ : ∃ d, d + 1 = n + n := ⟨n + n - 1, by omega⟩
  let P : Tab := fun i p => if i < n then idT i p else if p < n then (if n - 1 - (i - n) ≤ p then - co G (p - (n - 1 - (i - n))) else 0) else if n - 1 - (i - n) ≤ p - n then co F (p - n - (n - 1 - (i - n))) else 0
  have rw0 : ∀ p, p < n → row (urows F G d) p = shi n (co F) p := fun p hp => by
    rw [row_urows (by omega) (by omega) (by omega), if_pos (by omega), lF, Nat.add_sub_cancel]
  have rw1 : ∀ q, q < n → row (urows F G d) (n + q) = shi n (co G) q := fun q hq => by
    rw [row_urows (by omega) (by omega) (by omega), if_neg (by omega), lG, Nat.add_sub_cancel, show n + q - (d + 2 - F.length) = q by omega]
  have shv : ∀ (X : List Int), X.length = n + 1 → ∀ p j, shi n (co X) p j = if p ≤ j then co X (j - p) else 0 := fun X hX p j => by
    unfold shi
    by_cases c : p ≤ j
    · rw [if_pos c]
      by_cases e : j - p ≤ n
      · rw [if_pos ⟨c, e⟩]
      · rw [if_neg (fun z => e z.2), co_far (by omega)]
    · rw [if_neg c, if_neg (fun z => c z.1)]
  -- the rows of the product
  have m0 : ∀ i j, i < n → mulT (n + n) P (row (urows F G d)) i j = shi n (co F) i j := fun i j hi => by
    unfold mulT
    rw [S_one (p := i) (by omega) fun k hk c => by
      show (if i < n then idT i k else _) * _ = 0
      rw [if_pos hi, show idT i k = 0 from if_neg (Ne.symm c), Int.zero_mul]]
    show (if i < n then idT i i else _) * _ = _
    rw [if_pos hi, show idT i i = 1 from if_pos rfl, Int.one_mul, rw0 i hi]
  have m1 : ∀ i j, i < n → mulT (n + n) P (row (urows F G d)) (n + i) j = S (i + 1) fun k => if n - 1 - i + k ≤ j then cc F G k (j - (n - 1 - i) - k) else 0 := fun i j hi => by
    have hp0 : ∀ p, p < n → P (n + i) p = if n - 1 - i ≤ p then - co G (p - (n - 1 - i)) else 0 := fun p hp => by
      show (if n + i < n then _ else if p < n then _ else _) = _
      rw [if_neg (by omega), if_pos hp, Nat.add_sub_cancel_left]
    have hp1 : ∀ q, P (n + i) (n + q) = if n - 1 - i ≤ q then co F (q - (n - 1 - i)) else 0 := fun q => by
      show (if n + i < n then _ else if n + q < n then _ else _) = _
      rw [if_neg (by omega), if_neg (by omega), Nat.add_sub_cancel_left, Nat.add_sub_cancel_left]
    unfold mulT
    rw [S_split, ← S_add, show S n = S (n - 1 - i + (i + 1)) by rw [show n - 1 - i + (i + 1) = n by omega], ← S_shift (fun k => if n - 1 - i + k ≤ j then cc F G k (j - (n - 1 - i) - k) else 0) (n - 1 - i)]
    refine S_congr fun q hq => ?_
    have hq : q < n := by omega
    rw [hp0 q hq, hp1 q, rw0 q hq, rw1 q hq, shv F lF, shv G lG]
    by_cases c : n - 1 - i ≤ q
    · rw [if_pos c, if_pos c, if_pos c]
      by_cases e : q ≤ j
      · rw [if_pos e, if_pos e, if_pos (by omega), show j - (n - 1 - i) - (q - (n - 1 - i)) = j - q by omega]
        unfold cc
        grind
      · rw [if_neg e, if_neg e, if_neg (by omega)]
        omega
    · rw [if_neg c, if_neg c, if_neg c]
      omega
  have z1 : ∀ i j, i < n → j < n → mulT (n + n) P (row (urows F G d)) (n + i) j = 0 := fun i j hi hj => by
    rw [m1 i j hi]
    by_cases c : n - 1 - i ≤ j
    · rw [show i + 1 = (j - (n - 1 - i) + 1) + (n - 1 - j) by omega, S_far fun k hk => if_neg (by omega)]
      rw [S_congr (g := fun k => cc F G k (j - (n - 1 - i) - k)) fun k hk => if_pos (by omega)]
      exact cc_sum _
    · exact S_zero fun k _ => if_neg (by omega)
  have b1 : ∀ i k, i < n → k < n → mulT (n + n) P (row (urows F G d)) (n + i) (n + k) = bz F G i k := fun i k hi hk => by
    rw [m1 i (n + k) hi, bz_S]
    exact S_congr fun q hq => by rw [if_pos (by omega), show n + k - (n - 1 - i) = i + k + 1 by omega]
  have dM := det_up n n (mulT (n + n) P (row (urows F G d))) fun i u h1 h2 h3 => by
    by_cases c : i < n
    · rw [m0 i u c, shv F lF, if_neg (by omega)]
    · rw [show i = n + (i - n) by omega]
      exact z1 _ u (by omega) h1
  rw [det_congr (n := n) fun i k hi hk => b1 i k hi hk, prd_congr (g := fun _ => co F 0) fun i hi => by rw [m0 i i hi, shv F lF, if_pos (Nat.le_refl _), Nat.sub_self]] at dM
  have dP := det_low n n P fun i j h1 h2 h3 => by
    show (if i < n then idT i j else _) = 0
    rw [if_pos h1]
    exact if_neg (by omega)
  rw [prd_congr (g := fun _ => 1) fun i hi => by
    show (if i < n then idT i i else _) = 1
    rw [if_pos hi]
    exact if_pos rfl, det_anti n _ fun i p hip => ?_, prd_congr (f := fun i => P (n + i) (n + (n - 1 - i))) (g := fun _ => co F 0) fun i hi => ?_] at dP
  · rw [det_mul, dP] at dM
    have one : ∀ m, prd m (fun _ => (1 : Int)) = 1 := fun m => by
      induction m with
      | zero => rfl
      | succ m ih =>
        show prd m _ * 1 = 1
        rw [ih]
        rfl
    rw [one] at dM
    have nz : prd n (fun _ => co F 0) ≠ 0 := prd_ne fun _ _ => f0
    have eR : Res F G = det (n + n) (row (urows F G d)) := by
      unfold Res
      rw [show F.length + G.length - 2 = n + n by omega, show F.length + G.length - 3 = d by omega]
    rw [← eR] at dM
    refine Int.eq_of_mul_eq_mul_left nz ?_
    generalize prd n (fun _ => co F 0) = p at *
    rw [← dM]
    grind
  · show (if n + i < n then _ else if n + (n - 1 - i) < n then _ else _) = co F 0
    rw [if_neg (by omega), if_neg (by omega), if_pos (by omega), show n + (n - 1 - i) - n - (n - 1 - (n + i - n)) = 0 by omega]
  · show (if n + i < n then _ else if n + p < n then _ else _) = 0
    rw [if_neg (by omega), if_neg (by omega), if_neg (by omega)]
theorem bz_mod {t : Int} {A F G : List Int} (e : ∀ i, t ∣ co A i - co F i) : ∀ i j, t ∣ bz A G i j - bz F G i j
  | 0, j => by
    obtain ⟨a, ea⟩ := e 0
    obtain ⟨b, eb⟩ := e (j + 1)
    refine ⟨a * co G (j + 1) - b * co G 0, ?_⟩
    show cc A G 0 (j + 1) - cc F G 0 (j + 1) = _
    unfold cc
    grind
  | i + 1, j => by
    obtain ⟨c, ec⟩ := bz_mod e i (j + 1) (G := G)
    obtain ⟨a, ea⟩ := e (i + 1)
    obtain ⟨b, eb⟩ := e (j + 1)
    refine ⟨a * co G (j + 1) - b * co G (i + 1) + c, ?_⟩
    show cc A G (i + 1) (j + 1) + bz A G i (j + 1) - (cc F G (i + 1) (j + 1) + bz F G i (j + 1)) = _
    unfold cc
    grind
theorem res_mod {t : Int} {A F G : List Int} (h : A.length = F.length) (f1 : 1 ≤ F.length) (g1 : 1 ≤ G.length) (e : ∀ i, t ∣ co A i - co F i) : t ∣ Res A G - Res F G := by
  unfold Res
  rw [h]
  refine det_mod fun i j hi hj => ?_
  by_cases c : F.length + G.length < 3
  · rw [show F.length + G.length - 2 = 0 by omega] at hi
    omega
  obtain ⟨d, hd⟩ : ∃ d, F.length + G.length = d + 3 := ⟨F.length + G.length - 3, by omega⟩
  rw [show F.length + G.length - 3 = d by omega, row_urows (by omega) g1 (by omega), row_urows f1 g1 (by omega), h]
  by_cases c : i < d + 2 - F.length
  · rw [if_pos c, if_pos c]
    unfold shi
    split
    · exact e _
    · exact ⟨0, by omega⟩
  · rw [if_neg c, if_neg c]
    exact ⟨0, by omega⟩
/-- the determinant of a Bezout table -/
theorem det_bz {F G : List Int} {n : Nat} (lF : F.length = n + 1) (lG : G.length = n + 1) (n1 : 1 ≤ n) : det n (bz F G) = sgt n * Res F G := by
  by_cases f0 : co F 0 = 0
  · match F, lF, f0 with
    | a :: r, lF, f0 =>
      have f0 : a = 0 := f0
      subst f0
      obtain ⟨t, ht⟩ : ∃ t : Int, t = ((det n (bz (0 :: r) G) - sgt n * Res (0 :: r) G).natAbs : Int) + 1 := ⟨_, rfl⟩
      have t0 : t ≠ 0 := by omega
      have e : ∀ i, t ∣ co (t :: r) i - co (0 :: r) i := fun i => by
        cases i with
        | zero => exact ⟨1, by show t - 0 = t * 1; omega⟩
        | succ i => exact ⟨0, by show co r i - co r i = t * 0; omega⟩
      have h1 := det_bz0 (F := t :: r) (G := G) lF lG n1 t0
      obtain ⟨a, ea⟩ := det_mod (n := n) (A := bz (t :: r) G) (B := bz (0 :: r) G) fun i j _ _ => bz_mod (G := G) e i j
      obtain ⟨b, eb⟩ := res_mod (A := t :: r) (F := 0 :: r) (G := G) rfl (by omega) (by omega) e
      have hd : t ∣ det n (bz (0 :: r) G) - sgt n * Res (0 :: r) G := ⟨sgt n * b - a, by
        generalize det n (bz (t :: r) G) = x at *
        generalize det n (bz (0 :: r) G) = y at *
        generalize Res (t :: r) G = z at *
        generalize Res (0 :: r) G = w at *
        grind⟩
      have : det n (bz (0 :: r) G) - sgt n * Res (0 :: r) G = 0 := Classical.byContradiction fun ne => by
        have := Int.le_of_dvd (b := ((det n (bz (0 :: r) G) - sgt n * Res (0 :: r) G).natAbs : Int)) (by omega) (Int.dvd_natAbs.mpr hd)
        omega
      omega
  · exact det_bz0 lF lG n1 f0
end K76

set_option Elab.async false
set_option linter.all false
set_option maxRecDepth 100000
set_option maxHeartbeats 2000000
set_option exponentiation.threshold 20000
/-! plain: the rank of a Bezout table, by the common form -/
namespace K76
open PySem PySem.Spec PyProof.Rows L2 FDivQ LA
theorem cv_S (g : Nat → Int) : ∀ (l : List Int) (k : Nat), cv l g k = S (k + 1) fun b => g b * co l (k - b)
  | [], k => (S_zero fun b _ => by rw [show co [] (k - b) = 0 from rfl, Int.mul_zero]).symm
  | x :: xs, 0 => by
    rw [cv_zero]
    show x * g 0 = 0 + g 0 * x
    rw [Int.zero_add, Int.mul_comm]
  | x :: xs, k + 1 => by
    rw [cv_succ, cv_S g xs k]
    show _ = S (k + 1) _ + g (k + 1) * co (x :: xs) (k + 1 - (k + 1))
    rw [Nat.sub_self, show co (x :: xs) 0 = x from rfl, Int.add_comm, Int.mul_comm x]
    congr 1
    exact S_congr fun b hb => by rw [show k + 1 - b = (k - b) + 1 by omega]; rfl
/-- twice -/
def cv2 (D : List Int) (t : Nat → Nat → Int) (i j : Nat) : Int := cv D (fun a => cv D (t a) j) i
theorem cv2_sub (D : List Int) (s t : Nat → Nat → Int) (i j : Nat) : cv2 D (fun a b => s a b - t a b) i j = cv2 D s i j - cv2 D t i j := by
  have h : cv2 D (fun a b => s a b - t a b) i j = cv2 D s i j + -1 * cv2 D t i j := by
    unfold cv2
    rw [← cv_mul, ← cv_add]
    refine cv_ext D (fun a => ?_) i
    rw [← cv_mul, ← cv_add]
    exact cv_ext D (fun b => by show s a b - t a b = s a b + -1 * t a b; omega) j
  omega
theorem cv_com (D : List Int) (t : Nat → Nat → Int) (i j : Nat) : cv2 D t i j = cv D (fun b => cv D (fun a => t a b) i) j := by
  unfold cv2
  rw [cv_S, cv_S]
  rw [S_congr (g := fun a => S (j + 1) fun b => t a b * co D (j - b) * co D (i - a)) fun a _ => by rw [cv_S, ← S_mulr], S_swap]
  refine S_congr fun b _ => ?_
  rw [cv_S, ← S_mulr]
  exact S_congr fun a _ => by grind
/-- products with one form -/
theorem bz_ml {D f g : List Int} (nf : f ≠ []) (ng : g ≠ []) : ∀ i j, bz (ml D f) (ml D g) i j = cv2 D (bz f g) i j := by
  have c2 : ∀ i j, cc (ml D f) (ml D g) i j = cv2 D (cc f g) i j := fun i j => by
    have e : ∀ a b : Nat → Int, cv2 D (fun i j => a i * b j) i j = cv D a i * cv D b j := fun a b => by
      unfold cv2
      rw [cv_ext D (g := fun x => cv D (fun y => a x * b y) j) (h := fun x => cv D b j * a x) fun x => by rw [cv_mul, Int.mul_comm], cv_mul, Int.mul_comm]
    have h := cv2_sub D (fun i j => co f i * co g j) (fun i j => co g i * co f j) i j
    rw [e, e] at h
    unfold cc
    rw [co_ml nf, co_ml ng, co_ml nf, co_ml ng, show (fun i j => co f i * co g j - co f j * co g i) = fun i j => co f i * co g j - co g i * co f j from funext fun i => funext fun j => by rw [Int.mul_comm (co f j)], h]
    grind
  have r : ∀ i j, cc (ml D f) (ml D g) i (j + 1) = cv2 D (bz f g) i j - sh (fun a => cv2 D (bz f g) a (j + 1)) i := fun i j => by
    rw [c2, show cc f g = fun i j => sh (bz f g i) j - sh (fun a => bz f g a j) i from funext fun i => funext fun j => bz_rule i j, cv2_sub]
    congr 1
    · unfold cv2
      exact cv_ext D (fun a => by rw [cv_sh]; rfl) i
    · unfold cv2
      rw [← cv_sh]
      refine cv_ext D (fun a => ?_) i
      cases a with
      | zero => exact cv_zeroF D _
      | succ a => rfl
  intro i
  induction i with
  | zero =>
    intro j
    show cc _ _ 0 (j + 1) = _
    rw [r]
    show _ - 0 = _
    omega
  | succ i ih =>
    intro j
    show cc _ _ (i + 1) (j + 1) + bz _ _ i (j + 1) = _
    rw [r, ih]
    show _ - cv2 D (bz f g) i (j + 1) + cv2 D (bz f g) i (j + 1) = _
    omega
def brow (F G : List Int) (n : Nat) : List (List Int) := (List.range n).map fun i => tb n (bz F G i)
theorem brow_len (F G : List Int) (n : Nat) : (brow F G n).length = n := by
  unfold brow
  rw [List.length_map, List.length_range]
theorem brow_w {F G : List Int} {n : Nat} : ∀ r ∈ brow F G n, r.length = n := fun r hr => by
  obtain ⟨i, _, rfl⟩ := List.mem_map.mp hr
  exact tb_len _ _
theorem row_brow {F G : List Int} {n i j : Nat} (hi : i < n) (hj : j < n) : row (brow F G n) i j = bz F G i j := by
  unfold row brow
  rw [List.getD_eq_getElem?_getD, List.getElem?_map, List.getElem?_range hi]
  show co (tb n (bz F G i)) j = _
  rw [co_tb, if_pos hj]
theorem S_to {f : Nat → Int} {a b : Nat} (h1 : ∀ i, a ≤ i → f i = 0) (h2 : ∀ i, b ≤ i → f i = 0) : S a f = S b f := by
  rw [← S_far h1 b, ← S_far h2 a, Nat.add_comm]
/-- the rank of a Bezout table whose forms are D f and D g, up to a factor, f and g apart -/
theorem rank_ml {D f g : List Int} {F G : List Int} {n m : Nat} {c : Int} (hc : c ≠ 0) (lf : f.length = m + 1) (lg : g.length = m + 1) (lD : D.length + m = n + 1) (nD : Nz (ev D)) (e : ∀ i j, c * bz F G i j = bz (ml D f) (ml D g) i j) (ap : 1 ≤ m → det m (bz f g) ≠ 0) :
    (ech lless (brow F G n) n).length = m := by
  have nf : f ≠ [] := fun z => by rw [z] at lf; cases lf
  have ng : g ≠ [] := fun z => by rw [z] at lg; cases lg
  have hT := told lePL (M := nm (brow F G n).flatten) brow_w fun r hr x hx => nm_mem (List.mem_flatten.mpr ⟨r, hr, hx⟩)
  have D1 : 1 ≤ D.length := Classical.byContradiction fun cc => by
    obtain ⟨x, y, h0⟩ := nD
    rw [List.length_eq_zero_iff.mp (show D.length = 0 by omega)] at h0
    exact h0 rfl
  -- the rows, told by the shifts of D
  have key : ∀ i j, c * bz F G i j = S m fun b => cv D (fun a => bz f g a b) i * shi (D.length - 1) (co D) b j := fun i j => by
    rw [e, bz_ml nf ng, cv_com, cv_S, S_congr (g := fun b => cv D (fun a => bz f g a b) i * shi (D.length - 1) (co D) b j) fun b hb => ?_]
    · refine S_to (fun b hb => ?_) fun b hb => ?_
      · rw [show shi (D.length - 1) (co D) b j = 0 from if_neg (by omega), Int.mul_zero]
      · rw [cv_ext D (h := fun _ => 0) (fun a => bz_far (by omega) (by omega) hb) i, cv_zeroF, Int.zero_mul]
    · congr 1
      unfold shi
      by_cases d : j - b ≤ D.length - 1
      · rw [if_pos ⟨by omega, d⟩]
      · rw [if_neg (by omega), co_far (by omega)]
  have up : (ech lless (brow F G n) n).length ≤ m := by
    refine steinitz hT.base.ind (B := shi (D.length - 1) (co D)) fun k hk => (hT.base.of k hk).trans fun i hi => ⟨c, hc, fun b => cv D (fun a => bz f g a b) i, fun j hj => ?_⟩
    rw [brow_len] at hi
    rw [row_brow hi hj, key]
  refine Nat.le_antisymm up ?_
  by_cases m0 : m = 0
  · omega
  obtain ⟨p, hp, lo⟩ : ∃ p, co D p ≠ 0 ∧ ∀ j, j < p → co D j = 0 := by
    obtain ⟨q, hq⟩ : ∃ q, co D q ≠ 0 := Classical.byContradiction fun c => by
      obtain ⟨x, y, h0⟩ := nD
      refine h0 (ev_zero (fun w hw => ?_) x y)
      obtain ⟨k, hk, ek⟩ := List.mem_iff_getElem.mp hw
      rw [← ek, ← co_get hk]
      exact Classical.byContradiction fun n => c ⟨k, n⟩
    obtain ⟨p, hp, lo⟩ := leastE (p := fun j => co D j ≠ 0) q hq
    exact ⟨p, hp, fun j hj => Classical.byContradiction fun n => lo j hj n⟩
  have hpl : p < D.length := Classical.byContradiction fun c => hp (co_far (by omega))
  -- m rows that are independent
  have sI := shifts_ind (d := D.length - 1) (m := m - 1) (g := co D) (p := p) (by omega) hp lo
  rw [show D.length - 1 + (m - 1) + 1 = n by omega, show m - 1 + 1 = m by omega] at sI
  let T : Tab := fun a a' => if a' ≤ a then co D (p + a - a') else 0
  have eL : ∀ a b, a < m → cv D (fun x => bz f g x b) (p + a) = mulT m T (bz f g) a b := fun a b ha => by
    unfold mulT
    rw [cv_S, S_congr (g := fun x => T a x * bz f g x b) fun x hx => ?_]
    · refine S_to (fun x hx => ?_) fun x hx => ?_
      · rw [show T a x = 0 from if_neg (by omega), Int.zero_mul]
      · rw [bz_sym, bz_far (by omega) (by omega) hx, Int.mul_zero]
    · show _ = (if x ≤ a then co D (p + a - x) else 0) * _
      by_cases c : x ≤ a
      · rw [if_pos c, Int.mul_comm]
      · rw [if_neg c, lo _ (by omega), Int.mul_zero, Int.zero_mul]
  have dL : det m (mulT m T (bz f g)) ≠ 0 := by
    rw [det_mul, det_diagL fun i u h1 h2 => if_neg (by omega)]
    refine Int.mul_ne_zero (prd_ne fun i hi => ?_) (ap (by omega))
    show (if i ≤ i then co D (p + i - i) else 0) ≠ 0
    rw [if_pos (Nat.le_refl _), Nat.add_sub_cancel]
    exact hp
  have iL := det_ind.mp dL
  refine steinitz (w := n) (A := fun a => row (brow F G n) (p + a)) (fun al ha => iL al fun b hb => ?_) fun a ha => hT.base.to _ (by rw [brow_len]; omega)
  refine sI (fun b => S m fun a => al a * mulT m T (bz f g) a b) (fun j hj => ?_) b hb
  have h := ha j hj
  rw [S_congr (g := fun b => S m fun a => al a * (mulT m T (bz f g) a b * shi (D.length - 1) (co D) b j)) fun b _ => by rw [← S_mulr]; exact S_congr fun a _ => Int.mul_assoc _ _ _, S_swap, S_congr (g := fun a => c * (al a * row (brow F G n) (p + a) j)) fun a ha => ?_, S_mul, h, Int.mul_zero]
  rw [S_mul, S_congr (f := fun k => mulT m T (bz f g) a k * shi (D.length - 1) (co D) k j) (g := fun b => cv D (fun x => bz f g x b) (p + a) * shi (D.length - 1) (co D) b j) fun b _ => by rw [eL a b ha], ← key, row_brow (by omega) hj]
  grind
/-- the rank tells the degree of the common form -/
theorem rank_bz {F G T : List Int} {n : Nat} (lF : F.length = n + 1) (lG : G.length = n + 1) (n1 : 1 ≤ n) (nF : Nz (ev F)) (nG : Nz (ev G)) (h : Com F.length G.length T.length (ev F) (ev G) (ev T)) (cm : ∀ X Y : List Int, Nz (ev X) → Nz (ev Y) → ∃ Z : List Int, Com X.length Y.length Z.length (ev X) (ev Y) (ev Z) ∧ Full X.length Y.length Z.length (ev X) (ev Y) (ev Z)) :
    (ech lless (brow F G n) n).length + T.length = n + 1 := by
  have tf := h.df.le nF
  have t1 : 1 ≤ T.length := Classical.byContradiction fun c => by
    obtain ⟨x, y, h0⟩ := h.nz
    rw [List.length_eq_zero_iff.mp (show T.length = 0 by omega)] at h0
    exact h0 rfl
  obtain ⟨m, hm⟩ : ∃ m, T.length + m = n + 1 := ⟨n + 1 - T.length, by omega⟩
  obtain ⟨a, A, a0, hA, eA⟩ := h.df
  obtain ⟨b, B, b0, hB, eB⟩ := h.dg
  obtain ⟨f, lf, ef⟩ := hA.list
  obtain ⟨g, lg, eg⟩ := hB.list
  have lf : f.length = m + 1 := by omega
  have lg : g.length = m + 1 := by omega
  have nf : f ≠ [] := fun z => by rw [z] at lf; cases lf
  have ng : g ≠ [] := fun z => by rw [z] at lg; cases lg
  have nT : T ≠ [] := fun z => by rw [z] at t1; cases t1
  have e1 : F.map (a * ·) = ml T f := ev_inj (by rw [List.length_map, ml_len]; omega) fun x y => by rw [ev_map, ev_ml nT nf, ef, eA]
  have e2 : G.map (b * ·) = ml T g := ev_inj (by rw [List.length_map, ml_len]; omega) fun x y => by rw [ev_map, ev_ml nT ng, eg, eB]
  have nzf : Nz (ev f) := by
    obtain ⟨x, y, h0⟩ := nF
    refine ⟨x, y, fun z => ?_⟩
    have := eA x y
    rw [← ef, z, Int.mul_zero] at this
    exact (Int.mul_eq_zero.mp this).elim a0 h0
  have nzg : Nz (ev g) := by
    obtain ⟨x, y, h0⟩ := nG
    refine ⟨x, y, fun z => ?_⟩
    have := eB x y
    rw [← eg, z, Int.mul_zero] at this
    exact (Int.mul_eq_zero.mp this).elim b0 h0
  have := rank_ml (D := T) (f := f) (g := g) (F := F) (G := G) (n := n) (m := m) (c := a * b) (Int.mul_ne_zero a0 b0) lf lg (by omega) h.nz (fun i j => by rw [← bz_scale, e1, e2]) fun m1 z => ?_
  · omega
  -- forms that are apart
  rw [det_bz lf lg m1] at z
  have r0 : Res f g = 0 := by
    rcases Int.mul_eq_zero.mp z with q | q
    · have := sgt_sq m
      rw [q] at this
      exact absurd this (by decide)
    · exact q
  obtain ⟨Z, hZ, full⟩ := cm f g nzf nzg
  have lt := (res_zero (by omega) (by omega)).mp r0
  obtain ⟨d, hd⟩ : ∃ d, f.length + g.length = d + 3 := ⟨f.length + g.length - 3, by omega⟩
  have rk := full_rank hd (by omega) (by omega) nzf nzg hZ.nz hZ.df hZ.dg full
  rw [show f.length + g.length - 3 = d by omega, show f.length + g.length - 2 = d + 1 by omega] at lt
  -- the greater divisor
  have Z1 : 1 ≤ Z.length := by omega
  have nZ : Z ≠ [] := fun z => by rw [z] at Z1; cases Z1
  have dvF : Dv (T.length + Z.length - 1) F.length (fun x y => ev T x y * ev Z x y) (ev F) := by
    have q := (Dv.self (n := T.length) (ev T)).mul hZ.df t1 Z1 t1 (by omega)
    rw [show T.length + f.length - 1 = F.length by omega] at q
    exact q.congr (a := 1) (b := a) (by decide) (fun x y => by rw [eA, ef]; omega) a0
  have dvG : Dv (T.length + Z.length - 1) G.length (fun x y => ev T x y * ev Z x y) (ev G) := by
    have q := (Dv.self (n := T.length) (ev T)).mul hZ.dg t1 Z1 t1 (by omega)
    rw [show T.length + g.length - 1 = G.length by omega] at q
    exact q.congr (a := 1) (b := b) (by decide) (fun x y => by rw [eB, eg]; omega) b0
  have hTZ : Fm (T.length + Z.length - 1) fun x y => ev T x y * ev Z x y := (Fm.of T).mul (Fm.of Z) (by omega)
  have nTZ : Nz fun x y => ev T x y * ev Z x y := by
    refine Classical.byContradiction fun c => ?_
    have h0 := (Fm.of T).can0 h.nz (Fm.of Z) fun x y => Classical.byContradiction fun ne => c ⟨x, y, ne⟩
    obtain ⟨x, y, q⟩ := hZ.nz
    exact q (h0 x y)
  have := (h.most hTZ nTZ dvF dvG).le h.nz
  omega
theorem rank_bz0 {F G : List Int} {n : Nat} (z : ∀ i j, bz F G i j = 0) : (ech lless (brow F G n) n).length = 0 := by
  have hT := told lePL (M := nm (brow F G n).flatten) brow_w fun r hr x hx => nm_mem (List.mem_flatten.mpr ⟨r, hr, hx⟩)
  have := steinitz (m := 0) (B := fun _ _ => 0) hT.base.ind fun k hk => (hT.base.of k hk).trans fun i hi => ⟨1, by decide, fun _ => 0, fun j hj => by
    rw [brow_len] at hi
    rw [row_brow hi hj, z]
    rfl⟩
  omega
end K76

set_option Elab.async false
set_option linter.all false
set_option maxRecDepth 100000
set_option maxHeartbeats 4000000
set_option exponentiation.threshold 10000
/-! Bezout tables -/
namespace K76
open PySem PySem.Spec PyProof.Rows L2 StX RZ MyR SlX OwnR OwnF EnumT SeqE GxR GenNx FDivQ LA
theorem repL {p : Addr} {H : Hp} {z : Int} {m : Nat} {R : VK} (hp : H p = some (ls [0])) (hz : z = (m : Int)) (hm : m ≤ 100) (k : ∀ q H', Same H H' → H' q = some (ls (List.replicate m 0)) → R (.ref q) H') : rRep (.ref p) (.int z) H R := by
  subst hz
  refine ⟨p, _, [V.int 0], rfl, rfl, hp, by omega, by omega, ?_, fun q nq => k q _ (same_upd0 nq) ?_⟩
  · exact Nat.le_trans (show [V.int 0].length * ((m : Nat) : Int).toNat ≤ 100 by rw [List.length_singleton]; omega) (by decide)
  · rw [upd_same, Int.toNat_natCast, List.flatten_replicate_singleton]
    show some (HO.lst _) = some (HO.lst (List.map V.int _))
    rw [List.map_replicate]
/-- the row above -/
def abv (F G : List Int) (n : Nat) : Nat → List Int
  | 0 => List.replicate (n + 1) 0
  | i + 1 => tb n (bz F G i) ++ [0]
theorem abv_len (F G : List Int) (n i : Nat) : (abv F G n i).length = n + 1 := by
  cases i with
  | zero => exact List.length_replicate
  | succ i =>
    show (tb n _ ++ [0]).length = _
    rw [List.length_append, tb_len]
    rfl
theorem abv_co {F G : List Int} {n i j : Nat} (lF : F.length = n + 1) (lG : G.length = n + 1) (hi : i < n) (hj : j < n) : cc F G i (j + 1) + co (abv F G n i) (j + 1) = bz F G i j := by
  cases i with
  | zero =>
    show cc F G 0 (j + 1) + co (List.replicate (n + 1) 0) (j + 1) = cc F G 0 (j + 1)
    rw [co_z]
    omega
  | succ i =>
    show cc F G (i + 1) (j + 1) + co (tb n (bz F G i) ++ [0]) (j + 1) = cc F G (i + 1) (j + 1) + bz F G i (j + 1)
    congr 1
    rw [co_app, tb_len]
    by_cases c : j + 1 < n
    · rw [if_pos c, co_tb, if_pos c]
    · rw [if_neg c, show j + 1 - n = 0 by omega, bz_far (n := n) (by omega) (by omega) (by omega)]
      rfl
section
variable {P : Program} {w : World} {K : PySem.W.Frag} {mg : Str → Option Value} {base : Heap} {Ps : List Addr}
def spBezIn : Sp := fun vs H Q _ => ∃ (a b : Addr) (F G : List Int) (n : Nat), vs = [.ref a, .ref b] ∧ H a = some (tp F) ∧ H b = some (tp G) ∧ F.length = n + 1 ∧ G.length = n + 1 ∧ 1 ≤ n ∧ n ≤ 20 ∧ (∀ z ∈ F, sm z) ∧ (∀ z ∈ G, sm z) ∧ ∀ p bs H', Same H H' → H' p = some (.lst (bs.map V.ref)) → RR H' bs (brow F G n) → Q (.ref p) H'
theorem ok_bezout_in (T : Facts K mg) : FnOk P w K mg base CX0 1 T.f_bezout_in T.fd_bezout_in ["one", "other"] spBezIn := by
  refine T.F_bezout_in.ok sc_bezout_in (fun vs H Q E h => ?_) (fun cdv A outer s H vs Q E hr h => ?_)
  · obtain ⟨a, b, F, G, n, rfl, _⟩ := h
    rfl
  · obtain ⟨a, b, F, G, n, rfl, ha, hb, lF, lG, n1, n20, sF, sG, q⟩ := h
    refine ⟨_, (PSs.nox (pss_cons (ps_par (i := 2) (j := 3) (by rfl) sc_bezout_in.nd rfl rfl (by decide) rfl rfl (pa_cons (pe_op op_sub (pe_callB call_len_seq (by rfl) T.z_len (by decide +kernel) (pa_cons (pv 0) pa_nil)) pe_int) (pa_cons (pe_lst pa_nil) pa_nil)) (by rfl))
    (pss_cons (ps_set (i := 4) sc_bezout_in.nd rfl (.inr rfl) (pe_op op_rep (pe_lst (pa_cons pe_int pa_nil)) (pe_op op_add (pv 2) pe_int)))
    (pss_cons (ps_for PassesOwn.never (by rfl) (pi_range1 (by rfl) T.z_range (pa_cons (pv 2) pa_nil)) (pg_name (i := 5) sc_bezout_in.nd rfl (.inr rfl))
      (pss_cons (ps_setLc (i := 6) (own := [("j", 7)]) (g := (gName 7)) (tt := tYes) rfl sc_bezout_in.nd rfl rfl (sw_true rfl rfl rfl (by decide +kernel)) (pi_range1 (by rfl) T.z_range (pa_cons (pv 2) pa_nil)) (blkOk_by (N := N_bezout_in) (sc := defScope s_bezout_in) (by decide +kernel)) (fun _ _ _ _ _ => (pg_name (i := 7) sc_bezout_in.nd rfl (.inl rfl))) (fun _ _ _ _ _ => pts_nil) (fun _ _ _ _ _ => (pe_op op_add (pe_op op_sub (pe_op op_mulW (pe_ix (ix_tup : IxR _ (rIxT K)) (pv 0) (pv 5) (fun _ _ => rfl)) (pe_ix (ix_tup : IxR _ (rIxT K)) (pv 1) (pe_op op_add (pv 7) pe_int) (fun _ _ => rfl))) (pe_op op_mulW (pe_ix (ix_tup : IxR _ (rIxT K)) (pv 0) (pe_op op_add (pv 7) pe_int) (fun _ _ => rfl)) (pe_ix (ix_tup : IxR _ (rIxT K)) (pv 1) (pv 5) (fun _ _ => rfl)))) (pe_ix (ix_list : IxR _ (rIxL K)) (pv 4) (pe_op op_add (pv 7) pe_int) (fun _ _ => rfl)))))
      (pss_cons (ps_expr (pe_bm PySem.F.plainAttrs_list PySem.F.slot_list_append PySem.F.type_list_append mt_append (pv 3) (pa_cons (pv 6) pa_nil)))
      (pss_one (ps_set (i := 4) sc_bezout_in.nd rfl (.inr rfl) (pe_lst (pa_star (pv 6) (pa_cons pe_int pa_nil))))))))
    (pss_one (ps_ret (pv 3))))))), ?_⟩
    refine ⟨_, rfl, a, _, rfl, .inr (SqT.of ha), _, _, rfl, rfl, by decide, fun L nL => gen_upd H L (.lst []) nL fun H1 s1 e1 => ⟨_, _, rfl, ?_⟩⟩
    rw [List.length_map, lF, show (fun i j => V.int (i - j)) ((n + 1 : Nat) : Int) 1 = V.int (n : Int) from by show V.int _ = V.int _; congr 1; omega]
    refine ⟨sz1, fun p0 n0 => gen_upd H1 p0 (ls [0]) n0 fun H2 s2 e2 => ⟨_, rfl, _, _, rfl, rfl, repL (m := n + 1) e2 rfl (by omega) fun A0 H3 s3 e3 => ?_⟩⟩
    refine ⟨_, rfl, (n : Int), rfl, by omega, by omega, for_range (n := (n : Int).toNat) (fun i σ H' => ∃ (A : Addr) (bs : List Addr) (y5 y6 y7 : Option V), σ = [some (.ref a), some (.ref b), some (.int n), some (.ref L), some (.ref A), y5, y6, y7] ∧ Same H H' ∧ H' L = some (.lst (bs.map V.ref)) ∧ RR H' bs ((List.range i).map fun i => tb n (bz F G i)) ∧ H' A = some (ls (abv F G n i))) ⟨A0, [], none, none, none, rfl, s1.trans (s2.trans s3), s3 _ _ (s2 _ _ e1), True.intro, e3⟩ (fun i σ H' hi hP => ?_) (fun σ H' hP => ?_)⟩
    · obtain ⟨A, bs, y5, y6, y7, rfl, sH, hL, hR, hA⟩ := hP
      have hi : i < n := by omega
      rw [Int.zero_add]
      refine ⟨_, rfl, (n : Int), rfl, by omega, by omega, fun D hD => ?_⟩
      refine lc_range (n := (n : Int).toNat) (fun j H2 => Same H' H2 ∧ H2 D = some (ls (tb j (bz F G i)))) ⟨same_upd0 hD, upd_same⟩ (fun j H2 hj hP => ?_) (fun H2 hP => ?_)
      · obtain ⟨s2, hD2⟩ := hP
        have hj : j < n := by omega
        have ta := (sH.trans s2) _ _ ha
        have tb' := (sH.trans s2) _ _ hb
        have tA := s2 _ _ hA
        rw [Int.zero_add]
        refine ⟨rfl, _, rfl, _, rfl, a, _, i, _, rfl, rfl, SqT.of ta, atI_nat (j := i) (get_int (by omega)), _, rfl, _, rfl, _, _, rfl, rfl, b, _, j + 1, _, rfl, rfl, SqT.of tb', atI_nat (j := j + 1) (get_int (by omega)), _, _, rfl, rfl, sm_mul (sm_co sF (by omega)) (sm_co sG (by omega)), _, rfl, _, rfl, _, _, rfl, rfl, a, _, j + 1, _, rfl, rfl, SqT.of ta, atI_nat (j := j + 1) (get_int (by omega)), _, rfl, _, rfl, b, _, i, _, rfl, rfl, SqT.of tb', atI_nat (j := i) (get_int (by omega)), _, _, rfl, rfl, sm_mul (sm_co sF (by omega)) (sm_co sG (by omega)), _, _, rfl, rfl, _, rfl, _, rfl, _, _, rfl, rfl, A, _, j + 1, _, rfl, rfl, SqL.of tA, atI_nat (j := j + 1) (get_int (by rw [abv_len]; omega)), _, _, rfl, rfl, _, hD2, ?_, fun b o e => ?_, ?_⟩
        · rw [List.length_map, tb_len]
          exact small1000 (by omega)
        · rw [upd_ne (ne_of_none e hD)]
          exact s2 _ _ e
        · rw [upd_same, tb_snoc, ← abv_co lF lG hi hj]
          show some (HO.lst _) = some (HO.lst (List.map V.int _))
          rw [List.map_append]
          rfl
      · obtain ⟨s2, hD2⟩ := hP
        rw [Int.toNat_natCast] at hD2
        have hL2 := s2 _ _ hL
        have lb := RX.len hR
        rw [List.length_map, List.length_range] at lb
        have Dne : tb n (bz F G i) ≠ [] := fun z => by
          have := congrArg List.length z
          rw [tb_len] at this
          have : n = 0 := this
          omega
        refine ⟨_, rfl, .inl ⟨rfl, _, SqL.of hL2⟩, _, rfl, L, _, _, rfl, rfl, hL2, ?_, ?_⟩
        · rw [List.length_map]
          exact small1000 (by omega)
        obtain ⟨H3, h3⟩ : ∃ H3, H3 = upd H2 L (.lst (bs.map V.ref ++ [V.ref D])) := ⟨_, rfl⟩
        rw [← h3]
        have e3 : H3 L = some (.lst (bs.map V.ref ++ [V.ref D])) := by rw [h3, upd_same]
        have k3 : ∀ b, b ≠ L → H3 b = H2 b := fun b hb => by rw [h3, upd_ne hb]
        have r3 : RR H3 bs ((List.range i).map fun i => tb n (bz F G i)) := by
          rw [h3]
          exact RR.upd (hR.same s2) hL2 fun z => z
        clear h3
        have DL : D ≠ L := fun z => by
          rw [z, hL] at hD
          cases hD
        have hD3 : H3 D = some (ls (tb n (bz F G i))) := by rw [k3 _ DL]; exact hD2
        refine ⟨_, rfl, D, _, rfl, .inr (SqL.of hD3), ?_⟩
        refine ⟨?_, fun A2 nA => gen_upd H3 A2 _ nA fun H4 s4 e4 => ?_⟩
        · rw [List.length_append, List.length_map, tb_len]
          exact Nat.le_trans (m := 100) (by show n + 1 ≤ 100; omega) (by decide)
        refine ⟨A2, bs ++ [D], _, _, _, rfl, fun b o e => s4 _ _ (by rw [k3 _ (ne_of_none e nL)]; exact s2 _ _ (sH _ _ e)), ?_, ?_, ?_⟩
        · rw [s4 _ _ e3, List.map_append]
          rfl
        · rw [List.range_succ, List.map_append]
          exact RX.app (bs := [D]) (ss := [tb n (bz F G i)]) ⟨s4 _ _ hD3, True.intro⟩ (r3.same s4)
        · rw [e4]
          show _ = some (HO.lst (List.map V.int (tb n (bz F G i) ++ [0])))
          rw [List.map_append]
          rfl
    · obtain ⟨A, bs, y5, y6, y7, rfl, sH, hL, hR, hA⟩ := hP
      rw [Int.toNat_natCast] at hR
      exact ⟨_, rfl, q L bs H' sH hL hR⟩
end
end K76

set_option Elab.async false
set_option linter.all false
set_option maxRecDepth 100000
set_option maxHeartbeats 4000000
set_option exponentiation.threshold 10000
/-! Bezout tables, told -/
namespace K76
open PySem PySem.Spec PyProof.Rows L2 StX RZ MyR SlX OwnR OwnF EnumT SeqE GxR GenNx FDivQ LA
section
variable {P : Program} {w : World} {K : PySem.W.Frag} {mg : Str → Option Value} {base : Heap} {Ps : List Addr}
def spBez (C : Addr) : Sp := fun vs H Q _ => ∃ (a b : Addr) (F G : List Int) (n : Nat), vs = [.ref a, .ref b] ∧ Fo C H a F ∧ Fo C H b G ∧ F.length = n + 1 ∧ G.length = n + 1 ∧ 1 ≤ n ∧ n ≤ 20 ∧ (∀ z ∈ F, sm z) ∧ (∀ z ∈ G, sm z) ∧ ∀ p bs H', Same H H' → H' p = some (.tup (bs.map V.ref)) → RT H' bs (brow F G n) → Q (.ref p) H'
theorem ok_bezout_table (T : Facts K mg) : FnOk P w K mg base CX0 3 T.f_bezout_table T.fd_bezout_table ["one", "other"] (spBez T.C_Form) := by
  have G_require_two := ok_require_two (P := P) (w := w) (base := base) T
  have G_bezout_in := ok_bezout_in (P := P) (w := w) (base := base) T
  have G_Form_degree := ok_Form_degree (P := P) (w := w) (base := base) T
  have G_Form_entries : FnOk P w K mg base CX0 1 T.f_Form_entries T.fd_Form_entries ["self"] (spEnt T.C_Form) := ok_Form_entries T
  refine T.F_bezout_table.ok sc_bezout_table (fun vs H Q E h => ?_) (fun cdv A outer s H vs Q E hr h => ?_)
  · obtain ⟨a, b, F, G, n, rfl, _⟩ := h
    rfl
  · obtain ⟨a, b, F, G, n, rfl, fa, fb, lF, lG, n1, n20, sF, sG, q⟩ := h
    refine ⟨_, (PSs.nox (pss_cons (ps_expr (pe_call G_require_two hr (by rfl) T.g_require_two T.F_require_two.kp T.b_require_two .nil pass0 (pa_cons (pv 0) (pa_cons (pv 1) pa_nil))))
    (pss_cons (ps_if (pw_or (pt_cmpR op_ne (pe_prp (pv 0) T.oc_Form T.pr_Form_degree G_Form_degree T.b_Form_degree (hr.mono (by decide))) (pe_prp (pv 1) T.oc_Form T.pr_Form_degree G_Form_degree T.b_Form_degree (hr.mono (by decide))) (nomark _)) (pw_or1 (pt_cmpR op_eq (pe_prp (pv 0) T.oc_Form T.pr_Form_degree G_Form_degree T.b_Form_degree (hr.mono (by decide))) pe_int (nomark _)))).pt
      (pss_one ps_never)
      pss_nil)
    (pss_cons (ps_if (pt_cmpR op_gt (pe_prp (pv 0) T.oc_Form T.pr_Form_degree G_Form_degree T.b_Form_degree (hr.mono (by decide))) (pe_glob (v := .int 24) (by rfl) T.c_MAX_SUM.choose_spec ⟨_, rfl⟩) (nomark _))
      (pss_one ps_never)
      pss_nil)
    (pss_one (ps_ret (pe_tupleOf (by rfl) T.z_tuple (pe_lc (own := [("row", 2)]) (g := (gName 2)) (tt := tYes) (by rfl) sc_bezout_table.nd (pi_list (pe_call G_bezout_in (hr.mono (by decide)) (by rfl) T.g_bezout_in T.F_bezout_in.kp T.b_bezout_in .nil pass0 (pa_cons (pe_prp (pv 0) T.oc_Form T.pr_Form_entries G_Form_entries T.b_Form_entries (hr.mono (by decide))) (pa_cons (pe_prp (pv 1) T.oc_Form T.pr_Form_entries G_Form_entries T.b_Form_entries (hr.mono (by decide))) pa_nil)))) (blkOk_by (N := N_bezout_table) (sc := defScope s_bezout_table) (by decide +kernel)) (fun _ _ _ _ _ => (pg_name (i := 2) sc_bezout_table.nd rfl (.inl rfl))) (fun _ _ _ _ _ => pts_nil) (fun _ _ _ _ _ => (pe_tupleOf (by rfl) T.z_tuple (pv 2) : PE _ _ (tThen _ (kTup K)))))))))))), ?_⟩
    refine ⟨_, rfl, _, rfl, a, b, F, G, rfl, fa, fb, ?_⟩
    refine ⟨_, rfl, prop_deg fa ⟨_, rfl, prop_deg fb ⟨rfl, _, rfl, ?_⟩⟩⟩
    rw [lF, lG, decide_eq_true (rfl : V.int (((n + 1 : Nat) : Int) - 1) = V.int (((n + 1 : Nat) : Int) - 1))]
    refine iteF ⟨_, rfl, prop_deg fa ⟨rfl, _, rfl, ?_⟩⟩
    rw [lF, decide_eq_false (show ¬ V.int (((n + 1 : Nat) : Int) - 1) = V.int 0 from fun e => by have := V.int.inj e; omega)]
    refine iteF ⟨_, rfl, prop_deg fa ⟨_, _, rfl, rfl, _, rfl, ?_⟩⟩
    rw [lF, decide_eq_false (show ¬ (24 : Int) < ((n + 1 : Nat) : Int) - 1 by omega)]
    refine iteF ⟨_, rfl, prop_ent fa fun u hu => ⟨_, rfl, prop_ent fb fun v hv => ⟨u, v, F, G, n, rfl, hu, hv, lF, lG, n1, n20, sF, sG, fun p bs H1 s1 e1 r1 => ?_⟩⟩⟩
    refine ⟨p, rfl, ⟨_, SqL.of e1⟩, fun D hD => lc_rowsT (f := id) hD e1 r1 (by rw [brow_len]; omega) (fun _ => rfl) (fun ad r H2 Q2 hr2 s2 e2 kq => ⟨_, rfl, .inl ⟨ad, _, rfl, SqL.of e2, fun z nz => kq z _ (same_upd0 nz) upd_same⟩⟩) (fun cs H3 s3 e3 r3 => .inl ⟨D, _, rfl, SqL.of e3, fun z nz => gen_upd H3 z _ nz fun H4 s4 e4 => q z cs H4 (s1.trans (s3.trans s4)) e4 ?_⟩)⟩
    rw [List.map_id] at r3
    exact r3.same s4
end
end K76

set_option Elab.async false
set_option linter.all false
set_option maxRecDepth 100000
set_option maxHeartbeats 4000000
/-! rows that are changed in place (out of k13) -/
namespace K76
open PySem PySem.Spec PyProof.Rows L2 StX RZ MyR SlX OwnR OwnF EnumT SeqE
/-- all these addresses are free -/
def Fr (H : Hp) (rs : List Addr) : Prop := ∀ r ∈ rs, H r = none
theorem Fr.snoc {H : Hp} {rs : List Addr} {p : Addr} (h : Fr H rs) (hp : H p = none) : Fr H (rs ++ [p]) := fun r hr => by
  rcases List.mem_append.mp hr with e | e
  · exact h r e
  · rw [List.mem_singleton.mp e]
    exact hp
theorem tb_ext {n : Nat} {f g : Nat → Int} (h : ∀ k, k < n → f k = g k) : tb n f = tb n g := by
  unfold tb
  exact List.map_congr_left fun k hk => h k (List.mem_range.mp hk)
def Eqt (n m : Nat) (a b : Nat → Nat → Int) : Prop := ∀ i j, i < n → j < m → a i j = b i j
/-- fresh rows that may change -/
structure Gd (H0 H : Hp) (D : Addr) (rs : List Addr) (n m : Nat) (g : Nat → Nat → Int) : Prop where
  lst : H D = some (.lst (rs.map V.ref))
  len : rs.length = n
  row : ∀ k (h : k < rs.length), H rs[k] = some (.lst (tab m (g k)))
  free : Fr H0 rs
  nd : rs.Nodup
  fd : H0 D = none
  same : Same H0 H
theorem Gd.keep {H0 H H' : Hp} {D : Addr} {rs : List Addr} {n m : Nat} {g : Nat → Nat → Int} (h : Gd H0 H D rs n m g) (s : Same H H') : Gd H0 H' D rs n m g :=
  ⟨s _ _ h.lst, h.len, fun k hk => s _ _ (h.row k hk), h.free, h.nd, h.fd, h.same.trans s⟩
theorem Gd.cong {H0 H : Hp} {D : Addr} {rs : List Addr} {n m : Nat} {g f : Nat → Nat → Int} (h : Gd H0 H D rs n m g) (e : Eqt n m g f) : Gd H0 H D rs n m f :=
  ⟨h.lst, h.len, fun k hk => by rw [h.row k hk, tab_tb, tab_tb, tb_ext fun j hj => e k j (by have := h.len; omega) hj], h.free, h.nd, h.fd, h.same⟩
theorem Gd.ne {H0 H : Hp} {D : Addr} {rs : List Addr} {n m : Nat} {g : Nat → Nat → Int} (h : Gd H0 H D rs n m g) {p : Nat} (hp : p < rs.length) : D ≠ rs[p] := fun z => by
  have h1 := h.lst
  have h2 := h.row p hp
  rw [← z, h1] at h2
  have h3 := HO.lst.inj (Option.some.inj h2)
  have h4 : (rs.map V.ref)[0]? = some (V.ref rs[0]) := by
    rw [List.getElem?_map, List.getElem?_eq_getElem (show 0 < rs.length by omega)]
    rfl
  rw [h3] at h4
  have hm : 0 < m := by
    have := (List.getElem?_eq_some_iff.mp h4).1
    rwa [tab_len] at this
  rw [tab_get hm] at h4
  cases h4
theorem Gd.put {H0 H : Hp} {D : Addr} {rs : List Addr} {n m : Nat} {g : Nat → Nat → Int} (h : Gd H0 H D rs n m g) {p q : Nat} (hp : p < rs.length) (v : Int) :
    Gd H0 (upd H rs[p] (.lst ((tab m (g p)).set q (.int v)))) D rs n m fun i j => if i = p ∧ j = q then v else g i j := by
  refine ⟨by rw [upd_ne (h.ne hp)]; exact h.lst, h.len, fun k hk => ?_, h.free, h.nd, h.fd, fun b o e => ?_⟩
  · by_cases c : k = p
    · subst c
      rw [upd_same, tab_set]
      congr 2
      refine congrArg (tab m) (funext fun j => ?_)
      by_cases d : j = q
      · rw [if_pos d, if_pos ⟨rfl, d⟩]
      · rw [if_neg d, if_neg (fun z => d z.2)]
    · have ne : rs[k] ≠ rs[p] := fun z => c ((List.getElem_inj h.nd).mp z)
      rw [upd_ne ne, h.row k hk]
      congr 2
      refine congrArg (tab m) (funext fun j => ?_)
      rw [if_neg (fun z => c z.1)]
  · rw [upd_ne (ne_of_none e (h.free _ (List.getElem_mem hp)))]
    exact h.same _ _ e
/-- the crossed table so far -/
def cg (m : Nat) (t : Nat → Nat → Int) (i j p q : Nat) : Int := (if 1 ≤ q ∧ q ≤ m ∧ (p < i ∨ p = i ∧ q ≤ j) then t p (q - 1) else 0) - (if 1 ≤ p ∧ q < m ∧ (p ≤ i ∨ p = i + 1 ∧ q < j) then t (p - 1) q else 0)
theorem cg_0 (m : Nat) (t : Nat → Nat → Int) (p q : Nat) : cg m t 0 0 p q = 0 := by
  unfold cg
  rw [if_neg (by omega), if_neg (by omega)]
  rfl
theorem ite_iff {c d : Prop} [Decidable c] [Decidable d] {x : Int} (h : c ↔ d) : (if c then x else 0) = if d then x else 0 := by
  by_cases e : c
  · rw [if_pos e, if_pos (h.mp e)]
  · rw [if_neg e, if_neg (fun z => e (h.mpr z))]
theorem cg_next (m : Nat) (t : Nat → Nat → Int) (i p q : Nat) : cg m t i m p q = cg m t (i + 1) 0 p q := by
  unfold cg
  rw [ite_iff (c := 1 ≤ q ∧ q ≤ m ∧ (p < i ∨ p = i ∧ q ≤ m)) (d := 1 ≤ q ∧ q ≤ m ∧ (p < i + 1 ∨ p = i + 1 ∧ q ≤ 0)) (by omega), ite_iff (c := 1 ≤ p ∧ q < m ∧ (p ≤ i ∨ p = i + 1 ∧ q < m)) (d := 1 ≤ p ∧ q < m ∧ (p ≤ i + 1 ∨ p = i + 1 + 1 ∧ q < 0)) (by omega)]
theorem cg_step {m : Nat} {t : Nat → Nat → Int} {i j : Nat} (hj : j < m) (p q : Nat) :
    (if p = i + 1 ∧ q = j then cg m t i j (i + 1) j - t i j else if p = i ∧ q = j + 1 then cg m t i j i (j + 1) + t i j else cg m t i j p q) = cg m t i (j + 1) p q := by
  by_cases c : p = i + 1 ∧ q = j
  · obtain ⟨rfl, rfl⟩ := c
    rw [if_pos ⟨rfl, rfl⟩]
    unfold cg
    rw [if_neg (c := 1 ≤ q ∧ q ≤ m ∧ (i + 1 < i ∨ i + 1 = i ∧ q ≤ q)) (by omega), if_neg (c := 1 ≤ i + 1 ∧ q < m ∧ (i + 1 ≤ i ∨ i + 1 = i + 1 ∧ q < q)) (by omega), if_neg (c := 1 ≤ q ∧ q ≤ m ∧ (i + 1 < i ∨ i + 1 = i ∧ q ≤ q + 1)) (by omega), if_pos (c := 1 ≤ i + 1 ∧ q < m ∧ (i + 1 ≤ i ∨ i + 1 = i + 1 ∧ q < q + 1)) (by omega), Nat.add_sub_cancel]
    omega
  · rw [if_neg c]
    by_cases d : p = i ∧ q = j + 1
    · obtain ⟨rfl, rfl⟩ := d
      rw [if_pos ⟨rfl, rfl⟩]
      unfold cg
      rw [if_neg (c := 1 ≤ j + 1 ∧ j + 1 ≤ m ∧ (p < p ∨ p = p ∧ j + 1 ≤ j)) (by omega), if_pos (c := 1 ≤ j + 1 ∧ j + 1 ≤ m ∧ (p < p ∨ p = p ∧ j + 1 ≤ j + 1)) (by omega), ite_iff (c := 1 ≤ p ∧ j + 1 < m ∧ (p ≤ p ∨ p = p + 1 ∧ j + 1 < j)) (d := 1 ≤ p ∧ j + 1 < m ∧ (p ≤ p ∨ p = p + 1 ∧ j + 1 < j + 1)) (by omega), Nat.add_sub_cancel]
      omega
    · rw [if_neg d]
      unfold cg
      rw [ite_iff (c := 1 ≤ q ∧ q ≤ m ∧ (p < i ∨ p = i ∧ q ≤ j)) (d := 1 ≤ q ∧ q ≤ m ∧ (p < i ∨ p = i ∧ q ≤ j + 1)) (by omega), ite_iff (c := 1 ≤ p ∧ q < m ∧ (p ≤ i ∨ p = i + 1 ∧ q < j)) (d := 1 ≤ p ∧ q < m ∧ (p ≤ i ∨ p = i + 1 ∧ q < j + 1)) (by omega)]
theorem cg_end {F G : List Int} {n : Nat} (lF : F.length = n + 1) (lG : G.length = n + 1) : Eqt (n + 1) (n + 1) (cg n (bz F G) n 0) (cc F G) := fun p q hp hq => by
  unfold cg
  rw [bz_rule]
  congr 1
  · cases q with
    | zero => exact if_neg (by omega)
    | succ q =>
      show _ = bz F G p q
      by_cases c : p < n
      · rw [if_pos (by omega), Nat.add_sub_cancel]
      · rw [if_neg (by omega), bz_sym, bz_far (n := n) (by omega) (by omega) (by omega)]
  · cases p with
    | zero => exact if_neg (by omega)
    | succ p =>
      show _ = bz F G p q
      by_cases c : q < n
      · rw [if_pos (by omega), Nat.add_sub_cancel]
      · rw [if_neg (by omega), bz_far (n := n) (by omega) (by omega) (by omega)]
/-- a comprehension over range(n) that makes a list of each -/
theorem lc_rangeL {n : Nat} {f : Nat → List Int} {te : TE} {σ : _root_.L2.St} {k : Nat} {H1 : Hp} {D : Addr} {Qd : Hp → Prop} (hD : H1 D = none) (hl : n ≤ 100) (hf : ∀ i, i < n → f i ≠ [])
    (hw : ∀ x, wipe ((wipe σ [k]).set k (some x)) [k] = wipe σ [k])
    (hte : ∀ (i : Nat) (H2 : Hp) (Q : VK), i < n → Same H1 H2 → (∀ q H3, Same H2 H3 → H3 q = some (ls (f i)) → Q (.ref q) H3) → te ((wipe σ [k]).set k (some (.int (i : Nat)))) H2 Q)
    (hd : ∀ bs H6, Same H1 H6 → H6 D = some (.lst (bs.map V.ref)) → RR H6 bs ((List.range n).map f) → Qd H6) :
    ∃ W : Nat → Nat → Hp → Prop, (∃ m, W 0 m (upd H1 D (.lst []))) ∧ ∀ i m H, W i m H →
      ((Itr 0 n).stop i H ∧ Qd H) ∨ ((Itr 0 n).go i H ∧ ∃ Nx : Hp → Prop, (∀ H', Nx H' → ∃ m', m' < m ∧ W (i + 1) m' H') ∧ ∀ x H', (Itr 0 n).yld i H x H' → gName k x (wipe σ [k]) H' fun σ2 H2 => wipe σ2 [k] = wipe σ [k] ∧ tYes σ2 H2 fun b H3 =>
        if b = true then te σ2 H3 fun y H4 => ∃ acc, H4 D = some (.lst acc) ∧ acc.length < sizeLine ∧ Nx (upd H4 D (.lst (acc ++ [y]))) else Nx H3) := by
  refine lc_range (n := n) (fun j H' => j ≤ n ∧ ∃ bs, Same H1 H' ∧ H' D = some (.lst (bs.map V.ref)) ∧ bs.length = j ∧ RR H' bs ((List.range j).map f)) ⟨Nat.zero_le _, [], same_upd0 hD, upd_same, rfl, True.intro⟩ (fun j H' hj hP => ?_) (fun H' hP => ?_)
  · obtain ⟨jn, bs, s1, h1, h2, h3⟩ := hP
    rw [Int.zero_add]
    refine ⟨hw _, ?_⟩
    show te _ _ _
    refine hte j H' _ hj s1 fun q H3 s3 e4 => ⟨bs.map V.ref, s3 _ _ h1, ?_, hj, bs ++ [q], fun b o e => ?_, ?_, ?_, ?_⟩
    · rw [List.length_map, h2]
      exact small1000 (by omega)
    · rw [upd_ne (ne_of_none e hD)]
      exact s3 _ _ (s1 _ _ e)
    · rw [upd_same, List.map_append]
      rfl
    · rw [List.length_append, h2]
      rfl
    · rw [List.range_succ, List.map_append]
      have hD3 := s3 _ _ h1
      refine RX.snoc ((h3.same s3).updN fun a ha => ?_) ?_
      · obtain ⟨r, hr, e⟩ := RX.memA (h3.same s3) ha
        obtain ⟨i, hi, rfl⟩ := List.mem_map.mp hr
        exact row_ne2 e hD3 (hf i (by have := List.mem_range.mp hi; omega))
      · show upd H3 D _ q = _
        rw [upd_ne (row_ne2 e4 hD3 (hf j hj))]
        exact e4
  · obtain ⟨_, bs, s1, h1, h2, h3⟩ := hP
    exact hd bs H' s1 h1 h3
end K76

set_option Elab.async false
set_option linter.all false
set_option maxRecDepth 100000
set_option maxHeartbeats 4000000
set_option exponentiation.threshold 10000
/-! the rule of a Bezout table, as the law tells it -/
namespace K76
open PySem PySem.Spec PyProof.Rows L2 StX RZ MyR SlX OwnR OwnF EnumT SeqE GxR GenNx FDivQ LA
theorem tb_ne {n : Nat} {f : Nat → Int} (h : 1 ≤ n) : tb n f ≠ [] := fun z => by
  have := congrArg List.length z
  rw [tb_len] at this
  have : n = 0 := this
  omega
/-! lists of lists -/
def LD2 (ls : List (List Int)) : List PyData := ls.map fun l => .list (l.map PyData.int)
theorem lay_ld : ∀ ls : List (List Int), PyData.canLayAll0 (LD2 ls) = true
  | [] => rfl
  | l :: r => by
    show (PyData.canLay0 (.list (l.map PyData.int)) && PyData.canLayAll0 (LD2 r)) = true
    rw [lay_ld r, show PyData.canLay0 (.list (l.map PyData.int)) = PyData.canLayAll0 (l.map PyData.int) from rfl, lay_ints]
    rfl
theorem depth_ld : ∀ ls : List (List Int), PyData.depthAll (LD2 ls) ≤ 1
  | [] => Nat.zero_le _
  | l :: r => by
    show max (PyData.depth (.list (l.map PyData.int))) (PyData.depthAll (LD2 r)) ≤ 1
    have h := depth_ld r
    rw [show PyData.depth (.list (l.map PyData.int)) = PyData.depthAll (l.map PyData.int) + 1 from rfl, depth_ints]
    omega
theorem dpAll_rr {K : PySem.W.Frag} {H : Hp} : ∀ {bs : List Addr} {ls : List (List Int)}, RR H bs ls → L2.DpAll K H (bs.map V.ref) (LD2 ls)
  | [], [], _ => .nil
  | _ :: _, l :: _, h => .cons (.lst (SqL.of h.1) (dpAll_ints l)) (dpAll_rr h.2)
  | [], _ :: _, h => h.elim
  | _ :: _, [], h => h.elim
theorem shaped_lld (ls : List (List Int)) : SeqAt.shaped (.list (LD2 ls)) = true := by
  unfold SeqAt.shaped
  rw [show PyData.canLay0 (.list (LD2 ls)) = PyData.canLayAll0 (LD2 ls) from rfl, lay_ld]
  rw [show PyData.depth (.list (LD2 ls)) = PyData.depthAll (LD2 ls) + 1 from rfl, decide_eq_true (show PyData.depthAll (LD2 ls) + 1 ≤ 64 by have := depth_ld ls; omega)]
  rfl
theorem eq_ll {K : PySem.W.Frag} {H : Hp} {a b : Addr} {as bs : List Addr} {rows : List (List Int)} {Q : VK} (ha : H a = some (.lst (as.map V.ref))) (hb : H b = some (.lst (bs.map V.ref))) (ra : RR H as rows) (rb : RR H bs rows) (q : Q (.bl true) H) : rEqD K (.ref a) (.ref b) H Q := by
  refine ⟨.list (LD2 rows), .list (LD2 rows), .lst (SqL.of ha) (dpAll_rr ra), .lst (SqL.of hb) (dpAll_rr rb), shaped_lld _, shaped_lld _, ?_⟩
  rw [SeqAt.eqv_refl (.list (LD2 rows)) (lay_ld rows)]
  exact q
theorem Gd.rr {H0 H : Hp} {D : Addr} {n m : Nat} : ∀ {rs : List Addr} {g : Nat → Nat → Int}, (∀ k (h : k < rs.length), H rs[k] = some (.lst (tab m (g k)))) → rs.length = n → RR H rs ((List.range n).map fun i => tb m (g i))
  | rs, g, h, e => by
    subst e
    induction rs generalizing g with
    | nil => exact True.intro
    | cons r rs ih =>
      rw [List.length_cons, List.range_succ_eq_map, List.map_cons, List.map_map]
      refine ⟨?_, ih (g := fun k => g (k + 1)) fun k hk => h (k + 1) (by rw [List.length_cons]; omega)⟩
      have := h 0 (by rw [List.length_cons]; omega)
      rw [tab_tb] at this
      exact this
def crow (F G : List Int) (n : Nat) : List (List Int) := (List.range n).map fun i => tb n (cc F G i)
section
variable {P : Program} {w : World} {K : PySem.W.Frag} {mg : Str → Option Value} {base : Heap} {Ps : List Addr}
def spCrossed : Sp := fun vs H Q _ => ∃ (a b : Addr) (F G : List Int) (n : Nat), vs = [.ref a, .ref b] ∧ H a = some (tp F) ∧ H b = some (tp G) ∧ F.length = n ∧ G.length = n ∧ 1 ≤ n ∧ n ≤ 20 ∧ (∀ z ∈ F, sm z) ∧ (∀ z ∈ G, sm z) ∧ ∀ p bs H', Same H H' → H' p = some (.lst (bs.map V.ref)) → RR H' bs (crow F G n) → Q (.ref p) H'
theorem ok_law_crossed (T : Facts K mg) : FnOk P w K mg base CX0 1 T.f_law_crossed T.fd_law_crossed ["_law_one", "_law_other"] spCrossed := by
  refine T.F_law_crossed.ok sc_law_crossed (fun vs H Q E h => ?_) (fun cdv A outer s H vs Q E hr h => ?_)
  · obtain ⟨a, b, F, G, n, rfl, _⟩ := h
    rfl
  · obtain ⟨a, b, F, G, n, rfl, ha, hb, lF, lG, n1, n20, sF, sG, q⟩ := h
    refine ⟨_, (PSs.nox (pss_cons (ps_set (i := 2) sc_law_crossed.nd rfl (.inr rfl) (pe_callB call_len_seq (by rfl) T.z_len (by decide +kernel) (pa_cons (pv 0) pa_nil)))
    (pss_one (ps_ret (pe_lc (own := [("_law_at", 4)]) (g := (gName 4)) (tt := tYes) (by rfl) sc_law_crossed.nd (pi_range1 (by rfl) T.z_range (pa_cons (pv 2) pa_nil)) (blkOk_by (N := N_law_crossed) (sc := defScope s_law_crossed) (by decide +kernel)) (fun _ _ _ _ _ => (pg_name (i := 4) sc_law_crossed.nd rfl (.inr rfl))) (fun _ _ _ _ _ => pts_nil) (fun _ _ _ _ _ => (pe_lc (own := [("_law_to", 3)]) (g := (gName 3)) (tt := tYes) (by rfl) sc_law_crossed.nd (pi_range1 (by rfl) T.z_range (pa_cons (pv 2) pa_nil)) (blkOk_by (N := N_law_crossed) (sc := relS _ (defScope s_law_crossed)) (by decide +kernel)) (fun _ _ _ _ _ => (pg_name (i := 3) sc_law_crossed.nd rfl (.inl rfl))) (fun _ _ _ _ _ => pts_nil) (fun _ _ _ _ _ => (pe_op op_sub (pe_op op_mulW (pe_ix (ix_tup : IxR _ (rIxT K)) (pv 0) (pv 4) (fun _ _ => rfl)) (pe_ix (ix_tup : IxR _ (rIxT K)) (pv 1) (pv 3) (fun _ _ => rfl))) (pe_op op_mulW (pe_ix (ix_tup : IxR _ (rIxT K)) (pv 0) (pv 3) (fun _ _ => rfl)) (pe_ix (ix_tup : IxR _ (rIxT K)) (pv 1) (pv 4) (fun _ _ => rfl)))))))))))), ?_⟩
    refine ⟨_, rfl, a, _, rfl, .inr (SqT.of ha), ?_⟩
    rw [List.length_map, lF]
    refine ⟨_, rfl, (n : Int), rfl, by omega, by omega, fun D hD => ?_⟩
    refine lc_rangeL (n := (n : Int).toNat) (f := fun i => tb n (cc F G i)) hD (by omega) (fun i _ => tb_ne n1) (fun _ => rfl) (fun i H2 Q2 hi s2 kq => ?_) (fun bs H6 s6 e6 r6 => ?_)
    · have hi : i < n := by omega
      refine ⟨_, rfl, (n : Int), rfl, by omega, by omega, fun E hE => ?_⟩
      refine lc_range (n := (n : Int).toNat) (fun j H3 => Same H2 H3 ∧ H3 E = some (ls (tb j (cc F G i)))) ⟨same_upd0 hE, upd_same⟩ (fun j H3 hj hP => ?_) (fun H3 hP => ?_)
      · obtain ⟨s3, hE3⟩ := hP
        have hj : j < n := by omega
        have ta := (s2.trans s3) _ _ ha
        have tb' := (s2.trans s3) _ _ hb
        rw [Int.zero_add]
        refine ⟨rfl, _, rfl, _, rfl, a, _, i, _, rfl, rfl, SqT.of ta, atI_nat (j := i) (get_int (by omega)), _, rfl, _, rfl, b, _, j, _, rfl, rfl, SqT.of tb', atI_nat (j := j) (get_int (by omega)), _, _, rfl, rfl, sm_mul (sm_co sF (by omega)) (sm_co sG (by omega)), _, rfl, _, rfl, a, _, j, _, rfl, rfl, SqT.of ta, atI_nat (j := j) (get_int (by omega)), _, rfl, _, rfl, b, _, i, _, rfl, rfl, SqT.of tb', atI_nat (j := i) (get_int (by omega)), _, _, rfl, rfl, sm_mul (sm_co sF (by omega)) (sm_co sG (by omega)), _, _, rfl, rfl, _, hE3, ?_, fun b o e => ?_, ?_⟩
        · rw [List.length_map, tb_len]
          exact small1000 (by omega)
        · rw [upd_ne (ne_of_none e hE)]
          exact s3 _ _ e
        · rw [upd_same, tb_snoc]
          show some (HO.lst _) = some (HO.lst (List.map V.int _))
          rw [List.map_append]
          rfl
      · obtain ⟨s3, hE3⟩ := hP
        rw [Int.toNat_natCast] at hE3
        exact kq E H3 s3 hE3
    · rw [Int.toNat_natCast] at r6
      exact q D bs H6 s6 e6 r6
def spIsTold : Sp := fun vs H Q _ => ∃ (a b t : Addr) (F G : List Int) (n : Nat) (as : List Addr), vs = [.ref a, .ref b, .ref t] ∧ H a = some (tp F) ∧ H b = some (tp G) ∧ H t = some (.tup (as.map V.ref)) ∧ RT H as (brow F G n) ∧ F.length = n + 1 ∧ G.length = n + 1 ∧ 1 ≤ n ∧ n ≤ 12 ∧ (∀ z ∈ F, sm z) ∧ (∀ z ∈ G, sm z) ∧ ∀ H', Same H H' → Q (.bl true) H'
theorem ok_law_is_told (T : Facts K mg) : FnOk P w K mg base CX0 2 T.f_law_is_told T.fd_law_is_told ["_law_one", "_law_other", "_law_table"] spIsTold := by
  have G_law_crossed := ok_law_crossed (P := P) (w := w) (base := base) T
  refine T.F_law_is_told.ok sc_law_is_told (fun vs H Q E h => ?_) (fun cdv A outer s H vs Q E hr h => ?_)
  · obtain ⟨a, b, t, F, G, n, as, rfl, _⟩ := h
    rfl
  · obtain ⟨a, b, t, F, G, n, as, rfl, ha, hb, ht, hT, lF, lG, n1, n12, sF, sG, q⟩ := h
    refine ⟨_, (PSs.nox (pss_cons (ps_set (i := 3) sc_law_is_told.nd rfl (.inr rfl) (pe_op op_sub (pe_callB call_len_seq (by rfl) T.z_len (by decide +kernel) (pa_cons (pv 0) pa_nil)) pe_int))
    (pss_cons (ps_setLc (i := 4) (own := [("_law_at", 6)]) (g := (gName 6)) (tt := tYes) rfl sc_law_is_told.nd rfl rfl (sw_true rfl rfl rfl (by decide +kernel)) (pi_range1 (by rfl) T.z_range (pa_cons (pe_op op_add (pv 3) pe_int) pa_nil)) (blkOk_by (N := N_law_is_told) (sc := defScope s_law_is_told) (by decide +kernel)) (fun _ _ _ _ _ => (pg_name (i := 6) sc_law_is_told.nd rfl (.inl rfl))) (fun _ _ _ _ _ => pts_nil) (fun _ _ _ _ _ => (pe_lc (own := [("_law_to", 5)]) (g := (gName 5)) (tt := tYes) (by rfl) sc_law_is_told.nd (pi_range1 (by rfl) T.z_range (pa_cons (pe_op op_add (pv 3) pe_int) pa_nil)) (blkOk_by (N := N_law_is_told) (sc := relS _ (defScope s_law_is_told)) (by decide +kernel)) (fun _ _ _ _ _ => (pg_name (i := 5) sc_law_is_told.nd rfl (.inl rfl))) (fun _ _ _ _ _ => pts_nil) (fun _ _ _ _ _ => pe_int))))
    (pss_cons (ps_for PassesOwn.never (by rfl) (pi_range1 (by rfl) T.z_range (pa_cons (pv 3) pa_nil)) (pg_name (i := 6) sc_law_is_told.nd rfl (.inl rfl))
      (pss_one (ps_for PassesOwn.never (by rfl) (pi_range1 (by rfl) T.z_range (pa_cons (pv 3) pa_nil)) (pg_name (i := 5) sc_law_is_told.nd rfl (.inl rfl))
        (pss_cons (ps_asg (pe_op op_add (pe_ix ix_list (pe_ix ix_list (pv 4) (pv 6) (fun _ _ => rfl)) (pe_op op_add (pv 5) pe_int) (fun _ _ => rfl)) (pe_ix ix_tup (pe_ix ix_tup (pv 2) (pv 6) (fun _ _ => rfl)) (pv 5) (fun _ _ => rfl))) (pg_sub (pe_ix ix_list (pv 4) (pv 6) (fun _ _ => rfl)) (pe_op op_add (pv 5) pe_int) set_list))
        (pss_one (ps_asg (pe_op op_sub (pe_ix ix_list (pe_ix ix_list (pv 4) (pe_op op_add (pv 6) pe_int) (fun _ _ => rfl)) (pv 5) (fun _ _ => rfl)) (pe_ix ix_tup (pe_ix ix_tup (pv 2) (pv 6) (fun _ _ => rfl)) (pv 5) (fun _ _ => rfl))) (pg_sub (pe_ix ix_list (pv 4) (pe_op op_add (pv 6) pe_int) (fun _ _ => rfl)) (pv 5) set_list)))))))
    (pss_one (ps_ret (pe_cmpR (op_eqD (hu64 hr)) (pv 4) (pe_call G_law_crossed hr (by rfl) T.g_law_crossed T.F_law_crossed.kp T.b_law_crossed .nil pass0 (pa_cons (pv 0) (pa_cons (pv 1) pa_nil))) (nomark _)))))))), ?_⟩
    refine ⟨_, rfl, a, _, rfl, .inr (SqT.of ha), _, _, rfl, rfl, ?_⟩
    rw [List.length_map, lF, show (fun i j => V.int (i - j)) ((n + 1 : Nat) : Int) 1 = V.int (n : Int) from by show V.int _ = V.int _; congr 1; omega]
    refine ⟨_, rfl, _, _, rfl, rfl, (n : Int) + 1, rfl, by omega, by omega, fun D nD => lc_range (n := ((n : Int) + 1).toNat) (fun i H' => ∃ ss, Gd H H' D ss i (n + 1) fun _ _ => 0) ⟨[], upd_same, rfl, fun k hk => absurd hk (Nat.not_lt_zero k), fun r hr => (nomatch hr), List.nodup_nil, nD, same_upd0 nD⟩ (fun i H' hi hP => ?_) (fun H' hP => ?_)⟩
    · obtain ⟨ss, G1⟩ := hP
      refine ⟨rfl, _, rfl, _, _, rfl, rfl, (n : Int) + 1, rfl, by omega, by omega, fun R nR => lc_range (n := ((n : Int) + 1).toNat) (fun j H2 => Same H' H2 ∧ H2 R = some (.lst (tab j fun _ => 0))) ⟨same_upd0 nR, upd_same⟩ (fun j H2 hj hP => ?_) (fun H3 hP => ?_)⟩
      · obtain ⟨s2, e2⟩ := hP
        refine ⟨rfl, _, e2, ?_, fun b o e => ?_, ?_⟩
        · rw [tab_len]
          exact small1000 (by omega)
        · rw [upd_ne (ne_of_none e nR)]
          exact s2 _ _ e
        · rw [upd_same, tab_tb, tab_tb, tb_snoc, List.map_append]
          rfl
      · obtain ⟨s3, f3⟩ := hP
        rw [show ((n : Int) + 1).toNat = n + 1 by omega] at f3
        have G3 := G1.keep s3
        have nD3 : R ≠ D := fun z => by
          rw [z, G1.lst] at nR
          cases nR
        have G0 := G1.len
        refine ⟨_, G3.lst, by rw [List.length_map, G1.len]; exact small1000 (by omega), ss ++ [R], ?_⟩
        refine ⟨by rw [upd_same, List.map_append]; rfl, by rw [List.length_append, G1.len]; rfl, fun k hk => ?_, G1.free.snoc (Same.free (G1.same) nR), ?_, nD, fun b o e => ?_⟩
        · by_cases c : k < ss.length
          · rw [show (ss ++ [R])[k] = ss[k] from List.getElem_append_left _, upd_ne (Ne.symm (G3.ne c))]
            exact G3.row k c
          · have ek : k = ss.length := by rw [List.length_append] at hk; simp at hk; omega
            subst ek
            rw [show (ss ++ [R])[ss.length] = R by rw [List.getElem_append_right (Nat.le_refl _)]; simp, upd_ne nD3]
            exact f3
        · rw [List.nodup_append]
          refine ⟨G1.nd, by simp, fun x hx y hy => ?_⟩
          rw [List.mem_singleton.mp hy]
          intro z
          obtain ⟨k, hk, ek⟩ := List.getElem_of_mem hx
          have := G1.row k hk
          rw [ek, z, nR] at this
          cases this
        · rw [upd_ne (ne_of_none e nD)]
          exact G3.same _ _ e
    · obtain ⟨ss, G1⟩ := hP
      rw [show ((n : Int) + 1).toNat = n + 1 by omega] at G1
      have lss := G1.len
      have las := RX.len hT
      rw [brow_len] at las
      refine ⟨_, rfl, (n : Int), rfl, by omega, by omega, for_range (n := (n : Int).toNat) (fun i σ H' => ∃ y5 y6, σ = [some (.ref a), some (.ref b), some (.ref t), some (.int n), some (.ref D), y5, y6] ∧ Gd H H' D ss (n + 1) (n + 1) (cg n (bz F G) i 0)) ⟨none, none, rfl, G1.cong fun p q _ _ => (cg_0 n _ p q).symm⟩ (fun i σ H' hi hP => ?_) (fun σ H' hP => ?_)⟩
      · obtain ⟨y5, y6, rfl, G2⟩ := hP
        have hi : i < n := by omega
        rw [Int.zero_add]
        refine ⟨_, rfl, (n : Int), rfl, by omega, by omega, for_range (n := (n : Int).toNat) (fun j σ H3 => ∃ y5, σ = [some (.ref a), some (.ref b), some (.ref t), some (.int n), some (.ref D), y5, some (.int i)] ∧ Gd H H3 D ss (n + 1) (n + 1) (cg n (bz F G) i j)) ⟨y5, rfl, G2⟩ (fun j σ H3 hj hP => ?_) (fun σ H3 hP => ?_)⟩
        · obtain ⟨y5, rfl, G4⟩ := hP
          have hj : j < n := by omega
          rw [Int.zero_add]
          have at_ : ∀ {p : Nat} (hp : p < ss.length), (ss.map V.ref)[p]? = some (V.ref ss[p]) := fun {p} hp => by
            rw [List.getElem?_map, List.getElem?_eq_getElem hp]
            rfl
          have hi1 : i < ss.length := by omega
          have hi2 : i + 1 < ss.length := by omega
          obtain ⟨tr, l, e1, e2, e3⟩ := RX.get hT (i := i) (by rw [brow_len]; exact hi)
          unfold brow at e2
          rw [List.getElem?_map, List.getElem?_range hi] at e2
          cases e2
          have tA : (as.map V.ref)[i]? = some (V.ref tr) := by
            rw [List.getElem?_map, e1]
            rfl
          have tv : ((tb n (bz F G i)).map V.int)[j]? = some (V.int (bz F G i j)) := by
            rw [get_int (by rw [tb_len]; exact hj), co_tb, if_pos hj]
          refine ⟨_, rfl, _, rfl, D, _, i, _, rfl, rfl, SqL.of G4.lst, atI_nat (j := i) (at_ hi1), _, rfl, _, _, rfl, rfl, ss[i], _, j + 1, _, rfl, rfl, SqL.of (G4.row i hi1), atI_nat (j := j + 1) (tab_get (by omega)), _, rfl, _, rfl, t, _, i, _, rfl, rfl, SqT.of (G4.same _ _ ht), atI_nat (j := i) tA, _, rfl, tr, _, j, _, rfl, rfl, SqT.of (G4.same _ _ e3), atI_nat (j := j) tv, _, _, rfl, rfl, ?_⟩
          refine ⟨_, rfl, _, rfl, D, _, i, _, rfl, rfl, SqL.of G4.lst, atI_nat (j := i) (at_ hi1), _, rfl, _, _, rfl, rfl, ?_⟩
          refine ⟨ss[i], _, _, j + 1, rfl, rfl, G4.row i hi1, by rw [tab_len]; exact ix_at rfl (by omega), ?_⟩
          have G5 := G4.put (q := j + 1) hi1 (cg n (bz F G) i j i (j + 1) + bz F G i j)
          refine ⟨_, rfl, _, rfl, _, _, rfl, rfl, D, _, i + 1, _, rfl, rfl, SqL.of G5.lst, atI_nat (j := i + 1) (at_ hi2), _, rfl, ss[i + 1], _, j, _, rfl, rfl, SqL.of (G5.row (i + 1) hi2), atI_nat (j := j) (tab_get (by omega)), _, rfl, _, rfl, t, _, i, _, rfl, rfl, SqT.of (G5.same _ _ ht), atI_nat (j := i) tA, _, rfl, tr, _, j, _, rfl, rfl, SqT.of (G5.same _ _ e3), atI_nat (j := j) tv, _, _, rfl, rfl, ?_⟩
          refine ⟨_, rfl, _, rfl, _, _, rfl, rfl, D, _, i + 1, _, rfl, rfl, SqL.of G5.lst, atI_nat (j := i + 1) (at_ hi2), _, rfl, ?_⟩
          refine ⟨ss[i + 1], _, _, j, rfl, rfl, G5.row (i + 1) hi2, by rw [tab_len]; exact ix_at rfl (by omega), ?_⟩
          refine ⟨_, rfl, ?_⟩
          refine (G5.put (q := j) hi2 _).cong fun p q hp hq => ?_
          show (if p = i + 1 ∧ q = j then (if i + 1 = i ∧ j = j + 1 then cg n (bz F G) i j i (j + 1) + bz F G i j else cg n (bz F G) i j (i + 1) j) - bz F G i j else if p = i ∧ q = j + 1 then cg n (bz F G) i j i (j + 1) + bz F G i j else cg n (bz F G) i j p q) = _
          rw [← cg_step hj p q]
          by_cases c : p = i + 1 ∧ q = j
          · rw [if_pos c, if_pos c, if_neg (show ¬ (i + 1 = i ∧ j = j + 1) by omega)]
          · rw [if_neg c, if_neg c]
        · obtain ⟨y5, rfl, G4⟩ := hP
          exact ⟨_, _, rfl, G4.cong fun p q _ _ => by rw [Int.toNat_natCast]; exact cg_next n _ i p q⟩
      · obtain ⟨y5, y6, rfl, G2⟩ := hP
        rw [Int.toNat_natCast] at G2
        refine ⟨_, rfl, _, rfl, _, rfl, a, b, F, G, n + 1, rfl, G2.same _ _ ha, G2.same _ _ hb, lF, lG, by omega, by omega, sF, sG, fun p bs H4 s4 e4 r4 => ?_⟩
        exact eq_ll (s4 _ _ G2.lst) e4 (RX.imp (fun _ _ e => s4 _ _ e) (Gd.rr (H0 := H) (D := D) (G2.cong (cg_end lF lG)).row lss)) r4 (q H4 (G2.same.trans s4))
end
end K76

set_option Elab.async false
set_option linter.all false
set_option maxRecDepth 100000
set_option maxHeartbeats 4000000
set_option exponentiation.threshold 10000
/-! drawn pairs of one degree -/
namespace K76
open PySem PySem.Spec PyProof.Rows L2 StX RZ MyR SlX OwnR OwnF EnumT SeqE GxR GenNx FDivQ LA
section
variable {P : Program} {w : World} {K : PySem.W.Frag} {mg : Str → Option Value} {base : Heap} {Ps : List Addr}
def spDPair : Sp := fun vs H Q _ => ∃ d : Addr, vs = [.ref d] ∧ Dc H d ∧ ∀ p a b F G n H', Sx d H H' → Dc H' d → H' p = some (.tup [.ref a, .ref b]) → H' a = some (tp F) → H' b = some (tp G) → Bd F n (10 ^ 28) → Bd G n (10 ^ 28) → 1 ≤ n → n ≤ 6 → Q (.ref p) H'
theorem ok_law_drawn_pair (T : Facts K mg) : FnOk P w K mg base CX0 7 T.f_law_drawn_pair T.fd_law_drawn_pair ["_law_dice_here"] spDPair := by
  have G_law_roll : FnOk P w K mg base CX0 1 T.f_law_roll T.fd_law_roll ["_law_dice_here", "_law_total"] spRoll2 := (ok_law_roll T).imp roll2
  have G_law_near : FnOk P w K mg base CX0 2 T.f_law_near T.fd_law_near ["_law_dice_here", "_law_most"] spNear := ok_law_near T
  have G_law_form := ok_law_form (P := P) (w := w) (base := base) T
  have G_law_live_form := ok_law_live_form (P := P) (w := w) (base := base) T
  have G_law_product : FnOk P w K mg base CX0 1 T.f_law_product T.fd_law_product ["_law_one", "_law_other"] spProd := ok_law_product T
  have G_law_scaled := ok_law_scaled (P := P) (w := w) (base := base) T
  refine T.F_law_drawn_pair.ok sc_law_drawn_pair (fun vs H Q E h => ?_) (fun cdv A outer s H vs Q E hr h => ?_)
  · obtain ⟨d, rfl, _⟩ := h
    rfl
  · obtain ⟨d, rfl, D0, q⟩ := h
    refine ⟨_, (PSs.nox (pss_cons (ps_set (i := 1) sc_law_drawn_pair.nd rfl (.inl rfl) (pe_op op_add pe_int (pe_call G_law_roll (hr.mono (by decide)) (by rfl) T.g_law_roll T.F_law_roll.kp T.b_law_roll .nil pass0 (pa_cons (pv 0) (pa_cons pe_int pa_nil)))))
    (pss_cons (ps_par (i := 2) (j := 3) (by rfl) sc_law_drawn_pair.nd rfl rfl (by decide) rfl rfl (pa_cons (pe_call G_law_roll (hr.mono (by decide)) (by rfl) T.g_law_roll T.F_law_roll.kp T.b_law_roll .nil pass0 (pa_cons (pv 0) (pa_cons pe_int pa_nil))) (pa_cons (pe_call G_law_form (hr.mono (by decide)) (by rfl) T.g_law_form T.F_law_form.kp T.b_law_form .nil pass0 (pa_cons (pv 0) (pa_cons (pv 1) pa_nil))) pa_nil)) (by rfl))
    (pss_cons (ps_if (pt_cmpR op_eq (pv 2) pe_int (nomark _))
      (pss_one (ps_ret (pe_tup (pa_cons (pv 3) (pa_cons (pe_call G_law_scaled (hr.mono (by decide)) (by rfl) T.g_law_scaled T.F_law_scaled.kp T.b_law_scaled .nil pass0 (pa_cons (pv 3) (pa_cons (pe_call G_law_near (hr.mono (by decide)) (by rfl) T.g_law_near T.F_law_near.kp T.b_law_near .nil pass0 (pa_cons (pv 0) (pa_cons pe_int pa_nil))) pa_nil))) pa_nil)))))
      pss_nil)
    (pss_cons (ps_if (pt_cmpR op_eq (pv 2) pe_int (nomark _))
      (pss_cons (ps_set (i := 4) sc_law_drawn_pair.nd rfl (.inl rfl) (pe_call G_law_live_form hr (by rfl) T.g_law_live_form T.F_law_live_form.kp T.b_law_live_form .nil pass0 (pa_cons (pv 0) (pa_cons (pe_call G_law_roll (hr.mono (by decide)) (by rfl) T.g_law_roll T.F_law_roll.kp T.b_law_roll .nil pass0 (pa_cons (pv 0) (pa_cons (pe_op op_add (pv 1) pe_int) pa_nil))) pa_nil))))
      (pss_cons (ps_set (i := 5) sc_law_drawn_pair.nd rfl (.inl rfl) (pe_op op_sub (pe_op op_add (pv 1) pe_int) (pe_callB call_len_seq (by rfl) T.z_len (by decide +kernel) (pa_cons (pv 4) pa_nil))))
      (pss_one (ps_ret (pe_tup (pa_cons (pe_call G_law_product (hr.mono (by decide)) (by rfl) T.g_law_product T.F_law_product.kp T.b_law_product .nil pass0 (pa_cons (pe_call G_law_form (hr.mono (by decide)) (by rfl) T.g_law_form T.F_law_form.kp T.b_law_form .nil pass0 (pa_cons (pv 0) (pa_cons (pv 5) pa_nil))) (pa_cons (pv 4) pa_nil))) (pa_cons (pe_call G_law_product (hr.mono (by decide)) (by rfl) T.g_law_product T.F_law_product.kp T.b_law_product .nil pass0 (pa_cons (pe_call G_law_form (hr.mono (by decide)) (by rfl) T.g_law_form T.F_law_form.kp T.b_law_form .nil pass0 (pa_cons (pv 0) (pa_cons (pv 5) pa_nil))) (pa_cons (pv 4) pa_nil))) pa_nil)))))))
      pss_nil)
    (pss_one (ps_ret (pe_tup (pa_cons (pv 3) (pa_cons (pe_call G_law_form (hr.mono (by decide)) (by rfl) T.g_law_form T.F_law_form.kp T.b_law_form .nil pass0 (pa_cons (pv 0) (pa_cons (pv 1) pa_nil))) pa_nil)))))))))), ?_⟩
    refine ⟨_, rfl, d, 6, rfl, D0, by decide, by decide, fun r1 H1 hr1 s1 d1 => ⟨_, _, rfl, rfl, ?_⟩⟩
    obtain ⟨n, hn⟩ : ∃ n : Nat, n = r1 + 1 := ⟨_, rfl⟩
    rw [show (fun i j => V.int (i + j)) (1 : Int) (r1 : Int) = V.int (n : Int) from by show V.int _ = V.int _; congr 1; omega]
    refine ⟨_, rfl, d, 5, rfl, d1, by decide, by decide, fun way H2 hw s2 d2 => ⟨_, rfl, _, rfl, d, n, rfl, d2, by omega, fun p1 H3 L1 s3 d3 hL1 bL1 => ⟨_, _, rfl, ?_⟩⟩⟩
    have n6 : 1 ≤ n ∧ n ≤ 6 := by omega
    have sx3 := s1.trans (s2.trans s3)
    have b14 : 10 ^ 14 ≤ 10 ^ 28 := by decide
    refine ⟨_, rfl, rfl, _, rfl, ?_⟩
    by_cases c0 : way = 0
    · rw [decide_eq_true (show V.int (way : Int) = V.int 0 by rw [c0]; rfl)]
      refine iteT ⟨_, rfl, _, rfl, _, rfl, d, 3, rfl, d3, by decide, by decide, fun m H4 m1 m2 s4 d4 => ?_⟩
      have e4 := s4 _ _ (dc_ne d3 hL1) hL1
      refine ⟨p1, L1, m, rfl, e4, by rw [bL1.len]; omega, (bL1.rw (by omega) (by decide +kernel)).sm, sm_small (Nat.le_trans (show m.natAbs ≤ 3 by omega) (by decide)), fun p2 H5 s5 _ e5 => ?_⟩
      refine ⟨sz2, fun p nP => gen_upd H5 p _ nP fun H6 s6 e6 => ?_⟩
      have s46 := s5.trans s6
      refine q p p1 p2 L1 (L1.map fun x => m * x) n H6 (sx3.trans (s4.trans (Sx.of s46))) (d4.same s46) e6 (s46 _ _ e4) (s6 _ _ e5) (bL1.mono b14) ?_ n6.1 n6.2
      exact (bd_scale bL1 (d := 3) (c := m) (by omega)).mono (by decide)
    rw [decide_eq_false (show ¬ V.int (way : Int) = V.int 0 from fun e => c0 (by have := V.int.inj e; omega))]
    refine iteF ⟨_, rfl, rfl, _, rfl, ?_⟩
    by_cases c1 : way = 1
    · rw [decide_eq_true (show V.int (way : Int) = V.int 1 by rw [c1]; rfl)]
      refine iteT ⟨_, rfl, _, rfl, _, rfl, _, _, rfl, rfl, d, (n : Int) + 1, rfl, d3, by omega, ?_, fun k H4 hk s4 d4 => ⟨d, k, rfl, d4, by omega, fun p2 H5 S s5 d5 hS bS zS => ?_⟩⟩
      · show ((n + 1 : Nat) : Int).natAbs.log2 < 9000
        exact Nat.lt_trans (PySem.Flt.log2_lt_of (k := 10) (by decide) (by show n + 1 < 2 ^ 10; omega)) (by decide)
      have lS := bS.len
      refine ⟨_, rfl, _, _, rfl, rfl, _, rfl, p2, _, rfl, .inr (SqT.of hS), _, _, rfl, rfl, ?_⟩
      rw [List.length_map, lS, show (fun i j => V.int (i - j)) ((n : Int) + 1) ((k + 1 : Nat) : Int) = V.int ((n - k : Nat) : Int) from by show V.int _ = V.int _; congr 1; omega]
      refine ⟨_, rfl, _, rfl, d, n - k, rfl, d5, by omega, fun p3 H6 L2 s6 d6 hL2 bL2 => ?_⟩
      have hS6 := s6 _ _ (dc_ne d5 hS) hS
      refine ⟨_, rfl, p3, p2, L2, S, rfl, hL2, hS6, bL2.ne, bS.ne, by rw [bL2.len]; omega, by omega, (bL2.rw (by omega) (by decide +kernel)).sm, (bS.rw (by omega) (by decide +kernel)).sm, fun t1 H7 s7 _ e7 => ?_⟩
      have d7 := d6.same s7
      have hS7 := s7 _ _ hS6
      refine ⟨_, rfl, _, rfl, d, n - k, rfl, d7, by omega, fun p4 H8 L3 s8 d8 hL3 bL3 => ?_⟩
      have hS8 := s8 _ _ (dc_ne d7 hS7) hS7
      have e8 := s8 _ _ (dc_ne d7 e7) e7
      refine ⟨_, rfl, p4, p2, L3, S, rfl, hL3, hS8, bL3.ne, bS.ne, by rw [bL3.len]; omega, by omega, (bL3.rw (by omega) (by decide +kernel)).sm, (bS.rw (by omega) (by decide +kernel)).sm, fun t2 H9 s9 _ e9 => ?_⟩
      refine ⟨sz2, fun p nP => gen_upd H9 p _ nP fun H10 s10 e10 => ?_⟩
      have sx9 := sx3.trans (s4.trans (s5.trans (s6.trans ((Sx.of s7).trans (s8.trans (Sx.of (s9.trans s10)))))))
      have b1 := bd_ml bL2 bS
      have b2 := bd_ml bL3 bS
      rw [show n - k + k = n by omega] at b1 b2
      exact q p t1 t2 (ml L2 S) (ml L3 S) n H10 sx9 (d8.same (s9.trans s10)) e10 ((s9.trans s10) _ _ e8) (s10 _ _ e9) (b1.mono (by decide)) (b2.mono (by decide)) n6.1 n6.2
    · rw [decide_eq_false (show ¬ V.int (way : Int) = V.int 1 from fun e => c1 (by have := V.int.inj e; omega))]
      refine iteF ?_
      have e3 := hL1
      refine ⟨_, rfl, _, rfl, _, rfl, d, n, rfl, d3, by omega, fun p2 H4 L2 s4 d4 hL2 bL2 => ?_⟩
      refine ⟨sz2, fun p nP => gen_upd H4 p _ nP fun H5 s5 e5 => ?_⟩
      exact q p p1 p2 L1 L2 n H5 (sx3.trans (s4.trans (Sx.of s5))) (d4.same s5) e5 (s5 _ _ (s4 _ _ (dc_ne d3 hL1) hL1)) (s5 _ _ hL2) (bL1.mono b14) (bL2.mono b14) n6.1 n6.2
end
end K76

set_option Elab.async false
set_option linter.all false
set_option maxRecDepth 100000
set_option maxHeartbeats 4000000
set_option exponentiation.threshold 10000
/-! tools of the law: tuples of tuples (out of k74) -/
namespace K76
open PySem PySem.Spec PyProof.Rows L2 StX RZ MyR SlX OwnR OwnF EnumT SeqE GxR GenNx FDivQ LA
theorem res_bdet {F G : List Int} (f2 : 2 ≤ F.length) (g2 : 2 ≤ G.length) : bdet (urows F G (F.length + G.length - 3)) = Res F G := by
  unfold Res
  refine bdet_det (by rw [urows_len]; omega) fun r hr => ?_
  rw [urows_w r hr]
  omega
theorem dpAll_rt {K : PySem.W.Frag} {H : Hp} : ∀ {bs : List Addr} {ls : List (List Int)}, RT H bs ls → L2.DpAll K H (bs.map V.ref) (TD ls)
  | [], [], _ => .nil
  | _ :: _, l :: _, h => .cons (.tup (SqT.of h.1) (dpAll_ints l)) (dpAll_rt h.2)
  | [], _ :: _, h => h.elim
  | _ :: _, [], h => h.elim
theorem shaped_ttd (ls : List (List Int)) : SeqAt.shaped (.tuple (TD ls)) = true := by
  unfold SeqAt.shaped
  rw [show PyData.canLay0 (.tuple (TD ls)) = PyData.canLayAll0 (TD ls) from rfl, lay_td]
  rw [show PyData.depth (.tuple (TD ls)) = PyData.depthAll (TD ls) + 1 from rfl, decide_eq_true (show PyData.depthAll (TD ls) + 1 ≤ 64 by have := depth_td ls; omega)]
  rfl
/-- tuples of tuples that are alike -/
theorem ne_tt {K : PySem.W.Frag} {H : Hp} {a b : Addr} {as bs : List Addr} {rows : List (List Int)} {Q : VK} (ha : H a = some (.tup (as.map V.ref))) (hb : H b = some (.tup (bs.map V.ref))) (ra : RT H as rows) (rb : RT H bs rows) (q : Q (.bl false) H) : rNeD K (.ref a) (.ref b) H Q := by
  refine ⟨.tuple (TD rows), .tuple (TD rows), .tup (SqT.of ha) (dpAll_rt ra), .tup (SqT.of hb) (dpAll_rt rb), shaped_ttd _, shaped_ttd _, ?_⟩
  rw [SeqAt.eqv_refl (.tuple (TD rows)) (lay_td rows)]
  exact q
theorem bt_mem {L : Nat} {l : List Int} (h : bt L l) : ∀ x ∈ l, x.natAbs ≤ 2 ^ L := fun x hx => by
  obtain ⟨k, _, ek⟩ := mem_co hx
  rw [← ek]
  exact Nat.le_of_lt (h k)
theorem big_det : ∀ n, n ≤ 12 → (n * 2 ^ 100) ^ n < 2 ^ 4000 := fun n h => by
  refine Nat.lt_of_le_of_lt (Nat.pow_le_pow_left (Nat.mul_le_mul_right _ h) n) (Nat.lt_of_le_of_lt (Nat.pow_le_pow_right (by decide) h) (by decide +kernel))
theorem detOk {F G : List Int} (f2 : 2 ≤ F.length) (g2 : 2 ≤ G.length) (h : F.length + G.length ≤ 14) (bF : bt 100 F) (bG : bt 100 G) : DetOk (F.length + G.length - 2) (2 ^ 100) (urows F G (F.length + G.length - 3)) where
  ln := by rw [urows_len]; omega
  lr := fun r hr => by rw [urows_w r hr]; omega
  hM := urows_mem (bt_mem bF) (bt_mem bG)
  n1 := by omega
  n20 := by omega
  M1 := Nat.one_le_two_pow
  bd := big_det _ (by omega)
theorem res_small {F G : List Int} (f2 : 2 ≤ F.length) (g2 : 2 ≤ G.length) (h : F.length + G.length ≤ 14) (bF : bt 100 F) (bG : bt 100 G) : (Res F G).natAbs < 2 ^ 4000 := by
  rw [← res_bdet f2 g2]
  exact Nat.lt_of_le_of_lt (detOk f2 g2 h bF bG).det (detOk f2 g2 h bF bG).bd
theorem eq_tt {K : PySem.W.Frag} {H : Hp} {a b : Addr} {as bs : List Addr} {rows : List (List Int)} {Q : VK} (ha : H a = some (.tup (as.map V.ref))) (hb : H b = some (.tup (bs.map V.ref))) (ra : RT H as rows) (rb : RT H bs rows) (q : Q (.bl true) H) : rEqD K (.ref a) (.ref b) H Q := by
  refine ⟨.tuple (TD rows), .tuple (TD rows), .tup (SqT.of ha) (dpAll_rt ra), .tup (SqT.of hb) (dpAll_rt rb), shaped_ttd _, shaped_ttd _, ?_⟩
  rw [SeqAt.eqv_refl (.tuple (TD rows)) (lay_td rows)]
  exact q
/-- a comprehension over a tuple of tuples that makes a tuple of each -/
theorem lc_ttT {K : PySem.W.Frag} {a : Addr} {fs : List Addr} {R : List (List Int)} {f : List Int → List Int} {te : TE} {σ : L2.St} {k : Nat} {H1 : Hp} {D : Addr} {Qd : Hp → Prop} (hD : H1 D = none) (ha : H1 a = some (.tup (fs.map V.ref))) (hR : RT H1 fs R) (hl : R.length ≤ 100)
    (hw : ∀ x, wipe ((wipe σ [k]).set k (some x)) [k] = wipe σ [k])
    (hte : ∀ (ad : Addr) (r : List Int) (H2 : Hp) (Q : VK), r ∈ R → Same H1 H2 → H2 ad = some (tp r) → (∀ q H3, Same H2 H3 → H3 q = some (tp (f r)) → Q (.ref q) H3) → te ((wipe σ [k]).set k (some (.ref ad))) H2 Q)
    (hd : ∀ bs H6, Same H1 H6 → H6 D = some (.lst (bs.map V.ref)) → RT H6 bs (R.map f) → Qd H6) :
    ∃ W : Nat → Nat → Hp → Prop, (∃ m, W 0 m (upd H1 D (.lst []))) ∧ ∀ i m H, W i m H →
      ((Itt K a).stop i H ∧ Qd H) ∨ ((Itt K a).go i H ∧ ∃ Nx : Hp → Prop, (∀ H', Nx H' → ∃ m', m' < m ∧ W (i + 1) m' H') ∧ ∀ x H', (Itt K a).yld i H x H' → gName k x (wipe σ [k]) H' fun σ2 H2 => wipe σ2 [k] = wipe σ [k] ∧ tYes σ2 H2 fun b H3 =>
        if b = true then te σ2 H3 fun y H4 => ∃ acc, H4 D = some (.lst acc) ∧ acc.length < sizeLine ∧ Nx (upd H4 D (.lst (acc ++ [y]))) else Nx H3) := by
  refine lc_tup (xs := fs.map V.ref) (fun j H' => ∃ bs, Same H1 H' ∧ H' D = some (.lst (bs.map V.ref)) ∧ bs.length = j ∧ RT H' bs ((R.take j).map f)) ⟨[], same_upd0 hD, upd_same, rfl, True.intro⟩ (fun j H' _ hP => SqT.of (hP.choose_spec.1 _ _ ha)) (fun j x H' hx hP => ?_) (fun H' hP => ?_)
  · obtain ⟨bs, s1, h1, h2, h3⟩ := hP
    rw [List.getElem?_map] at hx
    obtain ⟨ad, had, rfl⟩ := Option.map_eq_some_iff.mp hx
    obtain ⟨ad', r, e1, e2, e3⟩ := RX.get hR (by rw [← hR.len]; exact (List.getElem?_eq_some_iff.mp had).1)
    rw [had] at e1
    cases e1
    have hj : j < R.length := (List.getElem?_eq_some_iff.mp e2).1
    refine ⟨hw _, ?_⟩
    show te _ _ _
    refine hte ad r H' _ (List.mem_of_getElem? e2) s1 (s1 _ _ e3) fun q H3 s3 e4 => ⟨bs.map V.ref, s3 _ _ h1, ?_, bs ++ [q], fun b o e => ?_, ?_, ?_, ?_⟩
    · rw [List.length_map, h2]
      exact small1000 (by omega)
    · rw [upd_ne (ne_of_none e hD)]
      exact s3 _ _ (s1 _ _ e)
    · rw [upd_same, List.map_append]
      rfl
    · rw [List.length_append, h2]
      rfl
    · rw [List.take_add_one, e2, List.map_append]
      refine RX.snoc (RT.updL (RT.same h3 s3) (s3 _ _ h1)) ?_
      show upd H3 D _ q = _
      by_cases hq : q = D
      · rw [hq, s3 _ _ h1] at e4
        cases e4
      · rw [upd_ne hq]
        exact e4
  · obtain ⟨bs, s1, h1, h2, h3⟩ := hP
    rw [List.length_map, hR.len, List.take_length] at h3
    exact hd bs H' s1 h1 h3
/-- sizes -/
theorem cc_bd {F G : List Int} {B : Nat} (hF : ∀ k, (co F k).natAbs ≤ B) (hG : ∀ k, (co G k).natAbs ≤ B) (i j : Nat) : (cc F G i j).natAbs ≤ 2 * (B * B) := by
  unfold cc
  have h1 : (co F i * co G j).natAbs ≤ B * B := by rw [Int.natAbs_mul]; exact Nat.mul_le_mul (hF i) (hG j)
  have h2 : (co F j * co G i).natAbs ≤ B * B := by rw [Int.natAbs_mul]; exact Nat.mul_le_mul (hF j) (hG i)
  omega
theorem bz_bd {F G : List Int} {B : Nat} (hF : ∀ k, (co F k).natAbs ≤ B) (hG : ∀ k, (co G k).natAbs ≤ B) : ∀ i j, (bz F G i j).natAbs ≤ (i + 1) * (2 * (B * B))
  | 0, j => by
    rw [Nat.zero_add, Nat.one_mul]
    exact cc_bd hF hG 0 (j + 1)
  | i + 1, j => by
    have h1 := cc_bd hF hG (i + 1) (j + 1)
    have h2 := bz_bd hF hG i (j + 1)
    rw [Nat.succ_mul]
    show (cc F G (i + 1) (j + 1) + bz F G i (j + 1)).natAbs ≤ _
    omega
theorem brow_bd {F G : List Int} {n : Nat} (hF : bt 97 F) (hG : bt 97 G) (n6 : n ≤ 6) : ∀ r ∈ brow F G n, ∀ x ∈ r, x.natAbs ≤ 2 ^ 200 := fun r hr x hx => by
  obtain ⟨i, hi, rfl⟩ := List.mem_map.mp hr
  obtain ⟨j, _, rfl⟩ := List.mem_map.mp hx
  have hi := List.mem_range.mp hi
  refine Nat.le_trans (bz_bd (B := 2 ^ 97) (fun k => Nat.le_of_lt (hF k)) (fun k => Nat.le_of_lt (hG k)) i j) (Nat.le_trans (Nat.mul_le_mul_right _ (show i + 1 ≤ 6 by omega)) (by decide +kernel))
theorem brow_ok {F G : List Int} {n : Nat} (hF : bt 97 F) (hG : bt 97 G) (n1 : 1 ≤ n) (n6 : n ≤ 6) : DetOk n (2 ^ 200) (brow F G n) where
  ln := brow_len F G n
  lr := brow_w
  hM := brow_bd hF hG n6
  n1 := n1
  n20 := by omega
  M1 := Nat.one_le_two_pow
  bd := by
    refine Nat.lt_of_le_of_lt (Nat.pow_le_pow_left (Nat.mul_le_mul_right _ n6) n) (Nat.lt_of_le_of_lt (Nat.pow_le_pow_right (by decide) n6) (by decide +kernel))
theorem brow_det {F G : List Int} {n : Nat} : bdet (brow F G n) = det n (bz F G) := by
  rw [bdet_det (n := n) (brow_len F G n) brow_w]
  exact det_congr fun i j hi hj => row_brow hi hj
theorem brow_turn {F G : List Int} {n : Nat} : ((List.range n).map fun i => tb n fun j => bz F G j i) = brow F G n := by
  unfold brow
  exact List.map_congr_left fun i _ => by
    congr 1
    funext j
    exact bz_sym j i
theorem brow_neg {F G : List Int} {n : Nat} : (brow F G n).map (fun r => r.map fun x => -1 * x) = brow G F n := by
  unfold brow
  rw [List.map_map]
  refine List.map_congr_left fun i _ => ?_
  show (tb n (bz F G i)).map _ = tb n (bz G F i)
  unfold tb
  rw [List.map_map]
  exact List.map_congr_left fun j _ => (bz_swap i j).symm
theorem brow_add {A B G : List Int} {n : Nat} (h : A.length = B.length) : ((List.range n).map fun i => zs 1 ((brow A G n).getD i []) ((brow B G n).getD i [])) = brow (zs 1 A B) G n := by
  have e : ∀ i, co (zs 1 A B) i = co A i + co B i := fun i => by rw [co_zs' 1 h, Int.one_mul]
  have g : ∀ (X : List Int) (i : Nat), i < n → (brow X G n).getD i [] = tb n (bz X G i) := fun X i hi => by
    unfold brow
    rw [List.getD_eq_getElem?_getD, List.getElem?_map, List.getElem?_range hi]
    rfl
  unfold brow
  refine List.map_congr_left fun i hi => ?_
  have hi := List.mem_range.mp hi
  have e1 := g A i hi
  have e2 := g B i hi
  unfold brow at e1 e2
  rw [e1, e2]
  refine co_inj (by unfold zs; rw [List.length_zipWith, tb_len, tb_len, tb_len, Nat.min_self]) fun k => ?_
  rw [co_zs' 1 (by rw [tb_len, tb_len]), co_tb, co_tb, co_tb, Int.one_mul]
  by_cases c : k < n
  · rw [if_pos c, if_pos c, if_pos c, bz_add e]
  · rw [if_neg c, if_neg c, if_neg c]
    rfl
theorem sgt_6 : ∀ n, n < 7 → sgt n = 1 - 2 * (((n : Int) * ((n : Int) - 1)) / 2 % 2) := by decide
end K76

set_option Elab.async false
set_option linter.all false
set_option maxRecDepth 100000
set_option maxHeartbeats 4000000
set_option exponentiation.threshold 10000
/-! two drawn forms of one degree -/
namespace K76
open PySem PySem.Spec PyProof.Rows L2 StX RZ MyR SlX OwnR OwnF EnumT SeqE GxR GenNx FDivQ LA
section
variable {P : Program} {w : World} {K : PySem.W.Frag} {mg : Str → Option Value} {base : Heap} {Ps : List Addr}
theorem ok_law_right (T : Facts K mg) (TB_first_of : TabB base mg T.c_first_of T.P_first_of) (hP : T.P_first_of ∈ Ps) : FnOk P w K mg base CX0 9 T.f_law_right T.fd_law_right ["_law_dice_here"] (spLR Ps) := by
  have G_law_drawn_pair := ok_law_drawn_pair (P := P) (w := w) (base := base) T
  have G_law_form := ok_law_form (P := P) (w := w) (base := base) T
  have G_law_plus := ok_law_plus (P := P) (w := w) (base := base) T
  have G_law_scaled := ok_law_scaled (P := P) (w := w) (base := base) T
  have G_law_two_rows := ok_law_two_rows (P := P) (w := w) (base := base) T
  have G_law_det_of := ok_law_det_of (P := P) (w := w) (base := base) T
  have G_law_is_told := ok_law_is_told (P := P) (w := w) (base := base) T
  have G_law_rank := ok_law_rank (P := P) (w := w) (base := base) T
  have G_law_shared := ok_law_shared (P := P) (w := w) (base := base) T
  have G_bezout_table := ok_bezout_table (P := P) (w := w) (base := base) T
  have G_common_form := ok_common_form (P := P) (w := w) (base := base) T TB_first_of hP
  have G_Form_init : FnOk P w K mg base CX0 5 T.f_Form_init T.fd_Form_init ["self", "entries"] (spForm T.C_Told T.C_Form) := ok_Form_init T
  have G_Form_degree := ok_Form_degree (P := P) (w := w) (base := base) T
  refine T.F_law_right.ok sc_law_right (fun vs H Q E h => ?_) (fun cdv A outer s H vs Q E hr h => ?_)
  · obtain ⟨d, rfl, _⟩ := h
    rfl
  · obtain ⟨d, rfl, D0, fin⟩ := h
    refine ⟨_, (PSs.nox (pss_cons (ps_asg (pe_call G_law_drawn_pair (hr.mono (by decide)) (by rfl) T.g_law_drawn_pair T.F_law_drawn_pair.kp T.b_law_drawn_pair .nil pass0 (pa_cons (pv 0) pa_nil)) (pg_tup (by rfl) (pgs_cons (pg_name (i := 1) sc_law_right.nd rfl (.inl rfl)) (pgs_cons (pg_name (i := 2) sc_law_right.nd rfl (.inl rfl)) pgs_nil))))
    (pss_cons (ps_par3 (i := 3) (j := 4) (l := 5) (by rfl) sc_law_right.nd rfl rfl rfl (by decide) (by decide) (by decide) rfl rfl rfl (pa_cons (pe_make T.mk_Form G_Form_init (hr.mono (by decide)) (by rfl) T.g_Form T.b_Form_init .nil pass0 (pa_cons (pv 1) pa_nil)) (pa_cons (pe_make T.mk_Form G_Form_init (hr.mono (by decide)) (by rfl) T.g_Form T.b_Form_init .nil pass0 (pa_cons (pv 2) pa_nil)) (pa_cons (pe_op op_sub (pe_callB call_len_seq (by rfl) T.z_len (by decide +kernel) (pa_cons (pv 1) pa_nil)) pe_int) pa_nil))) (by rfl))
    (pss_cons (ps_set (i := 6) sc_law_right.nd rfl (.inr rfl) (pe_call G_bezout_table (hr.mono (by decide)) (by rfl) T.g_bezout_table T.F_bezout_table.kp T.b_bezout_table .nil pass0 (pa_cons (pv 3) (pa_cons (pv 4) pa_nil))))
    (pss_cons (ps_if (pw_or (pt_cmpR op_ne (pe_callB call_len_seq (by rfl) T.z_len (by decide +kernel) (pa_cons (pv 6) pa_nil)) (pv 5) (nomark _)) (pw_or1 (pt_cmpR (op_neD (hu64 hr)) (pe_lc (own := [("_law_row", 7)]) (g := (gName 7)) (tt := tYes) (by rfl) sc_law_right.nd (pi_tup (pv 6)) (blkOk_by (N := N_law_right) (sc := defScope s_law_right) (by decide +kernel)) (fun _ _ _ _ _ => (pg_name (i := 7) sc_law_right.nd rfl (.inl rfl))) (fun _ _ _ _ _ => pts_nil) (fun _ _ _ _ _ => (pe_callB (call_len_seq : CallR _ _ (Evl.rLenS K)) (by rfl) T.z_len (by decide +kernel) (pa_cons (pv 7) pa_nil)))) (pe_op op_rep (pe_lst (pa_cons (pv 5) pa_nil)) (pv 5)) (nomark _)))).pt
      (pss_one (ps_ret pe_bl))
      pss_nil)
    (pss_cons (ps_if (pt_cmpR (op_neD (hu64 hr)) (pv 6) (pe_tupleOf (by rfl) T.z_tuple (pe_lc (own := [("_law_at", 8)]) (g := (gName 8)) (tt := tYes) (by rfl) sc_law_right.nd (pi_range1 (by rfl) T.z_range (pa_cons (pv 5) pa_nil)) (blkOk_by (N := N_law_right) (sc := defScope s_law_right) (by decide +kernel)) (fun _ _ _ _ _ => (pg_name (i := 8) sc_law_right.nd rfl (.inr rfl))) (fun _ _ _ _ _ => pts_nil) (fun _ _ _ _ _ => (pe_tupleOf (by rfl) T.z_tuple (pe_lc (own := [("_law_row", 7)]) (g := (gName 7)) (tt := tYes) (by rfl) sc_law_right.nd (pi_tup (pv 6) : PI _ _ _ (iTup K _)) (blkOk_by (N := N_law_right) (sc := relS _ (defScope s_law_right)) (by decide +kernel)) (fun _ _ _ _ _ => (pg_name (i := 7) sc_law_right.nd rfl (.inl rfl))) (fun _ _ _ _ _ => pts_nil) (fun _ _ _ _ _ => (pe_ix (ix_tup : IxR _ (rIxT K)) (pv 7) (pv 8) (fun _ _ => rfl)))) : PE _ _ (tThen _ (kTup K)))))) (nomark _))
      (pss_one (ps_ret pe_bl))
      pss_nil)
    (pss_cons (ps_if (pt_not (pt_val (pe_call G_law_is_told (hr.mono (by decide)) (by rfl) T.g_law_is_told T.F_law_is_told.kp T.b_law_is_told .nil pass0 (pa_cons (pv 1) (pa_cons (pv 2) (pa_cons (pv 6) pa_nil))))))
      (pss_one (ps_ret pe_bl))
      pss_nil)
    (pss_cons (ps_set (i := 9) sc_law_right.nd rfl (.inl rfl) (pe_op op_sub pe_int (pe_op op_mulW pe_int (pe_callTy call_int1 (by rfl) T.z_int (by decide +kernel) (pa_cons (pe_op op_mod (pe_op op_fdivZ (pe_op op_mulW (pv 5) (pe_op op_sub (pv 5) pe_int)) pe_int) pe_int) pa_nil)))))
    (pss_cons (ps_if (pt_cmpR op_ne (pe_call G_law_det_of (hr.mono (by decide)) (by rfl) T.g_law_det_of T.F_law_det_of.kp T.b_law_det_of .nil pass0 (pa_cons (pv 6) pa_nil)) (pe_op op_mulW (pv 9) (pe_call G_law_det_of (hr.mono (by decide)) (by rfl) T.g_law_det_of T.F_law_det_of.kp T.b_law_det_of .nil pass0 (pa_cons (pe_call G_law_two_rows (hr.mono (by decide)) (by rfl) T.g_law_two_rows T.F_law_two_rows.kp T.b_law_two_rows .nil pass0 (pa_cons (pv 1) (pa_cons (pv 2) pa_nil))) pa_nil))) (nomark _))
      (pss_one (ps_ret pe_bl))
      pss_nil)
    (pss_cons (ps_if (pt_cmpR (op_neD (hu64 hr)) (pe_call G_bezout_table (hr.mono (by decide)) (by rfl) T.g_bezout_table T.F_bezout_table.kp T.b_bezout_table .nil pass0 (pa_cons (pv 4) (pa_cons (pv 3) pa_nil))) (pe_tupleOf (by rfl) T.z_tuple (pe_lc (own := [("_law_row", 7)]) (g := (gName 7)) (tt := tYes) (by rfl) sc_law_right.nd (pi_tup (pv 6)) (blkOk_by (N := N_law_right) (sc := defScope s_law_right) (by decide +kernel)) (fun _ _ _ _ _ => (pg_name (i := 7) sc_law_right.nd rfl (.inl rfl))) (fun _ _ _ _ _ => pts_nil) (fun _ _ _ _ _ => (pe_call G_law_scaled (hr.mono (by decide)) (by rfl) T.g_law_scaled T.F_law_scaled.kp T.b_law_scaled .nil pass0 (pa_cons (pv 7) (pa_cons (pe_un un_neg pe_int) pa_nil)))))) (nomark _))
      (pss_one (ps_ret pe_bl))
      pss_nil)
    (pss_cons (ps_set (i := 10) sc_law_right.nd rfl (.inl rfl) (pe_call G_law_form (hr.mono (by decide)) (by rfl) T.g_law_form T.F_law_form.kp T.b_law_form .nil pass0 (pa_cons (pv 0) (pa_cons (pv 5) pa_nil))))
    (pss_cons (ps_set (i := 11) sc_law_right.nd rfl (.inl rfl) (pe_call G_bezout_table (hr.mono (by decide)) (by rfl) T.g_bezout_table T.F_bezout_table.kp T.b_bezout_table .nil pass0 (pa_cons (pe_make T.mk_Form G_Form_init (hr.mono (by decide)) (by rfl) T.g_Form T.b_Form_init .nil pass0 (pa_cons (pe_call G_law_plus (hr.mono (by decide)) (by rfl) T.g_law_plus T.F_law_plus.kp T.b_law_plus .nil pass0 (pa_cons (pv 1) (pa_cons (pv 10) pa_nil))) pa_nil)) (pa_cons (pv 4) pa_nil))))
    (pss_cons (ps_if (pt_cmpR (op_neD (hu64 hr)) (pv 11) (pe_tupleOf (by rfl) T.z_tuple (pe_lc (own := [("_law_row", 7), ("_law_line_here", 12)]) (g := (gTup K 2 (gCons (gName 7) (gCons (gName 12) gNil)))) (tt := tYes) (by rfl) sc_law_right.nd (pi_zipA (by rfl) T.z_zip (pa_cons (pv 6) (pa_cons (pe_call G_bezout_table (hr.mono (by decide)) (by rfl) T.g_bezout_table T.F_bezout_table.kp T.b_bezout_table .nil pass0 (pa_cons (pe_make T.mk_Form G_Form_init (hr.mono (by decide)) (by rfl) T.g_Form T.b_Form_init .nil pass0 (pa_cons (pv 10) pa_nil)) (pa_cons (pv 4) pa_nil))) pa_nil))) (blkOk_by (N := N_law_right) (sc := defScope s_law_right) (by decide +kernel)) (fun _ _ _ _ _ => (pg_tup (by rfl) (pgs_cons (pg_name (i := 7) sc_law_right.nd rfl (.inl rfl)) (pgs_cons (pg_name (i := 12) sc_law_right.nd rfl (.inl rfl)) pgs_nil)))) (fun _ _ _ _ _ => pts_nil) (fun _ _ _ _ _ => (pe_call G_law_plus (hr.mono (by decide)) (by rfl) T.g_law_plus T.F_law_plus.kp T.b_law_plus .nil pass0 (pa_cons (pv 7) (pa_cons (pv 12) pa_nil)))))) (nomark _))
      (pss_one (ps_ret pe_bl))
      pss_nil)
    (pss_cons (ps_set (i := 13) sc_law_right.nd rfl (.inl rfl) (pe_call G_law_rank (hr.mono (by decide)) (by rfl) T.g_law_rank T.F_law_rank.kp T.b_law_rank .nil pass0 (pa_cons (pv 6) (pa_cons (pv 5) pa_nil))))
    (pss_cons (ps_if (pw_or (pt_cmpR op_eq (pe_call G_law_shared (hr.mono (by decide)) (by rfl) T.g_law_shared T.F_law_shared.kp T.b_law_shared .nil pass0 (pa_cons (pv 1) pa_nil)) pe_int (nomark _)) (pw_or1 (pt_cmpR op_eq (pe_call G_law_shared (hr.mono (by decide)) (by rfl) T.g_law_shared T.F_law_shared.kp T.b_law_shared .nil pass0 (pa_cons (pv 2) pa_nil)) pe_int (nomark _)))).pt
      (pss_one (ps_ret (pe_cmpR op_eq (pv 13) pe_int (nomark _))))
      pss_nil)
    (pss_one (ps_ret (pe_cmpR op_eq (pv 13) (pe_op op_sub (pv 5) (pe_prp (pe_call G_common_form hr (by rfl) T.g_common_form T.F_common_form.kp T.b_common_form .nil pass0 (pa_cons (pv 3) (pa_cons (pv 4) pa_nil))) T.oc_Form T.pr_Form_degree G_Form_degree T.b_Form_degree (hr.mono (by decide)))) (nomark _))))))))))))))))))), ?_⟩
    refine ⟨_, rfl, d, rfl, D0.dd, fun p a b F G n H1 s1 d1 hp hF hG bF bG n1 n6 => ⟨p, _, rfl, SqT.of hp, rfl, _, _, rfl, _, _, rfl, rfl, ?_⟩⟩
    have lF := bF.len
    have lG := bG.len
    have tF : Tr F := bF.tr (by omega) (by decide +kernel)
    have tG : Tr G := bG.tr (by omega) (by decide +kernel)
    have bF' := bF.bt (L := 97) (by decide +kernel)
    have bG' := bG.bt (L := 97) (by decide +kernel)
    have sF := (bF.rw (by omega) (by decide +kernel)).sm
    have sG := (bG.rw (by omega) (by decide +kernel)).sm
    have D1 := D0.sx s1 d1
    have sy1 : Sy d Ps H H1 := Sy.ofD s1
    refine ⟨_, rfl, fun a1 b1 x1 x2 x3 => mkF x1 x2 x3 hF tF.pos (by omega) tF.sho fun H2 s2 f2 => ⟨_, rfl, fun a2 b2 y1 y2 y3 => mkF y1 y2 y3 (s2 _ _ hG) tG.pos (by omega) tG.sho fun H3 s3 g3 => ⟨_, rfl, a, _, rfl, .inr (SqT.of (s3 _ _ (s2 _ _ hF))), _, _, rfl, rfl, _, _, _, rfl, ?_⟩⟩⟩
    rw [List.length_map, lF, show (fun i j => V.int (i - j)) ((n + 1 : Nat) : Int) 1 = V.int (n : Int) from by show V.int _ = V.int _; congr 1; omega]
    have s13 := s2.trans s3
    refine ⟨_, rfl, _, rfl, a1, a2, F, G, n, rfl, f2.same s3, g3, lF, lG, n1, by omega, sF, sG, fun t as H4 s4 e4 r4 => ?_⟩
    have f4 := f2.same (s3.trans s4)
    have g4 := g3.same s4
    have hF4 := (s13.trans s4) _ _ hF
    have hG4 := (s13.trans s4) _ _ hG
    have D4 := D1.same (s13.trans s4)
    have sy4 := sy1.trans (Sy.of (s13.trans s4))
    have las := RX.len r4
    rw [brow_len] at las
    clear s1 s2 s3 s4 s13 f2 g3 hF hG x1 x2 x3 y1 y2 y3 d1 D1 sy1 hp D0
    refine ⟨_, rfl, t, _, rfl, .inr (SqT.of e4), _, rfl, rfl, ?_⟩
    refine ⟨_, rfl, ?_⟩
    rw [List.length_map, las, decide_eq_true (rfl : V.int ((n : Nat) : Int) = V.int (n : Int))]
    refine iteF ⟨_, rfl, t, rfl, ⟨_, SqT.of e4⟩, fun D hD => ?_⟩
    have rget : ∀ {j : Nat} {x : V}, (as.map V.ref)[j]? = some x → j < n ∧ ∃ r, x = .ref r ∧ H4 r = some (tp (tb n (bz F G j))) := fun {j x} hx => by
      rw [List.getElem?_map] at hx
      obtain ⟨r, hr, rfl⟩ := Option.map_eq_some_iff.mp hx
      have hj : j < n := by
        rw [← las]
        exact (List.getElem?_eq_some_iff.mp hr).1
      obtain ⟨r', l, e1, e2, e3⟩ := RX.get r4 (i := j) (by rw [brow_len]; exact hj)
      rw [hr] at e1
      cases e1
      unfold brow at e2
      rw [List.getElem?_map, List.getElem?_range hj] at e2
      cases e2
      exact ⟨hj, r, rfl, e3⟩
    refine lc_tup (xs := as.map V.ref) (fun j H' => Same H4 H' ∧ H' D = some (ls (List.replicate j (n : Int)))) ⟨same_upd0 hD, upd_same⟩ (fun j H' _ hP => SqT.of (hP.1 _ _ e4)) (fun j x H' hx hP => ?_) (fun H5 hP => ?_)
    · obtain ⟨s5, e5⟩ := hP
      obtain ⟨hj, r, rfl, er⟩ := rget hx
      refine ⟨rfl, _, rfl, r, _, rfl, .inr (SqT.of (s5 _ _ er)), _, e5, ?_, fun b o e => ?_, ?_⟩
      · rw [List.length_map, List.length_replicate]
        exact small1000 (by omega)
      · rw [upd_ne (ne_of_none e hD)]
        exact s5 _ _ e
      · rw [upd_same, List.length_map, tb_len, List.replicate_succ']
        show _ = some (HO.lst (List.map V.int _))
        rw [List.map_append]
        rfl
    obtain ⟨s5, e5⟩ := hP
    rw [List.length_map, las] at e5
    refine ⟨_, rfl, sz1, fun p0 n0 => gen_upd H5 p0 (ls [(n : Int)]) n0 fun H6 s6 e6 => ?_⟩
    refine ⟨_, rfl, p0, _, [V.int n], rfl, rfl, e6, by omega, by omega, ?_, fun p7 n7 => gen_upd H6 p7 _ n7 fun H7 s7 e7 => ?_⟩
    · exact Nat.le_trans (m := 100) (show 1 * ((n : Nat) : Int).toNat ≤ 100 by omega) (by decide)
    rw [Int.toNat_natCast, List.flatten_replicate_singleton] at e7
    have e7' : H7 p7 = some (ls (List.replicate n (n : Int))) := by
      rw [e7]
      show _ = some (HO.lst (List.map V.int _))
      rw [List.map_replicate]
    refine ne_lintsL (SqL.of ((s6.trans s7) _ _ e5)) (SqL.of e7') ⟨_, rfl, ?_⟩
    rw [decide_eq_true (rfl : List.replicate n (n : Int) = List.replicate n (n : Int))]
    refine iteF ?_
    dsimp only [tNext]
    have s47 := s5.trans (s6.trans s7)
    have e4' := s47 _ _ e4
    have r4' := r4.same s47
    clear e7 e7' e6 e5 s5 s6 s7 n0 n7 hD
    refine ⟨_, rfl, _, rfl, (n : Int), rfl, by omega, by omega, fun D hD => ?_⟩
    refine lc_rangeT (n := (n : Int).toNat) (f := fun i => tb n fun j => bz F G j i) hD (by omega) (fun _ => rfl) (fun i H8 Q2 hi s8 kq => ?_) (fun bs H8 s8 e8 r8 => ?_)
    · have hi : i < n := by omega
      have e8 := s8 _ _ e4'
      refine ⟨_, rfl, t, rfl, ⟨_, SqT.of e8⟩, fun E hE => ?_⟩
      refine lc_tup (xs := as.map V.ref) (fun j H' => Same H8 H' ∧ H' E = some (ls (tb j fun j => bz F G j i))) ⟨same_upd0 hE, upd_same⟩ (fun j H' _ hP => SqT.of (hP.1 _ _ e8)) (fun j x H' hx hP => ?_) (fun H9 hP => ?_)
      · obtain ⟨s9, e9⟩ := hP
        obtain ⟨hj, r, rfl, er⟩ := rget hx
        have er9 := (s47.trans (s8.trans s9)) _ _ er
        refine ⟨rfl, _, rfl, _, rfl, r, _, i, _, rfl, rfl, SqT.of er9, atI_nat (j := i) (get_int (by rw [tb_len]; exact hi)), _, e9, ?_, fun b o e => ?_, ?_⟩
        · rw [List.length_map, tb_len]
          exact small1000 (by omega)
        · rw [upd_ne (ne_of_none e hE)]
          exact s9 _ _ e
        · rw [upd_same, tb_snoc, co_tb, if_pos hi]
          show _ = some (HO.lst (List.map V.int _))
          rw [List.map_append]
          rfl
      · obtain ⟨s9, e9⟩ := hP
        rw [List.length_map, las] at e9
        exact .inl ⟨E, _, rfl, SqL.of e9, fun z nz => gen_upd H9 z _ nz fun H10 s10 e10 => kq z H10 (s9.trans s10) e10⟩
    rw [Int.toNat_natCast, brow_turn] at r8
    refine .inl ⟨D, _, rfl, SqL.of e8, fun u nu => gen_upd H8 u _ nu fun H9 s9 e9 => ?_⟩
    refine ne_tt ((s8.trans s9) _ _ e4') e9 (r4'.same (s8.trans s9)) (r8.same s9) ⟨_, rfl, iteF ?_⟩
    dsimp only [tNext]
    have s49 := s47.trans (s8.trans s9)
    have e10 := s49 _ _ e4
    have r10 := r4.same s49
    have f9 := f4.same s49
    have g9 := g4.same s49
    have hF9 := s49 _ _ hF4
    have hG9 := s49 _ _ hG4
    have D9 := D4.same s49
    have sy9 := sy4.trans (Sy.of s49)
    clear s8 s9 e8 r8 nu e9 hD s47 e4' r4' s49 e4 r4 f4 g4 hF4 hG4 D4 sy4 rget
    refine ⟨_, rfl, _, rfl, _, rfl, a, b, t, F, G, n, as, rfl, hF9, hG9, e10, r10, lF, lG, n1, by omega, sF, sG, fun H10 s10 => ⟨_, rfl, iteF ?_⟩⟩
    dsimp only [tNext]
    have hsm : ∀ k : Nat, k ≤ 100 → sm (k : Int) := fun k h => sm_small (Nat.le_trans (show k ≤ 100 from h) (by decide))
    have sg6 : (1 : Int) - 2 * (((n : Int) * ((n : Int) - 1)).fdiv 2 % 2) = sgt n := by
      rw [Int.fdiv_eq_ediv_of_nonneg _ (by decide)]
      exact (sgt_6 n (by omega)).symm
    have sgs : sm (sgt n) := by
      have h := sgt_sq n
      have : (sgt n).natAbs * (sgt n).natAbs = 1 := by rw [← Int.natAbs_mul, h]; rfl
      have : (sgt n).natAbs = 1 := Nat.eq_one_of_mul_eq_one_left this
      exact sm_small (by rw [this]; decide)
    refine ⟨_, rfl, _, rfl, _, _, rfl, rfl, _, _, rfl, rfl, sm_mul (hsm n (by omega)) (sm_small (show ((n : Int) - 1).natAbs ≤ 2 ^ 40 by omega)), _, _, rfl, rfl, (show (2 : Int) ≠ 0 ∧ (2 : Int).natAbs.log2 < 9000 from ⟨by decide, by decide⟩), _, _, rfl, rfl, (by show (0 : Int) < 2; decide), .inl ⟨_, rfl, _, _, rfl, rfl, sm_mul (sm_small (by decide)) (sm_small (show (((n : Int) * ((n : Int) - 1)).fdiv 2 % 2).natAbs ≤ 2 ^ 40 by omega)), _, _, rfl, rfl, ?_⟩⟩
    dsimp only []
    rw [sg6]
    have e11 := s10 _ _ e10
    have r11 := r10.same s10
    have rF := res_small (F := F) (G := G) (by omega) (by omega) (by omega) (bF'.mono (by decide)) (bG'.mono (by decide))
    have rB := res_bdet (F := F) (G := G) (by omega) (by omega)
    refine ⟨_, rfl, t, as, _, n, 2 ^ 200, rfl, e11, r11, brow_ok bF' bG' n1 n6, fun H11 s11 => ⟨_, rfl, _, rfl, _, rfl, a, b, F, G, rfl, (s10.trans s11) _ _ hF9, (s10.trans s11) _ _ hG9, by omega, by omega, by omega, by omega, fun R bs H12 s12 eR rR => ⟨R, bs, _, _, 2 ^ 100, rfl, eR, rR, detOk (by omega) (by omega) (by omega) (bF'.mono (by decide)) (bG'.mono (by decide)), fun H13 s13 => ⟨_, _, rfl, rfl, by rw [rB]; exact sm_mul sgs rF, rfl, _, rfl, ?_⟩⟩⟩⟩
    rw [decide_eq_true (show V.int (bdet (brow F G n)) = V.int (sgt n * bdet (urows F G (F.length + G.length - 3))) by rw [brow_det, rB, det_bz lF lG n1])]
    refine iteF ?_
    dsimp only [tNext]
    have s913 := s10.trans (s11.trans (s12.trans s13))
    have e13 := s913 _ _ e10
    have r13 := r10.same s913
    have f13 := f9.same s913
    have g13 := g9.same s913
    have hF13 := s913 _ _ hF9
    have D13 := D9.same s913
    have sy13 := sy9.trans (Sy.of s913)
    have hG13 := s913 _ _ hG9
    clear s10 s11 s12 s13 eR rR s913 e10 r10 e11 r11 f9 g9 hF9 hG9 D9 sy9
    have bB := brow_bd (F := F) (G := G) bF' bG' n6
    refine ⟨_, rfl, _, rfl, a2, a1, G, F, n, rfl, g13, f13, lG, lF, n1, by omega, sG, sF, fun t2 bs2 H14 s14 e14 r14 => ?_⟩
    refine ⟨_, rfl, t, rfl, ⟨_, SqT.of (s14 _ _ e13)⟩, fun D hD => lc_ttT (f := fun r => r.map fun x => -1 * x) hD (s14 _ _ e13) (r13.same s14) (by rw [brow_len]; omega) (fun _ => rfl) (fun ad r H2 Q2 hr2 s2 e2 kq => ⟨_, rfl, _, rfl, ad, r, -1, rfl, e2, by rw [brow_w r hr2]; omega, fun x hx => Nat.lt_of_le_of_lt (bB r hr2 x hx) (by decide +kernel), sm_small (by decide), fun p H' s _ e => kq p H' s e⟩) (fun cs H15 s15 e15 r15 => ?_)⟩
    rw [brow_neg] at r15
    refine .inl ⟨D, _, rfl, SqL.of e15, fun u nu => gen_upd H15 u _ nu fun H16 s16 e16 => ?_⟩
    refine ne_tt ((s15.trans s16) _ _ e14) e16 (r14.same (s15.trans s16)) (r15.same s16) ⟨_, rfl, iteF ?_⟩
    dsimp only [tNext]
    have s1316 := s14.trans (s15.trans s16)
    have D16 := D13.same s1316
    refine ⟨_, rfl, _, rfl, d, n, rfl, D16.dd, by omega, fun p3 H17 J s17 d17 hJ bJ => ?_⟩
    have lJ := bJ.len
    have D17 := D16.sx s17 d17
    have sy1617 : Sy d Ps H16 H17 := Sy.ofD s17
    have e17 := D16.tup sy1617 (s1316 _ _ e13)
    have r17 : RT H17 as (brow F G n) := RX.imp (fun _ _ e => D16.tup sy1617 (s1316 _ _ e)) r13
    have f17 := (f13.same s1316).sx D16.dd s17
    have g17 := (g13.same s1316).sx D16.dd s17
    have hF17 := D16.tup sy1617 (s1316 _ _ hF13)
    have hG17 := D16.tup sy1617 (s1316 _ _ hG13)
    have sy17 := sy13.trans ((Sy.of s1316).trans sy1617)
    clear s14 s15 s16 s17 e14 r14 e15 r15 e16 s1316 D16 sy1617 e13 r13 f13 g13 hF13 hG13 D13 sy13 nu hD
    have bS := bd_zs bF (bJ.mono (show 10 ^ 14 ≤ 10 ^ 28 by decide))
    have lS := bS.len
    have tS : Tr (zs 1 F J) := bS.tr (by omega) (by decide +kernel)
    have tJ : Tr J := bJ.tr (by omega) (by decide +kernel)
    have sS := (bS.rw (by omega) (by decide +kernel)).sm
    have sJ := (bJ.rw (by omega) (by decide +kernel)).sm
    dsimp only []
    refine ⟨_, rfl, _, rfl, a, p3, F, J, rfl, hF17, hJ, by omega, by omega, fun q1 H18 s18 _ e18 => fun z w x1 x2 x3 => mkF x1 x2 x3 e18 tS.pos (by omega) tS.sho fun H19 s19 f19 => ⟨_, rfl, z, a2, zs 1 F J, G, n, rfl, f19, g17.same (s18.trans s19), lS, lG, n1, by omega, sS, sG, fun t3 bs3 H20 s20 e20 r20 => ?_⟩⟩
    have s1720 := s18.trans (s19.trans s20)
    have e20t := s1720 _ _ e17
    have r20t := r17.same s1720
    refine ⟨_, rfl, _, rfl, _, rfl, fun z2 w2 y1 y2 y3 => mkF y1 y2 y3 (s1720 _ _ hJ) tJ.pos (by omega) tJ.sho fun H21 s21 f21 => ⟨_, rfl, z2, a2, J, G, n, rfl, f21, g17.same (s1720.trans s21), lJ, lG, n1, by omega, sJ, sG, fun t4 bs4 H22 s22 e22 r22 => ?_⟩⟩
    have s2022 := s21.trans s22
    have eT := s2022 _ _ e20t
    have rT := r20t.same s2022
    have lb4 := RX.len r22
    rw [brow_len] at lb4
    have getL : ∀ {xs : List Addr} {L : List (List Int)} {H : Hp} {k : Nat} {x : V}, RT H xs L → (xs.map V.ref)[k]? = some x → ∃ r, x = .ref r ∧ H r = some (tp (L.getD k [])) := fun {xs L H k x} h hx => by
      rw [List.getElem?_map] at hx
      obtain ⟨r, hr, rfl⟩ := Option.map_eq_some_iff.mp hx
      obtain ⟨r', l, e1, e2, e3⟩ := RX.get h (i := k) (by rw [← RX.len h]; exact (List.getElem?_eq_some_iff.mp hr).1)
      rw [hr] at e1
      cases e1
      refine ⟨r, rfl, ?_⟩
      rw [List.getD_eq_getElem?_getD, e2]
      exact e3
    refine ⟨t, t4, _, _, rfl, .inr ⟨SqT.of eT, SqT.of e22, fun D hD => lc_zipT (xs := as.map V.ref) (ys := bs4.map V.ref) (by rw [List.length_map, List.length_map, las, lb4]) (fun k H' => Same H22 H' ∧ ∃ cs : List Addr, H' D = some (.lst (cs.map V.ref)) ∧ cs.length = k ∧ RT H' cs ((List.range k).map fun i => zs 1 ((brow F G n).getD i []) ((brow J G n).getD i []))) ⟨same_upd0 hD, [], upd_same, rfl, True.intro⟩ (fun k H' _ hP => ⟨SqT.of (hP.1 _ _ eT), SqT.of (hP.1 _ _ e22)⟩) (fun k x y Z H' hx hy hP hZ => ?_) (fun H23 hP => ?_)⟩⟩
    · obtain ⟨s23, cs, eD, lc, rD⟩ := hP
      obtain ⟨r1, rfl, h1⟩ := getL rT hx
      obtain ⟨r2, rfl, h2⟩ := getL r22 hy
      have hk : k < n := by
        have := (List.getElem?_eq_some_iff.mp hx).1
        rw [List.length_map] at this
        omega
      have lg : ∀ X : List Int, ((brow X G n).getD k []).length = n := fun X => brow_w _ (mem_row (by rw [brow_len]; exact hk))
      have sZ := same_upd0 (o := .tup [.ref r1, .ref r2]) hZ
      refine ⟨Z, _, rfl, SqT.of upd_same, rfl, _, _, rfl, _, _, rfl, rfl, rfl, _, rfl, _, rfl, r1, r2, _, _, rfl, sZ _ _ (s23 _ _ h1), sZ _ _ (s23 _ _ h2), by rw [lg, lg], by rw [lg]; omega, fun q2 H24 s24 _ e24 => ?_⟩
      have eD4 := s24 _ _ (sZ _ _ eD)
      refine ⟨_, eD4, by rw [List.length_map, lc]; exact small1000 (by omega), fun b o e => ?_, cs ++ [q2], ?_, ?_, ?_⟩
      · rw [upd_ne (ne_of_none e hD)]
        exact s24 _ _ (sZ _ _ (s23 _ _ e))
      · rw [upd_same, List.map_append]
        rfl
      · rw [List.length_append, lc]
        rfl
      · rw [List.range_succ, List.map_append]
        refine RX.snoc (RT.updL ((rD.same sZ).same s24) eD4) ?_
        show upd H24 D _ q2 = _
        rw [upd_ne (fun z => by rw [z, eD4] at e24; cases e24)]
        exact e24
    obtain ⟨s23, cs, eD, lc, rD⟩ := hP
    rw [List.length_map, las, brow_add (by omega)] at rD
    refine .inl ⟨D, _, rfl, SqL.of eD, fun u nu => gen_upd H23 u _ nu fun H24 s24 e24 => ?_⟩
    refine ne_tt ((s2022.trans (s23.trans s24)) _ _ e20) e24 (r20.same (s2022.trans (s23.trans s24))) (rD.same s24) ⟨_, rfl, iteF ?_⟩
    dsimp only [tNext]
    have s1724 := s1720.trans (s2022.trans (s23.trans s24))
    have e25 := s1724 _ _ e17
    have r25 := r17.same s1724
    have f25 := f17.same s1724
    have g25 := g17.same s1724
    have hF25 := s1724 _ _ hF17
    have hG25 := s1724 _ _ hG17
    have D25 := D17.same s1724
    have sy25 := sy17.trans (Sy.of s1724)
    clear s18 s19 s20 s21 s22 s23 s24 s1720 s2022 s1724 e18 e20 e20t r20t r20 e22 r22 eT rT eD rD e24 e17 r17 f17 g17 hF17 hG17 D17 sy17 f19 f21 getL hD nu
    refine ⟨_, rfl, _, rfl, t, as, brow F G n, n, rfl, .inl e25, RX.imp (fun _ _ e => .inl e) r25, by rw [brow_len]; omega, by omega, brow_w, eokL (M := 2 ^ 200) brow_w bB (Nat.lt_of_le_of_lt (Bd_mono (show (brow F G n).length ≤ 6 by rw [brow_len]; omega)) (by decide +kernel)), fun H26 s26 => ?_⟩
    have D26 := D25.same s26
    have sy26 := sy25.trans (Sy.of s26)
    have fin26 := fin H26 sy26 D26
    refine ⟨_, rfl, a, F, rfl, s26 _ _ hF25, rfl, _, rfl, ?_⟩
    have zero : ∀ {X : List Int}, cont X = 0 → ∀ i, co X i = 0 := fun {X} h i => by
      by_cases c : i < X.length
      · exact cont_zero h _ (co_memE c)
      · exact co_far (by omega)
    by_cases c1 : cont F = 0
    · rw [decide_eq_true (show V.int ((cont F : Nat) : Int) = V.int 0 by rw [c1]; rfl)]
      refine iteT (iteT ⟨_, rfl, rfl, ?_⟩)
      rw [rank_bz0 (bz_zeroF (zero c1)), decide_eq_true (show V.int ((0 : Nat) : Int) = V.int 0 from rfl)]
      exact fin26
    rw [decide_eq_false (show ¬ V.int ((cont F : Nat) : Int) = V.int 0 from fun e => c1 (by have := V.int.inj e; omega))]
    refine iteF ⟨_, rfl, b, G, rfl, s26 _ _ hG25, rfl, _, rfl, ?_⟩
    by_cases c2 : cont G = 0
    · rw [decide_eq_true (show V.int ((cont G : Nat) : Int) = V.int 0 by rw [c2]; rfl)]
      refine iteT ⟨_, rfl, rfl, ?_⟩
      rw [rank_bz0 (fun i j => by rw [bz_swap, bz_zeroF (zero c2), Int.mul_zero]), decide_eq_true (show V.int ((0 : Nat) : Int) = V.int 0 from rfl)]
      exact fin26
    rw [decide_eq_false (show ¬ V.int ((cont G : Nat) : Int) = V.int 0 from fun e => c2 (by have := V.int.inj e; omega))]
    have nF : Nz (ev F) := nz_of (by
      cases e : nzr F
      · exact absurd ((cont_nzr F).mpr e) c1
      · rfl)
    have nG : Nz (ev G) := nz_of (by
      cases e : nzr G
      · exact absurd ((cont_nzr G).mpr e) c2
      · rfl)
    have rk := rank_bz lF lG n1 nF nG (cmn_com nF nG) fun X Y nX nY => ⟨cmn X Y, cmn_com nX nY, (cmn_full nX nY).2.2.2.2⟩
    refine iteF ⟨_, rfl, _, rfl, _, rfl, _, rfl, a1, a2, F, G, rfl, f25.same s26, g25.same s26, by omega, by omega, lv_of nF, lv_of nG, (cf_pair (by omega) (by omega) (bF'.mono (by decide)) bG').ok, D26.tt, fun x H27 s27 t27 fo => prop_deg fo ⟨_, _, rfl, rfl, rfl, ?_⟩⟩
    rw [decide_eq_true (show V.int (((ech lless (brow F G n) n).length : Nat) : Int) = V.int ((n : Int) - (((cmn F G).length : Int) - 1)) by
      congr 1
      omega)]
    exact fin H27 (sy26.trans (Sy.ofP s27)) (D26.sp s27 t27)
end
end K76

set_option Elab.async false
set_option linter.all false
set_option maxRecDepth 100000
set_option maxHeartbeats 4000000
set_option exponentiation.threshold 10000
namespace K76
open PySem PySem.Spec PyProof.Rows L2 StX RZ MyR SlX OwnR OwnF EnumT SeqE GxR GenNx FDivQ
theorem t1_ : brow [1, 0, -2] [0, 1, 0] 2 = [[1, 0], [0, 2]] := by decide +kernel
theorem t2_ : brow [2, 3] [5, 7] 1 = [[-1]] := by decide +kernel
section
variable {P : Program} {w : World} {K : PySem.W.Frag} {mg : Str → Option Value} {base : Heap}
theorem ok_law (T : Facts K mg) (TB_first_of : TabB base mg T.c_first_of T.P_first_of) : FnOk P w K mg base CX0 10 T.f_law T.fd_law ["_law_script"] (spLawT K [T.P_first_of]) := by
  obtain ⟨Ps, ePs⟩ : ∃ Ps, [T.P_first_of] = Ps := ⟨_, rfl⟩
  have hP : T.P_first_of ∈ Ps := by rw [← ePs]; simp
  rw [ePs]
  have G_law_dice := ok_law_dice (P := P) (w := w) (base := base) T
  have G_law_right := ok_law_right (P := P) (w := w) (base := base) T TB_first_of hP
  have G_bezout_table := ok_bezout_table (P := P) (w := w) (base := base) T
  have G_Form_init : FnOk P w K mg base CX0 5 T.f_Form_init T.fd_Form_init ["self", "entries"] (spForm T.C_Told T.C_Form) := ok_Form_init T
  refine T.F_law.ok sc_law (fun vs H Q E h => ?_) (fun cdv A outer s H vs Q E hr h => ?_)
  · obtain ⟨a, ns, rfl, _⟩ := h
    rfl
  · obtain ⟨a, ns, rfl, ha, hn, hG, q⟩ := h
    refine ⟨_, (PSs.nox (pss_cons (ps_for PassesOwn.never (by rfl) (pi_range1 (by rfl) T.z_range (pa_cons (pe_callB (call_max2 (by rfl)) (by rfl) T.z_max (by decide +kernel) (pa_cons pe_int (pa_cons (pe_callB (call_min2 (by rfl)) (by rfl) T.z_min (by decide +kernel) (pa_cons pe_int (pa_cons (pe_callB call_len_seq (by rfl) T.z_len (by decide +kernel) (pa_cons (pv 0) pa_nil)) pa_nil))) pa_nil))) pa_nil)) (pg_name (i := 1) sc_law.nd rfl (.inl rfl))
      (pss_cons (ps_set (i := 2) sc_law.nd rfl (.inl rfl) (pe_call G_law_dice (hr.mono (by decide)) (by rfl) T.g_law_dice T.F_law_dice.kp T.b_law_dice .nil pass0 (pa_cons (pv 0) (pa_cons (pv 1) pa_nil))))
      (pss_one (ps_if (pw_or (pt_not (pt_val (pe_call G_law_right hr (by rfl) T.g_law_right T.F_law_right.kp T.b_law_right .nil pass0 (pa_cons (pv 2) pa_nil)))) (pw_or (pt_not (pt_val (pe_call G_law_right hr (by rfl) T.g_law_right T.F_law_right.kp T.b_law_right .nil pass0 (pa_cons (pv 2) pa_nil)))) (pw_or1 (pt_not (pt_val (pe_call G_law_right hr (by rfl) T.g_law_right T.F_law_right.kp T.b_law_right .nil pass0 (pa_cons (pv 2) pa_nil))))))).pt
        (pss_one (ps_ret pe_bl))
        pss_nil))))
    (pss_cons (ps_set (i := 3) sc_law.nd rfl (.inl rfl) (pe_make T.mk_Form G_Form_init (hr.mono (by decide)) (by rfl) T.g_Form T.b_Form_init .nil pass0 (pa_cons (pe_tup (pa_cons pe_int (pa_cons pe_int (pa_cons (pe_un un_neg pe_int) pa_nil)))) pa_nil)))
    (pss_one (ps_ret (pe_and (pe_cmpR (op_eqD (hu64 hr)) (pe_call G_bezout_table (hr.mono (by decide)) (by rfl) T.g_bezout_table T.F_bezout_table.kp T.b_bezout_table .nil pass0 (pa_cons (pv 3) (pa_cons (pe_make T.mk_Form G_Form_init (hr.mono (by decide)) (by rfl) T.g_Form T.b_Form_init .nil pass0 (pa_cons (pe_tup (pa_cons pe_int (pa_cons pe_int (pa_cons pe_int pa_nil)))) pa_nil)) pa_nil))) (pe_tup (pa_cons (pe_tup (pa_cons pe_int (pa_cons pe_int pa_nil))) (pa_cons (pe_tup (pa_cons pe_int (pa_cons pe_int pa_nil))) pa_nil))) (nomark _)) (pe_one (pe_cmpR (op_eqD (hu64 hr)) (pe_call G_bezout_table (hr.mono (by decide)) (by rfl) T.g_bezout_table T.F_bezout_table.kp T.b_bezout_table .nil pass0 (pa_cons (pe_make T.mk_Form G_Form_init (hr.mono (by decide)) (by rfl) T.g_Form T.b_Form_init .nil pass0 (pa_cons (pe_tup (pa_cons pe_int (pa_cons pe_int pa_nil))) pa_nil)) (pa_cons (pe_make T.mk_Form G_Form_init (hr.mono (by decide)) (by rfl) T.g_Form T.b_Form_init .nil pass0 (pa_cons (pe_tup (pa_cons pe_int (pa_cons pe_int pa_nil))) pa_nil)) pa_nil))) (pe_tup (pa_cons (pe_tup (pa_cons (pe_un un_neg pe_int) pa_nil)) pa_nil)) (nomark _))))))))), ?_⟩
    refine ⟨_, rfl, a, _, rfl, .inl ha, 4, _, rfl, 1, _, rfl, ?_⟩
    rw [List.length_map]
    obtain ⟨n, hn1, hn0⟩ : ∃ n : Int, (if (if ((ns.length : Nat) : Int) < 4 then ((ns.length : Nat) : Int) else 4) > 1 then (if ((ns.length : Nat) : Int) < 4 then ((ns.length : Nat) : Int) else 4) else 1) = n ∧ 0 ≤ n ∧ n ≤ 4 := ⟨_, rfl, by split <;> split <;> omega, by split <;> split <;> omega⟩
    rw [hn1]
    refine ⟨_, rfl, by omega, by omega, for_range (n := n.toNat) (fun i σ H' => ∃ y1 y2, σ = [some (.ref a), y1, y2, none] ∧ SqL K H' a (ns.map V.int) ∧ Tg Ps H') ⟨none, none, rfl, ha, hG⟩ (fun i σ H1 hi hP => ?_) (fun σ H1 hP => ?_)⟩
    · obtain ⟨y1, y2, rfl, h1, p1⟩ := hP
      refine ⟨_, rfl, _, rfl, a, ns, i, ?_, h1, fun d x y z nd => ?_⟩
      · show [V.ref a, V.int (0 + (i : Int))] ++ [] = _
        rw [Int.zero_add]
        rfl
      have D1 : Dp d Ps (upd H1 d (dice x y z)) := ⟨⟨x, y, z, upd_same⟩, p1.same (same_upd0 nd)⟩
      refine ⟨_, rfl, d, rfl, D1, fun H3 s3 D3 => ⟨_, rfl, iteF ⟨_, rfl, d, rfl, D3, fun H4 s4 D4 => ⟨_, rfl, iteF ⟨_, rfl, d, rfl, D4, fun H5 s5 D5 => ⟨_, rfl, iteF ?_⟩⟩⟩⟩⟩⟩
      exact ⟨_, _, rfl, script_Sy (s3.trans (s4.trans s5)) nd p1 h1, D5.tt⟩
    · obtain ⟨y1, y2, rfl, h1, t1⟩ := hP
      have sho : ∀ {l : List Int}, (∀ z ∈ l, z.natAbs ≤ 7) → ∀ z ∈ l, Sho z := fun h z hz => Nat.lt_of_le_of_lt (h z hz) (by decide)
      have smo : ∀ {l : List Int}, (∀ z ∈ l, z.natAbs ≤ 7) → ∀ z ∈ l, sm z := fun h z hz => sm_small (Nat.le_trans (h z hz) (by decide))
      refine ⟨_, rfl, sz3, fun u0 m0 => gen_upd H1 u0 (tp [1, 0, -2]) m0 fun H2 s2 e0 => fun a0 dx x1 x2 x3 => mkF x1 x2 x3 e0 (by decide) (by decide) (sho (by decide)) fun H3 s3 f0 => ?_⟩
      refine ⟨_, rfl, sz3, fun u1 m1 => gen_upd H3 u1 (tp [0, 1, 0]) m1 fun H4 s4 e1 => fun a1 dx1 y1 y2 y3 => mkF y1 y2 y3 e1 (by decide) (by decide) (sho (by decide)) fun H5 s5 f1 => ⟨a0, a1, _, _, 2, rfl, f0.same (s4.trans s5), f1, rfl, rfl, by decide, by decide, smo (by decide), smo (by decide), fun p bs H6 s6 e6 r6 => ?_⟩⟩
      rw [t1_] at r6
      refine ⟨sz2, fun p1 n1 => gen_upd H6 p1 (tp [1, 0]) n1 fun H7 s7 e7 => ⟨sz2, fun p2 n2 => gen_upd H7 p2 (tp [0, 2]) n2 fun H8 s8 e8 => ⟨sz2, fun p3 n3 => gen_upd H8 p3 (.tup [.ref p1, .ref p2]) n3 fun H9 s9 e9 => ?_⟩⟩⟩
      refine eq_tt (as := bs) (bs := [p1, p2]) (rows := [[1, 0], [0, 2]]) ((s7.trans (s8.trans s9)) _ _ e6) e9 (r6.same (s7.trans (s8.trans s9))) ⟨(s8.trans s9) _ _ e7, s9 _ _ e8, True.intro⟩ ⟨_, rfl, iteT ?_⟩
      refine ⟨sz2, fun u2 m2 => gen_upd H9 u2 (tp [2, 3]) m2 fun H10 s10 e10 => fun a2 dx2 z1 z2 z3 => mkF z1 z2 z3 e10 (by decide) (by decide) (sho (by decide)) fun H11 s11 f2 => ⟨sz2, fun u3 m3 => gen_upd H11 u3 (tp [5, 7]) m3 fun H12 s12 e12 => fun a3 dx3 v1 v2 v3 => mkF v1 v2 v3 e12 (by decide) (by decide) (sho (by decide)) fun H13 s13 f3 => ⟨a2, a3, _, _, 1, rfl, f2.same (s12.trans s13), f3, rfl, rfl, by decide, by decide, smo (by decide), smo (by decide), fun q1 cs H14 s14 e14 r14 => ?_⟩⟩⟩
      rw [t2_] at r14
      refine ⟨_, rfl, sz1, fun p4 n4 => gen_upd H14 p4 (tp [-1]) n4 fun H15 s15 e15 => ⟨sz1, fun p5 n5 => gen_upd H15 p5 (.tup [.ref p4]) n5 fun H16 s16 e16 => ?_⟩⟩
      exact eq_tt (as := cs) (bs := [p4]) (rows := [[-1]]) ((s15.trans s16) _ _ e14) e16 (r14.same (s15.trans s16)) ⟨s16 _ _ e15, True.intro⟩ (q H16)
end
end K76

set_option Elab.async false
set_option linter.all false
set_option maxRecDepth 100000
set_option maxHeartbeats 0
namespace K76
open PySem PySem.Spec PyProof.Rows L2
theorem facts {l : PySem.W.OpenLaw} {w : World} {K : PySem.W.Frag} {h : Heap} {mg : Str → Option Value} {f : Addr} (X : K.In h) (G : h.Ns mainGlobals mg) (hfa : mg ("law" : Str) = some (.ref f)) (c : HookT.SaysGT faL fnL tfL exL h K) :
    LamX.LawAtS l w K CX0 10 63 "_law_script" mg f h := by
  obtain ⟨T⟩ := facts_of X G c.g
  have e := hfa.symm.trans T.g_law
  cases e
  have b := FunD.bindsA (ps := ["_law_script"]) T.F_law fun _ _ _ _ _ _ us hl => match us, hl with | [_], _ => rfl
  have key : ∀ p ∈ ([(T.c_first_of, T.P_first_of)] : List (Addr × Addr)), ∃ q ∈ tfL, p = HookT.cTA K q := fun p hp => by
    simp only [List.mem_cons, List.not_mem_nil, or_false] at hp
    rcases hp with rfl
    · exact ⟨(HookG.At.glo "first_of"), by unfold tfL; simp, T.tab_first_of⟩
  refine ⟨T.fd_law, [(T.c_first_of, T.P_first_of)], spLawT K [T.P_first_of], fun p hp => ?_, fun p hp => ?_, fun p hp => ?_, fun s v => b s [v] rfl, fun H a ns hl _ hH hS => ⟨a, ns, rfl, hS, hl, (fun P hP => (List.mem_singleton.mp hP) ▸ HookT.tabG0 (hH (T.c_first_of, T.P_first_of) (by simp))), fun _ => rfl⟩, fun base _ _ TB => ok_law T (have t := TB (T.c_first_of, T.P_first_of) (by simp); ⟨t.code, t.bm, t.gP⟩)⟩
  · obtain ⟨q, hq, rfl⟩ := key p hp
    exact c.empty q hq
  · obtain ⟨q, hq, rfl⟩ := key p hp
    exact c.out q hq
  · obtain ⟨q, hq, rfl⟩ := key p hp
    exact PySem.W.codeHd_of_K X (c.hd q hq)
end K76
open PySem PySem.W PySem.Calls PyProof.Rows
theorem PySem.Challenge.cw_sourceforms_k76_whole_bezout_tables_holds : PySem.Challenge.rw_sourceforms_k76_whole_bezout_tables.Holds := by
  w_on; o_law
  refine HandSHeadRun.head_imp (r := OpenLaw.row PySem.Challenge.rw_sourceforms_k76_whole_bezout_tables) (q := view (OpenLaw.row PySem.Challenge.rw_sourceforms_k76_whole_bezout_tables).prog [0, 71]) (H := K76.hk) (ob := K76.ob) (M := 12000) (loose := K76.loose) (d := HandSHeadRun.topDef (OpenLaw.row PySem.Challenge.rw_sourceforms_k76_whole_bezout_tables).prog 71) (kwd := []) K76.ob_eq K76.run (by kernel_rfl) (by kernel_rfl) (by kernel_rfl) (by rfl) (by first | assumption | decide +kernel) (by decide +kernel) ⟨rfl, rfl, rfl, rfl, rfl, by decide +kernel⟩ ?hw ?hc
  case hw => w_witness2
  case hc =>
    refine LamX.walk_ofTsE (l := PySem.Challenge.rw_sourceforms_k76_whole_bezout_tables) (n := 63) (k := 10) (x := "_law_script") (CX := fun _ => L2.CX0) rfl (by decide) (by kernel_rfl) ⟨rfl, by decide, by decide⟩ ?F (fun _ _ _ _ _ z => z)
    intro w mg fa h Y G hmg0
    obtain ⟨K, KX, c⟩ := Y
    have hmg : mg ("law" : PySem.Str) = some (.ref fa) := by
      have e : (HandSHeadRun.topDef (OpenLaw.row PySem.Challenge.rw_sourceforms_k76_whole_bezout_tables).prog 71).name = ("law" : PySem.Str) := by kernel_rfl
      rw [← e]
      exact hmg0
    exact ⟨K, KX, K76.facts KX G hmg c⟩
