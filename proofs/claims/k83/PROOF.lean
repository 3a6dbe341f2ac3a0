import PyProof.Rows.All
import Wide.All
import OpenK.AllK
import Wide.FinOn
import KE.KTupSum
import HandS.ForMost
import HandS.Wide
import HandS.Style
import HandS.Gcd
import KE.KMathG
import Flt.RightSqrt
import HandS.SlotsOwn
import HandS.IsInst
import KE.KOpsOwn
import KE.KCallOwn
import KE.KOwnIter
import OpenK.KMeth
import OpenK.KOps
import PyProof.InstNe
import HandS.OwnIter
import HandS.IterNext
import HandS.Defaults
import HandS.HeadHook2
import HandS.HeadNt
import HandS.Codes
import HandS.Words
import HandS.Slots
import HandS.ClsMeth
import PyProof.ListIndex
import HandS.Iter
import KE.GoesMore
import HandS.List
import HandS.AnyAll
import HandS.ExcOwn
import KE.KDictIter
import PyProof.GenCompT
import HandS.HeadHook4
import HandS.HeadWalk
import PyProof.TupleOfGen
import HandS.OwnEq
import PyProof.NeKinds
import HandS.Star
import HandS.IterVal
import HandS.TupMul
import HandS.Zip
import HandS.Comp
import KE.GoesZip
import HandS.Deep
import HandS.TupSets
import HandS.Sort
import KE.DataFind
import PyProof.MinMaxWalk
import PyProof.WalkInts
import PyProof.TupleOps
import PyProof.WalksMore
import HandS.Conv
import HandS.TupAny
import HandS.Evl
import HandS.WordsExc
import HandS.Head0
import HandS.Head1
import HandS.Head2
import HandS.Head3
import HandS.HeadEnd
import HandS.HeadHook1
import HandS.HeadHook3
import HandS.FStr
import KE.KEqSeq
import HandS.Flt
import HandS.TupLe
import HandS.TryOnly
import PySem.Challenge.RW_sourceforms_k83_whole_rows_of_pencils

set_option Elab.async false
set_option linter.all false
set_option maxRecDepth 100000
set_option maxHeartbeats 4000000
/-! rules of mine: a tuple turned round by a slice, the sum of a tuple -/
namespace MyR
open PySem PySem.Spec PyProof.Rows L2 HT
section
variable {prog : Program} {w : World} {A : Around} {E : Value → Shared → Prop} {s : Shared}
end
section
variable {X : Cx}
/-- // by any int other than 0 -/
def CDivZ (_ j : Int) : Prop := j ≠ 0 ∧ j.natAbs.log2 < 9000
theorem op_fdivZ : OpR X (binaryOp .FloorDiv) (rI CDivZ fun i j => .int (i.fdiv j)) := opI fun i j _ _ _ _ _ hc q =>
  floordiv_int hc.1 q (.inl (PyProof.noPylong_of_log2 hc.2))
end
end MyR

set_option Elab.async false
set_option linter.all false
set_option maxRecDepth 100000
set_option maxHeartbeats 2000000
/-! rules for instances with slots: own +, -, *, unary -, ==, !=, len, str -/
namespace OwnR
open PySem PySem.Spec PyProof.Rows L2 SlX
section
variable {X : Cx} {CX : CXT} {C g : Addr} {n : Nat} {sp : Sp} {E : XK}
end
end OwnR

set_option Elab.async false
set_option linter.all false
set_option maxRecDepth 100000
set_option maxHeartbeats 2000000
/-! list(x) of an instance with own __iter__ (an iterator over a tuple) and own __len__; iter of a tuple -/
namespace OwnR
open PySem PySem.Spec PyProof.Rows L2 SlX
/-- at it an iterator over the tuple at t, the next place is i -/
def ItT (t it : Addr) (i : Nat) : HO := .ext fun h => IsTupIter h it t i
section
variable {X : Cx} {CX : CXT} {pins : List (Addr × Obj)} {σ : L2.St} {H : Hp} {s : Shared} {C g gl t it q : Addr} {n i : Nat} {sp spl : Sp} {E : XK}
/-- what stands while the iterator's items are taken -/
structure Tk (K : PySem.W.Frag) (H0 H : Hp) (t it q : Addr) (ys : List V) (i : Nat) : Prop where
  at_ : H it = some (ItT t it i)
  tu : SqT K H t ys
  li : H q = some (.lst (ys.take i))
  st : ∀ b o, b ≠ it → b ≠ q → H0 b = some o → H b = some o
theorem slt_upd {a dx q : Addr} {vs : List (Option V)} {o : HO} (h : Slt H a C dx vs) (n : H q = none) : Slt (upd H q o) a C dx vs := by
  rcases h with ⟨h1, h2⟩ | ⟨h1, h2⟩
  · exact .inl ⟨by rw [upd_ne (ne_of_none h1 n)]; exact h1, h2⟩
  · exact .inr ⟨by rw [upd_ne (ne_of_none h1 n)]; exact h1, by rw [upd_ne (ne_of_none h2 n)]; exact h2⟩
end
end OwnR

set_option Elab.async false
set_option linter.all false
set_option maxRecDepth 100000
set_option maxHeartbeats 2000000
/-! a Hook that tells of defs found anywhere (a global, a class's method, a property's getter), and of classes with slots -/
namespace HookG
open PySem PySem.Spec PyProof.Rows L2 He
/-- the property f of the class at C -/
def prA (K : PySem.W.Frag) (C : Addr) (f : Str) : Addr := match PySem.W.recIn K (ma K C f) "property" with
  | some (.ref g :: _) => g
  | _ => 0
/-- where a def stands: a global; a method; a property's getter; a classmethod -/
inductive At where
  | glo (x : Str)
  | met (C m : Str)
  | prp (C f : Str)
  | cms (C m : Str)
def At.adr (K : PySem.W.Frag) : At → Addr
  | .glo x => ga K x
  | .met C m => ma K (ga K C) m
  | .prp C f => prA K (ga K C) f
  | .cms C m => He5.wf K (ga K C) "classmethod" m
structure GD where
  at_ : At
  name : Str
  qual : Str
  params : Arguments
  body : List Stmt
  scope : Scope
def fnA (K : PySem.W.Frag) (a : Addr) : FnW := match K.lookup a with
  | some ⟨_, _, .func fd, _⟩ => some (fd.name, fd.qualname, fd.params, fd.body, fd.scope, fd.globals, fd.closure, fd.builtins)
  | _ => none
def GD.val (d : GD) : FnW := some (d.name, d.qual, d.params, .stmts d.body, d.scope, mainGlobals, [], builtinsNs)
def GD.ok (K : PySem.W.Frag) (d : GD) : Bool := PySem.W.keepIn K (.ref (d.at_.adr K)) && (match K.lookup (d.at_.adr K) with
  | some ⟨_, _, .func fd, _⟩ => PySem.W.codeIn K fd.code d.qual && (dflB K fd.defaults [] && kwdB K fd.kwdefaults [])
  | _ => false)
theorem GD.funD {K : PySem.W.Frag} {d : GD} (e : fnA K (d.at_.adr K) = d.val) (c : d.ok K = true) : ∃ fd, FunD K d.name d.qual d.params d.body d.scope [] [] (d.at_.adr K) fd := by
  obtain ⟨kp, c2⟩ := ba c
  unfold fnA at e
  cases q : K.lookup (d.at_.adr K) with
  | none => rw [q] at c2; cases c2
  | some o =>
    obtain ⟨oc, od, dt, osl⟩ := o
    rw [q] at c2 e
    cases dt with
    | func fd =>
      obtain ⟨n1, n2, n3, n4, n5, n6, n7, n8, n9, n10, n11, n12, n13, n14, n15⟩ := fd
      have e2 : (some (n1, n2, n3, n4, n5, n6, n7, n15) : FnW) = some (d.name, d.qual, d.params, .stmts d.body, d.scope, mainGlobals, [], builtinsNs) := e
      simp only [Option.some.injEq, Prod.mk.injEq] at e2
      obtain ⟨h1, h2, h3, h4, h5, h6, h7, h8⟩ := e2
      subst h1 h2 h3 h4 h5 h6 h7 h8
      have c3 : (PySem.W.codeIn K n13 d.qual && (dflB K n8 [] && kwdB K n9 [])) = true := c2
      obtain ⟨k1, k2⟩ := ba c3
      obtain ⟨k3, k4⟩ := ba k2
      exact ⟨_, ⟨oc, od, n8, n9, n10, n11, n12, n13, n14, osl, rfl, q, k1, dflB_ok k3, kwdB_ok k4⟩, kp⟩
    | _ => cases c2
/-! ### facts of classes with slots -/
def dO {α : Type} [DecidableEq α] (a b : Option α) : Bool := decide (a = b)
theorem dO_ok {α : Type} [DecidableEq α] {a b : Option α} (h : dO a b = true) : a = b := of_decide_eq_true h
/-- the class at the module's name x: plain, with slots -/
def sclB (K : PySem.W.Frag) (x : Str) : Bool := PySem.W.plainGet K (ga K x) Str.empty && (PySem.W.isClsIn K (ga K x) && (PySem.W.plainOver K (ga K x) && eqO (PySem.W.findIn K (.ref (ga K x)) "__setattr__") (some (some (.builtin "object.__setattr__")))))
theorem sclB_ok {K : PySem.W.Frag} {x : Str} (h : sclB K x = true) : SlX.SCls K (ga K x) := by
  obtain ⟨c1, c⟩ := ba h
  obtain ⟨c2, c⟩ := ba c
  obtain ⟨c3, c4⟩ := ba c
  exact ⟨c1, c2, c3, eqO_ok c4⟩
def slotB (K : PySem.W.Frag) (x f : Str) (i : Nat) : Bool := eqO (PySem.W.findIn K (.ref (ga K x)) f) (some (some (.ref (ma K (ga K x) f)))) && (eqO (PySem.W.specialIn K (.ref (ma K (ga K x) f)) "__get__") (some (some (.builtin "member_descriptor.__get__"))) && (dO (PySem.W.takesIn K (.ref (ma K (ga K x) f))) (some true) && (dO (PySem.W.typeIn K (.ref (ma K (ga K x) f))) (some (.type "member_descriptor")) && dO (PySem.W.slotIn K (ma K (ga K x) f) (ga K x)) (some i))))
theorem slotB_ok {K : PySem.W.Frag} {x f : Str} {i : Nat} (h : slotB K x f i = true) (hi : i < 1000) : SlX.Slot1 K (ga K x) f (ma K (ga K x) f) i := by
  obtain ⟨c1, c⟩ := ba h
  obtain ⟨c2, c⟩ := ba c
  obtain ⟨c3, c⟩ := ba c
  obtain ⟨c4, c5⟩ := ba c
  exact ⟨eqO_ok c1, eqO_ok c2, dO_ok c3, dO_ok c4, dO_ok c5, hi⟩
def sisB (K : PySem.W.Frag) (x : Str) : Bool := eqO (PySem.W.findIn K (.ref (ga K x)) "__class__") (some (some (.builtin "object.__class__"))) && (eqO (PySem.W.specialIn K (.builtin "object.__class__") "__get__") (some (some (.builtin "getset_descriptor.__get__"))) && (dO (PySem.W.takesIn K (.builtin "object.__class__")) (some true) && dO (PySem.W.mroIn K (ga K x) (.type "object")) (some true)))
theorem sisB_ok {K : PySem.W.Frag} {x : Str} (h : sisB K x = true) : SlX.SIsi K (ga K x) := by
  obtain ⟨c1, c⟩ := ba h
  obtain ⟨c2, c⟩ := ba c
  obtain ⟨c3, c4⟩ := ba c
  exact ⟨eqO_ok c1, eqO_ok c2, dO_ok c3, dO_ok c4⟩
/-- a method: found in the class, a function -/
structure Mt (K : PySem.W.Frag) (C : Addr) (m : Str) (g : Addr) : Prop where
  at_ : PySem.W.findIn K (.ref C) m = some (some (.ref g))
  fn : PySem.W.isFn K (.ref g) = true
def mtB (K : PySem.W.Frag) (x m : Str) : Bool := eqO (PySem.W.findIn K (.ref (ga K x)) m) (some (some (.ref (ma K (ga K x) m)))) && PySem.W.isFn K (.ref (ma K (ga K x) m))
theorem mtB_ok {K : PySem.W.Frag} {x m : Str} (h : mtB K x m = true) : Mt K (ga K x) m (ma K (ga K x) m) := by
  obtain ⟨c1, c2⟩ := ba h
  exact ⟨eqO_ok c1, c2⟩
/-- a property, its getter at g -/
structure Pr (K : PySem.W.Frag) (C : Addr) (f : Str) (p g : Addr) : Prop where
  at_ : PySem.W.findIn K (.ref C) f = some (some (.ref p))
  get : PySem.W.specialIn K (.ref p) "__get__" = some (some (.builtin "property.__get__"))
  tk : PySem.W.takesIn K (.ref p) = some true
  rc : ∃ rest, PySem.W.recIn K p "property" = some (.ref g :: rest)
def recB (K : PySem.W.Frag) (p g : Addr) : Bool := match PySem.W.recIn K p "property" with
  | some (.ref a :: _) => decide (a = g)
  | _ => false
def prB (K : PySem.W.Frag) (x f : Str) : Bool := eqO (PySem.W.findIn K (.ref (ga K x)) f) (some (some (.ref (ma K (ga K x) f)))) && (eqO (PySem.W.specialIn K (.ref (ma K (ga K x) f)) "__get__") (some (some (.builtin "property.__get__"))) && (dO (PySem.W.takesIn K (.ref (ma K (ga K x) f))) (some true) && recB K (ma K (ga K x) f) (prA K (ga K x) f)))
theorem prB_ok {K : PySem.W.Frag} {x f : Str} (h : prB K x f = true) : Pr K (ga K x) f (ma K (ga K x) f) (prA K (ga K x) f) := by
  obtain ⟨c1, c⟩ := ba h
  obtain ⟨c2, c⟩ := ba c
  obtain ⟨c3, c4⟩ := ba c
  refine ⟨eqO_ok c1, eqO_ok c2, dO_ok c3, ?_⟩
  unfold recB at c4
  cases q : PySem.W.recIn K (ma K (ga K x) f) "property" with
  | none => rw [q] at c4; cases c4
  | some l =>
    rw [q] at c4
    cases l with
    | nil => cases c4
    | cons a r =>
      cases a with
      | ref b =>
        have e : b = prA K (ga K x) f := of_decide_eq_true c4
        rw [← e]
        exact ⟨r, rfl⟩
      | _ => cases c4
/-! ### the Hook -/
abbrev AlG : Type := Bool × List FnW
def obsG (fa : List Fa) (fn : List GD) (ex : PySem.W.Frag → Bool) (K : PySem.W.Frag) : AlG := ((fa.all fun f => f.ok K) && ((fn.all fun d => d.ok K) && ex K), fn.map fun d => fnA K (d.at_.adr K))
def valG (fn : List GD) : AlG := (true, fn.map GD.val)
def SaysG (fa : List Fa) (fn : List GD) (ex : PySem.W.Frag → Bool) (K : PySem.W.Frag) : Prop := obsG fa fn ex K = valG fn
section
variable {fa : List Fa} {fn : List GD} {ex : PySem.W.Frag → Bool} {K : PySem.W.Frag}
theorem SaysG.all (c : SaysG fa fn ex K) : ((fa.all fun f => f.ok K) && ((fn.all fun d => d.ok K) && ex K)) = true := congrArg (fun z : AlG => z.1) c
theorem SaysG.fact (c : SaysG fa fn ex K) (i : Nat) {f : Fa} (h : fa[i]? = some f := by rfl) : f.ok K = true := List.all_eq_true.mp (ba c.all).1 f (List.mem_of_getElem? h)
theorem SaysG.more (c : SaysG fa fn ex K) : ex K = true := (ba (ba c.all).2).2
theorem SaysG.def_ (c : SaysG fa fn ex K) (i : Nat) {d : GD} (h : fn[i]? = some d := by rfl) : ∃ fd, FunD K d.name d.qual d.params d.body d.scope [] [] (d.at_.adr K) fd := by
  have c2 := (ba (ba c.all).2).1
  have e : fn.map (fun d => fnA K (d.at_.adr K)) = fn.map GD.val := congrArg (fun z : AlG => z.2) c
  have e2 : (fn.map fun d => fnA K (d.at_.adr K))[i]? = (fn.map GD.val)[i]? := by rw [e]
  rw [List.getElem?_map, List.getElem?_map, h] at e2
  exact GD.funD (Option.some.inj e2) (List.all_eq_true.mp c2 d (List.mem_of_getElem? h))
end
end HookG

set_option Elab.async false
set_option linter.all false
set_option maxRecDepth 100000
set_option maxHeartbeats 2000000
/-! the rules of OwnR, OwnL, over the facts of HookG -/
namespace OwnF
open PySem PySem.Spec PyProof.Rows L2 He SlX OwnR HookG
/-- what is asked of a class with slots -/
structure OC (K : PySem.W.Frag) (C : Addr) : Prop where
  scl : SCls K C
  sis : SIsi K C
  first : PySem.W.selfFirst K C = true
  ne : PySem.W.findIn K (.ref C) "__ne__" = some (some (.builtin "object.__ne__"))
  ntup : PySem.W.notFirst K C (.type "tuple") = true
  rmul : PySem.W.findIn K (.ref C) "__rmul__" = some none
  imul : PySem.W.findIn K (.type "int") "__mul__" = some (some (.builtin "int.__mul__"))
  irmul : PySem.W.findIn K (.type "int") "__rmul__" = some (some (.builtin "int.__rmul__"))
  isub : PySem.W.subIn K (.type "int") (.ref C) = some false
  kself : PySem.W.kitOne K (.ref C) (.ref C) = some true
  ktup : PySem.W.kitOne K (.type "tuple") (.ref C) = some false
  kint : PySem.W.kitOne K (.type "int") (.ref C) = some false
def ocB (K : PySem.W.Frag) (x : Str) : Bool := sclB K x && (sisB K x && (PySem.W.selfFirst K (ga K x) && (eqO (PySem.W.findIn K (.ref (ga K x)) "__ne__") (some (some (.builtin "object.__ne__"))) && (PySem.W.notFirst K (ga K x) (.type "tuple") && (eqO (PySem.W.findIn K (.ref (ga K x)) "__rmul__") (some none) && (eqO (PySem.W.findIn K (.type "int") "__mul__") (some (some (.builtin "int.__mul__"))) && (eqO (PySem.W.findIn K (.type "int") "__rmul__") (some (some (.builtin "int.__rmul__"))) && (dO (PySem.W.subIn K (.type "int") (.ref (ga K x))) (some false) && (dO (PySem.W.kitOne K (.ref (ga K x)) (.ref (ga K x))) (some true) && (dO (PySem.W.kitOne K (.type "tuple") (.ref (ga K x))) (some false) && dO (PySem.W.kitOne K (.type "int") (.ref (ga K x))) (some false)))))))))))
theorem ocB_ok {K : PySem.W.Frag} {x : Str} (h : ocB K x = true) : OC K (ga K x) := by
  obtain ⟨c1, c⟩ := ba h
  obtain ⟨c2, c⟩ := ba c
  obtain ⟨c3, c⟩ := ba c
  obtain ⟨c4, c⟩ := ba c
  obtain ⟨c5, c⟩ := ba c
  obtain ⟨c6, c⟩ := ba c
  obtain ⟨c7, c⟩ := ba c
  obtain ⟨c8, c⟩ := ba c
  obtain ⟨c9, c⟩ := ba c
  obtain ⟨c10, c⟩ := ba c
  obtain ⟨c11, c12⟩ := ba c
  exact ⟨sclB_ok c1, sisB_ok c2, c3, eqO_ok c4, c5, eqO_ok c6, eqO_ok c7, eqO_ok c8, dO_ok c9, dO_ok c10, dO_ok c11, dO_ok c12⟩
theorem raw0 {P : Program} {w : World} {K : PySem.W.Frag} {mg : Str → Option Value} {base : Heap} {CX : CXT} {k : Nat} {f : Addr} {sp : Sp} {fd : FuncData} {ps : List Str} (F : FnOk P w K mg base CX k f fd ps sp) (hb : Binds K fd ps []) : FnR P w K mg base CX k f sp :=
  (F.raw hb .nil).imp fun vs H Q E h => by rw [List.append_nil]; exact h
section
variable {X : Cx} {C g gl pp : Addr} {n : Nat} {sp spl : Sp} {fd fdl : FuncData} {ps psl : List Str} {f : Str} {e : Expr} {pos : Pos} {ta : TE}
theorem hx0 : ∀ (H : Hp) (s : Shared) (e : Value) (s' : Shared), CX0 X.stack H s E0 e s' → False := fun _ _ _ _ h => h
theorem pe_prp (he : PE X e ta) (c : OC X.K C) (p : Pr X.K C f pp g) (F : FnOk X.prog X.w X.K X.mg X.base CX0 n g fd ps sp) (hb : Binds X.K fd ps []) (hr : Room (n + 1) X.A) (hb2 : attributeBase e f X.env (eval e X.env) = eval e X.env := by rfl) : PE X (.Attribute e f pos) (tPropSl C sp E0 ta) :=
  pe_propSl he c.scl p.at_ p.get p.tk p.rc (raw0 F hb) hr hx0 hb2
/-- isinstance(x, C): x of a plain type, or an instance -/
theorem call_isiF (C : Addr) : CallR X (.builtin "isinstance") (fun xs H Q => rIsi X.K xs H Q ∨ rIsiSl X.K (.ref C) xs H Q) := call_isi.or (call_isiSl (.ref C))
end
end OwnF

set_option Elab.async false
set_option linter.all false
set_option maxRecDepth 100000
set_option maxHeartbeats 2000000
/-! a method of an instance with slots -/
namespace OwnF
open PySem PySem.Spec PyProof.Rows L2 He SlX OwnR HookG
section
variable {X : Cx} {C g : Addr} {n : Nat} {sp : Sp} {fd : FuncData} {ps : List Str} {o e : Expr} {es : List Expr} {x : Str} {pos apos : Pos} {ta : TE} {t : TA}
end
end OwnF

set_option Elab.async false
set_option linter.all false
set_option maxRecDepth 100000
set_option maxHeartbeats 2000000
/-! classmethods, classes in local names, xs[i] op= e -/
namespace OwnC
open PySem PySem.Spec PyProof.Rows L2 He SlX OwnR HookG OwnF
/-- C.m is a classmethod: its record at p, its def at g -/
structure Cm (K : PySem.W.Frag) (C : Addr) (m : Str) (p g : Addr) : Prop where
  rd : ClX.CRead K C (.type "type")
  cm : ClX.CMet K C (.type "type") m p g
section
variable {X : Cx} {C p g f : Addr} {n i : Nat} {sp : Sp} {fd : FuncData} {ps : List Str} {o e : Expr} {es : List Expr} {m x : Str} {pos apos pp : Pos} {ta : TE} {t : TA}
/-- xs[i], read for xs[i] op= e -/
def rGetL (K : PySem.W.Frag) : R2 := fun x y H Q => ∃ a xs j v, x = .ref a ∧ y = .int ((j : Nat) : Int) ∧ SqL K H a xs ∧ xs[j]? = some v ∧ Q v H
theorem get_list : PGet X (rGetL X.K) := by
  intro pins s σ H x y v u Q I rx ry h
  obtain ⟨a, xs, j, z, rfl, rfl, hq, he, q⟩ := h
  cases rx
  obtain ⟨t, rfl⟩ := ry
  obtain ⟨its, r, pl, hz⟩ := I.list hq
  obtain ⟨w, ew, rw'⟩ := r.get he
  have hl := r.length
  have hn := line63
  have hj : j < xs.length := (List.getElem?_eq_some_iff.mp he).1
  exact wpAny_getItem_list pl.isList (by omega) (by omega) (x := w) (by rw [Int.toNat_natCast]; simpa using ew) ⟨z, H, I, rw', q⟩
end
end OwnC

set_option Elab.async false
set_option linter.all false
set_option maxRecDepth 100000
set_option maxHeartbeats 2000000
/-! enumerate(t), t a tuple -/
namespace EnumT
open PySem PySem.Spec PyProof.Rows L2
open AutoSeq1 (wpAny_loadPart')
theorem meets_newT (l : Addr) (items : Array Value) (n : Nat) (dct : Option Addr) (sl : Array (Option Value)) :
    Meets (Builtin.«enumerate.__new__» ⟨[.type "enumerate", .ref l], []⟩) (fun _ R s => s.heap.get? l = some { cls := .type "tuple", dict := dct, data := .seq items n, slots := sl } ∧
      R (.ok (.ret (.ref (s.heap.push { cls := .type "tuple_iterator", data := .fields #[.ref l, .int 0 0] }).objs.size)))
        { s with heap := (s.heap.push { cls := .type "tuple_iterator", data := .fields #[.ref l, .int 0 0] }).push { cls := .type "enumerate", data := .fields #[.none, .bool false, .ref s.heap.objs.size, rawInt 0, .none, .none] } }) :=
  .of_wp fun prog w A R s h => by
    obtain ⟨hp, g, d, tk, os⟩ := s; obtain ⟨hl, h⟩ := h
    have hsub := sub_enumerate
    have hL : Heap.IsTuple (Shared.heap ⟨hp, g, d, tk, os⟩) l items := ⟨_, hl, rfl, n, rfl⟩
    wp_walk using wpAny_loadPart' hl
    refine wpAny_stack_any fun st => wpAny_pure ?_
    split
    · rename_i c _ _ _ _ _
      cases (c == Value.type "enumerate")
      · wp_walk using wpAny_loadPart' hl, wpAny_pyIter_tuple hL
        exact ⟨_, rfl, h⟩
      · wp_walk using wpAny_loadPart' hl, wpAny_pyIter_tuple hL
        exact ⟨_, rfl, h⟩
    · wp_walk using wpAny_loadPart' hl, wpAny_pyIter_tuple hL
      exact ⟨_, rfl, h⟩
section
variable {prog : Program} {w : World} {A : Around} {E : Value → Shared → Prop} {s : Shared}
theorem call_enumT {l : Addr} {items : Array Value} {Q : Value → Shared → Prop} (hL : s.heap.IsTuple l items)
    (h : ∀ h', IsEnum h' (s.heap.objs.size + 1) s.heap.objs.size 0 .none → h'.IsTupleIter s.heap.objs.size l 0 → h'.objs.size = s.heap.objs.size + 2 →
      (∀ b o, s.heap.get? b = some o → h'.get? b = some o) → Q (.ref (s.heap.objs.size + 1)) { s with heap := h' }) :
    wpAny (model prog w) A (call (.type "enumerate") [.ref l]) Q E s := by
  obtain ⟨⟨c, dct, dt, sl⟩, hl, hc, n, hd⟩ := hL
  replace hc : c = .type "tuple" := hc
  replace hd : dt = .seq items n := hd
  subst hc hd
  refine callType_new F.called_enumerate (by decide) (F.typeCall_enumerate_1 _) (F.newCall_enumerate_1 _) (fun obj => F.args_object_init_2 obj _) F.entry_enumerate_new
    (meets_newT l items n dct sl) ⟨hl, ?_⟩
  have hz : (s.heap.push { cls := .type "tuple_iterator", data := .fields #[.ref l, .int 0 0] }).objs.size = s.heap.objs.size + 1 := Heap.size_push ..
  show _ ∧ _
  rw [hz]
  have he : IsEnum ((s.heap.push { cls := .type "tuple_iterator", data := .fields #[.ref l, .int 0 0] }).push
      { cls := .type "enumerate", data := .fields #[.none, .bool false, .ref s.heap.objs.size, rawInt 0, .none, .none] }) (s.heap.objs.size + 1) s.heap.objs.size 0 .none := by
    have := Heap.get?_push_size (s.heap.push { cls := .type "tuple_iterator", data := .fields #[.ref l, .int 0 0] })
      (o := { cls := .type "enumerate", data := .fields #[.none, .bool false, .ref s.heap.objs.size, rawInt 0, .none, .none] }) rfl
    rw [hz] at this; exact this
  refine ⟨⟨_, he, rfl⟩, h _ he ⟨_, Heap.get?_push_of_some _ (Heap.get?_push_size _ rfl), rfl, rfl⟩ (by rw [Heap.size_push, hz]) fun b o x => Heap.get?_push_of_some _ (Heap.get?_push_of_some _ x)⟩
end
/-- the tuple at a, each item in a new pair -/
def IteT (K : PySem.W.Frag) (a : Addr) : It :=
  ⟨fun i H => ∃ (xs : List V) (x : V), SqT K H a xs ∧ xs[i]? = some x, fun i H v H' => ∃ T x, v = .ref T ∧ H T = none ∧ H' = upd H T (.tup [.int (i : Nat), x]) ∧ ∀ xs, SqT K H a xs → xs[i]? = some x, fun i H => ∃ xs : List V, SqT K H a xs ∧ xs.length = i⟩
theorem turn_enumT {P : Program} {w : World} {K : PySem.W.Frag} {elts : List Expr} {kk : Nat} {tpos : Pos} (a e it : Addr) (hait : a ≠ it) (hae : a ≠ e) :
    Turn P w K (.Tuple elts kk tpos) (IteT K a) [e, it] e (fun i h => (∃ old, IsEnum h e it ((i : Nat) : Int) old) ∧ h.IsTupleIter it a i ∧ e ≠ it) where
  mem := by simp
  obj := fun i h st b hb => by
    obtain ⟨⟨old, he⟩, ⟨o, ho, hc, hd⟩, _⟩ := st
    have e' : b = e ∨ b = it := by simpa using hb
    rcases e' with z | z
    · rw [z]; exact ⟨_, he, fun v q => nomatch q⟩
    · rw [z]; exact ⟨o, ho, fun v q => by rw [hd] at q; cases q⟩
  keep := fun i h h' st k => let ⟨⟨old, he⟩, hi, hne⟩ := st; ⟨⟨old, k e (by simp) _ he⟩, hi.at fun o q => k it (by simp) o q, hne⟩
  item := by
    intro X hP hw hK hc i pins s σ H E I hf st hg
    subst hP hw hK
    obtain ⟨⟨old, he⟩, hit, hne⟩ := st
    obtain ⟨xs, x, hq, hx⟩ := hg
    obtain ⟨its, rv, p, hz⟩ := I.tuple hq
    obtain ⟨u, hu, ru⟩ := rv.get hx
    have hel : e < s.heap.objs.size := Heap.lt_size he
    have hil : it < s.heap.objs.size := by obtain ⟨_, q, _⟩ := hit; exact Heap.lt_size q
    have pT : s.heap.IsTuple a its.toArray := p
    have hlt : i < its.toArray.size := by
      have := (List.getElem?_eq_some_iff.mp hu).1
      simpa using this
    refine wpAny_pyNext_enum_itemD (Draws.tuple (A := X.A.in1) (I.ok.hd hc) it a hait its.toArray) he ⟨hit, pT⟩ hlt hne (by simp [Ne.symm hae, hne]) fun x' h' tk hx' ho hit' hT hsz hk => ?_
    have hux : x' = u := by
      have h1 : its[i]? = some x' := by simpa using hx'
      rw [hu] at h1
      exact (Option.some.inj h1).symm
    subst hux
    refine ⟨_, rfl, wpAny_letOwnedTupleGo_enum (s := { s with heap := h', toks := tk + 1 }) ho fun h'' he' sb => ?_⟩
    have hT2 : h''.get? s.heap.objs.size = some { cls := .type "tuple", data := .seq #[.int i tk, x'] } := (sb.2 _ (Nat.ne_of_gt hel)).trans hT
    have new : ObjOk X.prog X.w (upd H s.heap.objs.size (.tup [.int (i : Nat), x])) h'' s.heap.objs.size (.tup [.int (i : Nat), x]) :=
      ⟨by show 2 ≤ sizeLine; decide, [.int i tk, x'], .cons ⟨_, rfl⟩ (.cons ru .nil), ⟨_, hT2, rfl, _, rfl⟩⟩
    have I1 : Inv X pins σ (upd H s.heap.objs.size (.tup [.int (i : Nat), x])) { s with heap := h'', toks := tk + 1 } :=
      I.turnedNew (ch := [e, it]) (fun b ob hb q => (sb.2 b (fun z => hb (by simp [z]))).trans (hk b ob (fun z => hb (by simp [z])) (fun z => hb (by simp [z])) q)) hf (Nat.le_refl _) new
    refine ⟨.ref s.heap.objs.size, _, I1, rfl, ⟨_, x, rfl, I.hok.fresh (Nat.le_refl _), rfl, fun ys hy => ?_⟩, ⟨⟨x', ?_⟩, hit'.1.at fun o q => (sb.2 it (Ne.symm hne)).trans q, hne⟩, fun b hb => ?_⟩
    · rw [show ys = xs from I.tuple_inj hy hq]
      exact hx
    · have e1 : ((i + 1 : Nat) : Int) = (i : Int) + 1 := by omega
      rw [e1]; exact he'
    · have hb' : b < s.heap.objs.size := by
        have e' : b = e ∨ b = it := by simpa using hb
        rcases e' with z | z
        · rw [z]; exact hel
        · rw [z]; exact hil
      rw [upd_ne (Nat.ne_of_lt hb')]
      exact (hf b hb).1
  done := by
    intro X hP hw hK hc i pins s σ H E I hf st hg
    subst hP hw hK
    obtain ⟨⟨old, he⟩, hit, hne⟩ := st
    obtain ⟨xs, hq, hx⟩ := hg
    obtain ⟨its, rv, p, hz⟩ := I.tuple hq
    obtain ⟨f0, f1, f2, f3, f4, f5⟩ := hf it (by simp)
    have hl := rv.length
    have hz2 : i = its.toArray.size := by rw [List.size_toArray]; omega
    subst hz2
    exact wpAny_pyNext_enum_endD (Draws.tuple (A := X.A.in1) (I.ok.hd hc) it a hait its.toArray) he ⟨hit, show s.heap.IsTuple a its.toArray from p⟩ fun h' eb => ⟨rfl, I.turned (t' := s.toks) (fun b o hb q => eb b o hb q) f0 f1 f3 f4 f5⟩
  self := fun A i s Q E st h => let ⟨⟨_, he⟩, _⟩ := st; wpAny_pyIter_enum he h
def iEnumT (K : PySem.W.Frag) (ta : TA) : TI := fun σ H R => ta σ H fun vs H1 => ∃ a xs, vs = [.ref a] ∧ SqT K H1 a xs ∧ R (IteT K a) H1
theorem pi_enumT {X : Cx} {e : Expr} {ta : TA} {p pos tpos : Pos} {elts : List Expr} {kk : Nat} (hg : Gl X "enumerate") (hm : X.mg "enumerate" = none) (ha : PA X [e] ta) (hs : starEach [e] X.env = [(false, eval e X.env)] := by rfl) :
    PI X (.Tuple elts kk tpos) (.Call (.Name "enumerate" p) [e] [] pos) (iEnumT X.K ta) := by
  refine ⟨fun pins s σ H R I h => ?_⟩
  refine Call_ (ld_blt I hg hm boot_enumerate (PyProof.Rows.callWith_type1 (thn (ha.run pos pins s σ H _ I h) fun us s1 ⟨vs, H1, I1, r1, q1⟩ => ?_) hs rfl))
  obtain ⟨a, xs, ex, hq, q⟩ := q1
  subst ex
  cases r1 with
  | cons r rr =>
    cases rr
    cases r
    obtain ⟨its, rv, p', hz⟩ := I1.tuple hq
    have hlt : a < s1.heap.objs.size := by obtain ⟨_, ho, _⟩ := p'; exact Heap.lt_size ho
    refine call_enumT (show s1.heap.IsTuple a its.toArray from p') fun h' he hit hsz hk => wpAny_pyIter_enum he ?_
    have I2 : Inv X pins σ H1 { s1 with heap := h' } := I1.kept (t' := s1.toks) hk
    refine ⟨s1.heap.objs.size + 1, [s1.heap.objs.size + 1, s1.heap.objs.size], _, _, H1, rfl, I2, turn_enumT a (s1.heap.objs.size + 1) s1.heap.objs.size (Nat.ne_of_lt hlt) (Nat.ne_of_lt (Nat.lt_succ_of_lt hlt)), ⟨⟨.none, he⟩, hit, Nat.succ_ne_self _⟩, fun b hb => ?_, q⟩
    have e' : b = s1.heap.objs.size + 1 ∨ b = s1.heap.objs.size := by simpa using hb
    have hle : s1.heap.objs.size ≤ b := by
      rcases e' with z | z
      · rw [z]; exact Nat.le_add_right _ _
      · rw [z]; exact Nat.le_refl _
    exact I1.fpOk hle (I1.hok.fresh hle)
/-- a loop over enumerate of a tuple -/
theorem for_enumT {K : PySem.W.Frag} {a : Addr} {xs : List V} {g : TG} {tb : TS} {D : Ends} {σ : L2.St} {H : Hp} (Pv : Nat → L2.St → Hp → Prop) (h0 : Pv 0 σ H) (hq : ∀ i σ H, Pv i σ H → SqT K H a xs)
    (hs : ∀ (i : Nat) (x : V) (T : Addr) (σ : L2.St) (H : Hp), xs[i]? = some x → Pv i σ H → H T = none → g (.ref T) σ (upd H T (.tup [.int (i : Nat), x])) fun σ2 H2 => tb { D with nx := Pv (i + 1), ct := Pv (i + 1), bk := D.nx } σ2 H2) (hd : ∀ σ H, Pv xs.length σ H → D.nx σ H) :
    ∃ W : Nat → Nat → L2.St → Hp → Prop, (∃ m, W 0 m σ H) ∧ ∀ i m σ H, W i m σ H →
      ((IteT K a).stop i H ∧ D.nx σ H) ∨ ((IteT K a).go i H ∧ ∃ N : L2.St → Hp → Prop, (∀ σ' H', N σ' H' → ∃ m', m' < m ∧ W (i + 1) m' σ' H') ∧ ∀ v H', (IteT K a).yld i H v H' → g v σ H' fun σ2 H2 => tb { D with nx := N, ct := N, bk := D.nx } σ2 H2) := by
  refine ⟨fun i m σ H => m = xs.length - i ∧ i ≤ xs.length ∧ Pv i σ H, ⟨xs.length, rfl, Nat.zero_le _, h0⟩, ?_⟩
  rintro i m σ H ⟨rfl, hi, p⟩
  have qx := hq i σ H p
  by_cases hlt : i < xs.length
  · have hx : xs[i]? = some xs[i] := List.getElem?_eq_getElem hlt
    refine .inr ⟨⟨xs, _, qx, hx⟩, Pv (i + 1), fun σ' H' p' => ⟨xs.length - (i + 1), by omega, rfl, hlt, p'⟩, fun v H' y => ?_⟩
    obtain ⟨T, x', rfl, hT, rfl, f1⟩ := y
    exact hs i x' T σ H (f1 xs qx) p hT
  · have e : i = xs.length := by omega
    subst e
    exact .inl ⟨⟨xs, qx, rfl⟩, hd σ H p⟩
end EnumT

set_option Elab.async false
set_option linter.all false
set_option maxRecDepth 100000
set_option maxHeartbeats 2000000
/-! sequences that may be a list or a tuple: len, index, enumerate -/
namespace SeqE
open PySem PySem.Spec PyProof.Rows L2
/-- at a a list or a tuple with these items -/
def Sq (H : Hp) (a : Addr) (xs : List V) : Prop := H a = some (.tup xs) ∨ H a = some (.lst xs)
theorem Sq.same {H H' : Hp} {a : Addr} {xs : List V} (h : Sq H a xs) (s : Same H H') : Sq H' a xs := h.elim (fun e => .inl (s _ _ e)) fun e => .inr (s _ _ e)
theorem Sq.upd {H : Hp} {a p : Addr} {o : HO} {xs : List V} (h : Sq H a xs) (hp : H p = none) : Sq (upd H p o) a xs := by
  refine h.elim (fun e => .inl ?_) fun e => .inr ?_ <;> rw [upd_ne (ne_of_none e hp)] <;> exact e
theorem PI_or {X : Cx} {tg it : Expr} {t1 t2 : TI} (h1 : PI X tg it t1) (h2 : PI X tg it t2) : PI X tg it (fun σ H R => t1 σ H R ∨ t2 σ H R) :=
  ⟨fun pins s σ H R I h => h.elim (h1.run pins s σ H R I) (h2.run pins s σ H R I)⟩
end SeqE

set_option Elab.async false
set_option linter.all false
set_option maxRecDepth 100000
set_option maxHeartbeats 2000000
/-! next(.. for .. in .. if .., default) -/
namespace GenNx
open PySem PySem.Spec PyProof.Rows L2 GxR EnumT
section
variable {prog : Program} {w : World} {A : Around} {E : Value → Shared → Prop} {s : Shared} {I : Addr} {fp wr : List Addr} {G : Array GenState → Array GenState → Prop} {n : Nat} {Pv : Nat → Value → Prop} {St : Nat → Shared → Prop}
/-- next(generator, default): the first item, or the default -/
theorem call_next_walkS {d : Value} {Q : Value → Shared → Prop} (W : WalksS prog w A.in1 I fp wr G n Pv St) (hT : s.TypeIs (.ref I) "generator") (st : St 0 s)
    (h1 : ∀ v s', 0 < n → Pv 0 v → Moved wr G s s' → Q v s') (h2 : ∀ s', n = 0 → Moved wr G s s' → Q d s') : wpAny (model prog w) A (call (.builtin "next") [.ref I, d]) Q E s := by
  refine Calls.call_function_entry (by decide +kernel) (by decide +kernel) PySem.W.kdk_entry_next (PySem.W.kdk_args_next2 _ _) ?_
  unfold Builtin.«next»
  refine wpAny_bind (m := someArgs "next" 1 2 _) (wpAny_of_eq (a := [Value.ref I, d]) (by first | rfl | kernel_rfl!) ?_)
  dsimp only
  refine wpAny_bind (wpAny_specialOf (name := Str.ofString "__next__") hT slot_gen_next.lookup ?_)
  refine wpAny_ite_split (fun hab => absurd hab (by decide)) (fun _ => ?_)
  by_cases hn : 0 < n
  · refine wpAny_bind (W.item 0 _ _ _ hn st fun v s' hv _ hm => ?_)
    exact wpAny_pure ⟨_, rfl, h1 v s' hn hv hm⟩
  · have e : n = 0 := by omega
    refine wpAny_bind (W.done _ _ _ (by rw [e]; exact st) fun s' hm => ?_)
    exact wpAny_pure ⟨_, rfl, h2 s' e hm⟩
end
/-- the generator expression's own scope: its names xa, xb -/
structure GenS2 (env : Env) (scope : Scope) (xa xb : Str) : Prop where
  kind : scope.kind = .function
  co : scope.isCoroutine = false
  cell : ∀ y ∈ scope.names, y.2 ≠ .cell
  dot : scope.names.lookup (".0" : Str) = some NameKind.local
  la : scope.names.lookup xa = some .local
  lb : scope.names.lookup xb = some .local
  ab : xa ≠ xb
  free : ∀ y ∈ scope.names, y.2 = .free → ∃ c, env.cells.lookup y.1 = some c
theorem GenS2.of {env : Env} {scope : Scope} {xa xb : Str} (h1 : scope.kind = .function) (h2 : scope.isCoroutine = false) (h3 : ∀ y ∈ scope.names, y.2 ≠ .cell ∧ y.2 ≠ .free) (h4 : scope.names.lookup (".0" : Str) = some NameKind.local) (h5 : scope.names.lookup xa = some .local) (h6 : scope.names.lookup xb = some .local) (h7 : xa ≠ xb) : GenS2 env scope xa xb :=
  ⟨h1, h2, fun y hy => (h3 y hy).1, h4, h5, h6, h7, fun y hy z => absurd z (h3 y hy).2⟩
theorem genS_of {env : Env} {scope : Scope} {x : Str} (h1 : scope.kind = .function) (h2 : scope.isCoroutine = false) (h3 : ∀ y ∈ scope.names, y.2 ≠ .cell ∧ y.2 ≠ .free) (h4 : scope.names.lookup (".0" : Str) = some NameKind.local) (h5 : scope.names.lookup x = some .local) : GxR.GenS env scope x :=
  ⟨h1, h2, fun y hy => (h3 y hy).1, h4, h5, fun y hy z => absurd z (h3 y hy).2⟩
/-- a test of the int in x -/
def TestI (prog : Program) (w : World) (scope : Scope) (x : Str) (c : Expr) (pb : Int → Bool) : Prop :=
  ∀ (cenv : Env) (A' : Around) (E' : Value → Shared → Prop) (i : Int) (t : Tok) (s₂ : Shared) (m₂ : Str → Option Value), cenv.scope = scope → s₂.heap.Ns cenv.locals m₂ → m₂ x = some (.int i t) →
    wpAny (model prog w) A' (isTrue c cenv (eval c cenv)) (fun ok s₃ => ok = pb i ∧ Keeps s₂ s₃) E' s₂
theorem test_ne0 {prog : Program} {w : World} {scope : Scope} {x : Str} {j : Nat} {p1 p2 p3 : Pos} (hk : scope.kind = .function) (hl : scope.names.lookup x = some .local) (hd : (x == ("__debug__" : Str)) = false := by decide) :
    TestI prog w scope x (.Compare (.Name x p1) [.NotEq] [.Constant (.int 0) j p2] p3) (fun i => i != 0) := by
  intro cenv A' E' i t s₂ m₂ hs hn hm
  refine wpAny_isTrue_Compare1 ?_
  refine wpAny_Name (wpAny_loadName_local (by rw [hs]; exact hk) (show cenv.scope.names.lookup x = some .local by rw [hs]; exact hl) hn hm ?_) hd
  refine wpAny_Constant_int ?_
  exact PySem.P.ne_int (wpAny_truthy_bool ⟨rfl, keeps_tok _ _⟩)
/-- the element is the int in x -/
theorem elt_name {prog : Program} {w : World} {cenv : Env} {A' : Around} {E' : Value → Shared → Prop} {x : Str} {p1 : Pos} {v : Value} {s₂ : Shared} {m₂ : Str → Option Value} {scope : Scope} (hs : cenv.scope = scope) (hk : scope.kind = .function) (hl : scope.names.lookup x = some .local) (hn : s₂.heap.Ns cenv.locals m₂) (hm : m₂ x = some v) (hd : (x == ("__debug__" : Str)) = false := by decide) :
    wpAny (model prog w) A' (eval (.Name x p1) cenv) (fun y s₃ => y = v ∧ Keeps s₂ s₃) E' s₂ :=
  wpAny_Name (wpAny_loadName_local (by rw [hs]; exact hk) (show cenv.scope.names.lookup x = some .local by rw [hs]; exact hl) hn hm ⟨rfl, keeps_refl _⟩) hd
theorem one_if {M : Model} {A : Around} {E : Value → Shared → Prop} {s : Shared} {c : Expr} {cenv : Env} {Q : Bool → Shared → Prop} (h : wpAny M A (isTrue c cenv (eval c cenv)) Q E s) :
    wpAny M A (forIn [c] true fun c r => if r = true then do let ok ← isTrue c cenv (eval c cenv); pure (ForInStep.yield ok) else pure (ForInStep.yield r)) Q E s := by
  simp only [List.forIn_cons, List.forIn_nil, if_true]
  exact wpAny_bind (wpAny_bind (wpAny_mono h (fun ok s' hq => wpAny_pure (wpAny_pure hq)) fun _ _ e => e))
section
variable {X : Cx} {pins : List (Addr × Obj)} {σ : L2.St} {H : Hp} {s : Shared}
/-- the generator g, ready to be asked, its j-th item is tied by F to the j-th place of js -/
def ReadyN (X : Cx) (pins : List (Addr × Obj)) (σ : L2.St) (H1 : Hp) (P : Addr) (js : List Nat) (F : Nat → Value → Prop) (g : Addr) (s5 : Shared) : Prop :=
  ∃ (fp wr : List Addr) (G : Array GenState → Array GenState → Prop) (St : Nat → Shared → Prop),
    WalksS X.prog X.w X.A.in1 g fp wr G js.length (fun j y => ∃ i, js[j]? = some i ∧ F i y) St ∧ St 0 s5 ∧ s5.TypeIs (.ref g) "generator" ∧
    ∀ s', Moved wr G s5 s' → ∃ H2, Tabbed P H1 H2 ∧ Inv X pins σ H2 s'
def pzL (pb : Int → Bool) (l : List Int) (i : Nat) : Bool := match l[i]? with
  | some z => pb z
  | none => false
theorem pzL_some {pb : Int → Bool} {l : List Int} {i : Nat} {z : Int} (h : l[i]? = some z) : pzL pb l i = pb z := by
  unfold pzL
  rw [h]
/-- an item of a row of ints, by values -/
theorem int_item {l : List Int} {its : List Value} (rv : Vals (l.map V.int) its) {i : Nat} {x : Value} (h : its[i]? = some x) : ∃ z t, l[i]? = some z ∧ x = .int z t := by
  have hl := rv.length
  have hi : i < its.length := (List.getElem?_eq_some_iff.mp h).1
  rw [List.length_map] at hl
  have hi2 : i < l.length := by omega
  obtain ⟨u, hu, ru⟩ := rv.get (i := i) (x := .int l[i]) (by rw [List.getElem?_map, List.getElem?_eq_getElem hi2]; rfl)
  obtain ⟨t, rfl⟩ := ru
  rw [h] at hu
  exact ⟨l[i], t, List.getElem?_eq_getElem hi2, Option.some.inj hu⟩
theorem passing_nil {pb : Int → Bool} {l : List Int} (h : (passing (pzL pb l) l.length 0).length = 0) : ∀ (j : Nat) (z : Int), l[j]? = some z → pb z = false := fun j z hj => by
  have e : passing (pzL pb l) l.length 0 = [] := List.eq_nil_of_length_eq_zero h
  have hlt : j < l.length := (List.getElem?_eq_some_iff.mp hj).1
  cases hb : pb z with
  | false => rfl
  | true =>
    have hm : j ∈ passing (pzL pb l) l.length 0 := by
      unfold passing
      rw [List.drop_zero]
      exact List.mem_filter.mpr ⟨List.mem_range.mpr hlt, by rw [pzL_some hj]; exact hb⟩
    rw [e] at hm
    cases hm
theorem passing_first {pb : Int → Bool} {l : List Int} {i : Nat} (h : (passing (pzL pb l) l.length 0)[0]? = some i) : ∃ z, l[i]? = some z ∧ pb z = true ∧ ∀ (j : Nat) (y : Int), j < i → l[j]? = some y → pb y = false := by
  unfold passing at h
  rw [List.drop_zero] at h
  have h2 : ((List.range l.length).filter (pzL pb l)).head? = some i := by rw [List.head?_eq_getElem?]; exact h
  rw [List.head?_filter] at h2
  have h3 := List.find?_eq_some_iff_getElem.mp h2
  obtain ⟨hp, k, hk, ek, hn⟩ := h3
  rw [List.getElem_range] at ek
  subst ek
  rw [List.length_range] at hk
  refine ⟨l[k], List.getElem?_eq_getElem hk, ?_, fun j y hj hy => ?_⟩
  · rw [pzL_some (List.getElem?_eq_getElem hk)] at hp
    exact hp
  · have := hn j hj
    rw [List.getElem_range, pzL_some hy] at this
    simpa using this
theorem gen_name {c P : Addr} {e ct : Expr} {x : Str} {px gpos : Pos} {scope : Scope} {pb : Int → Bool} {te : TE} {k : Nat} {p1 : Pos} {Q' : Value → Shared → Prop} {R : Addr → List Int → Hp → Prop}
    (hr : Room k X.A) (TB : TabB X.base X.mg c P) (hcode : X.env.code = .ref c) (S : GenS X.env scope x) (he : PE X e te)
    (htest : TestI X.prog X.w scope x ct pb) (hda : (x == ("__debug__" : Str)) = false)
    (hs : ∀ v, genFold e X.env v = pure v) (I : Inv X pins σ H s) (h : te σ H fun v H1 => ∃ (t : Addr) (l : List Int), v = .ref t ∧ SqT X.K H1 t (l.map V.int) ∧ TabG H1 P ∧ R t l H1)
    (hQ : ∀ t l H1 g s5, R t l H1 → ReadyN X pins σ H1 P (passing (pzL pb l) l.length 0) (fun i y => ∃ z u, l[i]? = some z ∧ y = .int z u) g s5 → Q' (.ref g) s5) :
    wpAny (model X.prog X.w) X.A (eval (.GeneratorExp (.Name x p1) [⟨.Name x px, e, [ct], 0⟩] scope gpos) X.env) Q' X.xe s := by
  refine wpAny_GeneratorExp_walksQ hr.hd S.co (closure_ok S.free) S.cell S.dot S.loc S.kind (by have := hr.dp; omega) ?_ hs
  refine thn (he.run pins s σ H _ I h) fun us s1 hv => ?_
  obtain ⟨vs, H1, I1, r1, t, l, rfl, hq, ⟨ps, hP, ht⟩, q1⟩ := hv
  obtain rfl : us = Value.ref t := r1
  · skip
    obtain ⟨its, rv, p', hz⟩ := I1.tuple hq
    have pT : s1.heap.IsTuple t its.toArray := p'
    have hlt : t < s1.heap.objs.size := by obtain ⟨_, ho, _⟩ := p'; exact Heap.lt_size ho
    refine wpAny_pyIter_tuple pT ?_
    have hk2 : ∀ b o, s1.heap.get? b = some o → (s1.heap.push { cls := .type "tuple_iterator", data := .fields #[.ref t, .int 0 0] }).get? b = some o := fun b o z => Heap.get?_push_of_some _ z
    have hit : (s1.heap.push { cls := .type "tuple_iterator", data := .fields #[.ref t, .int 0 0] }).IsTupleIter s1.heap.objs.size t 0 := ⟨_, Heap.get?_push_size _ rfl, rfl, rfl⟩
    have hsz2 : (s1.heap.push { cls := .type "tuple_iterator", data := .fields #[.ref t, .int 0 0] }).objs.size = s1.heap.objs.size + 1 := Heap.size_push ..
    generalize s1.heap.push { cls := .type "tuple_iterator", data := .fields #[.ref t, .int 0 0] } = h2 at hk2 hit hsz2 ⊢
    have hPs : s1.heap.get? P = some { cls := .none, data := .fields ps } := I1.hok P _ hP
    have hPlt : P < s1.heap.objs.size := Heap.lt_size hPs
    have hP2 : h2.get? P = some { cls := .none, data := .fields ps } := hk2 _ _ hPs
    have cd : PySem.W.CodeHd h2 c P := TB.code.keeps fun b u e => hk2 _ _ (I1.bk b u e)
    have lim2 : h2.NoLimit := I1.nolimit.keeps hk2
    have hll := rv.length
    rw [List.length_map] at hll
    have tP : t ≠ P := fun z => by
      obtain ⟨o, ho, _, n, hd⟩ := pT
      rw [z, hPs] at ho
      cases ho
      cases hd
    have hzn : its.toArray.size = l.length := by rw [List.size_toArray]; omega
    have WT : ∀ A' : Around, A'.handled = none → Walks X.prog X.w A' s1.heap.objs.size _ _ _ _ _ := fun A' hA => Walks.tuple (prog := X.prog) (w := X.w) (A := A') hA s1.heap.objs.size t (Nat.ne_of_lt hlt) its.toArray
    have cont : ∀ (code : Value) (h3 : Heap) (tk : Nat) (ps' : Array Value), Heap.ExtBut P h2 h3 → h2.objs.size ≤ h3.objs.size → h3.get? P = some { cls := .none, data := .fields ps' } → (∃ more, ps' = ps ++ more) → TriplesOk ps'.toList →
        wpAny (model X.prog X.w) X.A (builtinsFor X.env.globals X.env.builtins) (fun bi s₄ =>
          ∃ Ia fp wr n₀ Pf St₀ pz F, Value.ref s1.heap.objs.size = .ref Ia ∧ (∀ A' : Around, A'.handled = none → Walks X.prog X.w A' Ia fp wr n₀ Pf St₀) ∧ St₀ 0 s₄.heap ∧ (∀ b ∈ fp, b < s₄.heap.objs.size) ∧ s₄.heap.NoLimit ∧ cStatics ∉ wr ∧
            (∀ href : Heap, (∀ b o, s₄.heap.get? b = some o → href.get? b = some o) →
              QuietGen X.prog X.w (genEnv scope (cloFrom X.env.cells scope.names []) s₄.heap.objs.size code bi X.env) x [ct] (.Name x p1) (List.range s₄.heap.objs.size) wr Pf pz F href) ∧
            (∀ a h₅ tk gs, gs.bare = true → s₄.heap.objs.size < a → h₅.objs.size = a + 1 → (∀ b o, s₄.heap.get? b = some o → h₅.get? b = some o) →
              WalksS X.prog X.w X.A.in4 a (a :: s₄.heap.objs.size :: List.range s₄.heap.objs.size) (s₄.heap.objs.size :: wr) (GenOnlyQ s₄.gens.size) (passing pz n₀ 0).length
                (fun j y => ∃ i, (passing pz n₀ 0)[j]? = some i ∧ F i y) (GenAt X.prog X.w X.A.in4 a s₄.gens.size s₄.heap.objs.size (List.range s₄.heap.objs.size) wr pz n₀ F) →
              GenAt X.prog X.w X.A.in4 a s₄.gens.size s₄.heap.objs.size (List.range s₄.heap.objs.size) wr pz n₀ F 0 { s₄ with gens := s₄.gens.push gs, toks := tk, heap := h₅ } →
              Q' (.ref a) { s₄ with gens := s₄.gens.push gs, toks := tk, heap := h₅ })) X.xe { s1 with heap := h3, toks := tk } := by
      intro code h3 tk ps' hx hsz hP3 hmore ht3
      obtain ⟨bm, ob, e1, e2, e3, e4, e5, e6, e7, e8⟩ := TB.bm
      have hcP : cStatics ≠ P := fun e => by
        obtain ⟨_, hns, _⟩ := I1.nolimit
        obtain ⟨o', es, ep, ho, hd, _⟩ := hns
        rw [e, hPs] at ho
        cases ho
        cases hd
      have hcl : cStatics < s1.heap.objs.size := let ⟨_, hns, _⟩ := I1.nolimit; hns.lt
      have keep3 : ∀ b u, b ≠ P → s1.heap.get? b = some u → h3.get? b = some u := fun b u hb e => hx b u hb (hk2 _ _ e)
      have iP : s1.heap.objs.size ≠ P := fun z => Nat.lt_irrefl _ (z ▸ hPlt)
      have off : ∀ b, b < s1.heap.objs.size → b ∉ [s1.heap.objs.size] := fun b hb hm => by
        have hm' : b = s1.heap.objs.size := by simpa using hm
        exact Nat.ne_of_lt hb hm'
      refine wpAny_builtinsFor (m := X.mg) (by rw [I1.ok.glob]; exact (((I1.mod.glob.keeps I1.bk).keeps hk2).extBut hx TB.gP)) e1 e2 (keep3 _ _ e4 (I1.bk _ _ e5)) e6 e7 e8 ?_
      refine ⟨s1.heap.objs.size, _, _, _, _, _, pzL pb l, (fun i y => ∃ z u, l[i]? = some z ∧ y = .int z u), rfl, WT, ⟨hit.at fun o q => hx _ o iP q, pT.at fun o q => keep3 _ o tP q⟩, ?_, lim2.extBut hx hcP, off _ hcl, ?_, ?_⟩
      · intro b hb
        have hb' : b = s1.heap.objs.size ∨ b = t := by simpa using hb
        show b < h3.objs.size
        rcases hb' with z | z
        · rw [z]
          show s1.heap.objs.size < h3.objs.size
          omega
        · rw [z]
          exact Nat.lt_of_lt_of_le hlt (show s1.heap.objs.size ≤ h3.objs.size by omega)
      · intro href hhref
        refine ⟨fun A' E' i v s₂ m₂ hA hPv hn hm hk => ?_, fun A' E' i v s₂ m₂ hA hPv hp hn hm hk => ?_⟩
        · have hxi' : its[i]? = some v := by simpa using hPv
          obtain ⟨z, t2, hz1, rfl⟩ := int_item rv hxi'
          refine one_if (wpAny_mono (htest _ A' E' z t2 s₂ m₂ rfl hn hm) (fun ok s3 q => ⟨?_, q.2⟩) fun _ _ e => e)
          rw [pzL_some hz1]
          exact q.1
        · have hxi' : its[i]? = some v := by simpa using hPv
          obtain ⟨z, t2, hz1, rfl⟩ := int_item rv hxi'
          exact wpAny_mono (elt_name (scope := scope) rfl S.kind S.loc hn hm hda) (fun y s3 q => ⟨⟨z, t2, hz1, q.1⟩, q.2⟩) fun _ _ e => e
      · intro g h5 tk5 gs hgb hag hsz5 hk5 W5 hat
        rw [hzn] at W5
        refine hQ t l H1 g _ q1 ⟨_, _, _, _, W5.in4_1, ?_, hat.1.typeIs, fun s' hm => ?_⟩
        · rw [hzn] at hat
          exact hat
        · obtain ⟨more, em⟩ := hmore
          have nwr : ∀ b u, s1.heap.get? b = some u → b ∉ h3.objs.size :: [s1.heap.objs.size] := fun b u e hb => by
            have hl := Heap.lt_size e
            rcases List.mem_cons.mp hb with z | z
            · rw [z] at hl
              have h9 : (h3.objs.size : Nat) < s1.heap.objs.size := hl
              omega
            · exact off b hl z
          have J := inv_tab (more := more) (h' := s'.heap) (g' := s'.gens) (d' := s'.drawn) (t' := s'.toks) I1 hP (fun b u hb e => hm.heap b u (nwr b u e) (hk5 b u (keep3 b u hb e)))
            (by rw [← em]; exact hm.heap P _ (nwr P _ hPs) (hk5 P _ hP3)) (AllBare.movedS (I1.bare.push hgb) hm)
          rw [sh_eta s1 s' hm.os] at J
          refine ⟨upd H1 P (.tbl (ps ++ more)), ⟨⟨ps ++ more, upd_same, by rw [← em]; exact ht3⟩, fun b hb => upd_ne hb⟩, J⟩
    refine ⟨lim2, ?_⟩
    cases hf : codeAmong gpos ps.toList with
    | none =>
      refine wpAny_genexprCodeX hcode (cd.code hP2 ht) (cd.tab hP2) hf fun c' h' tk hx hge hlt hco' _ htab' _ => ?_
      obtain ⟨o1, vs, f1, tf, fl, tg, inF, tx, tt, op, _, _, _, _, _, _, _, _, _, htr, _⟩ := hco'
      exact cont _ h' tk _ hx (Nat.le_trans hge (Nat.le_of_lt hlt)) htab'.2 ⟨_, rfl⟩ htr
    | some cv =>
      refine wpAny_genexprCode_hit hcode (cd.code hP2 ht) hf ?_
      exact cont cv h2 s1.toks ps (Heap.ExtBut.refl _ _) (Nat.le_refl _) hP2 ⟨#[], by simp⟩ ht
/-- the first entry that the test lets pass, or the default -/
def FirstOf (pb : Int → Bool) (l : List Int) (d r : Int) : Prop :=
  ((∀ (j : Nat) (z : Int), l[j]? = some z → pb z = false) ∧ r = d) ∨ ∃ i : Nat, l[i]? = some r ∧ pb r = true ∧ ∀ (j : Nat) (y : Int), j < i → l[j]? = some y → pb y = false
end
end GenNx

set_option Elab.async false
set_option linter.all false
set_option maxRecDepth 100000
set_option maxHeartbeats 2000000
/-! next(x for x in xs if .., default), xs a list of ints -/
namespace GenNl
open PySem PySem.Spec PyProof.Rows L2 GxR EnumT GenNx
section
variable {X : Cx} {pins : List (Addr × Obj)} {σ : L2.St} {H : Hp} {s : Shared}
theorem gen_name {c P : Addr} {e ct : Expr} {x : Str} {px gpos : Pos} {scope : Scope} {pb : Int → Bool} {te : TE} {k : Nat} {p1 : Pos} {Q' : Value → Shared → Prop} {R : Addr → List Int → Hp → Prop}
    (hr : Room k X.A) (TB : TabB X.base X.mg c P) (hcode : X.env.code = .ref c) (S : GenS X.env scope x) (he : PE X e te)
    (htest : TestI X.prog X.w scope x ct pb) (hda : (x == ("__debug__" : Str)) = false)
    (hs : ∀ v, genFold e X.env v = pure v) (I : Inv X pins σ H s) (h : te σ H fun v H1 => ∃ (t : Addr) (l : List Int), v = .ref t ∧ SqL X.K H1 t (l.map V.int) ∧ TabG H1 P ∧ R t l H1)
    (hQ : ∀ t l H1 g s5, R t l H1 → ReadyN X pins σ H1 P (passing (pzL pb l) l.length 0) (fun i y => ∃ z u, l[i]? = some z ∧ y = .int z u) g s5 → Q' (.ref g) s5) :
    wpAny (model X.prog X.w) X.A (eval (.GeneratorExp (.Name x p1) [⟨.Name x px, e, [ct], 0⟩] scope gpos) X.env) Q' X.xe s := by
  refine wpAny_GeneratorExp_walksQ hr.hd S.co (closure_ok S.free) S.cell S.dot S.loc S.kind (by have := hr.dp; omega) ?_ hs
  refine thn (he.run pins s σ H _ I h) fun us s1 hv => ?_
  obtain ⟨vs, H1, I1, r1, t, l, rfl, hq, ⟨ps, hP, ht⟩, q1⟩ := hv
  obtain rfl : us = Value.ref t := r1
  · skip
    obtain ⟨its, rv, p0, hz⟩ := I1.list hq
    have p' := p0.isList
    have pT : s1.heap.IsList t its.toArray := p'
    have hlt : t < s1.heap.objs.size := by obtain ⟨_, ho, _⟩ := p'; exact Heap.lt_size ho
    refine wpAny_pyIter_list pT ?_
    have hk2 : ∀ b o, s1.heap.get? b = some o → (s1.heap.push { cls := .type "list_iterator", data := .fields #[.ref t, .int 0 0] }).get? b = some o := fun b o z => Heap.get?_push_of_some _ z
    have hit : (s1.heap.push { cls := .type "list_iterator", data := .fields #[.ref t, .int 0 0] }).IsListIter s1.heap.objs.size t 0 := ⟨_, Heap.get?_push_size _ rfl, rfl, rfl⟩
    have hsz2 : (s1.heap.push { cls := .type "list_iterator", data := .fields #[.ref t, .int 0 0] }).objs.size = s1.heap.objs.size + 1 := Heap.size_push ..
    generalize s1.heap.push { cls := .type "list_iterator", data := .fields #[.ref t, .int 0 0] } = h2 at hk2 hit hsz2 ⊢
    have hPs : s1.heap.get? P = some { cls := .none, data := .fields ps } := I1.hok P _ hP
    have hPlt : P < s1.heap.objs.size := Heap.lt_size hPs
    have hP2 : h2.get? P = some { cls := .none, data := .fields ps } := hk2 _ _ hPs
    have cd : PySem.W.CodeHd h2 c P := TB.code.keeps fun b u e => hk2 _ _ (I1.bk b u e)
    have lim2 : h2.NoLimit := I1.nolimit.keeps hk2
    have hll := rv.length
    rw [List.length_map] at hll
    have tP : t ≠ P := fun z => by
      obtain ⟨o, ho, _, n, hd⟩ := pT
      rw [z, hPs] at ho
      cases ho
      cases hd
    have hzn : its.toArray.size = l.length := by rw [List.size_toArray]; omega
    have WT : ∀ A' : Around, A'.handled = none → Walks X.prog X.w A' s1.heap.objs.size _ _ _ _ _ := fun A' hA => Walks.list (prog := X.prog) (w := X.w) (A := A') hA s1.heap.objs.size t (Nat.ne_of_lt hlt) its.toArray
    have cont : ∀ (code : Value) (h3 : Heap) (tk : Nat) (ps' : Array Value), Heap.ExtBut P h2 h3 → h2.objs.size ≤ h3.objs.size → h3.get? P = some { cls := .none, data := .fields ps' } → (∃ more, ps' = ps ++ more) → TriplesOk ps'.toList →
        wpAny (model X.prog X.w) X.A (builtinsFor X.env.globals X.env.builtins) (fun bi s₄ =>
          ∃ Ia fp wr n₀ Pf St₀ pz F, Value.ref s1.heap.objs.size = .ref Ia ∧ (∀ A' : Around, A'.handled = none → Walks X.prog X.w A' Ia fp wr n₀ Pf St₀) ∧ St₀ 0 s₄.heap ∧ (∀ b ∈ fp, b < s₄.heap.objs.size) ∧ s₄.heap.NoLimit ∧ cStatics ∉ wr ∧
            (∀ href : Heap, (∀ b o, s₄.heap.get? b = some o → href.get? b = some o) →
              QuietGen X.prog X.w (genEnv scope (cloFrom X.env.cells scope.names []) s₄.heap.objs.size code bi X.env) x [ct] (.Name x p1) (List.range s₄.heap.objs.size) wr Pf pz F href) ∧
            (∀ a h₅ tk gs, gs.bare = true → s₄.heap.objs.size < a → h₅.objs.size = a + 1 → (∀ b o, s₄.heap.get? b = some o → h₅.get? b = some o) →
              WalksS X.prog X.w X.A.in4 a (a :: s₄.heap.objs.size :: List.range s₄.heap.objs.size) (s₄.heap.objs.size :: wr) (GenOnlyQ s₄.gens.size) (passing pz n₀ 0).length
                (fun j y => ∃ i, (passing pz n₀ 0)[j]? = some i ∧ F i y) (GenAt X.prog X.w X.A.in4 a s₄.gens.size s₄.heap.objs.size (List.range s₄.heap.objs.size) wr pz n₀ F) →
              GenAt X.prog X.w X.A.in4 a s₄.gens.size s₄.heap.objs.size (List.range s₄.heap.objs.size) wr pz n₀ F 0 { s₄ with gens := s₄.gens.push gs, toks := tk, heap := h₅ } →
              Q' (.ref a) { s₄ with gens := s₄.gens.push gs, toks := tk, heap := h₅ })) X.xe { s1 with heap := h3, toks := tk } := by
      intro code h3 tk ps' hx hsz hP3 hmore ht3
      obtain ⟨bm, ob, e1, e2, e3, e4, e5, e6, e7, e8⟩ := TB.bm
      have hcP : cStatics ≠ P := fun e => by
        obtain ⟨_, hns, _⟩ := I1.nolimit
        obtain ⟨o', es, ep, ho, hd, _⟩ := hns
        rw [e, hPs] at ho
        cases ho
        cases hd
      have hcl : cStatics < s1.heap.objs.size := let ⟨_, hns, _⟩ := I1.nolimit; hns.lt
      have keep3 : ∀ b u, b ≠ P → s1.heap.get? b = some u → h3.get? b = some u := fun b u hb e => hx b u hb (hk2 _ _ e)
      have iP : s1.heap.objs.size ≠ P := fun z => Nat.lt_irrefl _ (z ▸ hPlt)
      have off : ∀ b, b < s1.heap.objs.size → b ∉ [s1.heap.objs.size] := fun b hb hm => by
        have hm' : b = s1.heap.objs.size := by simpa using hm
        exact Nat.ne_of_lt hb hm'
      refine wpAny_builtinsFor (m := X.mg) (by rw [I1.ok.glob]; exact (((I1.mod.glob.keeps I1.bk).keeps hk2).extBut hx TB.gP)) e1 e2 (keep3 _ _ e4 (I1.bk _ _ e5)) e6 e7 e8 ?_
      refine ⟨s1.heap.objs.size, _, _, _, _, _, pzL pb l, (fun i y => ∃ z u, l[i]? = some z ∧ y = .int z u), rfl, WT, ⟨hit.at fun o q => hx _ o iP q, pT.at fun o q => keep3 _ o tP q⟩, ?_, lim2.extBut hx hcP, off _ hcl, ?_, ?_⟩
      · intro b hb
        have hb' : b = s1.heap.objs.size ∨ b = t := by simpa using hb
        show b < h3.objs.size
        rcases hb' with z | z
        · rw [z]
          show s1.heap.objs.size < h3.objs.size
          omega
        · rw [z]
          exact Nat.lt_of_lt_of_le hlt (show s1.heap.objs.size ≤ h3.objs.size by omega)
      · intro href hhref
        refine ⟨fun A' E' i v s₂ m₂ hA hPv hn hm hk => ?_, fun A' E' i v s₂ m₂ hA hPv hp hn hm hk => ?_⟩
        · have hxi' : its[i]? = some v := by simpa using hPv
          obtain ⟨z, t2, hz1, rfl⟩ := int_item rv hxi'
          refine one_if (wpAny_mono (htest _ A' E' z t2 s₂ m₂ rfl hn hm) (fun ok s3 q => ⟨?_, q.2⟩) fun _ _ e => e)
          rw [pzL_some hz1]
          exact q.1
        · have hxi' : its[i]? = some v := by simpa using hPv
          obtain ⟨z, t2, hz1, rfl⟩ := int_item rv hxi'
          exact wpAny_mono (elt_name (scope := scope) rfl S.kind S.loc hn hm hda) (fun y s3 q => ⟨⟨z, t2, hz1, q.1⟩, q.2⟩) fun _ _ e => e
      · intro g h5 tk5 gs hgb hag hsz5 hk5 W5 hat
        rw [hzn] at W5
        refine hQ t l H1 g _ q1 ⟨_, _, _, _, W5.in4_1, ?_, hat.1.typeIs, fun s' hm => ?_⟩
        · rw [hzn] at hat
          exact hat
        · obtain ⟨more, em⟩ := hmore
          have nwr : ∀ b u, s1.heap.get? b = some u → b ∉ h3.objs.size :: [s1.heap.objs.size] := fun b u e hb => by
            have hl := Heap.lt_size e
            rcases List.mem_cons.mp hb with z | z
            · rw [z] at hl
              have h9 : (h3.objs.size : Nat) < s1.heap.objs.size := hl
              omega
            · exact off b hl z
          have J := inv_tab (more := more) (h' := s'.heap) (g' := s'.gens) (d' := s'.drawn) (t' := s'.toks) I1 hP (fun b u hb e => hm.heap b u (nwr b u e) (hk5 b u (keep3 b u hb e)))
            (by rw [← em]; exact hm.heap P _ (nwr P _ hPs) (hk5 P _ hP3)) (AllBare.movedS (I1.bare.push hgb) hm)
          rw [sh_eta s1 s' hm.os] at J
          refine ⟨upd H1 P (.tbl (ps ++ more)), ⟨⟨ps ++ more, upd_same, by rw [← em]; exact ht3⟩, fun b hb => upd_ne hb⟩, J⟩
    refine ⟨lim2, ?_⟩
    cases hf : codeAmong gpos ps.toList with
    | none =>
      refine wpAny_genexprCodeX hcode (cd.code hP2 ht) (cd.tab hP2) hf fun c' h' tk hx hge hlt hco' _ htab' _ => ?_
      obtain ⟨o1, vs, f1, tf, fl, tg, inF, tx, tt, op, _, _, _, _, _, _, _, _, _, htr, _⟩ := hco'
      exact cont _ h' tk _ hx (Nat.le_trans hge (Nat.le_of_lt hlt)) htab'.2 ⟨_, rfl⟩ htr
    | some cv =>
      refine wpAny_genexprCode_hit hcode (cd.code hP2 ht) hf ?_
      exact cont cv h2 s1.toks ps (Heap.ExtBut.refl _ _) (Nat.le_refl _) hP2 ⟨#[], by simp⟩ ht
/-- next((x for x in e if test of x), d) -/
def tNextL (K : PySem.W.Frag) (P : Addr) (pb : Int → Bool) (d : Int) (te : TE) : TE := fun σ H Q => te σ H fun v H1 => ∃ (t : Addr) (l : List Int), v = .ref t ∧ SqL K H1 t (l.map V.int) ∧ TabG H1 P ∧ ∀ r H2, FirstOf pb l d r → Tabbed P H1 H2 → Q (.int r) H2
theorem pe_nextL {c P : Addr} {e ct : Expr} {x : Str} {px gpos p pos dp : Pos} {jd : Nat} {scope : Scope} {pb : Int → Bool} {d : Int} {te : TE} {k : Nat} {p1 : Pos}
    (hr : Room k X.A) (hgn : Gl X "next") (hmn : X.mg "next" = none) (TB : TabB X.base X.mg c P) (hcode : X.env.code = .ref c) (S : GenS X.env scope x) (he0 : PE X e te)
    (htest : TestI X.prog X.w scope x ct pb) (hda : (x == ("__debug__" : Str)) = false := by decide)
    (hs : ∀ v, genFold e X.env v = pure v := by intro _; rfl)
    (he : starEach [.GeneratorExp (.Name x p1) [⟨.Name x px, e, [ct], 0⟩] scope gpos, .Constant (.int d) jd dp] X.env
      = (false, eval (.GeneratorExp (.Name x p1) [⟨.Name x px, e, [ct], 0⟩] scope gpos) X.env) :: starEach [.Constant (.int d) jd dp] X.env := by rfl)
    (he2 : starEach [.Constant (.int d) jd dp] X.env = [(false, eval (.Constant (.int d) jd dp) X.env)] := by rfl) :
    PE X (.Call (.Name "next" p) [.GeneratorExp (.Name x p1) [⟨.Name x px, e, [ct], 0⟩] scope gpos, .Constant (.int d) jd dp] [] pos) (tNextL X.K P pb d te) := by
  refine ⟨fun pins s σ H Q I h => ?_⟩
  refine wpAny_Call_Name_kw (ld_blt I hgn hmn boot_next ?_)
  refine PyProof.Rows.callWith_builtin1 ?_ he (by rw [he2]; rfl)
  rw [he, he2]
  show wpAny _ _ (spliced ((false, eval (.GeneratorExp (.Name x p1) [⟨.Name x px, e, [ct], 0⟩] scope gpos) X.env) :: (false, eval (.Constant (.int d) jd dp) X.env) :: [])) _ _ s
  refine Calls.spliced_cons (gen_name (R := fun t l H1 => ∀ r H2, FirstOf pb l d r → Tabbed P H1 H2 → Q (.int r) H2) hr TB hcode S he0 htest hda hs I h fun t l H1 g s5 hR hG => ?_)
  refine Calls.spliced_cons (wpAny_Constant_int (Calls.spliced_nil ?_))
  obtain ⟨fp, wr, G, St, W, hst5, hT, hI⟩ := hG
  have back : ∀ {s'}, Moved wr G { s5 with toks := s5.toks + 1 } s' → Moved wr G s5 s' := fun m => ⟨m.heap, m.gens, m.drawn, m.os, Nat.le_trans (Nat.le_succ _) m.toks⟩
  refine call_next_walkS W hT (W.frame 0 s5 s5.heap (s5.toks + 1) hst5 (Nat.le_succ _) fun _ _ _ z => z) (fun v s' hn hv hmv => ?_) (fun s' hn hmv => ?_)
  · obtain ⟨H2, hTb, J⟩ := hI s' (back hmv)
    obtain ⟨i, hi, y, u, hy, rfl⟩ := hv
    obtain ⟨z, hz1, hz2, hz3⟩ := passing_first hi
    rw [hy] at hz1
    cases hz1
    exact ⟨.int y, H2, J, ⟨u, rfl⟩, hR y H2 (.inr ⟨i, hy, hz2, hz3⟩) hTb⟩
  · obtain ⟨H2, hTb, J⟩ := hI s' (back hmv)
    exact ⟨.int d, H2, J, ⟨_, rfl⟩, hR d H2 (.inl ⟨passing_nil hn, rfl⟩) hTb⟩
end
end GenNl

set_option Elab.async false
set_option linter.all false
set_option maxRecDepth 100000
set_option maxHeartbeats 2000000
/-! HookG's Hook over a lesser fragment: what the globals name, what is named by that, and so on; a function names its code and its defaults only -/
namespace HookG
open PySem PySem.Spec PyProof.Rows L2 He
def refsW (o : Obj) : List Addr := match o.data with
  | .func fd => refV fd.code ++ refV fd.defaults ++ refV fd.kwdefaults
  | _ => refsD o
def nxtW (g : Addr → Option Obj) (as : List Addr) : List Addr := as.flatMap fun a => match g a with
  | some o => refsW o
  | none => []
def levW (g : Addr → Option Obj) : Nat → List Addr → List Addr
  | 0, as => as
  | n + 1, as => as ++ levW g n (nxtW g as)
def asW (g : Addr → Option Obj) (n : Nat) : List Addr := levW g n [mainGlobals] ++ [cStatics]
end HookG

set_option Elab.async false
set_option linter.all false
set_option maxRecDepth 100000
set_option maxHeartbeats 2000000
/-! HookW's Hook with defs that hold generator expressions: their code objects, the tables of these, empty at the start and left out of the fragment -/
namespace HookT
open PySem PySem.Spec PyProof.Rows L2 He HookG
/-- the code object of the function at a -/
def codA (K : PySem.W.Frag) (a : Addr) : Addr := match K.lookup a with
  | some ⟨_, _, .func fd, _⟩ => (match fd.code with
    | .ref c => c
    | _ => 0)
  | _ => 0
theorem code_of {K : PySem.W.Frag} {x qual : Str} {params : Arguments} {body : List Stmt} {scope : Scope} {dvs : List V} {kws : List (Str × V)} {f : Addr} {fd : FuncData} (F : FunD K x qual params body scope dvs kws f fd) : fd.code = .ref (codA K f) := by
  obtain ⟨oc, od, dV, kV, doc, pm, an, cdv, ct, osl, rfl, lk, hcd, _, _⟩ := F.ex
  obtain ⟨c, rfl⟩ := codeIn_ref hcd
  unfold codA
  rw [lk] <;> rfl
/-- FunD.ok with the code object known -/
theorem okC {P : Program} {w : World} {K : PySem.W.Frag} {mg : Str → Option Value} {base : Heap} {x qual : Str} {params : Arguments} {body : List Stmt} {scope : Scope} {dvs : List V} {kws : List (Str × V)} {f : Addr} {fd : FuncData} {CX : CXT} {N ps : List Str} {k : Nat} {sp : Sp}
    (F : FunD K x qual params body scope dvs kws f fd) (S : FnScope N ps scope) (len : ∀ vs H Q E, sp vs H Q E → vs.length = ps.length)
    (hbody : ∀ (A : Around) (outer : List Env) (s : Shared) (H : Hp) (vs : List V) (Q : VK) (E : XK), Room k (A.deeper (envOfC qual scope s.heap.objs.size f fd.code)) → sp vs H Q E →
      ∃ t, PSs (cxOf CX P w K mg base N qual scope f fd.code A outer s H E) body t ∧ t { nx := fun _ H' => Q .non H', rt := Q } (start N vs) H) : FnOk P w K mg base CX (k + 1) f fd ps sp := by
  obtain ⟨oc, od, dV, kV, doc, pm, an, cdv, ct, osl, rfl, lk, hcd, _, _⟩ := F.ex
  exact fn_of lk hcd S len fun A outer s H vs Q E hr hsp => hbody A outer s H vs Q E hr hsp
def cTA (K : PySem.W.Frag) (p : At) : Addr × Addr := (codA K (p.adr K), tabOf K (codA K (p.adr K)))
structure SaysGT (fa : List Fa) (fn : List GD) (tf : List At) (ex : PySem.W.Frag → Bool) (h : Heap) (K : PySem.W.Frag) : Prop where
  g : SaysG fa fn ex K
  hd : ∀ p ∈ tf, PySem.W.codeHdIn K (cTA K p).1 (cTA K p).2 = true
  out : ∀ p ∈ tf, K.lookup (cTA K p).2 = none
  empty : ∀ p ∈ tf, h.get? (cTA K p).2 = some { cls := .none, data := .fields #[] }
def tabsB (g : Addr → Option Obj) (tf : List At) (K : PySem.W.Frag) : Bool := tf.all fun p => PySem.W.codeHdIn K (cTA K p).1 (cTA K p).2 && (match g (cTA K p).2 with
  | some o => emptyTab o
  | none => false)
abbrev AlGT : Type := AlG × Bool
def obsGT (n : Nat) (fa : List Fa) (fn : List GD) (tf : List At) (ex : PySem.W.Frag → Bool) (g : Addr → Option Obj) : AlGT := (obsG fa fn ex (frT g (asW g n)), tabsB g tf (frT g (asW g n)))
theorem saysGT_of {n : Nat} {fa : List Fa} {fn : List GD} {tf : List At} {ex : PySem.W.Frag → Bool} {h : Heap} (e : obsGT n fa fn tf ex h.get? = (valG fn, true)) : SaysGT fa fn tf ex h (frT h.get? (asW h.get? n)) := by
  have e1 : obsG fa fn ex (frT h.get? (asW h.get? n)) = valG fn := congrArg (fun z : AlGT => z.1) e
  have e2 : tabsB h.get? tf (frT h.get? (asW h.get? n)) = true := congrArg (fun z : AlGT => z.2) e
  have key : ∀ p ∈ tf, PySem.W.codeHdIn (frT h.get? (asW h.get? n)) (cTA (frT h.get? (asW h.get? n)) p).1 (cTA (frT h.get? (asW h.get? n)) p).2 = true ∧ ∃ o, h.get? (cTA (frT h.get? (asW h.get? n)) p).2 = some o ∧ emptyTab o = true := fun p hp => by
    obtain ⟨h3, h4⟩ := ba (List.all_eq_true.mp e2 p hp)
    refine ⟨h3, ?_⟩
    cases q : h.get? (cTA (frT h.get? (asW h.get? n)) p).2 with
    | none =>
      rw [q] at h4
      cases h4
    | some o =>
      rw [q] at h4
      exact ⟨o, rfl, h4⟩
  exact ⟨e1, fun p hp => (key p hp).1, fun p hp => by
    obtain ⟨_, o, q, z⟩ := key p hp
    exact frT_none q z, fun p hp => by
    obtain ⟨_, o, q, z⟩ := key p hp
    rw [q, emptyTab_eq z]⟩
def hookT (n : Nat) (fa : List Fa) (fn : List GD) (tf : List At) (ex : PySem.W.Frag → Bool) : PySem.W.Hook where
  α := AlGT
  obs := fun s => obsGT n fa fn tf ex s.heap.get?
  val := fun _ => (valG fn, true)
  says := fun _ h => ∃ K : PySem.W.Frag, K.In h ∧ SaysGT fa fn tf ex h K
  of := fun _ _ e => ⟨_, frT_in, saysGT_of e⟩
  keeps := fun _ _ _ ⟨K, hK, c⟩ k => ⟨K, PySem.W.Frag.In.keeps hK k, ⟨c.g, c.hd, c.out, fun p hp => k _ _ (c.empty p hp)⟩⟩
theorem obsGT_eq {n : Nat} {fa : List Fa} {fn : List GD} {tf : List At} {ex : PySem.W.Frag → Bool} {g : Addr → Option Obj} {s : Shared} (h : ∀ a, g a = s.heap.get? a) : obsGT n fa fn tf ex g = (hookT n fa fn tf ex).obs s := by
  have e : g = s.heap.get? := funext h
  rw [e] <;> rfl
/-- a table at the start -/
theorem tabG0 {H : Hp} {P : Addr} (h : H P = some (.tbl #[])) : GxR.TabG H P := ⟨#[], h, True.intro⟩
end HookT

set_option Elab.async false
set_option linter.all false
set_option maxRecDepth 100000
set_option maxHeartbeats 2000000
/-! any of a list of ints -/
namespace OwnF
open PySem PySem.Spec PyProof.Rows L2 SlX OwnR
section
variable {X : Cx}
end
end OwnF

set_option Elab.async false
set_option linter.all false
set_option maxRecDepth 100000
set_option maxHeartbeats 2000000
/-! a comprehension over enumerate(t), t a tuple -/
namespace EnumT
open PySem PySem.Spec PyProof.Rows L2
theorem lc_enumT {K : PySem.W.Frag} {a : Addr} {xs : List V} {g : TG} {tt : TT} {te : TE} {vs : List Nat} {σ : L2.St} {H1 : Hp} {D : Addr} {Qd : Hp → Prop} (Pv : Nat → Hp → Prop) (h0 : Pv 0 (upd H1 D (.lst []))) (hq : ∀ i H, i ≤ xs.length → Pv i H → SqT K H a xs)
    (hs : ∀ (i : Nat) (x : V) (T : Addr) (H : Hp), xs[i]? = some x → Pv i H → H T = none → g (.ref T) (wipe σ vs) (upd H T (.tup [.int (i : Nat), x])) fun σ2 H2 => wipe σ2 vs = wipe σ vs ∧ tt σ2 H2 fun b H3 =>
      if b = true then te σ2 H3 fun y H4 => ∃ acc, H4 D = some (.lst acc) ∧ acc.length < sizeLine ∧ Pv (i + 1) (upd H4 D (.lst (acc ++ [y]))) else Pv (i + 1) H3) (hd : ∀ H, Pv xs.length H → Qd H) :
    ∃ W : Nat → Nat → Hp → Prop, (∃ m, W 0 m (upd H1 D (.lst []))) ∧ ∀ i m H, W i m H →
      ((IteT K a).stop i H ∧ Qd H) ∨ ((IteT K a).go i H ∧ ∃ Nx : Hp → Prop, (∀ H', Nx H' → ∃ m', m' < m ∧ W (i + 1) m' H') ∧ ∀ x H', (IteT K a).yld i H x H' → g x (wipe σ vs) H' fun σ2 H2 => wipe σ2 vs = wipe σ vs ∧ tt σ2 H2 fun b H3 =>
        if b = true then te σ2 H3 fun y H4 => ∃ acc, H4 D = some (.lst acc) ∧ acc.length < sizeLine ∧ Nx (upd H4 D (.lst (acc ++ [y]))) else Nx H3) := by
  refine ⟨fun i m H => m = xs.length - i ∧ i ≤ xs.length ∧ Pv i H, ⟨xs.length, by simp, Nat.zero_le _, h0⟩, ?_⟩
  rintro i m H ⟨rfl, hi, p⟩
  have qx := hq i H hi p
  by_cases hlt : i < xs.length
  · have hx : xs[i]? = some xs[i] := List.getElem?_eq_getElem hlt
    refine .inr ⟨⟨xs, _, qx, hx⟩, Pv (i + 1), fun H' p' => ⟨xs.length - (i + 1), by omega, rfl, hlt, p'⟩, fun v H' y => ?_⟩
    obtain ⟨T, x', rfl, hT, rfl, f1⟩ := y
    exact hs i x' T H (f1 xs qx) p hT
  · have e : i = xs.length := by omega
    subst e
    exact .inl ⟨⟨xs, qx, rfl⟩, hd H p⟩
end EnumT

set_option Elab.async false
set_option linter.all false
set_option maxRecDepth 100000
set_option maxHeartbeats 2000000
/-! tuple(x) of an instance with own __iter__ (an iterator over a tuple) and own __len__ -/
namespace OwnR
open PySem PySem.Spec PyProof.Rows L2 SlX
section
variable {X : Cx} {CX : CXT} {pins : List (Addr × Obj)} {σ : L2.St} {H : Hp} {s : Shared} {C g gl t it q : Addr} {n i : Nat} {sp spl : Sp} {E : XK}
end
section
variable {X : Cx} {C g gl : Addr} {n : Nat} {sp spl : Sp} {fd fdl : FuncData} {ps psl : List Str}
end
end OwnR

set_option Elab.async false
set_option linter.all false
set_option maxRecDepth 100000
set_option maxHeartbeats 2000000
/-! == and != of tuples of instances with slots, by their own ==, item by item alike -/
namespace OwnTE
open PySem PySem.Spec PyProof.Rows L2 SlX OwnR OwnF HookG
open PySem.SeqAt AutoSeq1 MeetsSeq MeetsSeq2 MeetsSeq3 GQ
section
variable {prog : Program} {w : World} {A : Around} {R : Result → Shared → Prop}
end
section
variable {prog : Program} {w : World} {A : Around} {E : Value → Shared → Prop} {s : Shared}
end
section
variable {X : Cx} {n : Nat} {C g : Addr} {fd : FuncData} {ps : List Str} {sp : Sp}
theorem slt_ext {H H' : Hp} {a dx : Addr} {vs : List (Option V)} (h : Slt H a C dx vs) (e : Ext H H') : Slt H' a C dx vs :=
  h.elim (fun z => .inl ⟨e _ _ z.1, z.2⟩) fun z => .inr ⟨e _ _ z.1, e _ _ z.2⟩
end
end OwnTE

set_option Elab.async false
set_option linter.all false
set_option maxRecDepth 100000
set_option maxHeartbeats 2000000
/-! == of tuples of instances with slots, by their own ==: both answers -/
namespace OwnTB
open PySem PySem.Spec PyProof.Rows L2 SlX OwnR OwnF HookG OwnTE
open PySem.SeqAt AutoSeq1 MeetsSeq MeetsSeq2 MeetsSeq3 GQ
section
variable {prog : Program} {w : World} {A : Around} {R : Result → Shared → Prop}
theorem tuple_eqB (l b : Addr) (items items2 : Array Value) (n n2 : Nat) (dd dd2 : Option Addr) (sl sl2 : Array (Option Value)) (hsz : items.size = items2.size) (I : Shared → Prop) (rs : Nat → Bool)
    (turn : ∀ i (h1 : i < items.size) (h2 : i < items2.size) s, I s → wpAny (model prog w) A.in1 (eqBool items[i] items2[i]) (fun r s' => r = rs i ∧ I s') (fun e s' => R (.error e) s') s)
    (fin : ∀ s, I s → R (.ok (.ret (.bool ((List.range items.size).all rs)))) s) {s : Shared} (hl1 : s.heap.get? l = some { cls := .type "tuple", dict := dd, data := .seq items n, slots := sl }) (hb1 : s.heap.get? b = some { cls := .type "tuple", dict := dd2, data := .seq items2 n2, slots := sl2 }) (h : I s) :
    wpAny (model prog w) A.in1 (Builtin.«tuple.__eq__» ⟨[.ref l, .ref b], []⟩) (FinOf prog w A R) (fun e s' => R (.error e) s') s := by
  have f2 := AutoSeq1.sub_tuple_tuple
  have hZ : (items.toList.zip items2.toList).length = items.size := by simp [hsz]
  have h0 := h
  obtain ⟨hp, g, d, tk, os⟩ := s
  wp_walk using wpAny_loadPart' hl1, wpAny_loadPart' hb1, wpAny_forIn_list _ (fun rest b s' => b.1 = none ∧ ∃ i, rest = (items.toList.zip items2.toList).drop i ∧ i ≤ items.size ∧ (∀ j, j < i → rs j = true) ∧ I s') _
  case turn =>
    rintro ⟨y, x⟩ rest b s' ⟨hb', i, hz, hi, hall, hI⟩
    have hlt : i < (items.toList.zip items2.toList).length := by
      rcases Nat.lt_or_ge i (items.toList.zip items2.toList).length with h' | h'
      · exact h'
      · rw [List.drop_of_length_le h'] at hz; cases hz
    have h1 : i < items.size := hZ ▸ hlt
    have h2 : i < items2.size := hsz ▸ h1
    rw [List.drop_eq_getElem_cons hlt] at hz
    injection hz with hyx hrest
    have hy : y = items[i] := by have := congrArg Prod.fst hyx; simpa using this
    have hx : x = items2[i] := by have := congrArg Prod.snd hyx; simpa using this
    subst hy hx
    refine wpAny_bind (wpAny_mono (turn i h1 h2 s' hI) (fun r s2 q2 => ?_) fun _ _ x => x)
    obtain ⟨hr, q2⟩ := q2
    subst hr
    by_cases hc : rs i = true
    · rw [hc]
      wp_walk
      exact ⟨rfl, i + 1, hrest, h1, fun j hj => by
        by_cases e : j = i
        · rw [e]; exact hc
        · exact hall j (by omega), q2⟩
    · rw [Bool.eq_false_iff.mpr hc]
      have hR : R (.ok (.ret (.bool false))) s2 := by
        have := fin s2 q2
        have e : (List.range items.size).all rs = false := by
          rw [List.all_eq_false]
          exact ⟨i, List.mem_range.mpr h1, by rw [Bool.eq_false_iff.mpr hc]; simp⟩
        rwa [e] at this
      wp_walk
      exact hR
  case fin =>
    rintro ⟨b1, b2⟩ s' ⟨hb', i, hz, hi, hall, hI⟩
    simp only at hb'
    subst hb'
    have hge : items.size ≤ i := by
      rcases Nat.lt_or_ge i (items.toList.zip items2.toList).length with h' | h'
      · rw [List.drop_eq_getElem_cons h'] at hz; cases hz
      · exact hZ ▸ h'
    have hi' : i = items.size := by omega
    have hR : R (.ok (.ret (.bool true))) s' := by
      have := fin s' hI
      have e : (List.range items.size).all rs = true := by
        rw [List.all_eq_true]
        intro j hj
        exact hall j (by have := List.mem_range.mp hj; omega)
      rwa [e] at this
    wp_walk
    simpa [Builtin.Tuple.tupleCompareSizes, hsz] using hR
  case h =>
    exact ⟨rfl, 0, rfl, Nat.zero_le _, fun j hj => absurd hj (Nat.not_lt_zero j), h0⟩
end
section
variable {prog : Program} {w : World} {A : Around} {E : Value → Shared → Prop} {s : Shared}
theorem rc_tupB {l b : Addr} {items items2 : Array Value} {Q : Value → Shared → Prop} (hsz : items.size = items2.size) (hu : A.units < cLine) (I : Shared → Prop) (rs : Nat → Bool)
    (hl : s.heap.IsTuple l items) (hb : s.heap.IsTuple b items2)
    (turn : ∀ i (h1 : i < items.size) (h2 : i < items2.size) s, I s → wpAny (model prog w) A.in1 (eqBool items[i] items2[i]) (fun r s' => r = rs i ∧ I s') E s)
    (fin : ∀ s, I s → Q (.bool ((List.range items.size).all rs)) s) (h : I s) : wpAny (model prog w) A (richCompare .Eq (.ref l) (.ref b)) Q E s := by
  obtain ⟨⟨cls, dd, data, sl⟩, ho, hc, n, hd⟩ := id hl
  obtain ⟨⟨cls2, dd2, data2, sl2⟩, ho2, hc2, n2, hd2⟩ := id hb
  simp only at hc hd hc2 hd2
  subst hc hd hc2 hd2
  refine wpAny_richCompare_same_room (op := .Eq) ⟨_, ho, rfl⟩ ⟨_, ho2, rfl⟩ F.slot_tuple_eq (call_here F.slot_tuple_eq ⟨_, ho, rfl⟩ F.entry_tuple_eq (F.args_tuple_eq_2 _ _) ?_) hu
  exact tuple_eqB (R := wants (fun v s' => v ≠ .notImplemented ∧ Q v s') E) l b items items2 n n2 dd dd2 sl sl2 hsz I rs turn (fun s' q => ⟨(fun x => nomatch x), fin s' q⟩) ho ho2 h
end
section
variable {X : Cx} {n : Nat} {C g : Addr} {fd : FuncData} {ps : List Str} {sp : Sp}
/-- how two values compare by == -/
abbrev Cmp := V → V → Hp → Bool → Prop
def MonB (D : Cmp) : Prop := ∀ x y H H' r, Ext H H' → D x y H r → D x y H' r
def EqB (X : Cx) (n : Nat) (D : Cmp) : Prop :=
  ∀ (A : Around) (pins : List (Addr × Obj)) (s : Shared) (σ : L2.St) (H : Hp) (x y : V) (u v : Value) (b : Bool), Sub X n A → Inv X pins σ H s → RelV x u → RelV y v → D x y H b →
    wpAny (model X.prog X.w) A (eqBool u v) (fun r s' => r = b ∧ ∃ H', Inv X pins σ H' s' ∧ Ext H H') X.xe s
def spEqB (R : Addr → Addr → Hp → Bool → Prop) : Sp := fun vs H Q _ => ∃ a b r, vs = [.ref a, .ref b] ∧ R a b H r ∧ ∀ H', Ext H H' → Q (.bl r) H'
def DSlB (C : Addr) (R : Addr → Addr → Hp → Bool → Prop) : Cmp := fun x y H r => ∃ a b dx dy vs ws, x = .ref a ∧ y = .ref b ∧ Slt H a C dx vs ∧ Slt H b C dy ws ∧ R a b H r
theorem monB_sl {R : Addr → Addr → Hp → Bool → Prop} (hR : ∀ a b H H' r, Ext H H' → R a b H r → R a b H' r) : MonB (DSlB C R) := fun x y H H' r e d => by
  obtain ⟨a, b, dx, dy, fs, gs, hx, hy, h1, h2, z⟩ := d
  exact ⟨a, b, dx, dy, fs, gs, hx, hy, slt_ext h1 e, slt_ext h2 e, hR a b H H' r e z⟩
theorem eqB_sl {R : Addr → Addr → Hp → Bool → Prop} (F : FnOk X.prog X.w X.K X.mg X.base CX0 n g fd ps (spEqB R)) (m : Mt X.K C "__eq__" g) (hb : Binds X.K fd ps []) (h1 : ∀ a H r, R a a H r → r = true) : EqB X n (DSlB C R) := by
  intro A pins s σ H x y u v bb sb I rx ry d
  obtain ⟨a, b, dx, dy, fs, gs, rfl, rfl, ha, hb', hr⟩ := d
  cases rx
  cases ry
  by_cases hab : a = b
  · subst hab
    rw [h1 _ _ _ hr]
    exact SeqAt.EqAt.same (A := A) (s := s) (.ref a) X.prog X.w X.xe _ ⟨rfl, H, I, Ext.rfl'⟩
  refine GQ.eqBool_refG hab ?_
  obtain ⟨sl, od, _, J, _⟩ := slt_inst I ha
  obtain ⟨sl', od', _, J', _⟩ := slt_inst I hb'
  obtain ⟨mm, hF⟩ := I.fr
  refine PySem.W.cmp_K (op := .Eq) (tb := .ref C) sb.room.units0 hF I.ok.mod.kin J J'.type (by simp [PySem.W.notFirst]) m.at_ m.fn ?_
  have hsp : spEqB R [.ref a, .ref b] H (fun v H' => v = .bl bb ∧ Ext H H') E0 := ⟨a, b, bb, rfl, hr, fun H' e => ⟨rfl, e⟩⟩
  have e0 : Env0 X.prog X.w X.K X.mg X.base A X.stack s H := by
    have e := I.env0
    exact ⟨by rw [sb.fr]; exact e.frames, e.mod, e.bs, e.bsz, e.funs, e.frf, e.hok, e.bare⟩
  have hl := F.len _ _ _ _ hsp
  have r2 : Vals [V.ref a, V.ref b] [Value.ref a, Value.ref b] := .cons rfl (.cons rfl .nil)
  refine wpAny_call (codeAny_mono (F.run A X.stack s H ⟨[.ref a, .ref b], []⟩ [.ref a, .ref b] [.ref a, .ref b] _ E0 sb.room e0 (by
    have := hb s [.ref a, .ref b] I.kIn (by simpa using hl)
    simpa using this) r2 hsp) fun r s' hq => ?_)
  cases r with
  | error e => exact absurd hq (fun z => hx0 (X := X) H s e s' z)
  | ok fl =>
    cases fl with
    | ret w =>
      obtain ⟨z, H', I', rz, ez, ex⟩ := I.after hq
      subst ez
      cases rz
      exact ⟨bb, rfl, rfl, H', I', ex⟩
    | next => exact False.elim hq
    | brk => exact False.elim hq
    | cont => exact False.elim hq
/-- tuples of one length -/
def DTupB (K : PySem.W.Frag) (D : Cmp) : Cmp := fun x y H r => ∃ (a b : Addr) (xs ys : List V) (rs : Nat → Bool), x = .ref a ∧ y = .ref b ∧ SqT K H a xs ∧ SqT K H b ys ∧ xs.length = ys.length ∧ (∀ (i : Nat) x y, xs[i]? = some x → ys[i]? = some y → D x y H (rs i)) ∧ r = (List.range xs.length).all rs
def rEqB (D : Cmp) : R2 := fun x y H Q => ∃ r, D x y H r ∧ ∀ H', Ext H H' → Q (.bl r) H'
theorem op_eqTupB {D : Cmp} (hD : MonB D) (h : EqB X n D) (hr : Room (n + 1) X.A) : OpR X (compareOp .Eq) (rEqB (DTupB X.K D)) := by
  intro pins s σ H x y v u Q I rx ry hq
  obtain ⟨_, ⟨a, b, xs, ys, rs, rfl, rfl, ha, hb, hl, p, rfl⟩, q⟩ := hq
  cases (show v = Value.ref a from rx)
  cases (show u = Value.ref b from ry)
  obtain ⟨its, r, e, z⟩ := I.tuple ha
  obtain ⟨its2, r2, e2, z2⟩ := I.tuple hb
  have hsz : its.toArray.size = its2.toArray.size := by rw [List.size_toArray, List.size_toArray, ← r.length, ← r2.length]; exact hl
  show wpAny (model X.prog X.w) X.A (richCompare .Eq (.ref a) (.ref b)) (EP X pins σ Q) X.xe s
  refine rc_tupB hsz hr.units0 (fun s' => LoopI X pins σ H s') rs e e2 (fun i h1 h2 s' q1 => ?_) (fun s' z => ?_) ⟨H, I, Ext.rfl'⟩
  · obtain ⟨H1, I1, e1⟩ := q1
    have g1 : its[i]? = some its.toArray[i] := by
      have h1' : i < its.length := by simpa using h1
      rw [List.getElem?_eq_getElem h1'] <;> simp
    have g2 : its2[i]? = some its2.toArray[i] := by
      have h2' : i < its2.length := by simpa using h2
      rw [List.getElem?_eq_getElem h2'] <;> simp
    have k1 : i < xs.length := by rw [r.length]; simpa using h1
    have k2 : i < ys.length := by rw [r2.length]; simpa using h2
    obtain ⟨u, hu, ru⟩ := r.get (List.getElem?_eq_getElem k1)
    obtain ⟨v, hv, rv⟩ := r2.get (List.getElem?_eq_getElem k2)
    rw [g1] at hu
    rw [g2] at hv
    rw [Option.some.inj hu, Option.some.inj hv]
    refine wpAny_mono (h X.A.in1 pins s' σ H1 _ _ u v _ (Sub.in1 ⟨hr, rfl⟩) I1 ru rv (hD _ _ _ _ _ e1 (p i _ _ (List.getElem?_eq_getElem k1) (List.getElem?_eq_getElem k2)))) (fun r s2 q => ?_) fun _ _ x => x
    obtain ⟨hr, H2, I2, e2⟩ := q
    exact ⟨hr, H2, I2, e1.trans e2⟩
  · obtain ⟨H', I', e'⟩ := z
    have el : its.toArray.size = xs.length := by rw [List.size_toArray, ← r.length]
    rw [el]
    exact ⟨.bl _, H', I', rfl, q H' e'⟩
/-- tuples of instances with slots -/
theorem op_eqTB {R : Addr → Addr → Hp → Bool → Prop} (m : Mt X.K C "__eq__" g) (F : FnOk X.prog X.w X.K X.mg X.base CX0 n g fd ps sp) (hi : ∀ vs H Q E, spEqB R vs H Q E → sp vs H Q E) (hR : ∀ a b H H' r, Ext H H' → R a b H r → R a b H' r) (h1 : ∀ a H r, R a a H r → r = true) (hb : Binds X.K fd ps []) (hr : Room (n + 1) X.A) :
    OpR X (compareOp .Eq) (rEqB (DTupB X.K (DSlB C R))) := op_eqTupB (monB_sl hR) (eqB_sl (F.imp hi) m hb h1) hr
end
end OwnTB

set_option Elab.async false
set_option linter.all false
set_option maxRecDepth 100000
/-! defs with *args called with plain arguments -/
namespace StarD
open PySem PySem.Spec PyProof.Rows L2
section
variable {P : Program} {w : World} {K : PySem.W.Frag} {mg : Str → Option Value} {base : Heap} {x qual : Str} {params : Arguments} {body : List Stmt} {scope : Scope} {dvs : List V} {kws : List (Str × V)} {f : Addr} {fd : FuncData} {k : Nat} {N : List Str} {pv : Str} {sp : Sp}
/-- def f(*v) -/
theorem ok (F : FunD K x qual params body scope [] kws f fd) (S : FnScope N [pv] scope)
    (hb : ∀ (kV doc pm : Value) (an : Option Addr) (cdv ct : Value) (rest : List Value), bindArgs (PySem.W.fnOf x qual params body scope .none kV doc pm an cdv ct) ⟨rest, []⟩ = (newTuple rest >>= fun t => pure [(pv, t)]))
    (hbody : ∀ (cdv : Value) (A : Around) (outer : List Env) (s : Shared) (H : Hp) (vs : List V) (Q : VK) (E : XK), Room k (A.deeper (envOfC qual scope s.heap.objs.size f cdv)) → sp vs H Q E →
      ∃ t, PSs (cxOf CX0 P w K mg base N qual scope f cdv A outer s H E) body t ∧ t { nx := fun _ H' => Q .non H', rt := Q } (start N vs) H) :
    FnR P w K mg base CX0 (k + 1) f (fun vs H Q E => vs.length ≤ sizeLine ∧ ∀ p, H p = Option.none → sp [V.ref p] (upd H p (.tup vs)) Q E) := by
  obtain ⟨oc, od, dV, kV, doc, pm, an, cdv, ct, osl, rfl, lk, hcd, hD, _⟩ := F.ex
  rcases hD with ⟨_, rfl⟩ | ⟨e, _⟩
  case inr => exact absurd rfl e
  have h := StX.fn_star (P := P) (w := w) (K := K) (mg := mg) (base := base) (CX := CX0) (ps := []) (sp := sp) (k := k) lk hcd S StX.cxUp_none (fun us rest hu => by
    cases us with
    | nil => exact hb kV doc pm an cdv ct rest
    | cons _ _ => exact absurd hu (by simp)) (fun A outer s H vs Q E hr hs => hbody cdv A outer s H vs Q E hr hs)
  exact fun A outer s H us vs Q E hr e r hsp => h A outer s H us vs Q E hr e r ⟨[], vs, rfl, rfl, hsp.1, fun p hp => hsp.2 p hp⟩
end
section
variable {X : Cx} {CX : CXT} {k : Nat} {f : Addr} {sp : Sp} {E : XK} {x : Str} {e : Expr} {es : List Expr} {t : TA} {p pos : Pos}
/-- x(e, ..), x a def of the module -/
theorem pe_callR (F : FnR X.prog X.w X.K X.mg X.base CX k f sp) (hr : Room k X.A) (hg : Gl X x) (hm : X.mg x = some (.ref f)) (hk : PySem.W.keepIn X.K (.ref f) = true) (hx : Passes CX X E) (ha : PA X (e :: es) t) (hdb : (x == ("__debug__" : Str)) = false := by decide)
    (he : starEach (e :: es) X.env = (false, eval e X.env) :: starEach es X.env := by rfl) (hpl : (backTo pos (starEach es X.env)).any (·.1) = false := by rfl) :
    PE X (.Call (.Name x p) (e :: es) [] pos) (fun σ H Q => t σ H fun vs H1 => sp vs H1 Q E) := by
  refine ⟨fun pins s σ H Q I h => ?_⟩
  refine wpAny_Call_Name_kw (ld_glob I hg hm ?_ hdb)
  refine PySem.W.callWith_K (h₀ := X.base) I.ok.mod.kin hk (thn (ha.run pos pins s σ H _ I h) fun us s1 ⟨vs, H1, I1, r, q⟩ => ⟨I1.kIn, ?_⟩) he hpl
  exact wpAny_call (run_fnR F hr hx I1 r q)
end
end StarD

set_option Elab.async false
set_option linter.all false
set_option maxRecDepth 100000
set_option maxHeartbeats 4000000
/-! tuple * int, the int 1, too: the same tuple -/
namespace RepT
open PySem PySem.Spec PyProof.Rows L2
end RepT

set_option Elab.async false
set_option linter.all false
set_option maxRecDepth 100000
set_option maxHeartbeats 4000000
/-! tuple * int, the int 0, too: an empty tuple -/
namespace RepZ
open PySem PySem.Spec PyProof.Rows L2 RepT
end RepZ

set_option Elab.async false
set_option linter.all false
set_option maxRecDepth 100000
set_option maxHeartbeats 2000000
/-! zip of a list and a tuple -/
namespace ZipX
open PySem PySem.Spec PyProof.Rows L2 RZ
def StX (a b z TI TO i1 i2 : Addr) (i : Nat) (h : Heap) : Prop := IsZip h z TI TO .none ∧ IsPair h TI (.ref i1) (.ref i2) ∧ (∃ x y, IsPair h TO x y) ∧ h.IsListIter i1 a i ∧ h.IsTupleIter i2 b i
section
variable {prog : Program} {w : World} {A : Around} {E : Value → Shared → Prop} {s : Shared}
end
end ZipX

set_option Elab.async false
set_option linter.all false
set_option maxRecDepth 100000
/-! x *= n for ints -/
namespace AugM
open PySem PySem.Spec PyProof.Rows L2 MyR
variable {X : Cx}
end AugM

set_option Elab.async false
set_option linter.all false
set_option maxRecDepth 100000
set_option maxHeartbeats 2000000
/-! l.count(x) of data, sorted(set) of pairs of ints -/
namespace TupC
open PySem PySem.Spec PyProof.Rows L2
section
variable {X : Cx}
end
section
variable {P : Program} {w : World} {A : Around} {E : Value → Shared → Prop} {s : Shared}
end
section
variable {X : Cx}
end
end TupC

set_option Elab.async false
set_option linter.all false
set_option maxRecDepth 100000
/-! max(t) of a tuple of ints -/
namespace MaxT
open PySem PySem.Spec PyProof.Rows L2
section
variable {prog : Program} {w : World} {A : Around} {E : Value → Shared → Prop} {s : Shared}
end
section
variable {X : Cx}
end
end MaxT

set_option Elab.async false
set_option linter.all false
set_option maxRecDepth 100000
set_option maxHeartbeats 4000000
namespace K83
open PySem PySem.Spec PyProof.Rows L2 SlX OwnR OwnF
theorem hu64 {k : Nat} {A : Around} (hr : Room k A) : A.units + 64 < cLine := hr.units
theorem same_upd0 {H : Hp} {p : Addr} {o : HO} (h : H p = none) : Same H (upd H p o) := fun b x e => by
  rw [upd_ne (ne_of_none e h)]
  exact e
def topS (i : Nat) : Stmt := PySem.Challenge.pw_sourceforms_k83_whole_rows_of_pencils.main.body.getD i (.Pass ⟨0, 0, 0, 0⟩)
abbrev FnM (K : PySem.W.Frag) (x q : Str) (st : Stmt) (f : Addr) (fd : FuncData) : Prop := FunD K x q (defArgs st) (defBody st) (defScope st) [] [] f fd
abbrev FnP (K : PySem.W.Frag) (x : Str) (st : Stmt) (f : Addr) (fd : FuncData) : Prop := FunD K x x (defArgs st) (defBody st) (defScope st) [] [] f fd
abbrev s_is_whole : Stmt := topS 12
abbrev N_is_whole : List Str := ["value"]
theorem sc_is_whole : FnScope N_is_whole ["value"] (defScope s_is_whole) := ⟨rfl, rfl, rfl, by decide +kernel, rfl, by decide +kernel, by decide +kernel⟩
abbrev s_is_short : Stmt := topS 13
abbrev N_is_short : List Str := ["value"]
theorem sc_is_short : FnScope N_is_short ["value"] (defScope s_is_short) := ⟨rfl, rfl, rfl, by decide +kernel, rfl, by decide +kernel, by decide +kernel⟩
abbrev s_are_short : Stmt := topS 15
abbrev N_are_short : List Str := ["value", "entry"]
theorem sc_are_short : FnScope N_are_short ["value"] (defScope s_are_short) := ⟨rfl, rfl, rfl, by decide +kernel, rfl, by decide +kernel, by decide +kernel⟩
abbrev s_shared_of : Stmt := topS 18
abbrev N_shared_of : List Str := ["numbers", "found", "number"]
theorem sc_shared_of : FnScope N_shared_of ["numbers"] (defScope s_shared_of) := ⟨rfl, rfl, rfl, by decide +kernel, rfl, by decide +kernel, by decide +kernel⟩
abbrev s_first_of : Stmt := topS 19
abbrev N_first_of : List Str := ["numbers"]
theorem sc_first_of : FnScope N_first_of ["numbers"] (defScope s_first_of) := ⟨rfl, rfl, rfl, by decide +kernel, rfl, by decide +kernel, by decide +kernel⟩
abbrev s_primitive_of : Stmt := topS 20
abbrev N_primitive_of : List Str := ["numbers", "part", "number"]
theorem sc_primitive_of : FnScope N_primitive_of ["numbers"] (defScope s_primitive_of) := ⟨rfl, rfl, rfl, by decide +kernel, rfl, by decide +kernel, by decide +kernel⟩
abbrev s_lots_of : Stmt := topS 21
abbrev N_lots_of : List Str := ["many", "few", "found", "at"]
theorem sc_lots_of : FnScope N_lots_of ["many", "few"] (defScope s_lots_of) := ⟨rfl, rfl, rfl, by decide +kernel, rfl, by decide +kernel, by decide +kernel⟩
abbrev s_less_head : Stmt := topS 25
abbrev N_less_head : List Str := ["row", "head", "place", "one", "other", "part", "found", "entry", "taken", "shared"]
theorem sc_less_head : FnScope N_less_head ["row", "head", "place"] (defScope s_less_head) := ⟨rfl, rfl, rfl, by decide +kernel, rfl, by decide +kernel, by decide +kernel⟩
abbrev s_echelon_rows : Stmt := topS 26
abbrev N_echelon_rows : List Str := ["rows", "width", "left", "found", "row", "place", "heads", "at", "head"]
theorem sc_echelon_rows : FnScope N_echelon_rows ["rows", "width"] (defScope s_echelon_rows) := ⟨rfl, rfl, rfl, by decide +kernel, rfl, by decide +kernel, by decide +kernel⟩
abbrev s_rank_of : Stmt := topS 27
abbrev N_rank_of : List Str := ["rows", "width"]
theorem sc_rank_of : FnScope N_rank_of ["rows", "width"] (defScope s_rank_of) := ⟨rfl, rfl, rfl, by decide +kernel, rfl, by decide +kernel, by decide +kernel⟩
abbrev s_joined_entries : Stmt := topS 31
abbrev s_are_entries : Stmt := topS 37
abbrev N_are_entries : List Str := ["value"]
theorem sc_are_entries : FnScope N_are_entries ["value"] (defScope s_are_entries) := ⟨rfl, rfl, rfl, by decide +kernel, rfl, by decide +kernel, by decide +kernel⟩
abbrev s_form_of : Stmt := topS 39
abbrev N_form_of : List Str := ["entries"]
theorem sc_form_of : FnScope N_form_of ["entries"] (defScope s_form_of) := ⟨rfl, rfl, rfl, by decide +kernel, rfl, by decide +kernel, by decide +kernel⟩
abbrev s_laying_slope : Stmt := topS 42
abbrev N_laying_slope : List Str := ["entries", "by_y", "at", "entry"]
theorem sc_laying_slope : FnScope N_laying_slope ["entries", "by_y"] (defScope s_laying_slope) := ⟨rfl, rfl, rfl, by decide +kernel, rfl, by decide +kernel, by decide +kernel⟩
abbrev s_laying_slopes : Stmt := topS 43
abbrev N_laying_slopes : List Str := ["entries", "times", "found", "turn", "one"]
theorem sc_laying_slopes : FnScope N_laying_slopes ["entries", "times"] (defScope s_laying_slopes) := ⟨rfl, rfl, rfl, by decide +kernel, rfl, by decide +kernel, by decide +kernel⟩
abbrev s_add_product : Stmt := topS 44
abbrev N_add_product : List Str := ["found", "one", "other", "factor", "at", "first", "place", "second"]
theorem sc_add_product : FnScope N_add_product ["found", "one", "other", "factor"] (defScope s_add_product) := ⟨rfl, rfl, rfl, by decide +kernel, rfl, by decide +kernel, by decide +kernel⟩
abbrev s_laid_in : Stmt := topS 45
abbrev N_laid_in : List Str := ["one", "other", "times", "found", "first", "second", "at"]
theorem sc_laid_in : FnScope N_laid_in ["one", "other", "times"] (defScope s_laid_in) := ⟨rfl, rfl, rfl, by decide +kernel, rfl, by decide +kernel, by decide +kernel⟩
abbrev s_is_pencil : Stmt := topS 48
abbrev N_is_pencil : List Str := ["one", "other"]
theorem sc_is_pencil : FnScope N_is_pencil ["one", "other"] (defScope s_is_pencil) := ⟨rfl, rfl, rfl, by decide +kernel, rfl, by decide +kernel, by decide +kernel⟩
abbrev s_basis_in : Stmt := topS 49
abbrev N_basis_in : List Str := ["one", "other"]
theorem sc_basis_in : FnScope N_basis_in ["one", "other"] (defScope s_basis_in) := ⟨rfl, rfl, rfl, by decide +kernel, rfl, by decide +kernel, by decide +kernel⟩
abbrev s_basis_of_rows : Stmt := topS 50
abbrev N_basis_of_rows : List Str := ["rows", "width", "first", "second"]
theorem sc_basis_of_rows : FnScope N_basis_of_rows ["rows", "width"] (defScope s_basis_of_rows) := ⟨rfl, rfl, rfl, by decide +kernel, rfl, by decide +kernel, by decide +kernel⟩
abbrev s_odd_layings : Stmt := topS 51
abbrev N_odd_layings : List Str := ["one", "other", "times"]
theorem sc_odd_layings : FnScope N_odd_layings ["one", "other"] (defScope s_odd_layings) := ⟨rfl, rfl, rfl, by decide +kernel, rfl, by decide +kernel, by decide +kernel⟩
abbrev s_require_forms : Stmt := topS 52
abbrev N_require_forms : List Str := ["values", "value"]
theorem sc_require_forms : FnScope N_require_forms ["values"] (defScope s_require_forms) := ⟨rfl, rfl, rfl, by decide +kernel, rfl, by decide +kernel, by decide +kernel⟩
abbrev s_require_span : Stmt := topS 53
abbrev N_require_span : List Str := ["one", "other"]
theorem sc_require_span : FnScope N_require_span ["one", "other"] (defScope s_require_span) := ⟨rfl, rfl, rfl, by decide +kernel, rfl, by decide +kernel, by decide +kernel⟩
abbrev s_require_pencil : Stmt := topS 54
abbrev N_require_pencil : List Str := ["one", "other"]
theorem sc_require_pencil : FnScope N_require_pencil ["one", "other"] (defScope s_require_pencil) := ⟨rfl, rfl, rfl, by decide +kernel, rfl, by decide +kernel, by decide +kernel⟩
abbrev s_pencil_row : Stmt := topS 55
abbrev N_pencil_row : List Str := ["one", "other", "entries"]
theorem sc_pencil_row : FnScope N_pencil_row ["one", "other"] (defScope s_pencil_row) := ⟨rfl, rfl, rfl, by decide +kernel, rfl, by decide +kernel, by decide +kernel⟩
abbrev s_are_multiples : Stmt := topS 56
abbrev N_are_multiples : List Str := ["rows", "forms", "first", "row", "entry", "second", "form", "at", "place", "here", "there"]
theorem sc_are_multiples : FnScope N_are_multiples ["rows", "forms"] (defScope s_are_multiples) := ⟨rfl, rfl, rfl, by decide +kernel, rfl, by decide +kernel, by decide +kernel⟩
abbrev s_is_pencil_row : Stmt := topS 57
abbrev N_is_pencil_row : List Str := ["one", "other", "value", "rows", "form", "row"]
theorem sc_is_pencil_row : FnScope N_is_pencil_row ["one", "other", "value"] (defScope s_is_pencil_row) := ⟨rfl, rfl, rfl, by decide +kernel, rfl, by decide +kernel, by decide +kernel⟩
abbrev s_pencil_basis : Stmt := topS 58
abbrev N_pencil_basis : List Str := ["one", "other"]
theorem sc_pencil_basis : FnScope N_pencil_basis ["one", "other"] (defScope s_pencil_basis) := ⟨rfl, rfl, rfl, by decide +kernel, rfl, by decide +kernel, by decide +kernel⟩
abbrev s_are_one_pencil : Stmt := topS 59
abbrev N_are_one_pencil : List Str := ["one", "other", "third", "last"]
theorem sc_are_one_pencil : FnScope N_are_one_pencil ["one", "other", "third", "last"] (defScope s_are_one_pencil) := ⟨rfl, rfl, rfl, by decide +kernel, rfl, by decide +kernel, by decide +kernel⟩
abbrev s_law_dice : Stmt := topS 61
abbrev N_law_dice : List Str := ["_law_script", "_law_spot", "_law_cell", "_law_left"]
theorem sc_law_dice : FnScope N_law_dice ["_law_script", "_law_spot"] (defScope s_law_dice) := ⟨rfl, rfl, rfl, by decide +kernel, rfl, by decide +kernel, by decide +kernel⟩
abbrev s_law_roll : Stmt := topS 62
abbrev N_law_roll : List Str := ["_law_dice_here", "_law_total", "_law_found", "_law_one", "_law_two"]
theorem sc_law_roll : FnScope N_law_roll ["_law_dice_here", "_law_total"] (defScope s_law_roll) := ⟨rfl, rfl, rfl, by decide +kernel, rfl, by decide +kernel, by decide +kernel⟩
abbrev s_law_near : Stmt := topS 63
abbrev N_law_near : List Str := ["_law_dice_here", "_law_most"]
theorem sc_law_near : FnScope N_law_near ["_law_dice_here", "_law_most"] (defScope s_law_near) := ⟨rfl, rfl, rfl, by decide +kernel, rfl, by decide +kernel, by decide +kernel⟩
abbrev s_law_gcd : Stmt := topS 64
abbrev N_law_gcd : List Str := ["_law_one", "_law_other"]
theorem sc_law_gcd : FnScope N_law_gcd ["_law_one", "_law_other"] (defScope s_law_gcd) := ⟨rfl, rfl, rfl, by decide +kernel, rfl, by decide +kernel, by decide +kernel⟩
abbrev s_law_shared : Stmt := topS 65
abbrev N_law_shared : List Str := ["_law_numbers", "_law_found", "_law_number"]
theorem sc_law_shared : FnScope N_law_shared ["_law_numbers"] (defScope s_law_shared) := ⟨rfl, rfl, rfl, by decide +kernel, rfl, by decide +kernel, by decide +kernel⟩
abbrev s_law_raised : Stmt := topS 66
abbrev N_law_raised : List Str := ["_law_number", "_law_times", "_law_found", "_law_turn"]
theorem sc_law_raised : FnScope N_law_raised ["_law_number", "_law_times"] (defScope s_law_raised) := ⟨rfl, rfl, rfl, by decide +kernel, rfl, by decide +kernel, by decide +kernel⟩
abbrev s_law_choose : Stmt := topS 67
abbrev N_law_choose : List Str := ["_law_many", "_law_few", "_law_found", "_law_at"]
theorem sc_law_choose : FnScope N_law_choose ["_law_many", "_law_few"] (defScope s_law_choose) := ⟨rfl, rfl, rfl, by decide +kernel, rfl, by decide +kernel, by decide +kernel⟩
abbrev s_law_plus : Stmt := topS 68
abbrev N_law_plus : List Str := ["_law_one", "_law_other", "_law_first", "_law_second"]
theorem sc_law_plus : FnScope N_law_plus ["_law_one", "_law_other"] (defScope s_law_plus) := ⟨rfl, rfl, rfl, by decide +kernel, rfl, by decide +kernel, by decide +kernel⟩
abbrev s_law_scaled : Stmt := topS 69
abbrev N_law_scaled : List Str := ["_law_form_here", "_law_factor", "_law_entry"]
theorem sc_law_scaled : FnScope N_law_scaled ["_law_form_here", "_law_factor"] (defScope s_law_scaled) := ⟨rfl, rfl, rfl, by decide +kernel, rfl, by decide +kernel, by decide +kernel⟩
abbrev s_law_product : Stmt := topS 70
abbrev N_law_product : List Str := ["_law_one", "_law_other", "_law_found", "_law_place", "_law_at", "_law_first", "_law_second"]
theorem sc_law_product : FnScope N_law_product ["_law_one", "_law_other"] (defScope s_law_product) := ⟨rfl, rfl, rfl, by decide +kernel, rfl, by decide +kernel, by decide +kernel⟩
abbrev s_law_all_product : Stmt := topS 71
abbrev N_law_all_product : List Str := ["_law_forms", "_law_found", "_law_form_here"]
theorem sc_law_all_product : FnScope N_law_all_product ["_law_forms"] (defScope s_law_all_product) := ⟨rfl, rfl, rfl, by decide +kernel, rfl, by decide +kernel, by decide +kernel⟩
abbrev s_law_power : Stmt := topS 72
abbrev N_law_power : List Str := ["_law_pair", "_law_times", "_law_found", "_law_turn"]
theorem sc_law_power : FnScope N_law_power ["_law_pair", "_law_times"] (defScope s_law_power) := ⟨rfl, rfl, rfl, by decide +kernel, rfl, by decide +kernel, by decide +kernel⟩
abbrev s_law_by_x : Stmt := topS 73
abbrev N_law_by_x : List Str := ["_law_form_here", "_law_at", "_law_entry"]
theorem sc_law_by_x : FnScope N_law_by_x ["_law_form_here"] (defScope s_law_by_x) := ⟨rfl, rfl, rfl, by decide +kernel, rfl, by decide +kernel, by decide +kernel⟩
abbrev s_law_by_y : Stmt := topS 74
abbrev N_law_by_y : List Str := ["_law_form_here", "_law_at", "_law_entry"]
theorem sc_law_by_y : FnScope N_law_by_y ["_law_form_here"] (defScope s_law_by_y) := ⟨rfl, rfl, rfl, by decide +kernel, rfl, by decide +kernel, by decide +kernel⟩
abbrev s_law_derived : Stmt := topS 75
abbrev N_law_derived : List Str := ["_law_form_here", "_law_one", "_law_other", "_law_turn"]
theorem sc_law_derived : FnScope N_law_derived ["_law_form_here", "_law_one", "_law_other"] (defScope s_law_derived) := ⟨rfl, rfl, rfl, by decide +kernel, rfl, by decide +kernel, by decide +kernel⟩
abbrev s_law_laid : Stmt := topS 76
abbrev N_law_laid : List Str := ["_law_one", "_law_other", "_law_times", "_law_found", "_law_place", "_law_at", "_law_piece", "_law_number"]
theorem sc_law_laid : FnScope N_law_laid ["_law_one", "_law_other", "_law_times"] (defScope s_law_laid) := ⟨rfl, rfl, rfl, by decide +kernel, rfl, by decide +kernel, by decide +kernel⟩
abbrev s_law_changed : Stmt := topS 77
abbrev N_law_changed : List Str := ["_law_form_here", "_law_table_here", "_law_found", "_law_entry", "_law_at", "_law_piece"]
theorem sc_law_changed : FnScope N_law_changed ["_law_form_here", "_law_table_here"] (defScope s_law_changed) := ⟨rfl, rfl, rfl, by decide +kernel, rfl, by decide +kernel, by decide +kernel⟩
abbrev s_law_plain : Stmt := topS 78
abbrev N_law_plain : List Str := ["_law_form_here", "_law_part", "_law_first", "_law_entry"]
theorem sc_law_plain : FnScope N_law_plain ["_law_form_here"] (defScope s_law_plain) := ⟨rfl, rfl, rfl, by decide +kernel, rfl, by decide +kernel, by decide +kernel⟩
abbrev s_law_line : Stmt := topS 79
abbrev N_law_line : List Str := ["_law_point_here"]
theorem sc_law_line : FnScope N_law_line ["_law_point_here"] (defScope s_law_line) := ⟨rfl, rfl, rfl, by decide +kernel, rfl, by decide +kernel, by decide +kernel⟩
abbrev s_law_point : Stmt := topS 80
abbrev N_law_point : List Str := ["_law_dice_here", "_law_most", "_law_one", "_law_other"]
theorem sc_law_point : FnScope N_law_point ["_law_dice_here", "_law_most"] (defScope s_law_point) := ⟨rfl, rfl, rfl, by decide +kernel, rfl, by decide +kernel, by decide +kernel⟩
abbrev s_law_small_form : Stmt := topS 81
abbrev N_law_small_form : List Str := ["_law_dice_here", "_law_degree", "_law_most", "_law_place"]
theorem sc_law_small_form : FnScope N_law_small_form ["_law_dice_here", "_law_degree", "_law_most"] (defScope s_law_small_form) := ⟨rfl, rfl, rfl, by decide +kernel, rfl, by decide +kernel, by decide +kernel⟩
abbrev s_law_form : Stmt := topS 82
abbrev N_law_form : List Str := ["_law_dice_here", "_law_degree", "_law_way", "_law_turn", "_law_line_here", "_law_often", "_law_found", "_law_place"]
theorem sc_law_form : FnScope N_law_form ["_law_dice_here", "_law_degree"] (defScope s_law_form) := ⟨rfl, rfl, rfl, by decide +kernel, rfl, by decide +kernel, by decide +kernel⟩
abbrev s_law_live_form : Stmt := topS 83
abbrev N_law_live_form : List Str := ["_law_dice_here", "_law_degree", "_law_found"]
theorem sc_law_live_form : FnScope N_law_live_form ["_law_dice_here", "_law_degree"] (defScope s_law_live_form) := ⟨rfl, rfl, rfl, by decide +kernel, rfl, by decide +kernel, by decide +kernel⟩
abbrev s_law_table : Stmt := topS 84
abbrev N_law_table : List Str := ["_law_dice_here", "_law_most", "_law_found", "_law_row"]
theorem sc_law_table : FnScope N_law_table ["_law_dice_here", "_law_most"] (defScope s_law_table) := ⟨rfl, rfl, rfl, by decide +kernel, rfl, by decide +kernel, by decide +kernel⟩
abbrev s_law_det : Stmt := topS 85
abbrev N_law_det : List Str := ["_law_table_here"]
theorem sc_law_det : FnScope N_law_det ["_law_table_here"] (defScope s_law_det) := ⟨rfl, rfl, rfl, by decide +kernel, rfl, by decide +kernel, by decide +kernel⟩
abbrev s_law_cleared : Stmt := topS 86
abbrev N_law_cleared : List Str := ["_law_rows", "_law_width", "_law_left", "_law_found", "_law_row", "_law_place", "_law_heads", "_law_at", "_law_head"]
theorem sc_law_cleared : FnScope N_law_cleared ["_law_rows", "_law_width"] (defScope s_law_cleared) := ⟨rfl, rfl, rfl, by decide +kernel, rfl, by decide +kernel, by decide +kernel⟩
abbrev s_law_less : Stmt := topS 87
abbrev N_law_less : List Str := ["_law_row", "_law_head", "_law_place", "_law_one", "_law_other", "_law_part", "_law_found", "_law_entry", "_law_taken", "_law_shared_here"]
theorem sc_law_less : FnScope N_law_less ["_law_row", "_law_head", "_law_place"] (defScope s_law_less) := ⟨rfl, rfl, rfl, by decide +kernel, rfl, by decide +kernel, by decide +kernel⟩
abbrev s_law_rank : Stmt := topS 88
abbrev N_law_rank : List Str := ["_law_rows", "_law_width"]
theorem sc_law_rank : FnScope N_law_rank ["_law_rows", "_law_width"] (defScope s_law_rank) := ⟨rfl, rfl, rfl, by decide +kernel, rfl, by decide +kernel, by decide +kernel⟩
abbrev s_law_two_forms : Stmt := topS 89
abbrev N_law_two_forms : List Str := ["_law_dice_here", "_law_degree", "_law_one", "_law_other"]
theorem sc_law_two_forms : FnScope N_law_two_forms ["_law_dice_here", "_law_degree"] (defScope s_law_two_forms) := ⟨rfl, rfl, rfl, by decide +kernel, rfl, by decide +kernel, by decide +kernel⟩
abbrev s_law_odd_row : Stmt := topS 90
abbrev N_law_odd_row : List Str := ["_law_one", "_law_other", "_law_times"]
theorem sc_law_odd_row : FnScope N_law_odd_row ["_law_one", "_law_other"] (defScope s_law_odd_row) := ⟨rfl, rfl, rfl, by decide +kernel, rfl, by decide +kernel, by decide +kernel⟩
abbrev s_law_mixed_pair : Stmt := topS 91
abbrev N_law_mixed_pair : List Str := ["_law_one", "_law_other", "_law_numbers", "_law_row"]
theorem sc_law_mixed_pair : FnScope N_law_mixed_pair ["_law_one", "_law_other", "_law_numbers"] (defScope s_law_mixed_pair) := ⟨rfl, rfl, rfl, by decide +kernel, rfl, by decide +kernel, by decide +kernel⟩
abbrev s_law_shown : Stmt := topS 92
abbrev N_law_shown : List Str := ["_law_forms", "_law_form_here"]
theorem sc_law_shown : FnScope N_law_shown ["_law_forms"] (defScope s_law_shown) := ⟨rfl, rfl, rfl, by decide +kernel, rfl, by decide +kernel, by decide +kernel⟩
abbrev s_law_pair_right : Stmt := topS 93
abbrev N_law_pair_right : List Str := ["_law_dice_here", "_law_one", "_law_other", "_law_degree", "_law_made", "_law_row", "_law_basis", "_law_numbers", "_law_first", "_law_second", "_law_entries", "_law_due", "_law_form_here", "_law_table_here", "_law_near_here", "_law_far", "_law_at"]
theorem sc_law_pair_right : FnScope N_law_pair_right ["_law_dice_here", "_law_one", "_law_other"] (defScope s_law_pair_right) := ⟨rfl, rfl, rfl, by decide +kernel, rfl, by decide +kernel, by decide +kernel⟩
abbrev s_law_two_right : Stmt := topS 94
abbrev N_law_two_right : List Str := ["_law_dice_here", "_law_one", "_law_other", "_law_third", "_law_last", "_law_due", "_law_forms", "_law_entries"]
theorem sc_law_two_right : FnScope N_law_two_right ["_law_dice_here", "_law_one", "_law_other"] (defScope s_law_two_right) := ⟨rfl, rfl, rfl, by decide +kernel, rfl, by decide +kernel, by decide +kernel⟩
abbrev s_law : Stmt := topS 95
abbrev N_law : List Str := ["_law_script", "_law_spot", "_law_dice_here", "_law_one", "_law_other", "_law_ends", "_law_middle", "_law_told"]
theorem sc_law : FnScope N_law ["_law_script"] (defScope s_law) := ⟨rfl, rfl, rfl, by decide +kernel, rfl, by decide +kernel, by decide +kernel⟩
abbrev s_Told_init : Stmt := inClass (topS 36) 1
abbrev N_Told_init : List Str := ["self", "row"]
theorem sc_Told_init : FnScope N_Told_init ["self", "row"] (defScope s_Told_init) := ⟨rfl, rfl, rfl, by decide +kernel, rfl, by decide +kernel, by decide +kernel⟩
abbrev s_Form_init : Stmt := inClass (topS 38) 1
abbrev N_Form_init : List Str := ["self", "entries"]
theorem sc_Form_init : FnScope N_Form_init ["self", "entries"] (defScope s_Form_init) := ⟨rfl, rfl, rfl, by decide +kernel, rfl, by decide +kernel, by decide +kernel⟩
abbrev s_Form_entries : Stmt := inClass (topS 38) 4
abbrev N_Form_entries : List Str := ["self"]
theorem sc_Form_entries : FnScope N_Form_entries ["self"] (defScope s_Form_entries) := ⟨rfl, rfl, rfl, by decide +kernel, rfl, by decide +kernel, by decide +kernel⟩
abbrev s_Form_degree : Stmt := inClass (topS 38) 5
abbrev N_Form_degree : List Str := ["self"]
theorem sc_Form_degree : FnScope N_Form_degree ["self"] (defScope s_Form_degree) := ⟨rfl, rfl, rfl, by decide +kernel, rfl, by decide +kernel, by decide +kernel⟩
abbrev s_Form_eq : Stmt := inClass (topS 38) 18
abbrev N_Form_eq : List Str := ["self", "other"]
theorem sc_Form_eq : FnScope N_Form_eq ["self", "other"] (defScope s_Form_eq) := ⟨rfl, rfl, rfl, by decide +kernel, rfl, by decide +kernel, by decide +kernel⟩
abbrev s_Form_len : Stmt := inClass (topS 38) 19
abbrev s_Form_iter : Stmt := inClass (topS 38) 20
/-- where the defs stand, what the names of the module are -/
structure Facts (K : PySem.W.Frag) (mg : Str → Option Value) where
  f_is_whole : Addr
  fd_is_whole : FuncData
  F_is_whole : FnP K "is_whole" s_is_whole f_is_whole fd_is_whole
  g_is_whole : mg "is_whole" = some (.ref f_is_whole)
  b_is_whole : Binds K fd_is_whole ["value"] []
  f_is_short : Addr
  fd_is_short : FuncData
  F_is_short : FnP K "is_short" s_is_short f_is_short fd_is_short
  g_is_short : mg "is_short" = some (.ref f_is_short)
  b_is_short : Binds K fd_is_short ["value"] []
  f_are_short : Addr
  fd_are_short : FuncData
  F_are_short : FnP K "are_short" s_are_short f_are_short fd_are_short
  g_are_short : mg "are_short" = some (.ref f_are_short)
  b_are_short : Binds K fd_are_short ["value"] []
  f_shared_of : Addr
  fd_shared_of : FuncData
  F_shared_of : FnP K "shared_of" s_shared_of f_shared_of fd_shared_of
  g_shared_of : mg "shared_of" = some (.ref f_shared_of)
  b_shared_of : Binds K fd_shared_of ["numbers"] []
  f_first_of : Addr
  fd_first_of : FuncData
  F_first_of : FnP K "first_of" s_first_of f_first_of fd_first_of
  g_first_of : mg "first_of" = some (.ref f_first_of)
  b_first_of : Binds K fd_first_of ["numbers"] []
  f_primitive_of : Addr
  fd_primitive_of : FuncData
  F_primitive_of : FnP K "primitive_of" s_primitive_of f_primitive_of fd_primitive_of
  g_primitive_of : mg "primitive_of" = some (.ref f_primitive_of)
  b_primitive_of : Binds K fd_primitive_of ["numbers"] []
  f_lots_of : Addr
  fd_lots_of : FuncData
  F_lots_of : FnP K "lots_of" s_lots_of f_lots_of fd_lots_of
  g_lots_of : mg "lots_of" = some (.ref f_lots_of)
  b_lots_of : Binds K fd_lots_of ["many", "few"] []
  f_less_head : Addr
  fd_less_head : FuncData
  F_less_head : FnP K "less_head" s_less_head f_less_head fd_less_head
  g_less_head : mg "less_head" = some (.ref f_less_head)
  b_less_head : Binds K fd_less_head ["row", "head", "place"] []
  f_echelon_rows : Addr
  fd_echelon_rows : FuncData
  F_echelon_rows : FnP K "echelon_rows" s_echelon_rows f_echelon_rows fd_echelon_rows
  g_echelon_rows : mg "echelon_rows" = some (.ref f_echelon_rows)
  b_echelon_rows : Binds K fd_echelon_rows ["rows", "width"] []
  f_rank_of : Addr
  fd_rank_of : FuncData
  F_rank_of : FnP K "rank_of" s_rank_of f_rank_of fd_rank_of
  g_rank_of : mg "rank_of" = some (.ref f_rank_of)
  b_rank_of : Binds K fd_rank_of ["rows", "width"] []
  f_joined_entries : Addr
  fd_joined_entries : FuncData
  F_joined_entries : FnP K "joined_entries" s_joined_entries f_joined_entries fd_joined_entries
  g_joined_entries : mg "joined_entries" = some (.ref f_joined_entries)
  b_joined_entries : Binds K fd_joined_entries ["one", "other"] []
  f_are_entries : Addr
  fd_are_entries : FuncData
  F_are_entries : FnP K "are_entries" s_are_entries f_are_entries fd_are_entries
  g_are_entries : mg "are_entries" = some (.ref f_are_entries)
  b_are_entries : Binds K fd_are_entries ["value"] []
  f_form_of : Addr
  fd_form_of : FuncData
  F_form_of : FnP K "form_of" s_form_of f_form_of fd_form_of
  g_form_of : mg "form_of" = some (.ref f_form_of)
  b_form_of : Binds K fd_form_of ["entries"] []
  f_laying_slope : Addr
  fd_laying_slope : FuncData
  F_laying_slope : FnP K "laying_slope" s_laying_slope f_laying_slope fd_laying_slope
  g_laying_slope : mg "laying_slope" = some (.ref f_laying_slope)
  b_laying_slope : Binds K fd_laying_slope ["entries", "by_y"] []
  f_laying_slopes : Addr
  fd_laying_slopes : FuncData
  F_laying_slopes : FnP K "laying_slopes" s_laying_slopes f_laying_slopes fd_laying_slopes
  g_laying_slopes : mg "laying_slopes" = some (.ref f_laying_slopes)
  b_laying_slopes : Binds K fd_laying_slopes ["entries", "times"] []
  f_add_product : Addr
  fd_add_product : FuncData
  F_add_product : FnP K "add_product" s_add_product f_add_product fd_add_product
  g_add_product : mg "add_product" = some (.ref f_add_product)
  b_add_product : Binds K fd_add_product ["found", "one", "other", "factor"] []
  f_laid_in : Addr
  fd_laid_in : FuncData
  F_laid_in : FnP K "laid_in" s_laid_in f_laid_in fd_laid_in
  g_laid_in : mg "laid_in" = some (.ref f_laid_in)
  b_laid_in : Binds K fd_laid_in ["one", "other", "times"] []
  f_is_pencil : Addr
  fd_is_pencil : FuncData
  F_is_pencil : FnP K "is_pencil" s_is_pencil f_is_pencil fd_is_pencil
  g_is_pencil : mg "is_pencil" = some (.ref f_is_pencil)
  b_is_pencil : Binds K fd_is_pencil ["one", "other"] []
  f_basis_in : Addr
  fd_basis_in : FuncData
  F_basis_in : FnP K "basis_in" s_basis_in f_basis_in fd_basis_in
  g_basis_in : mg "basis_in" = some (.ref f_basis_in)
  b_basis_in : Binds K fd_basis_in ["one", "other"] []
  f_basis_of_rows : Addr
  fd_basis_of_rows : FuncData
  F_basis_of_rows : FnP K "basis_of_rows" s_basis_of_rows f_basis_of_rows fd_basis_of_rows
  g_basis_of_rows : mg "basis_of_rows" = some (.ref f_basis_of_rows)
  b_basis_of_rows : Binds K fd_basis_of_rows ["rows", "width"] []
  f_odd_layings : Addr
  fd_odd_layings : FuncData
  F_odd_layings : FnP K "odd_layings" s_odd_layings f_odd_layings fd_odd_layings
  g_odd_layings : mg "odd_layings" = some (.ref f_odd_layings)
  b_odd_layings : Binds K fd_odd_layings ["one", "other"] []
  f_require_forms : Addr
  fd_require_forms : FuncData
  F_require_forms : FnP K "require_forms" s_require_forms f_require_forms fd_require_forms
  g_require_forms : mg "require_forms" = some (.ref f_require_forms)
  f_require_span : Addr
  fd_require_span : FuncData
  F_require_span : FnP K "require_span" s_require_span f_require_span fd_require_span
  g_require_span : mg "require_span" = some (.ref f_require_span)
  b_require_span : Binds K fd_require_span ["one", "other"] []
  f_require_pencil : Addr
  fd_require_pencil : FuncData
  F_require_pencil : FnP K "require_pencil" s_require_pencil f_require_pencil fd_require_pencil
  g_require_pencil : mg "require_pencil" = some (.ref f_require_pencil)
  b_require_pencil : Binds K fd_require_pencil ["one", "other"] []
  f_pencil_row : Addr
  fd_pencil_row : FuncData
  F_pencil_row : FnP K "pencil_row" s_pencil_row f_pencil_row fd_pencil_row
  g_pencil_row : mg "pencil_row" = some (.ref f_pencil_row)
  b_pencil_row : Binds K fd_pencil_row ["one", "other"] []
  f_are_multiples : Addr
  fd_are_multiples : FuncData
  F_are_multiples : FnP K "are_multiples" s_are_multiples f_are_multiples fd_are_multiples
  g_are_multiples : mg "are_multiples" = some (.ref f_are_multiples)
  b_are_multiples : Binds K fd_are_multiples ["rows", "forms"] []
  f_is_pencil_row : Addr
  fd_is_pencil_row : FuncData
  F_is_pencil_row : FnP K "is_pencil_row" s_is_pencil_row f_is_pencil_row fd_is_pencil_row
  g_is_pencil_row : mg "is_pencil_row" = some (.ref f_is_pencil_row)
  b_is_pencil_row : Binds K fd_is_pencil_row ["one", "other", "value"] []
  f_pencil_basis : Addr
  fd_pencil_basis : FuncData
  F_pencil_basis : FnP K "pencil_basis" s_pencil_basis f_pencil_basis fd_pencil_basis
  g_pencil_basis : mg "pencil_basis" = some (.ref f_pencil_basis)
  b_pencil_basis : Binds K fd_pencil_basis ["one", "other"] []
  f_are_one_pencil : Addr
  fd_are_one_pencil : FuncData
  F_are_one_pencil : FnP K "are_one_pencil" s_are_one_pencil f_are_one_pencil fd_are_one_pencil
  g_are_one_pencil : mg "are_one_pencil" = some (.ref f_are_one_pencil)
  b_are_one_pencil : Binds K fd_are_one_pencil ["one", "other", "third", "last"] []
  f_law_dice : Addr
  fd_law_dice : FuncData
  F_law_dice : FnP K "_law_dice" s_law_dice f_law_dice fd_law_dice
  g_law_dice : mg "_law_dice" = some (.ref f_law_dice)
  b_law_dice : Binds K fd_law_dice ["_law_script", "_law_spot"] []
  f_law_roll : Addr
  fd_law_roll : FuncData
  F_law_roll : FnP K "_law_roll" s_law_roll f_law_roll fd_law_roll
  g_law_roll : mg "_law_roll" = some (.ref f_law_roll)
  b_law_roll : Binds K fd_law_roll ["_law_dice_here", "_law_total"] []
  f_law_near : Addr
  fd_law_near : FuncData
  F_law_near : FnP K "_law_near" s_law_near f_law_near fd_law_near
  g_law_near : mg "_law_near" = some (.ref f_law_near)
  b_law_near : Binds K fd_law_near ["_law_dice_here", "_law_most"] []
  f_law_gcd : Addr
  fd_law_gcd : FuncData
  F_law_gcd : FnP K "_law_gcd" s_law_gcd f_law_gcd fd_law_gcd
  g_law_gcd : mg "_law_gcd" = some (.ref f_law_gcd)
  b_law_gcd : Binds K fd_law_gcd ["_law_one", "_law_other"] []
  f_law_shared : Addr
  fd_law_shared : FuncData
  F_law_shared : FnP K "_law_shared" s_law_shared f_law_shared fd_law_shared
  g_law_shared : mg "_law_shared" = some (.ref f_law_shared)
  b_law_shared : Binds K fd_law_shared ["_law_numbers"] []
  f_law_raised : Addr
  fd_law_raised : FuncData
  F_law_raised : FnP K "_law_raised" s_law_raised f_law_raised fd_law_raised
  g_law_raised : mg "_law_raised" = some (.ref f_law_raised)
  b_law_raised : Binds K fd_law_raised ["_law_number", "_law_times"] []
  f_law_choose : Addr
  fd_law_choose : FuncData
  F_law_choose : FnP K "_law_choose" s_law_choose f_law_choose fd_law_choose
  g_law_choose : mg "_law_choose" = some (.ref f_law_choose)
  b_law_choose : Binds K fd_law_choose ["_law_many", "_law_few"] []
  f_law_plus : Addr
  fd_law_plus : FuncData
  F_law_plus : FnP K "_law_plus" s_law_plus f_law_plus fd_law_plus
  g_law_plus : mg "_law_plus" = some (.ref f_law_plus)
  b_law_plus : Binds K fd_law_plus ["_law_one", "_law_other"] []
  f_law_scaled : Addr
  fd_law_scaled : FuncData
  F_law_scaled : FnP K "_law_scaled" s_law_scaled f_law_scaled fd_law_scaled
  g_law_scaled : mg "_law_scaled" = some (.ref f_law_scaled)
  b_law_scaled : Binds K fd_law_scaled ["_law_form_here", "_law_factor"] []
  f_law_product : Addr
  fd_law_product : FuncData
  F_law_product : FnP K "_law_product" s_law_product f_law_product fd_law_product
  g_law_product : mg "_law_product" = some (.ref f_law_product)
  b_law_product : Binds K fd_law_product ["_law_one", "_law_other"] []
  f_law_all_product : Addr
  fd_law_all_product : FuncData
  F_law_all_product : FnP K "_law_all_product" s_law_all_product f_law_all_product fd_law_all_product
  g_law_all_product : mg "_law_all_product" = some (.ref f_law_all_product)
  b_law_all_product : Binds K fd_law_all_product ["_law_forms"] []
  f_law_power : Addr
  fd_law_power : FuncData
  F_law_power : FnP K "_law_power" s_law_power f_law_power fd_law_power
  g_law_power : mg "_law_power" = some (.ref f_law_power)
  b_law_power : Binds K fd_law_power ["_law_pair", "_law_times"] []
  f_law_by_x : Addr
  fd_law_by_x : FuncData
  F_law_by_x : FnP K "_law_by_x" s_law_by_x f_law_by_x fd_law_by_x
  g_law_by_x : mg "_law_by_x" = some (.ref f_law_by_x)
  b_law_by_x : Binds K fd_law_by_x ["_law_form_here"] []
  f_law_by_y : Addr
  fd_law_by_y : FuncData
  F_law_by_y : FnP K "_law_by_y" s_law_by_y f_law_by_y fd_law_by_y
  g_law_by_y : mg "_law_by_y" = some (.ref f_law_by_y)
  b_law_by_y : Binds K fd_law_by_y ["_law_form_here"] []
  f_law_derived : Addr
  fd_law_derived : FuncData
  F_law_derived : FnP K "_law_derived" s_law_derived f_law_derived fd_law_derived
  g_law_derived : mg "_law_derived" = some (.ref f_law_derived)
  b_law_derived : Binds K fd_law_derived ["_law_form_here", "_law_one", "_law_other"] []
  f_law_laid : Addr
  fd_law_laid : FuncData
  F_law_laid : FnP K "_law_laid" s_law_laid f_law_laid fd_law_laid
  g_law_laid : mg "_law_laid" = some (.ref f_law_laid)
  b_law_laid : Binds K fd_law_laid ["_law_one", "_law_other", "_law_times"] []
  f_law_changed : Addr
  fd_law_changed : FuncData
  F_law_changed : FnP K "_law_changed" s_law_changed f_law_changed fd_law_changed
  g_law_changed : mg "_law_changed" = some (.ref f_law_changed)
  b_law_changed : Binds K fd_law_changed ["_law_form_here", "_law_table_here"] []
  f_law_plain : Addr
  fd_law_plain : FuncData
  F_law_plain : FnP K "_law_plain" s_law_plain f_law_plain fd_law_plain
  g_law_plain : mg "_law_plain" = some (.ref f_law_plain)
  b_law_plain : Binds K fd_law_plain ["_law_form_here"] []
  f_law_line : Addr
  fd_law_line : FuncData
  F_law_line : FnP K "_law_line" s_law_line f_law_line fd_law_line
  g_law_line : mg "_law_line" = some (.ref f_law_line)
  b_law_line : Binds K fd_law_line ["_law_point_here"] []
  f_law_point : Addr
  fd_law_point : FuncData
  F_law_point : FnP K "_law_point" s_law_point f_law_point fd_law_point
  g_law_point : mg "_law_point" = some (.ref f_law_point)
  b_law_point : Binds K fd_law_point ["_law_dice_here", "_law_most"] []
  f_law_small_form : Addr
  fd_law_small_form : FuncData
  F_law_small_form : FnP K "_law_small_form" s_law_small_form f_law_small_form fd_law_small_form
  g_law_small_form : mg "_law_small_form" = some (.ref f_law_small_form)
  b_law_small_form : Binds K fd_law_small_form ["_law_dice_here", "_law_degree", "_law_most"] []
  f_law_form : Addr
  fd_law_form : FuncData
  F_law_form : FnP K "_law_form" s_law_form f_law_form fd_law_form
  g_law_form : mg "_law_form" = some (.ref f_law_form)
  b_law_form : Binds K fd_law_form ["_law_dice_here", "_law_degree"] []
  f_law_live_form : Addr
  fd_law_live_form : FuncData
  F_law_live_form : FnP K "_law_live_form" s_law_live_form f_law_live_form fd_law_live_form
  g_law_live_form : mg "_law_live_form" = some (.ref f_law_live_form)
  b_law_live_form : Binds K fd_law_live_form ["_law_dice_here", "_law_degree"] []
  f_law_table : Addr
  fd_law_table : FuncData
  F_law_table : FnP K "_law_table" s_law_table f_law_table fd_law_table
  g_law_table : mg "_law_table" = some (.ref f_law_table)
  b_law_table : Binds K fd_law_table ["_law_dice_here", "_law_most"] []
  f_law_det : Addr
  fd_law_det : FuncData
  F_law_det : FnP K "_law_det" s_law_det f_law_det fd_law_det
  g_law_det : mg "_law_det" = some (.ref f_law_det)
  b_law_det : Binds K fd_law_det ["_law_table_here"] []
  f_law_cleared : Addr
  fd_law_cleared : FuncData
  F_law_cleared : FnP K "_law_cleared" s_law_cleared f_law_cleared fd_law_cleared
  g_law_cleared : mg "_law_cleared" = some (.ref f_law_cleared)
  b_law_cleared : Binds K fd_law_cleared ["_law_rows", "_law_width"] []
  f_law_less : Addr
  fd_law_less : FuncData
  F_law_less : FnP K "_law_less" s_law_less f_law_less fd_law_less
  g_law_less : mg "_law_less" = some (.ref f_law_less)
  b_law_less : Binds K fd_law_less ["_law_row", "_law_head", "_law_place"] []
  f_law_rank : Addr
  fd_law_rank : FuncData
  F_law_rank : FnP K "_law_rank" s_law_rank f_law_rank fd_law_rank
  g_law_rank : mg "_law_rank" = some (.ref f_law_rank)
  b_law_rank : Binds K fd_law_rank ["_law_rows", "_law_width"] []
  f_law_two_forms : Addr
  fd_law_two_forms : FuncData
  F_law_two_forms : FnP K "_law_two_forms" s_law_two_forms f_law_two_forms fd_law_two_forms
  g_law_two_forms : mg "_law_two_forms" = some (.ref f_law_two_forms)
  b_law_two_forms : Binds K fd_law_two_forms ["_law_dice_here", "_law_degree"] []
  f_law_odd_row : Addr
  fd_law_odd_row : FuncData
  F_law_odd_row : FnP K "_law_odd_row" s_law_odd_row f_law_odd_row fd_law_odd_row
  g_law_odd_row : mg "_law_odd_row" = some (.ref f_law_odd_row)
  b_law_odd_row : Binds K fd_law_odd_row ["_law_one", "_law_other"] []
  f_law_mixed_pair : Addr
  fd_law_mixed_pair : FuncData
  F_law_mixed_pair : FnP K "_law_mixed_pair" s_law_mixed_pair f_law_mixed_pair fd_law_mixed_pair
  g_law_mixed_pair : mg "_law_mixed_pair" = some (.ref f_law_mixed_pair)
  b_law_mixed_pair : Binds K fd_law_mixed_pair ["_law_one", "_law_other", "_law_numbers"] []
  f_law_shown : Addr
  fd_law_shown : FuncData
  F_law_shown : FnP K "_law_shown" s_law_shown f_law_shown fd_law_shown
  g_law_shown : mg "_law_shown" = some (.ref f_law_shown)
  b_law_shown : Binds K fd_law_shown ["_law_forms"] []
  f_law_pair_right : Addr
  fd_law_pair_right : FuncData
  F_law_pair_right : FnP K "_law_pair_right" s_law_pair_right f_law_pair_right fd_law_pair_right
  g_law_pair_right : mg "_law_pair_right" = some (.ref f_law_pair_right)
  b_law_pair_right : Binds K fd_law_pair_right ["_law_dice_here", "_law_one", "_law_other"] []
  f_law_two_right : Addr
  fd_law_two_right : FuncData
  F_law_two_right : FnP K "_law_two_right" s_law_two_right f_law_two_right fd_law_two_right
  g_law_two_right : mg "_law_two_right" = some (.ref f_law_two_right)
  b_law_two_right : Binds K fd_law_two_right ["_law_dice_here", "_law_one", "_law_other"] []
  f_law : Addr
  fd_law : FuncData
  F_law : FnP K "law" s_law f_law fd_law
  g_law : mg "law" = some (.ref f_law)
  b_law : Binds K fd_law ["_law_script"] []
  f_Told_init : Addr
  fd_Told_init : FuncData
  F_Told_init : FnM K "__init__" "Told.__init__" s_Told_init f_Told_init fd_Told_init
  b_Told_init : Binds K fd_Told_init ["self", "row"] []
  f_Form_init : Addr
  fd_Form_init : FuncData
  F_Form_init : FnM K "__init__" "Form.__init__" s_Form_init f_Form_init fd_Form_init
  b_Form_init : Binds K fd_Form_init ["self", "entries"] []
  f_Form_entries : Addr
  fd_Form_entries : FuncData
  F_Form_entries : FnM K "entries" "Form.entries" s_Form_entries f_Form_entries fd_Form_entries
  b_Form_entries : Binds K fd_Form_entries ["self"] []
  f_Form_degree : Addr
  fd_Form_degree : FuncData
  F_Form_degree : FnM K "degree" "Form.degree" s_Form_degree f_Form_degree fd_Form_degree
  b_Form_degree : Binds K fd_Form_degree ["self"] []
  f_Form_eq : Addr
  fd_Form_eq : FuncData
  F_Form_eq : FnM K "__eq__" "Form.__eq__" s_Form_eq f_Form_eq fd_Form_eq
  b_Form_eq : Binds K fd_Form_eq ["self", "other"] []
  f_Form_len : Addr
  fd_Form_len : FuncData
  F_Form_len : FnM K "__len__" "Form.__len__" s_Form_len f_Form_len fd_Form_len
  b_Form_len : Binds K fd_Form_len ["self"] []
  f_Form_iter : Addr
  fd_Form_iter : FuncData
  F_Form_iter : FnM K "__iter__" "Form.__iter__" s_Form_iter f_Form_iter fd_Form_iter
  b_Form_iter : Binds K fd_Form_iter ["self"] []
  C_Told : Addr
  g_Told : mg "Told" = some (.ref C_Told)
  oc_Told : OwnF.OC K C_Told
  mk_Told : Mk K C_Told f_Told_init
  a_own_row : Addr
  sl_own_row : SlX.Slot1 K C_Told "own_row" a_own_row 0
  C_Form : Addr
  g_Form : mg "Form" = some (.ref C_Form)
  oc_Form : OwnF.OC K C_Form
  mk_Form : Mk K C_Form f_Form_init
  a_own_entries : Addr
  sl_own_entries : SlX.Slot1 K C_Form "own_entries" a_own_entries 0
  mt_Told_init : HookG.Mt K C_Told "__init__" f_Told_init
  mt_Form_init : HookG.Mt K C_Form "__init__" f_Form_init
  p_Form_entries : Addr
  pr_Form_entries : HookG.Pr K C_Form "entries" p_Form_entries f_Form_entries
  p_Form_degree : Addr
  pr_Form_degree : HookG.Pr K C_Form "degree" p_Form_degree f_Form_degree
  mt_Form_eq : HookG.Mt K C_Form "__eq__" f_Form_eq
  mt_Form_len : HookG.Mt K C_Form "__len__" f_Form_len
  mt_Form_iter : HookG.Mt K C_Form "__iter__" f_Form_iter
  kit_Told_Form : PySem.W.kitOne K (.ref C_Told) (.ref C_Form) = some false
  kit_Form_Told : PySem.W.kitOne K (.ref C_Form) (.ref C_Told) = some false
  z_abs : mg "abs" = none
  z_all : mg "all" = none
  z_bool : mg "bool" = none
  z_enumerate : mg "enumerate" = none
  z_int : mg "int" = none
  z_isinstance : mg "isinstance" = none
  z_iter : mg "iter" = none
  z_len : mg "len" = none
  z_list : mg "list" = none
  z_max : mg "max" = none
  z_min : mg "min" = none
  z_next : mg "next" = none
  z_range : mg "range" = none
  z_tuple : mg "tuple" = none
  z_zip : mg "zip" = none
  m_gcd : mg "gcd" = some (.builtin "math.gcd")
  c_GREATEST : ∃ t, mg "GREATEST" = some (.int 1000000000000000000000000000000000000000000000000000000000000 t)
  c_MAX_DEGREE : ∃ t, mg "MAX_DEGREE" = some (.int 40 t)
  c_MOST_PENCIL : ∃ t, mg "MOST_PENCIL" = some (.int 21 t)
  c_first_of : Addr
  P_first_of : Addr
  code_first_of : fd_first_of.code = .ref c_first_of
  tab_first_of : (c_first_of, P_first_of) = HookT.cTA K (HookG.At.glo "first_of")
/-! ### for the head -/
def d_is_whole : HookG.GD := ⟨.glo "is_whole", "is_whole", "is_whole", defArgs s_is_whole, defBody s_is_whole, defScope s_is_whole⟩
def d_is_short : HookG.GD := ⟨.glo "is_short", "is_short", "is_short", defArgs s_is_short, defBody s_is_short, defScope s_is_short⟩
def d_are_short : HookG.GD := ⟨.glo "are_short", "are_short", "are_short", defArgs s_are_short, defBody s_are_short, defScope s_are_short⟩
def d_shared_of : HookG.GD := ⟨.glo "shared_of", "shared_of", "shared_of", defArgs s_shared_of, defBody s_shared_of, defScope s_shared_of⟩
def d_first_of : HookG.GD := ⟨.glo "first_of", "first_of", "first_of", defArgs s_first_of, defBody s_first_of, defScope s_first_of⟩
def d_primitive_of : HookG.GD := ⟨.glo "primitive_of", "primitive_of", "primitive_of", defArgs s_primitive_of, defBody s_primitive_of, defScope s_primitive_of⟩
def d_lots_of : HookG.GD := ⟨.glo "lots_of", "lots_of", "lots_of", defArgs s_lots_of, defBody s_lots_of, defScope s_lots_of⟩
def d_less_head : HookG.GD := ⟨.glo "less_head", "less_head", "less_head", defArgs s_less_head, defBody s_less_head, defScope s_less_head⟩
def d_echelon_rows : HookG.GD := ⟨.glo "echelon_rows", "echelon_rows", "echelon_rows", defArgs s_echelon_rows, defBody s_echelon_rows, defScope s_echelon_rows⟩
def d_rank_of : HookG.GD := ⟨.glo "rank_of", "rank_of", "rank_of", defArgs s_rank_of, defBody s_rank_of, defScope s_rank_of⟩
def d_joined_entries : HookG.GD := ⟨.glo "joined_entries", "joined_entries", "joined_entries", defArgs s_joined_entries, defBody s_joined_entries, defScope s_joined_entries⟩
def d_are_entries : HookG.GD := ⟨.glo "are_entries", "are_entries", "are_entries", defArgs s_are_entries, defBody s_are_entries, defScope s_are_entries⟩
def d_form_of : HookG.GD := ⟨.glo "form_of", "form_of", "form_of", defArgs s_form_of, defBody s_form_of, defScope s_form_of⟩
def d_laying_slope : HookG.GD := ⟨.glo "laying_slope", "laying_slope", "laying_slope", defArgs s_laying_slope, defBody s_laying_slope, defScope s_laying_slope⟩
def d_laying_slopes : HookG.GD := ⟨.glo "laying_slopes", "laying_slopes", "laying_slopes", defArgs s_laying_slopes, defBody s_laying_slopes, defScope s_laying_slopes⟩
def d_add_product : HookG.GD := ⟨.glo "add_product", "add_product", "add_product", defArgs s_add_product, defBody s_add_product, defScope s_add_product⟩
def d_laid_in : HookG.GD := ⟨.glo "laid_in", "laid_in", "laid_in", defArgs s_laid_in, defBody s_laid_in, defScope s_laid_in⟩
def d_is_pencil : HookG.GD := ⟨.glo "is_pencil", "is_pencil", "is_pencil", defArgs s_is_pencil, defBody s_is_pencil, defScope s_is_pencil⟩
def d_basis_in : HookG.GD := ⟨.glo "basis_in", "basis_in", "basis_in", defArgs s_basis_in, defBody s_basis_in, defScope s_basis_in⟩
def d_basis_of_rows : HookG.GD := ⟨.glo "basis_of_rows", "basis_of_rows", "basis_of_rows", defArgs s_basis_of_rows, defBody s_basis_of_rows, defScope s_basis_of_rows⟩
def d_odd_layings : HookG.GD := ⟨.glo "odd_layings", "odd_layings", "odd_layings", defArgs s_odd_layings, defBody s_odd_layings, defScope s_odd_layings⟩
def d_require_forms : HookG.GD := ⟨.glo "require_forms", "require_forms", "require_forms", defArgs s_require_forms, defBody s_require_forms, defScope s_require_forms⟩
def d_require_span : HookG.GD := ⟨.glo "require_span", "require_span", "require_span", defArgs s_require_span, defBody s_require_span, defScope s_require_span⟩
def d_require_pencil : HookG.GD := ⟨.glo "require_pencil", "require_pencil", "require_pencil", defArgs s_require_pencil, defBody s_require_pencil, defScope s_require_pencil⟩
def d_pencil_row : HookG.GD := ⟨.glo "pencil_row", "pencil_row", "pencil_row", defArgs s_pencil_row, defBody s_pencil_row, defScope s_pencil_row⟩
def d_are_multiples : HookG.GD := ⟨.glo "are_multiples", "are_multiples", "are_multiples", defArgs s_are_multiples, defBody s_are_multiples, defScope s_are_multiples⟩
def d_is_pencil_row : HookG.GD := ⟨.glo "is_pencil_row", "is_pencil_row", "is_pencil_row", defArgs s_is_pencil_row, defBody s_is_pencil_row, defScope s_is_pencil_row⟩
def d_pencil_basis : HookG.GD := ⟨.glo "pencil_basis", "pencil_basis", "pencil_basis", defArgs s_pencil_basis, defBody s_pencil_basis, defScope s_pencil_basis⟩
def d_are_one_pencil : HookG.GD := ⟨.glo "are_one_pencil", "are_one_pencil", "are_one_pencil", defArgs s_are_one_pencil, defBody s_are_one_pencil, defScope s_are_one_pencil⟩
def d_law_dice : HookG.GD := ⟨.glo "_law_dice", "_law_dice", "_law_dice", defArgs s_law_dice, defBody s_law_dice, defScope s_law_dice⟩
def d_law_roll : HookG.GD := ⟨.glo "_law_roll", "_law_roll", "_law_roll", defArgs s_law_roll, defBody s_law_roll, defScope s_law_roll⟩
def d_law_near : HookG.GD := ⟨.glo "_law_near", "_law_near", "_law_near", defArgs s_law_near, defBody s_law_near, defScope s_law_near⟩
def d_law_gcd : HookG.GD := ⟨.glo "_law_gcd", "_law_gcd", "_law_gcd", defArgs s_law_gcd, defBody s_law_gcd, defScope s_law_gcd⟩
def d_law_shared : HookG.GD := ⟨.glo "_law_shared", "_law_shared", "_law_shared", defArgs s_law_shared, defBody s_law_shared, defScope s_law_shared⟩
def d_law_raised : HookG.GD := ⟨.glo "_law_raised", "_law_raised", "_law_raised", defArgs s_law_raised, defBody s_law_raised, defScope s_law_raised⟩
def d_law_choose : HookG.GD := ⟨.glo "_law_choose", "_law_choose", "_law_choose", defArgs s_law_choose, defBody s_law_choose, defScope s_law_choose⟩
def d_law_plus : HookG.GD := ⟨.glo "_law_plus", "_law_plus", "_law_plus", defArgs s_law_plus, defBody s_law_plus, defScope s_law_plus⟩
def d_law_scaled : HookG.GD := ⟨.glo "_law_scaled", "_law_scaled", "_law_scaled", defArgs s_law_scaled, defBody s_law_scaled, defScope s_law_scaled⟩
def d_law_product : HookG.GD := ⟨.glo "_law_product", "_law_product", "_law_product", defArgs s_law_product, defBody s_law_product, defScope s_law_product⟩
def d_law_all_product : HookG.GD := ⟨.glo "_law_all_product", "_law_all_product", "_law_all_product", defArgs s_law_all_product, defBody s_law_all_product, defScope s_law_all_product⟩
def d_law_power : HookG.GD := ⟨.glo "_law_power", "_law_power", "_law_power", defArgs s_law_power, defBody s_law_power, defScope s_law_power⟩
def d_law_by_x : HookG.GD := ⟨.glo "_law_by_x", "_law_by_x", "_law_by_x", defArgs s_law_by_x, defBody s_law_by_x, defScope s_law_by_x⟩
def d_law_by_y : HookG.GD := ⟨.glo "_law_by_y", "_law_by_y", "_law_by_y", defArgs s_law_by_y, defBody s_law_by_y, defScope s_law_by_y⟩
def d_law_derived : HookG.GD := ⟨.glo "_law_derived", "_law_derived", "_law_derived", defArgs s_law_derived, defBody s_law_derived, defScope s_law_derived⟩
def d_law_laid : HookG.GD := ⟨.glo "_law_laid", "_law_laid", "_law_laid", defArgs s_law_laid, defBody s_law_laid, defScope s_law_laid⟩
def d_law_changed : HookG.GD := ⟨.glo "_law_changed", "_law_changed", "_law_changed", defArgs s_law_changed, defBody s_law_changed, defScope s_law_changed⟩
def d_law_plain : HookG.GD := ⟨.glo "_law_plain", "_law_plain", "_law_plain", defArgs s_law_plain, defBody s_law_plain, defScope s_law_plain⟩
def d_law_line : HookG.GD := ⟨.glo "_law_line", "_law_line", "_law_line", defArgs s_law_line, defBody s_law_line, defScope s_law_line⟩
def d_law_point : HookG.GD := ⟨.glo "_law_point", "_law_point", "_law_point", defArgs s_law_point, defBody s_law_point, defScope s_law_point⟩
def d_law_small_form : HookG.GD := ⟨.glo "_law_small_form", "_law_small_form", "_law_small_form", defArgs s_law_small_form, defBody s_law_small_form, defScope s_law_small_form⟩
def d_law_form : HookG.GD := ⟨.glo "_law_form", "_law_form", "_law_form", defArgs s_law_form, defBody s_law_form, defScope s_law_form⟩
def d_law_live_form : HookG.GD := ⟨.glo "_law_live_form", "_law_live_form", "_law_live_form", defArgs s_law_live_form, defBody s_law_live_form, defScope s_law_live_form⟩
def d_law_table : HookG.GD := ⟨.glo "_law_table", "_law_table", "_law_table", defArgs s_law_table, defBody s_law_table, defScope s_law_table⟩
def d_law_det : HookG.GD := ⟨.glo "_law_det", "_law_det", "_law_det", defArgs s_law_det, defBody s_law_det, defScope s_law_det⟩
def d_law_cleared : HookG.GD := ⟨.glo "_law_cleared", "_law_cleared", "_law_cleared", defArgs s_law_cleared, defBody s_law_cleared, defScope s_law_cleared⟩
def d_law_less : HookG.GD := ⟨.glo "_law_less", "_law_less", "_law_less", defArgs s_law_less, defBody s_law_less, defScope s_law_less⟩
def d_law_rank : HookG.GD := ⟨.glo "_law_rank", "_law_rank", "_law_rank", defArgs s_law_rank, defBody s_law_rank, defScope s_law_rank⟩
def d_law_two_forms : HookG.GD := ⟨.glo "_law_two_forms", "_law_two_forms", "_law_two_forms", defArgs s_law_two_forms, defBody s_law_two_forms, defScope s_law_two_forms⟩
def d_law_odd_row : HookG.GD := ⟨.glo "_law_odd_row", "_law_odd_row", "_law_odd_row", defArgs s_law_odd_row, defBody s_law_odd_row, defScope s_law_odd_row⟩
def d_law_mixed_pair : HookG.GD := ⟨.glo "_law_mixed_pair", "_law_mixed_pair", "_law_mixed_pair", defArgs s_law_mixed_pair, defBody s_law_mixed_pair, defScope s_law_mixed_pair⟩
def d_law_shown : HookG.GD := ⟨.glo "_law_shown", "_law_shown", "_law_shown", defArgs s_law_shown, defBody s_law_shown, defScope s_law_shown⟩
def d_law_pair_right : HookG.GD := ⟨.glo "_law_pair_right", "_law_pair_right", "_law_pair_right", defArgs s_law_pair_right, defBody s_law_pair_right, defScope s_law_pair_right⟩
def d_law_two_right : HookG.GD := ⟨.glo "_law_two_right", "_law_two_right", "_law_two_right", defArgs s_law_two_right, defBody s_law_two_right, defScope s_law_two_right⟩
def d_law : HookG.GD := ⟨.glo "law", "law", "law", defArgs s_law, defBody s_law, defScope s_law⟩
def d_Told_init : HookG.GD := ⟨.met "Told" "__init__", "__init__", "Told.__init__", defArgs s_Told_init, defBody s_Told_init, defScope s_Told_init⟩
def d_Form_init : HookG.GD := ⟨.met "Form" "__init__", "__init__", "Form.__init__", defArgs s_Form_init, defBody s_Form_init, defScope s_Form_init⟩
def d_Form_entries : HookG.GD := ⟨.prp "Form" "entries", "entries", "Form.entries", defArgs s_Form_entries, defBody s_Form_entries, defScope s_Form_entries⟩
def d_Form_degree : HookG.GD := ⟨.prp "Form" "degree", "degree", "Form.degree", defArgs s_Form_degree, defBody s_Form_degree, defScope s_Form_degree⟩
def d_Form_eq : HookG.GD := ⟨.met "Form" "__eq__", "__eq__", "Form.__eq__", defArgs s_Form_eq, defBody s_Form_eq, defScope s_Form_eq⟩
def d_Form_len : HookG.GD := ⟨.met "Form" "__len__", "__len__", "Form.__len__", defArgs s_Form_len, defBody s_Form_len, defScope s_Form_len⟩
def d_Form_iter : HookG.GD := ⟨.met "Form" "__iter__", "__iter__", "Form.__iter__", defArgs s_Form_iter, defBody s_Form_iter, defScope s_Form_iter⟩
def fnL : List HookG.GD := [d_is_whole, d_is_short, d_are_short, d_shared_of, d_first_of, d_primitive_of, d_lots_of, d_less_head, d_echelon_rows, d_rank_of, d_joined_entries, d_are_entries, d_form_of, d_laying_slope, d_laying_slopes, d_add_product, d_laid_in, d_is_pencil, d_basis_in, d_basis_of_rows, d_odd_layings, d_require_forms, d_require_span, d_require_pencil, d_pencil_row, d_are_multiples, d_is_pencil_row, d_pencil_basis, d_are_one_pencil, d_law_dice, d_law_roll, d_law_near, d_law_gcd, d_law_shared, d_law_raised, d_law_choose, d_law_plus, d_law_scaled, d_law_product, d_law_all_product, d_law_power, d_law_by_x, d_law_by_y, d_law_derived, d_law_laid, d_law_changed, d_law_plain, d_law_line, d_law_point, d_law_small_form, d_law_form, d_law_live_form, d_law_table, d_law_det, d_law_cleared, d_law_less, d_law_rank, d_law_two_forms, d_law_odd_row, d_law_mixed_pair, d_law_shown, d_law_pair_right, d_law_two_right, d_law, d_Told_init, d_Form_init, d_Form_entries, d_Form_degree, d_Form_eq, d_Form_len, d_Form_iter]
def faL : List He.Fa := [.glo "is_whole", .glo "is_short", .glo "are_short", .glo "shared_of", .glo "first_of", .glo "primitive_of", .glo "lots_of", .glo "less_head", .glo "echelon_rows", .glo "rank_of", .glo "joined_entries", .glo "are_entries", .glo "form_of", .glo "laying_slope", .glo "laying_slopes", .glo "add_product", .glo "laid_in", .glo "is_pencil", .glo "basis_in", .glo "basis_of_rows", .glo "odd_layings", .glo "require_forms", .glo "require_span", .glo "require_pencil", .glo "pencil_row", .glo "are_multiples", .glo "is_pencil_row", .glo "pencil_basis", .glo "are_one_pencil", .glo "_law_dice", .glo "_law_roll", .glo "_law_near", .glo "_law_gcd", .glo "_law_shared", .glo "_law_raised", .glo "_law_choose", .glo "_law_plus", .glo "_law_scaled", .glo "_law_product", .glo "_law_all_product", .glo "_law_power", .glo "_law_by_x", .glo "_law_by_y", .glo "_law_derived", .glo "_law_laid", .glo "_law_changed", .glo "_law_plain", .glo "_law_line", .glo "_law_point", .glo "_law_small_form", .glo "_law_form", .glo "_law_live_form", .glo "_law_table", .glo "_law_det", .glo "_law_cleared", .glo "_law_less", .glo "_law_rank", .glo "_law_two_forms", .glo "_law_odd_row", .glo "_law_mixed_pair", .glo "_law_shown", .glo "_law_pair_right", .glo "_law_two_right", .glo "law", .glo "Told", .glo "Form", .free "abs", .free "all", .free "bool", .free "enumerate", .free "int", .free "isinstance", .free "iter", .free "len", .free "list", .free "max", .free "min", .free "next", .free "range", .free "tuple", .free "zip", .int "GREATEST" 1000000000000000000000000000000000000000000000000000000000000, .int "MAX_DEGREE" 40, .int "MOST_PENCIL" 21, .mkr "Told", .mkr "Form"]
def tfL : List HookG.At := [(HookG.At.glo "first_of")]
def exL (K : PySem.W.Frag) : Bool := He.eqO (PySem.W.nsIn K mainGlobals "gcd") (some (some (.builtin "math.gcd"))) && (OwnF.ocB K "Told" && (HookG.slotB K "Told" "own_row" 0 && (OwnF.ocB K "Form" && (HookG.slotB K "Form" "own_entries" 0 && (HookG.mtB K "Told" "__init__" && (HookG.mtB K "Form" "__init__" && (HookG.prB K "Form" "entries" && (HookG.prB K "Form" "degree" && (HookG.mtB K "Form" "__eq__" && (HookG.mtB K "Form" "__len__" && (HookG.mtB K "Form" "__iter__" && (HookG.dO (PySem.W.kitOne K (.ref (He.ga K "Told")) (.ref (He.ga K "Form"))) (some false) && (HookG.dO (PySem.W.kitOne K (.ref (He.ga K "Form")) (.ref (He.ga K "Told"))) (some false))))))))))))))
theorem facts_of {K : PySem.W.Frag} {h : Heap} {mg : Str → Option Value} (X : K.In h) (G : h.Ns mainGlobals mg) (c : HookG.SaysG faL fnL exL K) : Nonempty (Facts K mg) := by
  have ex := c.more
  unfold exL at ex
  obtain ⟨ex_0, ex⟩ := He.ba ex
  obtain ⟨ex_1, ex⟩ := He.ba ex
  obtain ⟨ex_2, ex⟩ := He.ba ex
  obtain ⟨ex_3, ex⟩ := He.ba ex
  obtain ⟨ex_4, ex⟩ := He.ba ex
  obtain ⟨ex_5, ex⟩ := He.ba ex
  obtain ⟨ex_6, ex⟩ := He.ba ex
  obtain ⟨ex_7, ex⟩ := He.ba ex
  obtain ⟨ex_8, ex⟩ := He.ba ex
  obtain ⟨ex_9, ex⟩ := He.ba ex
  obtain ⟨ex_10, ex⟩ := He.ba ex
  obtain ⟨ex_11, ex⟩ := He.ba ex
  obtain ⟨ex_12, ex⟩ := He.ba ex
  obtain ⟨fd_is_whole, F_is_whole⟩ := c.def_ 0 (d := d_is_whole) rfl
  obtain ⟨fd_is_short, F_is_short⟩ := c.def_ 1 (d := d_is_short) rfl
  obtain ⟨fd_are_short, F_are_short⟩ := c.def_ 2 (d := d_are_short) rfl
  obtain ⟨fd_shared_of, F_shared_of⟩ := c.def_ 3 (d := d_shared_of) rfl
  obtain ⟨fd_first_of, F_first_of⟩ := c.def_ 4 (d := d_first_of) rfl
  obtain ⟨fd_primitive_of, F_primitive_of⟩ := c.def_ 5 (d := d_primitive_of) rfl
  obtain ⟨fd_lots_of, F_lots_of⟩ := c.def_ 6 (d := d_lots_of) rfl
  obtain ⟨fd_less_head, F_less_head⟩ := c.def_ 7 (d := d_less_head) rfl
  obtain ⟨fd_echelon_rows, F_echelon_rows⟩ := c.def_ 8 (d := d_echelon_rows) rfl
  obtain ⟨fd_rank_of, F_rank_of⟩ := c.def_ 9 (d := d_rank_of) rfl
  obtain ⟨fd_joined_entries, F_joined_entries⟩ := c.def_ 10 (d := d_joined_entries) rfl
  obtain ⟨fd_are_entries, F_are_entries⟩ := c.def_ 11 (d := d_are_entries) rfl
  obtain ⟨fd_form_of, F_form_of⟩ := c.def_ 12 (d := d_form_of) rfl
  obtain ⟨fd_laying_slope, F_laying_slope⟩ := c.def_ 13 (d := d_laying_slope) rfl
  obtain ⟨fd_laying_slopes, F_laying_slopes⟩ := c.def_ 14 (d := d_laying_slopes) rfl
  obtain ⟨fd_add_product, F_add_product⟩ := c.def_ 15 (d := d_add_product) rfl
  obtain ⟨fd_laid_in, F_laid_in⟩ := c.def_ 16 (d := d_laid_in) rfl
  obtain ⟨fd_is_pencil, F_is_pencil⟩ := c.def_ 17 (d := d_is_pencil) rfl
  obtain ⟨fd_basis_in, F_basis_in⟩ := c.def_ 18 (d := d_basis_in) rfl
  obtain ⟨fd_basis_of_rows, F_basis_of_rows⟩ := c.def_ 19 (d := d_basis_of_rows) rfl
  obtain ⟨fd_odd_layings, F_odd_layings⟩ := c.def_ 20 (d := d_odd_layings) rfl
  obtain ⟨fd_require_forms, F_require_forms⟩ := c.def_ 21 (d := d_require_forms) rfl
  obtain ⟨fd_require_span, F_require_span⟩ := c.def_ 22 (d := d_require_span) rfl
  obtain ⟨fd_require_pencil, F_require_pencil⟩ := c.def_ 23 (d := d_require_pencil) rfl
  obtain ⟨fd_pencil_row, F_pencil_row⟩ := c.def_ 24 (d := d_pencil_row) rfl
  obtain ⟨fd_are_multiples, F_are_multiples⟩ := c.def_ 25 (d := d_are_multiples) rfl
  obtain ⟨fd_is_pencil_row, F_is_pencil_row⟩ := c.def_ 26 (d := d_is_pencil_row) rfl
  obtain ⟨fd_pencil_basis, F_pencil_basis⟩ := c.def_ 27 (d := d_pencil_basis) rfl
  obtain ⟨fd_are_one_pencil, F_are_one_pencil⟩ := c.def_ 28 (d := d_are_one_pencil) rfl
  obtain ⟨fd_law_dice, F_law_dice⟩ := c.def_ 29 (d := d_law_dice) rfl
  obtain ⟨fd_law_roll, F_law_roll⟩ := c.def_ 30 (d := d_law_roll) rfl
  obtain ⟨fd_law_near, F_law_near⟩ := c.def_ 31 (d := d_law_near) rfl
  obtain ⟨fd_law_gcd, F_law_gcd⟩ := c.def_ 32 (d := d_law_gcd) rfl
  obtain ⟨fd_law_shared, F_law_shared⟩ := c.def_ 33 (d := d_law_shared) rfl
  obtain ⟨fd_law_raised, F_law_raised⟩ := c.def_ 34 (d := d_law_raised) rfl
  obtain ⟨fd_law_choose, F_law_choose⟩ := c.def_ 35 (d := d_law_choose) rfl
  obtain ⟨fd_law_plus, F_law_plus⟩ := c.def_ 36 (d := d_law_plus) rfl
  obtain ⟨fd_law_scaled, F_law_scaled⟩ := c.def_ 37 (d := d_law_scaled) rfl
  obtain ⟨fd_law_product, F_law_product⟩ := c.def_ 38 (d := d_law_product) rfl
  obtain ⟨fd_law_all_product, F_law_all_product⟩ := c.def_ 39 (d := d_law_all_product) rfl
  obtain ⟨fd_law_power, F_law_power⟩ := c.def_ 40 (d := d_law_power) rfl
  obtain ⟨fd_law_by_x, F_law_by_x⟩ := c.def_ 41 (d := d_law_by_x) rfl
  obtain ⟨fd_law_by_y, F_law_by_y⟩ := c.def_ 42 (d := d_law_by_y) rfl
  obtain ⟨fd_law_derived, F_law_derived⟩ := c.def_ 43 (d := d_law_derived) rfl
  obtain ⟨fd_law_laid, F_law_laid⟩ := c.def_ 44 (d := d_law_laid) rfl
  obtain ⟨fd_law_changed, F_law_changed⟩ := c.def_ 45 (d := d_law_changed) rfl
  obtain ⟨fd_law_plain, F_law_plain⟩ := c.def_ 46 (d := d_law_plain) rfl
  obtain ⟨fd_law_line, F_law_line⟩ := c.def_ 47 (d := d_law_line) rfl
  obtain ⟨fd_law_point, F_law_point⟩ := c.def_ 48 (d := d_law_point) rfl
  obtain ⟨fd_law_small_form, F_law_small_form⟩ := c.def_ 49 (d := d_law_small_form) rfl
  obtain ⟨fd_law_form, F_law_form⟩ := c.def_ 50 (d := d_law_form) rfl
  obtain ⟨fd_law_live_form, F_law_live_form⟩ := c.def_ 51 (d := d_law_live_form) rfl
  obtain ⟨fd_law_table, F_law_table⟩ := c.def_ 52 (d := d_law_table) rfl
  obtain ⟨fd_law_det, F_law_det⟩ := c.def_ 53 (d := d_law_det) rfl
  obtain ⟨fd_law_cleared, F_law_cleared⟩ := c.def_ 54 (d := d_law_cleared) rfl
  obtain ⟨fd_law_less, F_law_less⟩ := c.def_ 55 (d := d_law_less) rfl
  obtain ⟨fd_law_rank, F_law_rank⟩ := c.def_ 56 (d := d_law_rank) rfl
  obtain ⟨fd_law_two_forms, F_law_two_forms⟩ := c.def_ 57 (d := d_law_two_forms) rfl
  obtain ⟨fd_law_odd_row, F_law_odd_row⟩ := c.def_ 58 (d := d_law_odd_row) rfl
  obtain ⟨fd_law_mixed_pair, F_law_mixed_pair⟩ := c.def_ 59 (d := d_law_mixed_pair) rfl
  obtain ⟨fd_law_shown, F_law_shown⟩ := c.def_ 60 (d := d_law_shown) rfl
  obtain ⟨fd_law_pair_right, F_law_pair_right⟩ := c.def_ 61 (d := d_law_pair_right) rfl
  obtain ⟨fd_law_two_right, F_law_two_right⟩ := c.def_ 62 (d := d_law_two_right) rfl
  obtain ⟨fd_law, F_law⟩ := c.def_ 63 (d := d_law) rfl
  obtain ⟨fd_Told_init, F_Told_init⟩ := c.def_ 64 (d := d_Told_init) rfl
  obtain ⟨fd_Form_init, F_Form_init⟩ := c.def_ 65 (d := d_Form_init) rfl
  obtain ⟨fd_Form_entries, F_Form_entries⟩ := c.def_ 66 (d := d_Form_entries) rfl
  obtain ⟨fd_Form_degree, F_Form_degree⟩ := c.def_ 67 (d := d_Form_degree) rfl
  obtain ⟨fd_Form_eq, F_Form_eq⟩ := c.def_ 68 (d := d_Form_eq) rfl
  obtain ⟨fd_Form_len, F_Form_len⟩ := c.def_ 69 (d := d_Form_len) rfl
  obtain ⟨fd_Form_iter, F_Form_iter⟩ := c.def_ 70 (d := d_Form_iter) rfl
  exact ⟨{ f_is_whole := _, fd_is_whole := _, F_is_whole := F_is_whole, b_is_whole := (F_is_whole.bindsN fun _ _ _ _ _ _ us hl => match us, hl with | [_], _ => rfl), g_is_whole := He.glo_ok X G (c.fact 0 (f := .glo "is_whole") rfl), f_is_short := _, fd_is_short := _, F_is_short := F_is_short, b_is_short := (F_is_short.bindsN fun _ _ _ _ _ _ us hl => match us, hl with | [_], _ => rfl), g_is_short := He.glo_ok X G (c.fact 1 (f := .glo "is_short") rfl), f_are_short := _, fd_are_short := _, F_are_short := F_are_short, b_are_short := (F_are_short.bindsN fun _ _ _ _ _ _ us hl => match us, hl with | [_], _ => rfl), g_are_short := He.glo_ok X G (c.fact 2 (f := .glo "are_short") rfl), f_shared_of := _, fd_shared_of := _, F_shared_of := F_shared_of, b_shared_of := (F_shared_of.bindsN fun _ _ _ _ _ _ us hl => match us, hl with | [_], _ => rfl), g_shared_of := He.glo_ok X G (c.fact 3 (f := .glo "shared_of") rfl), f_first_of := _, fd_first_of := _, F_first_of := F_first_of, b_first_of := (F_first_of.bindsN fun _ _ _ _ _ _ us hl => match us, hl with | [_], _ => rfl), g_first_of := He.glo_ok X G (c.fact 4 (f := .glo "first_of") rfl), f_primitive_of := _, fd_primitive_of := _, F_primitive_of := F_primitive_of, b_primitive_of := (F_primitive_of.bindsN fun _ _ _ _ _ _ us hl => match us, hl with | [_], _ => rfl), g_primitive_of := He.glo_ok X G (c.fact 5 (f := .glo "primitive_of") rfl), f_lots_of := _, fd_lots_of := _, F_lots_of := F_lots_of, b_lots_of := (F_lots_of.bindsN fun _ _ _ _ _ _ us hl => match us, hl with | [_, _], _ => rfl), g_lots_of := He.glo_ok X G (c.fact 6 (f := .glo "lots_of") rfl), f_less_head := _, fd_less_head := _, F_less_head := F_less_head, b_less_head := (F_less_head.bindsN fun _ _ _ _ _ _ us hl => match us, hl with | [_, _, _], _ => rfl), g_less_head := He.glo_ok X G (c.fact 7 (f := .glo "less_head") rfl), f_echelon_rows := _, fd_echelon_rows := _, F_echelon_rows := F_echelon_rows, b_echelon_rows := (F_echelon_rows.bindsN fun _ _ _ _ _ _ us hl => match us, hl with | [_, _], _ => rfl), g_echelon_rows := He.glo_ok X G (c.fact 8 (f := .glo "echelon_rows") rfl), f_rank_of := _, fd_rank_of := _, F_rank_of := F_rank_of, b_rank_of := (F_rank_of.bindsN fun _ _ _ _ _ _ us hl => match us, hl with | [_, _], _ => rfl), g_rank_of := He.glo_ok X G (c.fact 9 (f := .glo "rank_of") rfl), f_joined_entries := _, fd_joined_entries := _, F_joined_entries := F_joined_entries, b_joined_entries := (F_joined_entries.bindsN fun _ _ _ _ _ _ us hl => match us, hl with | [_, _], _ => rfl), g_joined_entries := He.glo_ok X G (c.fact 10 (f := .glo "joined_entries") rfl), f_are_entries := _, fd_are_entries := _, F_are_entries := F_are_entries, b_are_entries := (F_are_entries.bindsN fun _ _ _ _ _ _ us hl => match us, hl with | [_], _ => rfl), g_are_entries := He.glo_ok X G (c.fact 11 (f := .glo "are_entries") rfl), f_form_of := _, fd_form_of := _, F_form_of := F_form_of, b_form_of := (F_form_of.bindsN fun _ _ _ _ _ _ us hl => match us, hl with | [_], _ => rfl), g_form_of := He.glo_ok X G (c.fact 12 (f := .glo "form_of") rfl), f_laying_slope := _, fd_laying_slope := _, F_laying_slope := F_laying_slope, b_laying_slope := (F_laying_slope.bindsN fun _ _ _ _ _ _ us hl => match us, hl with | [_, _], _ => rfl), g_laying_slope := He.glo_ok X G (c.fact 13 (f := .glo "laying_slope") rfl), f_laying_slopes := _, fd_laying_slopes := _, F_laying_slopes := F_laying_slopes, b_laying_slopes := (F_laying_slopes.bindsN fun _ _ _ _ _ _ us hl => match us, hl with | [_, _], _ => rfl), g_laying_slopes := He.glo_ok X G (c.fact 14 (f := .glo "laying_slopes") rfl), f_add_product := _, fd_add_product := _, F_add_product := F_add_product, b_add_product := (F_add_product.bindsN fun _ _ _ _ _ _ us hl => match us, hl with | [_, _, _, _], _ => rfl), g_add_product := He.glo_ok X G (c.fact 15 (f := .glo "add_product") rfl), f_laid_in := _, fd_laid_in := _, F_laid_in := F_laid_in, b_laid_in := (F_laid_in.bindsN fun _ _ _ _ _ _ us hl => match us, hl with | [_, _, _], _ => rfl), g_laid_in := He.glo_ok X G (c.fact 16 (f := .glo "laid_in") rfl), f_is_pencil := _, fd_is_pencil := _, F_is_pencil := F_is_pencil, b_is_pencil := (F_is_pencil.bindsN fun _ _ _ _ _ _ us hl => match us, hl with | [_, _], _ => rfl), g_is_pencil := He.glo_ok X G (c.fact 17 (f := .glo "is_pencil") rfl), f_basis_in := _, fd_basis_in := _, F_basis_in := F_basis_in, b_basis_in := (F_basis_in.bindsN fun _ _ _ _ _ _ us hl => match us, hl with | [_, _], _ => rfl), g_basis_in := He.glo_ok X G (c.fact 18 (f := .glo "basis_in") rfl), f_basis_of_rows := _, fd_basis_of_rows := _, F_basis_of_rows := F_basis_of_rows, b_basis_of_rows := (F_basis_of_rows.bindsN fun _ _ _ _ _ _ us hl => match us, hl with | [_, _], _ => rfl), g_basis_of_rows := He.glo_ok X G (c.fact 19 (f := .glo "basis_of_rows") rfl), f_odd_layings := _, fd_odd_layings := _, F_odd_layings := F_odd_layings, b_odd_layings := (F_odd_layings.bindsN fun _ _ _ _ _ _ us hl => match us, hl with | [_, _], _ => rfl), g_odd_layings := He.glo_ok X G (c.fact 20 (f := .glo "odd_layings") rfl), f_require_forms := _, fd_require_forms := _, F_require_forms := F_require_forms, g_require_forms := He.glo_ok X G (c.fact 21 (f := .glo "require_forms") rfl), f_require_span := _, fd_require_span := _, F_require_span := F_require_span, b_require_span := (F_require_span.bindsN fun _ _ _ _ _ _ us hl => match us, hl with | [_, _], _ => rfl), g_require_span := He.glo_ok X G (c.fact 22 (f := .glo "require_span") rfl), f_require_pencil := _, fd_require_pencil := _, F_require_pencil := F_require_pencil, b_require_pencil := (F_require_pencil.bindsN fun _ _ _ _ _ _ us hl => match us, hl with | [_, _], _ => rfl), g_require_pencil := He.glo_ok X G (c.fact 23 (f := .glo "require_pencil") rfl), f_pencil_row := _, fd_pencil_row := _, F_pencil_row := F_pencil_row, b_pencil_row := (F_pencil_row.bindsN fun _ _ _ _ _ _ us hl => match us, hl with | [_, _], _ => rfl), g_pencil_row := He.glo_ok X G (c.fact 24 (f := .glo "pencil_row") rfl), f_are_multiples := _, fd_are_multiples := _, F_are_multiples := F_are_multiples, b_are_multiples := (F_are_multiples.bindsN fun _ _ _ _ _ _ us hl => match us, hl with | [_, _], _ => rfl), g_are_multiples := He.glo_ok X G (c.fact 25 (f := .glo "are_multiples") rfl), f_is_pencil_row := _, fd_is_pencil_row := _, F_is_pencil_row := F_is_pencil_row, b_is_pencil_row := (F_is_pencil_row.bindsN fun _ _ _ _ _ _ us hl => match us, hl with | [_, _, _], _ => rfl), g_is_pencil_row := He.glo_ok X G (c.fact 26 (f := .glo "is_pencil_row") rfl), f_pencil_basis := _, fd_pencil_basis := _, F_pencil_basis := F_pencil_basis, b_pencil_basis := (F_pencil_basis.bindsN fun _ _ _ _ _ _ us hl => match us, hl with | [_, _], _ => rfl), g_pencil_basis := He.glo_ok X G (c.fact 27 (f := .glo "pencil_basis") rfl), f_are_one_pencil := _, fd_are_one_pencil := _, F_are_one_pencil := F_are_one_pencil, b_are_one_pencil := (F_are_one_pencil.bindsN fun _ _ _ _ _ _ us hl => match us, hl with | [_, _, _, _], _ => rfl), g_are_one_pencil := He.glo_ok X G (c.fact 28 (f := .glo "are_one_pencil") rfl), f_law_dice := _, fd_law_dice := _, F_law_dice := F_law_dice, b_law_dice := (F_law_dice.bindsN fun _ _ _ _ _ _ us hl => match us, hl with | [_, _], _ => rfl), g_law_dice := He.glo_ok X G (c.fact 29 (f := .glo "_law_dice") rfl), f_law_roll := _, fd_law_roll := _, F_law_roll := F_law_roll, b_law_roll := (F_law_roll.bindsN fun _ _ _ _ _ _ us hl => match us, hl with | [_, _], _ => rfl), g_law_roll := He.glo_ok X G (c.fact 30 (f := .glo "_law_roll") rfl), f_law_near := _, fd_law_near := _, F_law_near := F_law_near, b_law_near := (F_law_near.bindsN fun _ _ _ _ _ _ us hl => match us, hl with | [_, _], _ => rfl), g_law_near := He.glo_ok X G (c.fact 31 (f := .glo "_law_near") rfl), f_law_gcd := _, fd_law_gcd := _, F_law_gcd := F_law_gcd, b_law_gcd := (F_law_gcd.bindsN fun _ _ _ _ _ _ us hl => match us, hl with | [_, _], _ => rfl), g_law_gcd := He.glo_ok X G (c.fact 32 (f := .glo "_law_gcd") rfl), f_law_shared := _, fd_law_shared := _, F_law_shared := F_law_shared, b_law_shared := (F_law_shared.bindsN fun _ _ _ _ _ _ us hl => match us, hl with | [_], _ => rfl), g_law_shared := He.glo_ok X G (c.fact 33 (f := .glo "_law_shared") rfl), f_law_raised := _, fd_law_raised := _, F_law_raised := F_law_raised, b_law_raised := (F_law_raised.bindsN fun _ _ _ _ _ _ us hl => match us, hl with | [_, _], _ => rfl), g_law_raised := He.glo_ok X G (c.fact 34 (f := .glo "_law_raised") rfl), f_law_choose := _, fd_law_choose := _, F_law_choose := F_law_choose, b_law_choose := (F_law_choose.bindsN fun _ _ _ _ _ _ us hl => match us, hl with | [_, _], _ => rfl), g_law_choose := He.glo_ok X G (c.fact 35 (f := .glo "_law_choose") rfl), f_law_plus := _, fd_law_plus := _, F_law_plus := F_law_plus, b_law_plus := (F_law_plus.bindsN fun _ _ _ _ _ _ us hl => match us, hl with | [_, _], _ => rfl), g_law_plus := He.glo_ok X G (c.fact 36 (f := .glo "_law_plus") rfl), f_law_scaled := _, fd_law_scaled := _, F_law_scaled := F_law_scaled, b_law_scaled := (F_law_scaled.bindsN fun _ _ _ _ _ _ us hl => match us, hl with | [_, _], _ => rfl), g_law_scaled := He.glo_ok X G (c.fact 37 (f := .glo "_law_scaled") rfl), f_law_product := _, fd_law_product := _, F_law_product := F_law_product, b_law_product := (F_law_product.bindsN fun _ _ _ _ _ _ us hl => match us, hl with | [_, _], _ => rfl), g_law_product := He.glo_ok X G (c.fact 38 (f := .glo "_law_product") rfl), f_law_all_product := _, fd_law_all_product := _, F_law_all_product := F_law_all_product, b_law_all_product := (F_law_all_product.bindsN fun _ _ _ _ _ _ us hl => match us, hl with | [_], _ => rfl), g_law_all_product := He.glo_ok X G (c.fact 39 (f := .glo "_law_all_product") rfl), f_law_power := _, fd_law_power := _, F_law_power := F_law_power, b_law_power := (F_law_power.bindsN fun _ _ _ _ _ _ us hl => match us, hl with | [_, _], _ => rfl), g_law_power := He.glo_ok X G (c.fact 40 (f := .glo "_law_power") rfl), f_law_by_x := _, fd_law_by_x := _, F_law_by_x := F_law_by_x, b_law_by_x := (F_law_by_x.bindsN fun _ _ _ _ _ _ us hl => match us, hl with | [_], _ => rfl), g_law_by_x := He.glo_ok X G (c.fact 41 (f := .glo "_law_by_x") rfl), f_law_by_y := _, fd_law_by_y := _, F_law_by_y := F_law_by_y, b_law_by_y := (F_law_by_y.bindsN fun _ _ _ _ _ _ us hl => match us, hl with | [_], _ => rfl), g_law_by_y := He.glo_ok X G (c.fact 42 (f := .glo "_law_by_y") rfl), f_law_derived := _, fd_law_derived := _, F_law_derived := F_law_derived, b_law_derived := (F_law_derived.bindsN fun _ _ _ _ _ _ us hl => match us, hl with | [_, _, _], _ => rfl), g_law_derived := He.glo_ok X G (c.fact 43 (f := .glo "_law_derived") rfl), f_law_laid := _, fd_law_laid := _, F_law_laid := F_law_laid, b_law_laid := (F_law_laid.bindsN fun _ _ _ _ _ _ us hl => match us, hl with | [_, _, _], _ => rfl), g_law_laid := He.glo_ok X G (c.fact 44 (f := .glo "_law_laid") rfl), f_law_changed := _, fd_law_changed := _, F_law_changed := F_law_changed, b_law_changed := (F_law_changed.bindsN fun _ _ _ _ _ _ us hl => match us, hl with | [_, _], _ => rfl), g_law_changed := He.glo_ok X G (c.fact 45 (f := .glo "_law_changed") rfl), f_law_plain := _, fd_law_plain := _, F_law_plain := F_law_plain, b_law_plain := (F_law_plain.bindsN fun _ _ _ _ _ _ us hl => match us, hl with | [_], _ => rfl), g_law_plain := He.glo_ok X G (c.fact 46 (f := .glo "_law_plain") rfl), f_law_line := _, fd_law_line := _, F_law_line := F_law_line, b_law_line := (F_law_line.bindsN fun _ _ _ _ _ _ us hl => match us, hl with | [_], _ => rfl), g_law_line := He.glo_ok X G (c.fact 47 (f := .glo "_law_line") rfl), f_law_point := _, fd_law_point := _, F_law_point := F_law_point, b_law_point := (F_law_point.bindsN fun _ _ _ _ _ _ us hl => match us, hl with | [_, _], _ => rfl), g_law_point := He.glo_ok X G (c.fact 48 (f := .glo "_law_point") rfl), f_law_small_form := _, fd_law_small_form := _, F_law_small_form := F_law_small_form, b_law_small_form := (F_law_small_form.bindsN fun _ _ _ _ _ _ us hl => match us, hl with | [_, _, _], _ => rfl), g_law_small_form := He.glo_ok X G (c.fact 49 (f := .glo "_law_small_form") rfl), f_law_form := _, fd_law_form := _, F_law_form := F_law_form, b_law_form := (F_law_form.bindsN fun _ _ _ _ _ _ us hl => match us, hl with | [_, _], _ => rfl), g_law_form := He.glo_ok X G (c.fact 50 (f := .glo "_law_form") rfl), f_law_live_form := _, fd_law_live_form := _, F_law_live_form := F_law_live_form, b_law_live_form := (F_law_live_form.bindsN fun _ _ _ _ _ _ us hl => match us, hl with | [_, _], _ => rfl), g_law_live_form := He.glo_ok X G (c.fact 51 (f := .glo "_law_live_form") rfl), f_law_table := _, fd_law_table := _, F_law_table := F_law_table, b_law_table := (F_law_table.bindsN fun _ _ _ _ _ _ us hl => match us, hl with | [_, _], _ => rfl), g_law_table := He.glo_ok X G (c.fact 52 (f := .glo "_law_table") rfl), f_law_det := _, fd_law_det := _, F_law_det := F_law_det, b_law_det := (F_law_det.bindsN fun _ _ _ _ _ _ us hl => match us, hl with | [_], _ => rfl), g_law_det := He.glo_ok X G (c.fact 53 (f := .glo "_law_det") rfl), f_law_cleared := _, fd_law_cleared := _, F_law_cleared := F_law_cleared, b_law_cleared := (F_law_cleared.bindsN fun _ _ _ _ _ _ us hl => match us, hl with | [_, _], _ => rfl), g_law_cleared := He.glo_ok X G (c.fact 54 (f := .glo "_law_cleared") rfl), f_law_less := _, fd_law_less := _, F_law_less := F_law_less, b_law_less := (F_law_less.bindsN fun _ _ _ _ _ _ us hl => match us, hl with | [_, _, _], _ => rfl), g_law_less := He.glo_ok X G (c.fact 55 (f := .glo "_law_less") rfl), f_law_rank := _, fd_law_rank := _, F_law_rank := F_law_rank, b_law_rank := (F_law_rank.bindsN fun _ _ _ _ _ _ us hl => match us, hl with | [_, _], _ => rfl), g_law_rank := He.glo_ok X G (c.fact 56 (f := .glo "_law_rank") rfl), f_law_two_forms := _, fd_law_two_forms := _, F_law_two_forms := F_law_two_forms, b_law_two_forms := (F_law_two_forms.bindsN fun _ _ _ _ _ _ us hl => match us, hl with | [_, _], _ => rfl), g_law_two_forms := He.glo_ok X G (c.fact 57 (f := .glo "_law_two_forms") rfl), f_law_odd_row := _, fd_law_odd_row := _, F_law_odd_row := F_law_odd_row, b_law_odd_row := (F_law_odd_row.bindsN fun _ _ _ _ _ _ us hl => match us, hl with | [_, _], _ => rfl), g_law_odd_row := He.glo_ok X G (c.fact 58 (f := .glo "_law_odd_row") rfl), f_law_mixed_pair := _, fd_law_mixed_pair := _, F_law_mixed_pair := F_law_mixed_pair, b_law_mixed_pair := (F_law_mixed_pair.bindsN fun _ _ _ _ _ _ us hl => match us, hl with | [_, _, _], _ => rfl), g_law_mixed_pair := He.glo_ok X G (c.fact 59 (f := .glo "_law_mixed_pair") rfl), f_law_shown := _, fd_law_shown := _, F_law_shown := F_law_shown, b_law_shown := (F_law_shown.bindsN fun _ _ _ _ _ _ us hl => match us, hl with | [_], _ => rfl), g_law_shown := He.glo_ok X G (c.fact 60 (f := .glo "_law_shown") rfl), f_law_pair_right := _, fd_law_pair_right := _, F_law_pair_right := F_law_pair_right, b_law_pair_right := (F_law_pair_right.bindsN fun _ _ _ _ _ _ us hl => match us, hl with | [_, _, _], _ => rfl), g_law_pair_right := He.glo_ok X G (c.fact 61 (f := .glo "_law_pair_right") rfl), f_law_two_right := _, fd_law_two_right := _, F_law_two_right := F_law_two_right, b_law_two_right := (F_law_two_right.bindsN fun _ _ _ _ _ _ us hl => match us, hl with | [_, _, _], _ => rfl), g_law_two_right := He.glo_ok X G (c.fact 62 (f := .glo "_law_two_right") rfl), f_law := _, fd_law := _, F_law := F_law, b_law := (F_law.bindsN fun _ _ _ _ _ _ us hl => match us, hl with | [_], _ => rfl), g_law := He.glo_ok X G (c.fact 63 (f := .glo "law") rfl), f_Told_init := _, fd_Told_init := _, F_Told_init := F_Told_init, b_Told_init := (F_Told_init.bindsN fun _ _ _ _ _ _ us hl => match us, hl with | [_, _], _ => rfl), f_Form_init := _, fd_Form_init := _, F_Form_init := F_Form_init, b_Form_init := (F_Form_init.bindsN fun _ _ _ _ _ _ us hl => match us, hl with | [_, _], _ => rfl), f_Form_entries := _, fd_Form_entries := _, F_Form_entries := F_Form_entries, b_Form_entries := (F_Form_entries.bindsN fun _ _ _ _ _ _ us hl => match us, hl with | [_], _ => rfl), f_Form_degree := _, fd_Form_degree := _, F_Form_degree := F_Form_degree, b_Form_degree := (F_Form_degree.bindsN fun _ _ _ _ _ _ us hl => match us, hl with | [_], _ => rfl), f_Form_eq := _, fd_Form_eq := _, F_Form_eq := F_Form_eq, b_Form_eq := (F_Form_eq.bindsN fun _ _ _ _ _ _ us hl => match us, hl with | [_, _], _ => rfl), f_Form_len := _, fd_Form_len := _, F_Form_len := F_Form_len, b_Form_len := (F_Form_len.bindsN fun _ _ _ _ _ _ us hl => match us, hl with | [_], _ => rfl), f_Form_iter := _, fd_Form_iter := _, F_Form_iter := F_Form_iter, b_Form_iter := (F_Form_iter.bindsN fun _ _ _ _ _ _ us hl => match us, hl with | [_], _ => rfl), C_Told := He.ga K "Told", g_Told := He.glo_ok X G (c.fact 64 (f := .glo "Told") rfl), mk_Told := He.mkr_ok (c.fact 84 (f := .mkr "Told") rfl), C_Form := He.ga K "Form", g_Form := He.glo_ok X G (c.fact 65 (f := .glo "Form") rfl), mk_Form := He.mkr_ok (c.fact 85 (f := .mkr "Form") rfl), z_abs := He.free_ok X G (c.fact 66 (f := .free "abs") rfl), z_all := He.free_ok X G (c.fact 67 (f := .free "all") rfl), z_bool := He.free_ok X G (c.fact 68 (f := .free "bool") rfl), z_enumerate := He.free_ok X G (c.fact 69 (f := .free "enumerate") rfl), z_int := He.free_ok X G (c.fact 70 (f := .free "int") rfl), z_isinstance := He.free_ok X G (c.fact 71 (f := .free "isinstance") rfl), z_iter := He.free_ok X G (c.fact 72 (f := .free "iter") rfl), z_len := He.free_ok X G (c.fact 73 (f := .free "len") rfl), z_list := He.free_ok X G (c.fact 74 (f := .free "list") rfl), z_max := He.free_ok X G (c.fact 75 (f := .free "max") rfl), z_min := He.free_ok X G (c.fact 76 (f := .free "min") rfl), z_next := He.free_ok X G (c.fact 77 (f := .free "next") rfl), z_range := He.free_ok X G (c.fact 78 (f := .free "range") rfl), z_tuple := He.free_ok X G (c.fact 79 (f := .free "tuple") rfl), z_zip := He.free_ok X G (c.fact 80 (f := .free "zip") rfl), c_GREATEST := He.int_ok X G (c.fact 81 (f := .int "GREATEST" 1000000000000000000000000000000000000000000000000000000000000) rfl), c_MAX_DEGREE := He.int_ok X G (c.fact 82 (f := .int "MAX_DEGREE" 40) rfl), c_MOST_PENCIL := He.int_ok X G (c.fact 83 (f := .int "MOST_PENCIL" 21) rfl), c_first_of := HookT.codA K ((HookG.At.glo "first_of").adr K), P_first_of := He.tabOf K (HookT.codA K ((HookG.At.glo "first_of").adr K)), code_first_of := HookT.code_of F_first_of, tab_first_of := rfl, m_gcd := PySem.W.mg_of X G (He.eqO_ok ex_0), oc_Told := OwnF.ocB_ok ex_1, a_own_row := _, sl_own_row := HookG.slotB_ok ex_2 (by decide), oc_Form := OwnF.ocB_ok ex_3, a_own_entries := _, sl_own_entries := HookG.slotB_ok ex_4 (by decide), mt_Told_init := HookG.mtB_ok ex_5, mt_Form_init := HookG.mtB_ok ex_6, p_Form_entries := _, pr_Form_entries := HookG.prB_ok ex_7, p_Form_degree := _, pr_Form_degree := HookG.prB_ok ex_8, mt_Form_eq := HookG.mtB_ok ex_9, mt_Form_len := HookG.mtB_ok ex_10, mt_Form_iter := HookG.mtB_ok ex_11, kit_Told_Form := HookG.dO_ok ex_12, kit_Form_Told := HookG.dO_ok ex }⟩

end K83

set_option Elab.async false
set_option linter.all false
set_option maxRecDepth 100000
set_option maxHeartbeats 0
namespace K83
open PySem PySem.Spec PyProof.Rows L2
abbrev R : PySem.W.OpenRow := PySem.W.OpenLaw.row PySem.Challenge.rw_sourceforms_k83_whole_rows_of_pencils
abbrev hk : PySem.W.Hook := HookT.hookT 5 faL fnL tfL exL
def ob (s : PySem.W.SharedT) : HookT.AlGT := HookT.obsGT 5 faL fnL tfL exL (HandSHeadRun.getT s)
theorem ob_eq (s : PySem.W.SharedT) : ob s = hk.obs s.abs := HookT.obsGT_eq (HandSHeadRun.getT_eq s)
def loose0 : List Str := ["_wall", "LetterError", "InvalidForm", "InvalidTable", "InvalidPoint", "InvalidOperation", "InvalidNumber", "TooMany", "GREATEST", "is_whole", "is_short", "is_from", "are_short", "require_short", "require_from", "shared_of", "first_of", "primitive_of", "lots_of", "is_change", "require_change", "less_head", "echelon_rows", "rank_of", "MAX_DEGREE", "product_in", "joined_entries", "power_in", "value_in", "changed_in"]
def loose1 : List Str := ["derived_in", "Told", "are_entries", "Form", "form_of", "sum_in", "laying_slope", "laying_slopes", "add_product", "laid_in", "MOST_PENCIL", "is_pencil", "basis_in", "basis_of_rows", "odd_layings", "require_forms", "require_span", "require_pencil", "pencil_row", "are_multiples", "is_pencil_row", "pencil_basis", "are_one_pencil", "_law_dice", "_law_roll", "_law_near", "_law_gcd", "_law_shared", "_law_raised", "_law_choose"]
def loose2 : List Str := ["_law_plus", "_law_scaled", "_law_product", "_law_all_product", "_law_power", "_law_by_x", "_law_by_y", "_law_derived", "_law_laid", "_law_changed", "_law_plain", "_law_line", "_law_point", "_law_small_form", "_law_form", "_law_live_form", "_law_table", "_law_det", "_law_cleared", "_law_less", "_law_rank", "_law_two_forms", "_law_odd_row", "_law_mixed_pair", "_law_shown", "_law_pair_right", "_law_two_right"]
def loose : List Str := loose0 ++ loose1 ++ loose2
theorem run (w : World) : HandSHeadRun.RunEqI R (PySem.W.view R.prog [0, 95]) hk ob 12000 loose w := by
  show (_ : Option _) = _
  kernel_rfl
end K83

set_option Elab.async false
set_option linter.all false
set_option maxRecDepth 100000
/-! products of forms: the plain law -/
namespace K83
/-- the entry at a place, 0 behind the end -/
def co (l : List Int) (k : Nat) : Int := l.getD k 0
/-- the entries of a product -/
def cv : List Int → (Nat → Int) → Nat → Int
  | [], _, _ => 0
  | x :: xs, g, k => x * g k + (match k with
    | 0 => 0
    | k + 1 => cv xs g k)
theorem cv_nil (g : Nat → Int) (k : Nat) : cv [] g k = 0 := rfl
theorem cv_zero (x : Int) (xs : List Int) (g : Nat → Int) : cv (x :: xs) g 0 = x * g 0 := by show x * g 0 + 0 = _; omega
theorem cv_succ (x : Int) (xs : List Int) (g : Nat → Int) (k : Nat) : cv (x :: xs) g (k + 1) = x * g (k + 1) + cv xs g k := rfl
theorem cv_congr {g h : Nat → Int} : ∀ (l : List Int) (k : Nat), (∀ i, i ≤ k → g i = h i) → cv l g k = cv l h k
  | [], _, _ => rfl
  | x :: xs, 0, e => by rw [cv_zero, cv_zero, e 0 (Nat.le_refl _)]
  | x :: xs, k + 1, e => by rw [cv_succ, cv_succ, e (k + 1) (Nat.le_refl _), cv_congr xs k fun i hi => e i (by omega)]
theorem cv_ext {g h : Nat → Int} (l : List Int) (e : ∀ i, g i = h i) (k : Nat) : cv l g k = cv l h k := cv_congr l k fun i _ => e i
theorem cv_add (l : List Int) (g h : Nat → Int) : ∀ k, cv l (fun i => g i + h i) k = cv l g k + cv l h k := by
  induction l with
  | nil => intro k; rfl
  | cons x xs ih =>
    intro k
    cases k with
    | zero => rw [cv_zero, cv_zero, cv_zero, Int.mul_add]
    | succ k => rw [cv_succ, cv_succ, cv_succ, ih, Int.mul_add]; omega
theorem cv_mul (l : List Int) (c : Int) (g : Nat → Int) : ∀ k, cv l (fun i => c * g i) k = c * cv l g k := by
  induction l with
  | nil => intro k; show (0 : Int) = c * 0; rw [Int.mul_zero]
  | cons x xs ih =>
    intro k
    cases k with
    | zero => rw [cv_zero, cv_zero]; rw [← Int.mul_assoc, Int.mul_comm x c, Int.mul_assoc]
    | succ k => rw [cv_succ, cv_succ, ih, Int.mul_add, ← Int.mul_assoc, Int.mul_comm x c, Int.mul_assoc]
theorem cv_zeroF (l : List Int) : ∀ k, cv l (fun _ => 0) k = 0 := by
  induction l with
  | nil => intro k; rfl
  | cons x xs ih =>
    intro k
    cases k with
    | zero => rw [cv_zero, Int.mul_zero]
    | succ k => rw [cv_succ, ih, Int.mul_zero]; rfl
/-- what is moved by one place -/
def sh (g : Nat → Int) : Nat → Int
  | 0 => 0
  | k + 1 => g k
theorem cv_sh (l : List Int) (g : Nat → Int) : ∀ k, cv l (sh g) k = sh (cv l g) k := by
  induction l with
  | nil => intro k; cases k <;> rfl
  | cons x xs ih =>
    intro k
    cases k with
    | zero => rw [cv_zero]; show x * 0 = 0; rw [Int.mul_zero]
    | succ k =>
      rw [cv_succ, ih]
      show x * g k + sh (cv xs g) k = cv (x :: xs) g k
      cases k with
      | zero => rw [cv_zero]; show x * g 0 + 0 = x * g 0; omega
      | succ k => rw [cv_succ] <;> rfl
theorem cv_cons (x : Int) (xs : List Int) (g : Nat → Int) (k : Nat) : cv (x :: xs) g k = x * g k + sh (cv xs g) k := by
  cases k with
  | zero => rw [cv_zero]; show x * g 0 = x * g 0 + 0; omega
  | succ k => rw [cv_succ] <;> rfl
theorem co_cons (x : Int) (xs : List Int) (k : Nat) : co (x :: xs) k = (if k = 0 then x else 0) + sh (co xs) k := by
  cases k with
  | zero => show x = x + 0; omega
  | succ k =>
    show co xs k = (if k + 1 = 0 then x else 0) + co xs k
    rw [if_neg (by omega)]
    omega
/-- a constant times -/
theorem cv_one (l : List Int) : ∀ k, cv l (fun i => if i = 0 then 1 else 0) k = co l k := by
  induction l with
  | nil => intro k; rfl
  | cons x xs ih =>
    intro k
    cases k with
    | zero => rw [cv_zero, if_pos rfl, Int.mul_one]; rfl
    | succ k => rw [cv_succ, if_neg (by omega), Int.mul_zero, ih]; show 0 + co xs k = co xs k; omega
theorem cv_delta (l : List Int) (x : Int) (k : Nat) : cv l (fun i => if i = 0 then x else 0) k = x * co l k := by
  rw [← cv_one l k, ← cv_mul]
  refine cv_ext l (fun i => ?_) k
  by_cases h : i = 0
  · rw [if_pos h, if_pos h, Int.mul_one]
  · rw [if_neg h, if_neg h, Int.mul_zero]
theorem cv_comm (l m : List Int) : ∀ k, cv l (co m) k = cv m (co l) k := by
  induction l with
  | nil =>
    intro k
    rw [show cv m (co []) k = cv m (fun _ => 0) k from cv_ext m (fun i => rfl) k, cv_zeroF]
    rfl
  | cons x xs ih =>
    intro k
    rw [cv_cons, cv_ext m (h := fun i => (if i = 0 then x else 0) + sh (co xs) i) (fun i => co_cons x xs i), cv_add, cv_delta, cv_sh]
    congr 1
    cases k with
    | zero => rfl
    | succ k => exact ih k
theorem cv_far {g : Nat → Int} {b : Nat} (hb : 1 ≤ b) (hg : ∀ i, b ≤ i → g i = 0) : ∀ (l : List Int) (k : Nat), l.length + b ≤ k + 1 → cv l g k = 0
  | [], _, _ => rfl
  | x :: xs, 0, h => by rw [List.length_cons] at h; omega
  | x :: xs, k + 1, h => by
    rw [List.length_cons] at h
    rw [cv_succ, hg _ (by omega), Int.mul_zero, cv_far hb hg xs k (by omega)]
    rfl
/-- the first n values -/
def tb (n : Nat) (f : Nat → Int) : List Int := (List.range n).map f
theorem tb_len (n : Nat) (f : Nat → Int) : (tb n f).length = n := by
  unfold tb
  rw [List.length_map, List.length_range]
theorem co_tb {n : Nat} {f : Nat → Int} (k : Nat) : co (tb n f) k = if k < n then f k else 0 := by
  unfold co tb
  rw [List.getD_eq_getElem?_getD, List.getElem?_map]
  by_cases h : k < n
  · rw [List.getElem?_range h, if_pos h]
    rfl
  · rw [List.getElem?_eq_none (by rw [List.length_range]; omega), if_neg h]
    rfl
theorem co_far {l : List Int} {i : Nat} (h : l.length ≤ i) : co l i = 0 := by
  unfold co
  rw [List.getD_eq_getElem?_getD, List.getElem?_eq_none h]
  rfl
theorem co_get {l : List Int} {i : Nat} (h : i < l.length) : co l i = l[i] := by
  unfold co
  rw [List.getD_eq_getElem?_getD, List.getElem?_eq_getElem h]
  rfl
theorem co_inj {l m : List Int} (hl : l.length = m.length) (h : ∀ i, co l i = co m i) : l = m := by
  refine List.ext_getElem hl fun i h1 h2 => ?_
  rw [← co_get h1, ← co_get h2, h]
theorem tb_co (l : List Int) : tb l.length (co l) = l := co_inj (tb_len _ _) fun i => by
  rw [co_tb]
  split
  · rfl
  · exact (co_far (by omega)).symm
/-- the product of two forms -/
def ml (l m : List Int) : List Int := tb (l.length + m.length - 1) (cv l (co m))
theorem ml_len (l m : List Int) : (ml l m).length = l.length + m.length - 1 := tb_len _ _
theorem co_ml {l m : List Int} (hm : m ≠ []) (k : Nat) : co (ml l m) k = cv l (co m) k := by
  unfold ml
  rw [co_tb]
  by_cases h : k < l.length + m.length - 1
  · rw [if_pos h]
  · rw [if_neg h]
    have h1 : 0 < m.length := List.length_pos_iff.mpr hm
    exact (cv_far (b := m.length) (by omega) (fun i hi => co_far hi) l k (by omega)).symm
theorem ml_comm (l m : List Int) : ml l m = ml m l := by
  unfold ml
  rw [Nat.add_comm]
  unfold tb
  exact List.map_congr_left fun k _ => cv_comm l m k
theorem ml_ne {l m : List Int} (hl : l ≠ []) (hm : m ≠ []) : ml l m ≠ [] := by
  intro e
  have h := ml_len l m
  rw [e] at h
  have h1 : 0 < m.length := List.length_pos_iff.mpr hm
  have h2 : 0 < l.length := List.length_pos_iff.mpr hl
  have : 0 = l.length + m.length - 1 := h
  omega
/-- entry by entry -/
def pl (l m : List Int) : List Int := List.zipWith (· + ·) l m
theorem pl_len {l m : List Int} (h : l.length = m.length) : (pl l m).length = l.length := by
  unfold pl
  rw [List.length_zipWith, h, Nat.min_self]
end K83

set_option Elab.async false
set_option linter.all false
set_option maxRecDepth 100000
/-! the contents of forms -/
namespace K83
theorem least (P : Nat → Prop) (n : Nat) (h : P n) : ∃ m, P m ∧ ∀ k, P k → m ≤ k := by
  induction n using Nat.strongRecOn with
  | _ n ih =>
    by_cases c : ∃ k, k < n ∧ P k
    · obtain ⟨k, hk, pk⟩ := c
      exact ih k hk pk
    · exact ⟨n, h, fun k pk => Nat.le_of_not_lt fun z => c ⟨k, z, pk⟩⟩
structure Prm (p : Nat) : Prop where
  gt : 1 < p
  pr : ∀ a b : Nat, p ∣ a * b → p ∣ a ∨ p ∣ b
theorem prm_of {n : Nat} (h : n ≠ 1) : ∃ p, Prm p ∧ p ∣ n := by
  obtain ⟨d, ⟨d1, dn⟩, hmin⟩ := least (fun d => 1 < d ∧ d ∣ n) (if n = 0 then 2 else n) (by
    by_cases c : n = 0
    · rw [if_pos c, c]
      exact ⟨by omega, Nat.dvd_zero _⟩
    · rw [if_neg c]
      exact ⟨by omega, Nat.dvd_refl _⟩)
  refine ⟨d, ⟨d1, fun a b hab => ?_⟩, dn⟩
  by_cases c : d ∣ a
  · exact .inl c
  · refine .inr ?_
    have g0 : 0 < Nat.gcd d a := Nat.gcd_pos_of_pos_left a (by omega)
    have g1 : Nat.gcd d a ∣ n := Nat.dvd_trans (Nat.gcd_dvd_left d a) dn
    have g2 : Nat.gcd d a = 1 := by
      by_cases z : Nat.gcd d a = 1
      · exact z
      · have h1 := hmin _ ⟨show 1 < Nat.gcd d a by omega, g1⟩
        have h2 : Nat.gcd d a ≤ d := Nat.le_of_dvd (by omega) (Nat.gcd_dvd_left d a)
        have h3 : Nat.gcd d a = d := by omega
        exact absurd (h3 ▸ Nat.gcd_dvd_right d a) c
    have g3 : Nat.Coprime d a := g2
    exact g3.dvd_of_dvd_mul_left hab
theorem Prm.int {p : Nat} (h : Prm p) {x y : Int} (d : (p : Int) ∣ x * y) : (p : Int) ∣ x ∨ (p : Int) ∣ y := by
  have e := Int.natAbs_dvd_natAbs.mpr d
  rw [Int.natAbs_mul] at e
  rcases h.pr _ _ e with e | e
  · exact .inl (Int.natAbs_dvd_natAbs.mp e)
  · exact .inr (Int.natAbs_dvd_natAbs.mp e)
theorem cv_dvd {p : Int} {g : Nat → Int} : ∀ (l : List Int) (k : Nat), (∀ t, t ≤ k → p ∣ g t) → p ∣ cv l g k
  | [], _, _ => Int.dvd_zero p
  | x :: xs, 0, h => by
    rw [cv_zero]
    exact Int.dvd_mul_of_dvd_right (h 0 (Nat.le_refl _))
  | x :: xs, k + 1, h => by
    rw [cv_succ]
    exact Int.dvd_add (Int.dvd_mul_of_dvd_right (h _ (Nat.le_refl _))) (cv_dvd xs k fun t ht => h t (by omega))
theorem gauss {p : Nat} (hp : Prm p) {g : Nat → Int} {j : Nat} (h1 : ∀ t, t < j → (p : Int) ∣ g t) (h2 : ¬ (p : Int) ∣ g j) : ∀ l : List Int, (∃ x ∈ l, ¬ (p : Int) ∣ x) → ∃ k, ¬ (p : Int) ∣ cv l g k
  | [], h => by
    obtain ⟨x, hx, _⟩ := h
    cases hx
  | x :: xs, h => by
    by_cases c : (p : Int) ∣ x
    · obtain ⟨y, hy, hd⟩ := h
      have hy2 : y ∈ xs := by
        rcases List.mem_cons.mp hy with e | e
        · rw [e] at hd
          exact absurd c hd
        · exact e
      obtain ⟨k, hk⟩ := gauss hp h1 h2 xs ⟨y, hy2, hd⟩
      refine ⟨k + 1, fun z => hk ?_⟩
      rw [cv_succ] at z
      exact (Int.dvd_add_right (Int.dvd_mul_of_dvd_left c)).mp z
    · refine ⟨j, fun z => ?_⟩
      cases j with
      | zero =>
        rw [cv_zero] at z
        rcases hp.int z with e | e
        · exact c e
        · exact h2 e
      | succ j =>
        rw [cv_succ] at z
        have := (Int.dvd_add_left (cv_dvd xs j fun t ht => h1 t (by omega))).mp z
        rcases hp.int this with e | e
        · exact c e
        · exact h2 e
/-- the greatest common divisor of all -/
def cont : List Int → Nat
  | [] => 0
  | x :: xs => Nat.gcd x.natAbs (cont xs)
theorem cont_dvd : ∀ (l : List Int) (x : Int), x ∈ l → (cont l : Int) ∣ x
  | y :: ys, x, h => by
    rcases List.mem_cons.mp h with e | e
    · rw [e]
      exact Int.natAbs_dvd_natAbs.mp (by show Nat.gcd _ _ ∣ _; exact Nat.gcd_dvd_left _ _)
    · have := cont_dvd ys x e
      exact Int.dvd_trans (Int.natAbs_dvd_natAbs.mp (by show Nat.gcd _ _ ∣ cont ys; exact Nat.gcd_dvd_right _ _)) this
theorem dvd_cont {d : Nat} : ∀ l : List Int, (∀ x ∈ l, (d : Int) ∣ x) → d ∣ cont l
  | [], _ => Nat.dvd_zero d
  | y :: ys, h => Nat.dvd_gcd (Int.natAbs_dvd_natAbs.mpr (h y List.mem_cons_self)) (dvd_cont ys fun x hx => h x (List.mem_cons_of_mem _ hx))
theorem cont_scale (c : Int) : ∀ l : List Int, cont (l.map (c * ·)) = c.natAbs * cont l
  | [] => rfl
  | x :: xs => by
    show Nat.gcd (c * x).natAbs (cont (xs.map (c * ·))) = c.natAbs * Nat.gcd x.natAbs (cont xs)
    rw [cont_scale c xs, Int.natAbs_mul, Nat.gcd_mul_left]
theorem cont_zero {l : List Int} (h : cont l = 0) : ∀ x ∈ l, x = 0 := fun x hx => by
  have := cont_dvd l x hx
  rw [h] at this
  exact Int.zero_dvd.mp this
theorem co_mem {l : List Int} {k : Nat} : co l k = 0 ∨ co l k ∈ l := by
  by_cases h : k < l.length
  · rw [co_get h]
    exact .inr (List.getElem_mem h)
  · exact .inl (co_far (by omega))
theorem cont_one {l m : List Int} (hm : m ≠ []) (h1 : cont l = 1) (h2 : cont m = 1) : cont (ml l m) = 1 := by
  by_cases c : cont (ml l m) = 1
  · exact c
  · obtain ⟨p, hp, hd⟩ := prm_of c
    have key : ∀ n : List Int, cont n = 1 → ∃ x ∈ n, ¬ (p : Int) ∣ x := fun n hn => by
      by_cases z : ∃ x ∈ n, ¬ (p : Int) ∣ x
      · exact z
      · have h3 : p ∣ cont n := dvd_cont n fun x hx => Classical.byContradiction fun q => z ⟨x, hx, q⟩
        rw [hn] at h3
        have := Nat.le_of_dvd (by omega) h3
        have := hp.gt
        omega
    obtain ⟨y, hy, hyd⟩ := key m h2
    obtain ⟨j0, hj0, ej⟩ := List.mem_iff_getElem.mp hy
    obtain ⟨j, hj, hmin⟩ := least (fun j => ¬ (p : Int) ∣ co m j) j0 (by
      show ¬ (p : Int) ∣ co m j0
      rw [co_get hj0, ej]
      exact hyd)
    obtain ⟨k, hk⟩ := gauss hp (g := co m) (j := j) (fun t ht => Classical.byContradiction fun z => by
      have := hmin t z
      omega) hj l (key l h1)
    refine absurd ?_ hk
    rw [← co_ml hm]
    rcases co_mem (l := ml l m) (k := k) with e | e
    · rw [e]
      exact Int.dvd_zero _
    · exact Int.dvd_trans (Int.natCast_dvd_natCast.mpr hd) (cont_dvd _ _ e)
/-- each form is its content times a form of the content 1, or all 0 -/
theorem cont_split {l : List Int} {d : Int} (h : d.natAbs = cont l) (h0 : cont l ≠ 0) : ∃ m, l = m.map (d * ·) ∧ cont m = 1 := by
  have hd : ∀ x ∈ l, d ∣ x := fun x hx => Int.natAbs_dvd_natAbs.mp (by rw [h]; exact Int.natAbs_dvd_natAbs.mpr (cont_dvd l x hx))
  have d0 : d ≠ 0 := fun e => by rw [e] at h; exact h0 h.symm
  refine ⟨l.map (· / d), ?_, ?_⟩
  · rw [List.map_map]
    conv => lhs; rw [← List.map_id l]
    exact List.map_congr_left fun x hx => (Int.mul_ediv_cancel' (hd x hx)).symm
  · have e : l = (l.map (· / d)).map (d * ·) := by
      rw [List.map_map]
      conv => lhs; rw [← List.map_id l]
      exact List.map_congr_left fun x hx => (Int.mul_ediv_cancel' (hd x hx)).symm
    have e2 := cont_scale d (l.map (· / d))
    rw [← e, h] at e2
    have hp : 0 < cont l := by omega
    exact Nat.eq_of_mul_eq_mul_left hp (by rw [← e2, Nat.mul_one])
theorem co_map (c : Int) (l : List Int) (k : Nat) : co (l.map (c * ·)) k = c * co l k := by
  by_cases h : k < l.length
  · rw [co_get (by rw [List.length_map]; exact h), co_get h, List.getElem_map]
  · rw [co_far (by rw [List.length_map]; omega), co_far (by omega), Int.mul_zero]
theorem ml_scale (c : Int) {l m : List Int} (hm : m ≠ []) : ml (l.map (c * ·)) m = (ml l m).map (c * ·) :=
  co_inj (by rw [List.length_map, ml_len, ml_len, List.length_map]) fun k => by
    rw [co_map, co_ml hm, co_ml hm, cv_comm, cv_comm l, ← cv_mul]
    exact cv_ext m (fun i => co_map c l i) k
theorem cont_ml {l m : List Int} (hl : l ≠ []) (hm : m ≠ []) : cont (ml l m) = cont l * cont m := by
  have zer : ∀ a b : List Int, b ≠ [] → cont a = 0 → cont (ml a b) = 0 := fun a b hb ha => by
    have hz : a = a.map ((0 : Int) * ·) := by
      conv => lhs; rw [← List.map_id a]
      exact List.map_congr_left fun x hx => by rw [cont_zero ha x hx]; rfl
    rw [hz, ml_scale 0 hb, cont_scale]
    exact Nat.zero_mul _
  by_cases c1 : cont l = 0
  · rw [zer l m hm c1, c1, Nat.zero_mul]
  · by_cases c2 : cont m = 0
    · rw [ml_comm, zer m l hl c2, c2, Nat.mul_zero]
    · obtain ⟨a, ea, ca⟩ := cont_split (d := (cont l : Int)) rfl c1
      obtain ⟨b, eb, cb⟩ := cont_split (d := (cont m : Int)) rfl c2
      have hb : b ≠ [] := fun e => by rw [e] at eb; exact hm eb
      have ha : a ≠ [] := fun e => by rw [e] at ea; exact hl ea
      have e : ml l m = ((ml a b).map ((cont l : Int) * ·)).map ((cont m : Int) * ·) := by
        rw [← ml_scale _ hb, ← ea, ml_comm l b, ← ml_scale _ hl, ← eb, ml_comm]
      rw [e, cont_scale, cont_scale, cont_one hb ca cb, Nat.mul_one, Nat.mul_comm]
      rfl
end K83

set_option Elab.async false
set_option linter.all false
set_option maxRecDepth 100000
set_option maxHeartbeats 4000000
namespace K83
open PySem PySem.Spec PyProof.Rows L2 MyR SlX OwnR OwnF
/-- an int of at most sixty digits -/
def Sho (i : Int) : Prop := i.natAbs < 10 ^ 60
theorem Same.rf (H : Hp) : Same H H := fun _ _ h => h
@[elab_as_elim] theorem gen_upd {G : Hp → Prop} (H : Hp) (p : Addr) (o : HO) (n : H p = none) (h : ∀ H', Same H H' → H' p = some o → G H') : G (upd H p o) := h _ (same_upd0 n) upd_same
section
variable {P : Program} {w : World} {K : PySem.W.Frag} {mg : Str → Option Value} {base : Heap}
def spWhole : Sp := fun vs H Q _ => ∃ i : Int, vs = [.int i] ∧ Q (.bl true) H
theorem ok_is_whole (T : Facts K mg) : FnOk P w K mg base CX0 1 T.f_is_whole T.fd_is_whole ["value"] spWhole := by
  refine T.F_is_whole.ok sc_is_whole (fun vs H Q E h => ?_) (fun cdv A outer s H vs Q E hr h => ?_)
  · obtain ⟨i, rfl, _⟩ := h
    rfl
  · obtain ⟨i, rfl, q⟩ := h
    refine ⟨_, (PSs.nox (pss_one (ps_ret (pe_and (pe_callB call_isi (by rfl) T.z_isinstance (by decide +kernel) (pa_cons (pv 0) (pa_cons (pe_bltn (v := .ty "int") (by rfl) T.z_int (by decide +kernel) rfl) pa_nil))) (pe_one (pe_not (pe_callB call_isi (by rfl) T.z_isinstance (by decide +kernel) (pa_cons (pv 0) (pa_cons (pe_bltn (v := .ty "bool") (by rfl) T.z_bool (by decide +kernel) rfl) pa_nil))))))))), ?_⟩
    refine ⟨_, rfl, .int i, .ty "int", .type "int", .type "int", true, rfl, .ty "int", .base (.int i), kit_ty (show kitB "int" "int" = some true by decide +kernel), true, rfl, iteT ?_⟩
    exact ⟨_, rfl, .int i, .ty "bool", .type "int", .type "bool", false, rfl, .ty "bool", .base (.int i), kit_ty (show kitB "int" "bool" = some false by decide +kernel), false, rfl, q⟩
def spShort : Sp := fun vs H Q _ => ∃ i : Int, vs = [.int i] ∧ Sho i ∧ Q (.bl true) H
theorem ok_is_short (T : Facts K mg) : FnOk P w K mg base CX0 2 T.f_is_short T.fd_is_short ["value"] spShort := by
  have G_is_whole : FnOk P w K mg base CX0 1 T.f_is_whole T.fd_is_whole ["value"] spWhole := ok_is_whole T
  refine T.F_is_short.ok sc_is_short (fun vs H Q E h => ?_) (fun cdv A outer s H vs Q E hr h => ?_)
  · obtain ⟨i, rfl, _⟩ := h
    rfl
  · obtain ⟨i, rfl, hi, q⟩ := h
    have e60 : (10 : Nat) ^ 60 = 1000000000000000000000000000000000000000000000000000000000000 := by decide
    unfold Sho at hi
    rw [e60] at hi
    refine ⟨_, (PSs.nox (pss_one (ps_ret (pe_and (pe_call G_is_whole hr (by rfl) T.g_is_whole T.F_is_whole.kp T.b_is_whole .nil pass0 (pa_cons (pv 0) pa_nil)) (pe_one (pe_chain op_lt op_lt (pe_un un_neg (pe_glob (v := .int 1000000000000000000000000000000000000000000000000000000000000) (by rfl) T.c_GREATEST.choose_spec ⟨_, rfl⟩)) (pv 0) (pe_glob (v := .int 1000000000000000000000000000000000000000000000000000000000000) (by rfl) T.c_GREATEST.choose_spec ⟨_, rfl⟩))))))), ?_⟩
    refine ⟨_, rfl, i, rfl, true, rfl, iteT ⟨_, rfl, _, rfl, _, i, rfl, rfl, true, ?_, iteT ⟨i, _, rfl, rfl, ?_⟩⟩⟩
    · show V.bl (decide (-1000000000000000000000000000000000000000000000000000000000000 < i)) = V.bl true
      rw [decide_eq_true (by omega)]
    · show Q (V.bl (decide (i < 1000000000000000000000000000000000000000000000000000000000000))) H
      rw [decide_eq_true (by omega)]
      exact q
/-- a tuple of ints -/
abbrev tp (ns : List Int) : HO := .tup (ns.map V.int)
def spAreShort : Sp := fun vs H Q _ => ∃ (t : Addr) (ns : List Int), vs = [.ref t] ∧ H t = some (tp ns) ∧ ns.length ≤ 1000 ∧ (∀ x ∈ ns, Sho x) ∧ ∀ H', Same H H' → Q (.bl true) H'
theorem ok_are_short (T : Facts K mg) : FnOk P w K mg base CX0 3 T.f_are_short T.fd_are_short ["value"] spAreShort := by
  have G_is_short : FnOk P w K mg base CX0 2 T.f_is_short T.fd_is_short ["value"] spShort := ok_is_short T
  refine T.F_are_short.ok sc_are_short (fun vs H Q E h => ?_) (fun cdv A outer s H vs Q E hr h => ?_)
  · obtain ⟨t, ns, rfl, _⟩ := h
    rfl
  · obtain ⟨t, ns, rfl, ht, hl, hs, q⟩ := h
    refine ⟨_, (PSs.nox (pss_one (ps_ret (pe_and (pe_callB call_isi (by rfl) T.z_isinstance (by decide +kernel) (pa_cons (pv 0) (pa_cons (pe_bltn (v := .ty "tuple") (by rfl) T.z_tuple (by decide +kernel) rfl) pa_nil))) (pe_one (pe_callB (cr_all (by rfl)) (by rfl) T.z_all (by decide +kernel) (pa_cons (pe_lc (own := [("entry", 1)]) (g := (gName 1)) (tt := tYes) (by rfl) sc_are_short.nd (pi_tup (pv 0)) (blkOk_by (N := N_are_short) (sc := defScope s_are_short) (by decide +kernel)) (fun _ _ _ _ _ => (pg_name (i := 1) sc_are_short.nd rfl (.inl rfl))) (fun _ _ _ _ _ => pts_nil) (fun _ _ _ _ _ => (pe_call G_is_short hr (by rfl) T.g_is_short T.F_is_short.kp T.b_is_short .nil pass0 (pa_cons (pv 1) pa_nil)))) pa_nil))))))), ?_⟩
    refine ⟨_, rfl, .ref t, .ty "tuple", .type "tuple", .type "tuple", true, rfl, .ty "tuple", .base (.tup ht), kit_ty (show kitB "tuple" "tuple" = some true by decide +kernel), true, rfl, iteT ?_⟩
    refine ⟨_, rfl, t, rfl, ⟨_, SqT.of ht⟩, fun D hD => lc_tup (xs := ns.map V.int) (fun i H' => H' = upd H D (.lst (List.replicate i (V.bl true)))) rfl (fun i H' hi hP => ?_) (fun i x H' hi hP => ?_) (fun H' hP => ?_)⟩
    · rw [hP]
      exact SqT.of (same_upd0 hD _ _ ht)
    · subst hP
      rw [List.getElem?_map] at hi
      obtain ⟨y, hy, rfl⟩ := Option.map_eq_some_iff.mp hi
      have hlt : i < ns.length := (List.getElem?_eq_some_iff.mp hy).1
      refine ⟨rfl, ⟨_, rfl, y, rfl, hs y (List.mem_of_getElem? hy), _, upd_same, ?_, ?_⟩⟩
      · rw [List.length_replicate]
        exact small1000 (by omega)
      · rw [upd_upd, List.replicate_succ']
    · subst hP
      rw [List.length_map]
      refine ⟨D, List.replicate ns.length true, rfl, SqL.of (by rw [upd_same, List.map_replicate]), ?_⟩
      have e : (List.replicate ns.length true).all id = true := by
        rw [List.all_eq_true]
        intro x hx
        rw [(List.mem_replicate.mp hx).2]
        rfl
      rw [e]
      exact q _ (same_upd0 hD)
def spAreEntries : Sp := fun vs H Q _ => ∃ (t : Addr) (ns : List Int), vs = [.ref t] ∧ H t = some (tp ns) ∧ 1 ≤ ns.length ∧ ns.length ≤ 41 ∧ (∀ x ∈ ns, Sho x) ∧ ∀ H', Same H H' → Q (.bl true) H'
theorem ok_are_entries (T : Facts K mg) : FnOk P w K mg base CX0 4 T.f_are_entries T.fd_are_entries ["value"] spAreEntries := by
  have G_are_short : FnOk P w K mg base CX0 3 T.f_are_short T.fd_are_short ["value"] spAreShort := ok_are_short T
  refine T.F_are_entries.ok sc_are_entries (fun vs H Q E h => ?_) (fun cdv A outer s H vs Q E hr h => ?_)
  · obtain ⟨t, ns, rfl, _⟩ := h
    rfl
  · obtain ⟨t, ns, rfl, ht, h1, h41, hs, q⟩ := h
    refine ⟨_, (PSs.nox (pss_one (ps_ret (pe_and (pe_call G_are_short hr (by rfl) T.g_are_short T.F_are_short.kp T.b_are_short .nil pass0 (pa_cons (pv 0) pa_nil)) (pe_one (pe_chain op_le op_le pe_int (pe_callB call_len_seq (by rfl) T.z_len (by decide +kernel) (pa_cons (pv 0) pa_nil)) (pe_op op_add (pe_glob (v := .int 40) (by rfl) T.c_MAX_DEGREE.choose_spec ⟨_, rfl⟩) pe_int))))))), ?_⟩
    refine ⟨_, rfl, t, ns, rfl, ht, by omega, hs, fun H1 s1 => ⟨true, rfl, iteT ?_⟩⟩
    have ht1 := s1 _ _ ht
    refine ⟨_, rfl, t, _, rfl, .inr (SqT.of ht1), 1, _, rfl, rfl, true, ?_, iteT ⟨_, _, rfl, rfl, _, _, rfl, rfl, ?_⟩⟩
    · rw [List.length_map]
      show V.bl (decide ((1 : Int) ≤ (ns.length : Int))) = V.bl true
      rw [decide_eq_true (by omega)]
    · rw [List.length_map]
      show Q (V.bl (decide ((ns.length : Int) ≤ 40 + 1))) H1
      rw [decide_eq_true (by omega)]
      exact q H1 s1
/-! ### making a form -/
/-- a form with these entries -/
def Fo (C : Addr) (H : Hp) (a : Addr) (ns : List Int) : Prop := ∃ dx t, H a = some (SlO a C dx [some (.ref t)]) ∧ H dx = some (.xd []) ∧ H t = some (tp ns)
theorem Fo.same {C a : Addr} {H H' : Hp} {ns : List Int} (h : Fo C H a ns) (s : Same H H') : Fo C H' a ns := by
  obtain ⟨dx, t, h1, h2, h3⟩ := h
  exact ⟨dx, t, s _ _ h1, s _ _ h2, s _ _ h3⟩
theorem Fo.slt {C a : Addr} {H : Hp} {ns : List Int} (h : Fo C H a ns) : ∃ dx t, Slt H a C dx [some (.ref t)] ∧ H t = some (tp ns) := by
  obtain ⟨dx, t, h1, h2, h3⟩ := h
  exact ⟨dx, t, .inr ⟨h1, h2⟩, h3⟩
/-- Told(row) -/
def spTold (C : Addr) : Sp := fun vs H Q _ => ∃ (x dx : Addr) (v : V), vs = [.ref x, v] ∧ Slt H x C dx [] ∧ Q .non (slH H x C dx [some v])
theorem ok_Told_init (T : Facts K mg) : FnOk P w K mg base CX0 1 T.f_Told_init T.fd_Told_init ["self", "row"] (spTold T.C_Told) := by
  refine T.F_Told_init.ok sc_Told_init (fun vs H Q E h => ?_) (fun cdv A outer s H vs Q E hr h => ?_)
  · obtain ⟨x, dx, v, rfl, _⟩ := h
    rfl
  · obtain ⟨x, dx, v, rfl, hx, q⟩ := h
    refine ⟨_, (PSs.nox (pss_one (ps_sl (pv 0) (pv 1)))), ?_⟩
    exact ⟨_, rfl, _, rfl, x, T.C_Told, dx, T.a_own_row, [], 0, rfl, hx, T.oc_Told.scl, T.sl_own_row, q⟩
/-- Form(entries) -/
def spForm (CT CF : Addr) : Sp := fun vs H Q _ => ∃ (x dx y t : Addr), vs = [.ref x, .ref y] ∧ Slt H x CF dx [] ∧ ((∃ dy, Slt H y CT dy [some (.ref t)]) ∨ ∃ ns, y = t ∧ H t = some (tp ns) ∧ 1 ≤ ns.length ∧ ns.length ≤ 41 ∧ ∀ z ∈ ns, Sho z) ∧ ∀ H', Same H H' → Q .non (slH H' x CF dx [some (.ref t)])
theorem Slt.same {C a dx : Addr} {vs : List (Option V)} {H H' : Hp} (h : Slt H a C dx vs) (s : Same H H') : Slt H' a C dx vs := by
  rcases h with ⟨h1, h2⟩ | ⟨h1, h2⟩
  · exact .inl ⟨s _ _ h1, h2⟩
  · exact .inr ⟨s _ _ h1, s _ _ h2⟩
theorem ok_Form_init (T : Facts K mg) : FnOk P w K mg base CX0 5 T.f_Form_init T.fd_Form_init ["self", "entries"] (spForm T.C_Told T.C_Form) := by
  have G_are_entries : FnOk P w K mg base CX0 4 T.f_are_entries T.fd_are_entries ["value"] spAreEntries := ok_are_entries T
  refine T.F_Form_init.ok sc_Form_init (fun vs H Q E h => ?_) (fun cdv A outer s H vs Q E hr h => ?_)
  · obtain ⟨x, dx, y, t, rfl, _⟩ := h
    rfl
  · obtain ⟨x, dx, y, t, rfl, hx, hy, q⟩ := h
    refine ⟨_, (PSs.nox (pss_cons (ps_if (pw_and (pt_not (pt_val (pe_callB (call_isiF T.C_Told) (by rfl) T.z_isinstance (by decide +kernel) (pa_cons (pv 1) (pa_cons (pe_glob (v := .ref T.C_Told) (by rfl) T.g_Told rfl) pa_nil))))) (pw_and1 (pt_not (pt_val (pe_call G_are_entries hr (by rfl) T.g_are_entries T.F_are_entries.kp T.b_are_entries .nil pass0 (pa_cons (pv 1) pa_nil)))))).pt
      (pss_one ps_never)
      pss_nil)
    (pss_one (ps_sl (pv 0) (pe_ifExp (pt_val (pe_callB (call_isiF T.C_Told) (by rfl) T.z_isinstance (by decide +kernel) (pa_cons (pv 1) (pa_cons (pe_glob (v := .ref T.C_Told) (by rfl) T.g_Told rfl) pa_nil)))) (pe_sl (pv 1)) (pv 1)))))), ?_⟩
    rcases hy with ⟨dy, hy⟩ | ⟨ns, rfl, ht, h1, h41, hs⟩
    · refine ⟨_, rfl, .inr ⟨y, T.C_Told, dy, _, .ref T.C_Told, true, rfl, rfl, fun w r => r, hy, T.oc_Told.scl, T.oc_Told.sis, T.oc_Told.kself, true, rfl, iteF ?_⟩⟩
      refine ⟨_, rfl, .inr ⟨y, T.C_Told, dy, _, .ref T.C_Told, true, rfl, rfl, fun w r => r, hy, T.oc_Told.scl, T.oc_Told.sis, T.oc_Told.kself, true, rfl, iteT ?_⟩⟩
      refine ⟨_, rfl, y, T.C_Told, dy, T.a_own_row, _, 0, .ref t, rfl, hy, T.oc_Told.scl, T.sl_own_row, rfl, ?_⟩
      exact ⟨_, rfl, x, T.C_Form, dx, T.a_own_entries, [], 0, rfl, hx, T.oc_Form.scl, T.sl_own_entries, q H (Same.rf H)⟩
    · refine ⟨_, rfl, .inl ⟨.ref y, .ref T.C_Told, .type "tuple", .ref T.C_Told, false, rfl, .own _, .base (.tup ht), T.oc_Told.ktup, false, rfl, iteT ?_⟩⟩
      refine ⟨_, rfl, y, ns, rfl, ht, h1, h41, hs, fun H1 s1 => ⟨true, rfl, iteF ?_⟩⟩
      refine ⟨_, rfl, .inl ⟨.ref y, .ref T.C_Told, .type "tuple", .ref T.C_Told, false, rfl, .own _, .base (.tup (s1 _ _ ht)), T.oc_Told.ktup, false, rfl, iteF ?_⟩⟩
      exact ⟨_, rfl, _, rfl, x, T.C_Form, dx, T.a_own_entries, [], 0, rfl, Slt.same hx s1, T.oc_Form.scl, T.sl_own_entries, q H1 s1⟩
/-- what making leaves -/
theorem made {C x dx : Addr} {v : V} {H' H0 : Hp} (hx : H0 x = none) (hdx : H0 dx = none) (hne : dx ≠ x) (s : Same (upd (upd H0 dx (.own x)) x (.ins C dx [])) H') : Same H0 (slH H' x C dx [some v]) := fun b o e => by
  have h1 : b ≠ x := ne_of_none e hx
  have h2 : b ≠ dx := ne_of_none e hdx
  rw [slH_ne h1 h2]
  exact s _ _ (by rw [upd_ne h1, upd_ne h2]; exact e)
/-- what is made of a row -/
def spMake (C : Addr) : Sp := fun vs H Q _ => ∃ (t : Addr) (ns : List Int), vs = [.ref t] ∧ H t = some (tp ns) ∧ ∀ p H', Same H H' → H p = none → Fo C H' p ns → Q (.ref p) H'
theorem ok_form_of (T : Facts K mg) : FnOk P w K mg base CX0 7 T.f_form_of T.fd_form_of ["entries"] (spMake T.C_Form) := by
  have G_Told_init : FnOk P w K mg base CX0 1 T.f_Told_init T.fd_Told_init ["self", "row"] (spTold T.C_Told) := ok_Told_init T
  have G_Form_init : FnOk P w K mg base CX0 5 T.f_Form_init T.fd_Form_init ["self", "entries"] (spForm T.C_Told T.C_Form) := ok_Form_init T
  refine T.F_form_of.ok sc_form_of (fun vs H Q E h => ?_) (fun cdv A outer s H vs Q E hr h => ?_)
  · obtain ⟨t, ns, rfl, _⟩ := h
    rfl
  · obtain ⟨t, ns, rfl, ht, q⟩ := h
    refine ⟨_, (PSs.nox (pss_one (ps_ret (pe_make T.mk_Form G_Form_init (hr.mono (by decide)) (by rfl) T.g_Form T.b_Form_init .nil pass0 (pa_cons (pe_make T.mk_Told G_Told_init (hr.mono (by decide)) (by rfl) T.g_Told T.b_Told_init .nil pass0 (pa_cons (pv 0) pa_nil)) pa_nil))))), ?_⟩
    refine ⟨_, rfl, fun x dx hx hdx hne => ⟨x, dx, .ref t, rfl, .inl ⟨upd_same, rfl⟩, rfl, ?_⟩⟩
    have s1 : Same H (slH (upd (upd H dx (.own x)) x (.ins T.C_Told dx [])) x T.C_Told dx [some (.ref t)]) := made hx hdx hne (Same.rf _)
    have y1 : Slt (slH (upd (upd H dx (.own x)) x (.ins T.C_Told dx [])) x T.C_Told dx [some (.ref t)]) x T.C_Told dx [some (.ref t)] := slH_slt hne
    generalize slH (upd (upd H dx (.own x)) x (.ins T.C_Told dx [])) x T.C_Told dx [some (.ref t)] = H1 at s1 y1 ⊢
    refine fun x2 dx2 hx2 hdx2 hne2 => ⟨x2, dx2, x, t, rfl, .inl ⟨upd_same, rfl⟩, .inl ⟨dx, ?_⟩, fun H2 s2 => ⟨rfl, ?_⟩⟩
    · exact slt_upd (slt_upd y1 hdx2) (by rw [upd_ne (Ne.symm hne2)]; exact hx2)
    · have s3 : Same H1 (slH H2 x2 T.C_Form dx2 [some (.ref t)]) := made hx2 hdx2 hne2 s2
      have hx0 : H x2 = none := by
        cases e : H x2 with
        | none => rfl
        | some o =>
          have := s1 _ _ e
          rw [hx2] at this
          cases this
      refine q x2 _ (fun b o e => s3 _ _ (s1 _ _ e)) hx0 ⟨dx2, t, upd_same, ?_, s3 _ _ (s1 _ _ ht)⟩
      unfold slH
      rw [upd_ne hne2, upd_same]
end
end K83

set_option Elab.async false
set_option linter.all false
set_option maxRecDepth 100000
set_option maxHeartbeats 4000000
namespace K83
open PySem PySem.Spec PyProof.Rows L2 MyR SlX OwnR OwnF
theorem cv_snoc (x : Int) (g : Nat → Int) : ∀ (l : List Int) (k : Nat), cv (l ++ [x]) g k = cv l g k + (if l.length ≤ k then x * g (k - l.length) else 0)
  | [], k => by
    show cv (x :: []) g k = 0 + (if 0 ≤ k then x * g (k - 0) else 0)
    rw [if_pos (Nat.zero_le k), Nat.sub_zero]
    cases k with
    | zero => rw [cv_zero]; omega
    | succ k => rw [cv_succ]; show x * g (k + 1) + 0 = 0 + x * g (k + 1); omega
  | y :: ys, 0 => by
    show cv (y :: (ys ++ [x])) g 0 = cv (y :: ys) g 0 + (if ys.length + 1 ≤ 0 then _ else 0)
    rw [cv_zero, cv_zero, if_neg (by omega)]
    omega
  | y :: ys, k + 1 => by
    show cv (y :: (ys ++ [x])) g (k + 1) = cv (y :: ys) g (k + 1) + (if ys.length + 1 ≤ k + 1 then x * g (k + 1 - (ys.length + 1)) else 0)
    rw [cv_succ, cv_succ, cv_snoc x g ys k, Nat.add_sub_add_right]
    by_cases h : ys.length ≤ k
    · rw [if_pos h, if_pos (by omega)]; omega
    · rw [if_neg h, if_neg (by omega)]; omega
/-- the entries so far: i rows, and j places of the next one -/
def J (xs : List Int) (g : Nat → Int) (i j k : Nat) : Int := cv (xs.take i) g k + (if i ≤ k ∧ k < i + j then co xs i * g (k - i) else 0)
theorem J_0 {xs : List Int} {g : Nat → Int} {i k : Nat} : J xs g i 0 k = cv (xs.take i) g k := by
  unfold J
  rw [if_neg (by omega)]
  omega
theorem J_step {xs : List Int} {g : Nat → Int} {i j k : Nat} : (if k = i + j then J xs g i j (i + j) + co xs i * g j else J xs g i j k) = J xs g i (j + 1) k := by
  unfold J
  by_cases h : k = i + j
  · subst h
    rw [if_pos rfl, if_neg (by omega), if_pos (by omega), Nat.add_sub_cancel_left]
    omega
  · rw [if_neg h]
    by_cases c : i ≤ k ∧ k < i + j
    · rw [if_pos c, if_pos (by omega)]
    · rw [if_neg c, if_neg (by omega)]
theorem J_end {xs ys : List Int} {i k : Nat} (hi : i < xs.length) : J xs (co ys) i ys.length k = cv (xs.take (i + 1)) (co ys) k := by
  unfold J
  have e : xs.take (i + 1) = xs.take i ++ [xs[i]] := by rw [List.take_add_one, List.getElem?_eq_getElem hi]; rfl
  have hl : (xs.take i).length = i := by rw [List.length_take]; omega
  rw [e, cv_snoc, hl, co_get hi]
  congr 1
  by_cases c : i ≤ k
  · by_cases d : k < i + ys.length
    · rw [if_pos ⟨c, d⟩, if_pos c]
    · rw [if_neg (by omega), if_pos c, co_far (by omega), Int.mul_zero]
  · rw [if_neg (by omega), if_neg c]
def tab (L : Nat) (f : Nat → Int) : List V := (List.range L).map fun k => V.int (f k)
theorem tab_tb (L : Nat) (f : Nat → Int) : tab L f = (tb L f).map V.int := by
  unfold tab tb
  rw [List.map_map]
  rfl
theorem tab_len (L : Nat) (f : Nat → Int) : (tab L f).length = L := by
  unfold tab
  rw [List.length_map, List.length_range]
theorem tab_get {L : Nat} {f : Nat → Int} {k : Nat} (h : k < L) : (tab L f)[k]? = some (.int (f k)) := by
  unfold tab
  rw [List.getElem?_map, List.getElem?_range h]
  rfl
theorem tab_ext {L : Nat} {f g : Nat → Int} (h : ∀ k, k < L → f k = g k) : tab L f = tab L g := by
  unfold tab
  exact List.map_congr_left fun k hk => by rw [h k (List.mem_range.mp hk)]
theorem tab_none {L : Nat} {f : Nat → Int} {k : Nat} (h : L ≤ k) : (tab L f)[k]? = none := List.getElem?_eq_none (by rw [tab_len]; exact h)
theorem tab_set {L : Nat} {f : Nat → Int} {j : Nat} {v : Int} : (tab L f).set j (.int v) = tab L (fun k => if k = j then v else f k) := by
  apply List.ext_getElem?
  intro k
  by_cases hk : k < L
  · rw [tab_get hk]
    by_cases e : k = j
    · subst e
      rw [List.getElem?_set_self (by rw [tab_len]; exact hk), if_pos rfl]
    · rw [List.getElem?_set_ne (Ne.symm e), tab_get hk, if_neg e]
  · rw [tab_none (Nat.le_of_not_lt hk), List.getElem?_eq_none (by rw [List.length_set, tab_len]; exact Nat.le_of_not_lt hk)]
theorem tab_rep (n : Nat) : List.replicate n (V.int 0) = tab n fun _ => 0 := by
  unfold tab
  rw [List.map_const', List.length_range]
theorem ix_at {n : Nat} {z : Int} {j : Nat} (e : z = (j : Int)) (h : j < n) : ixN n z = some j := by
  rw [e]
  exact Evl.ixN_nat h
theorem at_of {xs : List V} {z : Int} {j : Nat} {v : V} (e : z = (j : Int)) (h : xs[j]? = some v) : atI xs z = some v := by
  rw [e]
  exact atI_nat h
/-- ints of less than 400 bits -/
def sm (x : Int) : Prop := x.natAbs < 2 ^ 4000
theorem sm_mul {x y : Int} (hx : sm x) (hy : sm y) : CMulW x y := wide_mul hx hy (by decide) (by decide) (by decide)
theorem get_int {xs : List Int} {i : Nat} (h : i < xs.length) : (xs.map V.int)[i]? = some (.int (co xs i)) := by
  rw [List.getElem?_map, List.getElem?_eq_getElem h, co_get h]
  rfl
theorem sm_co {xs : List Int} {i : Nat} (h : ∀ x ∈ xs, sm x) (hi : i < xs.length) : sm (co xs i) := by
  rw [co_get hi]
  exact h _ (List.getElem_mem hi)
section
variable {P : Program} {w : World} {K : PySem.W.Frag} {mg : Str → Option Value} {base : Heap}
end
end K83

set_option Elab.async false
set_option linter.all false
set_option maxRecDepth 100000
set_option maxHeartbeats 4000000
namespace K83
open PySem PySem.Spec PyProof.Rows L2 StX RZ MyR SlX OwnR OwnF
/-- a comprehension over zip of two tuples of one length -/
theorem lc_zipT {K : PySem.W.Frag} {a b : Addr} {xs ys : List V} {g : TG} {tt : TT} {te : TE} {vs : List Nat} {σ : L2.St} {H1 : Hp} {D : Addr} {Qd : Hp → Prop} (hl : xs.length = ys.length) (Pv : Nat → Hp → Prop) (h0 : Pv 0 (upd H1 D (.lst []))) (hq : ∀ i H, i ≤ xs.length → Pv i H → SqT K H a xs ∧ SqT K H b ys)
    (hs : ∀ (i : Nat) (x y : V) (T : Addr) (H : Hp), xs[i]? = some x → ys[i]? = some y → Pv i H → H T = none → g (.ref T) (wipe σ vs) (upd H T (.tup [x, y])) fun σ2 H2 => wipe σ2 vs = wipe σ vs ∧ tt σ2 H2 fun b H3 =>
      if b = true then te σ2 H3 fun y H4 => ∃ acc, H4 D = some (.lst acc) ∧ acc.length < sizeLine ∧ Pv (i + 1) (upd H4 D (.lst (acc ++ [y]))) else Pv (i + 1) H3) (hd : ∀ H, Pv xs.length H → Qd H) :
    ∃ W : Nat → Nat → Hp → Prop, (∃ m, W 0 m (upd H1 D (.lst []))) ∧ ∀ i m H, W i m H →
      ((ItzT K a b).stop i H ∧ Qd H) ∨ ((ItzT K a b).go i H ∧ ∃ Nx : Hp → Prop, (∀ H', Nx H' → ∃ m', m' < m ∧ W (i + 1) m' H') ∧ ∀ x H', (ItzT K a b).yld i H x H' → g x (wipe σ vs) H' fun σ2 H2 => wipe σ2 vs = wipe σ vs ∧ tt σ2 H2 fun b H3 =>
        if b = true then te σ2 H3 fun y H4 => ∃ acc, H4 D = some (.lst acc) ∧ acc.length < sizeLine ∧ Nx (upd H4 D (.lst (acc ++ [y]))) else Nx H3) := by
  refine ⟨fun i m H => m = xs.length - i ∧ i ≤ xs.length ∧ Pv i H, ⟨xs.length, by simp, Nat.zero_le _, h0⟩, ?_⟩
  rintro i m H ⟨rfl, hi, p⟩
  obtain ⟨qx, qy⟩ := hq i H hi p
  by_cases hlt : i < xs.length
  · have hlt2 : i < ys.length := by omega
    have hx : xs[i]? = some xs[i] := List.getElem?_eq_getElem hlt
    have hy : ys[i]? = some ys[i] := List.getElem?_eq_getElem hlt2
    refine .inr ⟨⟨xs, ys, _, _, qx, qy, hx, hy⟩, Pv (i + 1), fun H' p' => ⟨xs.length - (i + 1), by omega, rfl, hlt, p'⟩, fun v H' y => ?_⟩
    obtain ⟨T, x', y', rfl, hT, rfl, f1, f2⟩ := y
    exact hs i x' y' T H (f1 xs qx) (f2 ys qy) p hT
  · have e : i = xs.length := by omega
    subst e
    exact .inl ⟨⟨xs, ys, qx, qy, Or.inl (Nat.le_refl _)⟩, hd H p⟩
/-- the sign of the first entry that is not 0 -/
def sg : List Int → Int
  | [] => 1
  | x :: xs => if x = 0 then sg xs else if 0 < x then 1 else -1
theorem sg_cases : ∀ l : List Int, sg l = 1 ∨ sg l = -1
  | [] => .inl rfl
  | x :: xs => by
    unfold sg
    split
    · exact sg_cases xs
    · split
      · exact .inl rfl
      · exact .inr rfl
def part (l : List Int) : Int := (cont l : Int) * sg l
theorem part_abs (l : List Int) : (part l).natAbs = cont l := by
  unfold part
  rw [Int.natAbs_mul]
  rcases sg_cases l with e | e <;> rw [e] <;> simp
theorem sm_cont {l : List Int} (h : ∀ x ∈ l, sm x) : cont l < 2 ^ 4000 := by
  by_cases c : ∃ x ∈ l, x ≠ 0
  · obtain ⟨x, hx, h0⟩ := c
    have h1 := Int.natAbs_dvd_natAbs.mpr (cont_dvd l x hx)
    have h2 := Nat.le_of_dvd (Int.natAbs_pos.mpr h0) h1
    exact Nat.lt_of_le_of_lt h2 (h x hx)
  · have hz : ∀ l : List Int, (∀ x ∈ l, x = 0) → cont l = 0 := by
      intro l
      induction l with
      | nil => intro _; rfl
      | cons y ys ih =>
        intro hl
        show Nat.gcd y.natAbs (cont ys) = 0
        rw [ih fun x hx => hl x (List.mem_cons_of_mem _ hx), hl y List.mem_cons_self]
        rfl
    rw [hz l fun x hx => Classical.byContradiction fun q => c ⟨x, hx, q⟩]
    decide
theorem sm_part {l : List Int} (h : ∀ x ∈ l, sm x) : sm (part l) := by
  show (part l).natAbs < _
  rw [part_abs]
  exact sm_cont h
/-- divided by its content, the first entry that is not 0 above 0 -/
def prim (l : List Int) : List Int := if part l = 0 then l else l.map fun x => x.fdiv (part l)
theorem tb_map (f : Int → Int) (l : List Int) : (tb l.length fun k => f (co l k)) = l.map f := by
  conv => rhs; rw [← tb_co l]
  unfold tb
  rw [List.map_map]
  rfl
section
variable {P : Program} {w : World} {K : PySem.W.Frag} {mg : Str → Option Value} {base : Heap}
def spPrim : Sp := fun vs H Q _ => ∃ (t : Addr) (ns : List Int), vs = [.ref t] ∧ H t = some (tp ns) ∧ ns.length ≤ 1000 ∧ (∀ x ∈ ns, sm x) ∧ ∀ p H', Same H H' → H' p = some (tp (prim ns)) → Q (.ref p) H'
/-- the sum of one row and a multiple of the other -/
def zs (c : Int) (xs ys : List Int) : List Int := List.zipWith (fun x y => x + c * y) xs ys
end
end K83

set_option Elab.async false
set_option linter.all false
set_option maxRecDepth 100000
set_option maxHeartbeats 4000000
namespace K83
open PySem PySem.Spec PyProof.Rows L2 StX RZ MyR SlX OwnR OwnF
/-! ### == of tuples of ints -/
theorem dpAll_ints {K : PySem.W.Frag} {H : Hp} : ∀ ns : List Int, DpAll K H (ns.map V.int) (ns.map PyData.int)
  | [] => .nil
  | n :: r => .cons (.int n) (dpAll_ints r)
theorem lay_ints : ∀ ns : List Int, PyData.canLayAll0 (ns.map PyData.int) = true
  | [] => rfl
  | n :: r => by
    show (PyData.canLay0 (.int n) && PyData.canLayAll0 (r.map PyData.int)) = true
    rw [lay_ints r]
    rfl
theorem depth_ints : ∀ ns : List Int, PyData.depthAll (ns.map PyData.int) = 0
  | [] => rfl
  | n :: r => by
    show max (PyData.depth (.int n)) (PyData.depthAll (r.map PyData.int)) = 0
    rw [depth_ints r]
    rfl
theorem shaped_tints (ns : List Int) : SeqAt.shaped (.tuple (ns.map PyData.int)) = true := by
  unfold SeqAt.shaped
  rw [show PyData.canLay0 (.tuple (ns.map PyData.int)) = PyData.canLayAll0 (ns.map PyData.int) from rfl, lay_ints]
  rw [show PyData.depth (.tuple (ns.map PyData.int)) = PyData.depthAll (ns.map PyData.int) + 1 from rfl, depth_ints]
  rfl
/-! ### the properties, the operators -/
section
variable {P : Program} {w : World} {K : PySem.W.Frag} {mg : Str → Option Value} {base : Heap}
def spEnt (C : Addr) : Sp := fun vs H Q _ => ∃ (a : Addr) (ns : List Int), vs = [.ref a] ∧ Fo C H a ns ∧ ∀ t, H t = some (tp ns) → Q (.ref t) H
theorem ok_Form_entries (T : Facts K mg) : FnOk P w K mg base CX0 1 T.f_Form_entries T.fd_Form_entries ["self"] (spEnt T.C_Form) := by
  refine T.F_Form_entries.ok sc_Form_entries (fun vs H Q E h => ?_) (fun cdv A outer s H vs Q E hr h => ?_)
  · obtain ⟨a, ns, rfl, _⟩ := h
    rfl
  · obtain ⟨a, ns, rfl, fa, q⟩ := h
    obtain ⟨dx, t, ha, ht⟩ := fa.slt
    refine ⟨_, (PSs.nox (pss_one (ps_ret (pe_sl (pv 0))))), ?_⟩
    exact ⟨_, rfl, a, T.C_Form, dx, T.a_own_entries, _, 0, .ref t, rfl, ha, T.oc_Form.scl, T.sl_own_entries, rfl, q t ht⟩
def spDeg (C : Addr) : Sp := fun vs H Q _ => ∃ (a : Addr) (ns : List Int), vs = [.ref a] ∧ Fo C H a ns ∧ Q (.int ((ns.length : Int) - 1)) H
theorem ok_Form_degree (T : Facts K mg) : FnOk P w K mg base CX0 1 T.f_Form_degree T.fd_Form_degree ["self"] (spDeg T.C_Form) := by
  refine T.F_Form_degree.ok sc_Form_degree (fun vs H Q E h => ?_) (fun cdv A outer s H vs Q E hr h => ?_)
  · obtain ⟨a, ns, rfl, _⟩ := h
    rfl
  · obtain ⟨a, ns, rfl, fa, q⟩ := h
    obtain ⟨dx, t, ha, ht⟩ := fa.slt
    refine ⟨_, (PSs.nox (pss_one (ps_ret (pe_op op_sub (pe_callB call_len_seq (by rfl) T.z_len (by decide +kernel) (pa_cons (pe_sl (pv 0)) pa_nil)) pe_int)))), ?_⟩
    refine ⟨_, rfl, a, T.C_Form, dx, T.a_own_entries, _, 0, .ref t, rfl, ha, T.oc_Form.scl, T.sl_own_entries, rfl, t, _, rfl, .inr (SqT.of ht), _, _, rfl, rfl, ?_⟩
    rw [List.length_map]
    exact q
/-- what is asked of a form's row -/
structure Rw (ns : List Int) : Prop where
  ne : ns ≠ []
  len : ns.length ≤ 100
  sm : ∀ x ∈ ns, sm x
/-- isinstance(x, Form), x a form -/
theorem isi_form {X : Cx} {C b dy : Addr} {vs : List (Option V)} {H : Hp} {Q : VK} (c : OC X.K C) (hb : Slt H b C dy vs) (q : Q (.bl true) H) : rIsi X.K [.ref b, .ref C] H Q ∨ rIsiSl X.K (.ref C) [.ref b, .ref C] H Q :=
  .inr ⟨b, C, dy, vs, .ref C, true, rfl, rfl, fun w r => r, hb, c.scl, c.sis, c.kself, q⟩
end
end K83

set_option Elab.async false
set_option linter.all false
set_option maxRecDepth 100000
set_option maxHeartbeats 4000000
namespace K83
open PySem PySem.Spec PyProof.Rows L2 StX RZ MyR SlX OwnR OwnF
theorem eqvAll_ints : ∀ xs ys : List Int, PyData.eqvAll (xs.map PyData.int) (ys.map PyData.int) = decide (xs = ys)
  | [], [] => rfl
  | [], _ :: _ => rfl
  | _ :: _, [] => rfl
  | x :: xs, y :: ys => by
    show (PyData.eqv (.int x) (.int y) && PyData.eqvAll (xs.map PyData.int) (ys.map PyData.int)) = _
    rw [eqvAll_ints xs ys]
    show ((x == y) && decide (xs = ys)) = decide (x :: xs = y :: ys)
    by_cases h : x = y
    · by_cases k : xs = ys
      · subst h k
        simp
      · rw [decide_eq_false k, decide_eq_false fun z => k (List.cons.inj z).2, Bool.and_false]
    · rw [decide_eq_false fun z => h (List.cons.inj z).1, beq_eq_false_iff_ne.mpr h, Bool.false_and]
theorem eqv_ints (xs ys : List Int) : PyData.eqv (.tuple (xs.map PyData.int)) (.tuple (ys.map PyData.int)) = decide (xs = ys) := eqvAll_ints xs ys
theorem eq_ints {K : PySem.W.Frag} {H : Hp} {a b : Addr} {xs ys : List Int} {Q : VK} (ha : SqT K H a (xs.map V.int)) (hb : SqT K H b (ys.map V.int)) (q : Q (.bl (decide (xs = ys))) H) : rEqD K (.ref a) (.ref b) H Q := by
  refine ⟨_, _, .tup ha (dpAll_ints xs), .tup hb (dpAll_ints ys), shaped_tints xs, shaped_tints ys, ?_⟩
  rw [eqv_ints]
  exact q
theorem ne_ints {K : PySem.W.Frag} {H : Hp} {a b : Addr} {xs ys : List Int} {Q : VK} (ha : SqT K H a (xs.map V.int)) (hb : SqT K H b (ys.map V.int)) (q : Q (.bl (!decide (xs = ys))) H) : rNeD K (.ref a) (.ref b) H Q := by
  refine ⟨_, _, .tup ha (dpAll_ints xs), .tup hb (dpAll_ints ys), shaped_tints xs, shaped_tints ys, ?_⟩
  rw [eqv_ints]
  exact q
section
variable {P : Program} {w : World} {K : PySem.W.Frag} {mg : Str → Option Value} {base : Heap}
/-- == : with a form, with a tuple -/
def spEqF (C : Addr) : Sp := fun vs H Q _ => ∃ (a : Addr) (xs : List Int) (b : Addr), vs = [.ref a, .ref b] ∧ Fo C H a xs ∧
  ((∃ ys, Fo C H b ys ∧ Q (.bl (decide (xs = ys))) H) ∨ (∃ ys, H b = some (tp ys) ∧ Q (.bl false) H))
theorem ok_Form_eq (T : Facts K mg) : FnOk P w K mg base CX0 1 T.f_Form_eq T.fd_Form_eq ["self", "other"] (spEqF T.C_Form) := by
  refine T.F_Form_eq.ok sc_Form_eq (fun vs H Q E h => ?_) (fun cdv A outer s H vs Q E hr h => ?_)
  · obtain ⟨a, xs, b, rfl, _⟩ := h
    rfl
  · obtain ⟨a, xs, b, rfl, fa, h⟩ := h
    obtain ⟨dx, t, ha, ht⟩ := fa.slt
    refine ⟨_, (PSs.nox (pss_one (ps_ret (pe_and (pe_callB (call_isiF T.C_Form) (by rfl) T.z_isinstance (by decide +kernel) (pa_cons (pv 1) (pa_cons (pe_glob (v := .ref T.C_Form) (by rfl) T.g_Form rfl) pa_nil))) (pe_one (pe_cmpR (op_eqD (hu64 hr)) (pe_sl (pv 0)) (pe_sl (pv 1)) (nomark _))))))), ?_⟩
    rcases h with ⟨ys, fb, q⟩ | ⟨ys, hb, q⟩
    · obtain ⟨dy, u, hb, hu⟩ := fb.slt
      refine ⟨_, rfl, isi_form (X := (cxOf CX0 P w K mg base N_Form_eq (Str.ofString "Form.__eq__") (defScope s_Form_eq) T.f_Form_eq cdv A outer s H E).nox) T.oc_Form hb ⟨true, rfl, iteT ?_⟩⟩
      exact ⟨_, rfl, a, T.C_Form, dx, T.a_own_entries, _, 0, .ref t, rfl, ha, T.oc_Form.scl, T.sl_own_entries, rfl, _, rfl, b, T.C_Form, dy, T.a_own_entries, _, 0, .ref u, rfl, hb, T.oc_Form.scl, T.sl_own_entries, rfl, eq_ints (SqT.of ht) (SqT.of hu) q⟩
    · exact ⟨_, rfl, .inl ⟨.ref b, .ref T.C_Form, .type "tuple", .ref T.C_Form, false, rfl, .own _, .base (.tup hb), T.oc_Form.ktup, false, rfl, iteF q⟩⟩
end
end K83

set_option Elab.async false
set_option linter.all false
set_option maxRecDepth 100000
set_option maxHeartbeats 4000000
namespace K83
open PySem PySem.Spec PyProof.Rows L2 StX RZ MyR SlX OwnR OwnF
abbrev dice (x y z : Int) : HO := .lst [.int x, .int y, .int z]
/-- all but the dice is as it was -/
def Sx (a : Addr) (H H' : Hp) : Prop := ∀ b o, b ≠ a → H b = some o → H' b = some o
def Dc (H : Hp) (a : Addr) : Prop := ∃ x y z, H a = some (dice x y z)
theorem Sx.refl (a : Addr) (H : Hp) : Sx a H H := fun _ _ _ h => h
theorem Sx.trans {a : Addr} {H H1 H2 : Hp} (s : Sx a H H1) (t : Sx a H1 H2) : Sx a H H2 := fun b o n h => t b o n (s b o n h)
theorem Sx.of {a : Addr} {H H' : Hp} (s : Same H H') : Sx a H H' := fun b o _ h => s b o h
theorem Sx.upd {a : Addr} {H : Hp} {o : HO} : Sx a H (upd H a o) := fun b u n h => by
  rw [upd_ne n]
  exact h
theorem Dc.same {a : Addr} {H H' : Hp} (d : Dc H a) (s : Same H H') : Dc H' a := by
  obtain ⟨x, y, z, e⟩ := d
  exact ⟨x, y, z, s _ _ e⟩
theorem Dc.ne {a p : Addr} {H : Hp} (d : Dc H a) (n : H p = none) : p ≠ a := fun e => by
  obtain ⟨x, y, z, h⟩ := d
  rw [e, h] at n
  cases n
theorem Sx.free {a p : Addr} {H H' : Hp} (s : Sx a H H') (n : H' p = none) (ne : p ≠ a) : H p = none := by
  cases q : H p with
  | none => rfl
  | some o =>
    rw [s p o ne q] at n
    cases n
section
variable {P : Program} {w : World} {K : PySem.W.Frag} {mg : Str → Option Value} {base : Heap}
theorem cp16 : CPow 10 16 := ⟨by decide, by decide, by decide⟩
theorem cp60 : CPow 10 60 := ⟨by decide, by decide, by decide⟩
theorem cw60 : CMulW (10 ^ Int.toNat 60) (10 ^ Int.toNat 60) := by
  unfold CMulW
  decide +kernel
theorem pos60 : (0 : Int) < 10 ^ Int.toNat 60 * 10 ^ Int.toNat 60 := by decide +kernel
theorem pos_m : (0 : Int) < 1152921504606846697 := by decide
theorem sz3 : 3 ≤ sizeLine := by decide
def spDice (K : PySem.W.Frag) : Sp := fun vs H Q _ => ∃ (a : Addr) (ns : List Int) (k : Nat), vs = [.ref a, .int k] ∧ SqL K H a (ns.map V.int) ∧ ∀ p x y z, H p = none → Q (.ref p) (upd H p (dice x y z))
theorem ok_law_dice (T : Facts K mg) : FnOk P w K mg base CX0 1 T.f_law_dice T.fd_law_dice ["_law_script", "_law_spot"] (spDice K) := by
  refine T.F_law_dice.ok sc_law_dice (fun vs H Q E h => ?_) (fun cdv A outer s H vs Q E hr h => ?_)
  · obtain ⟨a, ns, k, rfl, _⟩ := h
    rfl
  · obtain ⟨a, ns, k, rfl, hS, q⟩ := h
    refine ⟨_, (PSs.nox (pss_cons (ps_set (i := 2) sc_law_dice.nd rfl (.inl rfl) (pe_ifExp (pt_cmpR op_lt (pv 1) (pe_callB call_len_seq (by rfl) T.z_len (by decide +kernel) (pa_cons (pv 0) pa_nil)) (nomark _)) (pe_callTy call_int1 (by rfl) T.z_int (by decide +kernel) (pa_cons (pe_ix ix_list (pv 0) (pv 1) (fun _ _ => rfl)) pa_nil)) (pe_op op_add (pe_op op_mul pe_int (pv 1)) pe_int)))
    (pss_cons (ps_set (i := 3) sc_law_dice.nd rfl (.inl rfl) (pe_op op_mod (pe_callB (call_max2 (by rfl)) (by rfl) T.z_max (by decide +kernel) (pa_cons pe_int (pa_cons (pe_op op_sub (pe_callB call_abs (by rfl) T.z_abs (by decide +kernel) (pa_cons (pv 2) pa_nil)) (pe_op op_pow pe_int pe_int)) pa_nil))) (pe_op op_mulW (pe_op op_pow pe_int pe_int) (pe_op op_pow pe_int pe_int))))
    (pss_one (ps_ret (pe_lst (pa_cons (pv 3) (pa_cons (pe_op op_add (pe_op op_add (pe_op op_add (pe_op op_mul (pe_op op_mod (pe_callB call_abs (by rfl) T.z_abs (by decide +kernel) (pa_cons (pv 2) pa_nil)) pe_int) pe_int) (pe_op op_mul pe_int (pv 1))) (pe_op op_mul pe_int (pe_callTy call_int1 (by rfl) T.z_int (by decide +kernel) (pa_cons (pe_cmpR op_lt (pv 2) pe_int (nomark _)) pa_nil)))) pe_int) (pa_cons pe_int pa_nil))))))))), ?_⟩
    refine ⟨.int k, rfl, .ref a, rfl, a, ns.map V.int, rfl, .inl hS, k, _, rfl, rfl, _, rfl, ?_⟩
    rw [List.length_map]
    by_cases h1 : (k : Int) < (ns.length : Int)
    · rw [decide_eq_true h1]
      have hj : k < ns.length := by omega
      refine iteT ⟨.ref a, rfl, .int k, rfl, a, ns.map V.int, k, .int ns[k], rfl, rfl, hS, atI_nat (by rw [List.getElem?_map, List.getElem?_eq_getElem hj]; rfl), .inl ⟨_, rfl, ?_⟩⟩
      refine ⟨.int ns[k], rfl, _, rfl, 10, 16, rfl, rfl, cp16, _, _, rfl, rfl, 0, _, rfl, 10, 60, rfl, rfl, cp60, 10, 60, rfl, rfl, cp60, _, _, rfl, rfl, cw60, _, _, rfl, rfl, pos60, ?_⟩
      refine ⟨_, rfl, .int ns[k], rfl, _, rfl, _, _, rfl, rfl, pos_m, _, _, rfl, rfl, .inr ⟨by decide, by decide⟩, .int k, rfl, _, _, rfl, rfl, .inl ⟨by decide, by decide⟩, _, _, rfl, rfl, .int ns[k], rfl, _, _, rfl, rfl, .inr ⟨_, rfl, _, _, rfl, rfl, .inl ⟨by decide, by decide⟩, _, _, rfl, rfl, _, _, rfl, rfl, ?_⟩⟩
      exact ⟨sz3, fun p hp => q p _ _ _ hp⟩
    · rw [decide_eq_false h1]
      refine iteF ⟨.int k, rfl, _, _, rfl, rfl, .inl ⟨by decide, by decide⟩, _, _, rfl, rfl, ?_⟩
      refine ⟨_, rfl, _, rfl, 10, 16, rfl, rfl, cp16, _, _, rfl, rfl, 0, _, rfl, 10, 60, rfl, rfl, cp60, 10, 60, rfl, rfl, cp60, _, _, rfl, rfl, cw60, _, _, rfl, rfl, pos60, ?_⟩
      refine ⟨_, rfl, _, rfl, _, rfl, _, _, rfl, rfl, pos_m, _, _, rfl, rfl, .inr ⟨by decide, by decide⟩, .int k, rfl, _, _, rfl, rfl, .inl ⟨by decide, by decide⟩, _, _, rfl, rfl, _, rfl, _, _, rfl, rfl, .inr ⟨_, rfl, _, _, rfl, rfl, .inl ⟨by decide, by decide⟩, _, _, rfl, rfl, _, _, rfl, rfl, ?_⟩⟩
      exact ⟨sz3, fun p hp => q p _ _ _ hp⟩
def spRoll : Sp := fun vs H Q _ => ∃ (a : Addr) (x y z n : Int), vs = [.ref a, .int n] ∧ H a = some (dice x y z) ∧ 0 < n ∧ n.natAbs.log2 < 9000 ∧ ∀ r x' z', 0 ≤ r → r < n → Q (.int r) (upd H a (dice x' y z'))
theorem ok_law_roll (T : Facts K mg) : FnOk P w K mg base CX0 1 T.f_law_roll T.fd_law_roll ["_law_dice_here", "_law_total"] spRoll := by
  refine T.F_law_roll.ok sc_law_roll (fun vs H Q E h => ?_) (fun cdv A outer s H vs Q E hr h => ?_)
  · obtain ⟨a, x, y, z, n, rfl, _⟩ := h
    rfl
  · obtain ⟨a, x, y, z, n, rfl, hd, h0, h1, q⟩ := h
    have hS : SqL K H a [.int x, .int y, .int z] := SqL.of hd
    refine ⟨_, (PSs.nox (pss_cons (ps_if (pt_cmpR op_gt (pe_ix ix_list (pv 0) pe_int (fun _ _ => rfl)) pe_int (nomark _))
      (pss_cons (ps_set (i := 2) sc_law_roll.nd rfl (.inl rfl) (pe_op op_mod (pe_callTy call_int1 (by rfl) T.z_int (by decide +kernel) (pa_cons (pe_ix ix_list (pv 0) pe_int (fun _ _ => rfl)) pa_nil)) (pv 1)))
      (pss_cons (ps_asg (pe_op op_fdivW (pe_ix ix_list (pv 0) pe_int (fun _ _ => rfl)) (pv 1)) (pg_sub (pv 0) pe_int set_list))
      (pss_one (ps_ret (pv 2)))))
      pss_nil)
    (pss_cons (ps_asg (pe_op op_add (pe_ix ix_list (pv 0) pe_int (fun _ _ => rfl)) pe_int) (pg_sub (pv 0) pe_int set_list))
    (pss_cons (ps_set (i := 3) sc_law_roll.nd rfl (.inl rfl) (pe_op op_mod (pe_callTy call_int1 (by rfl) T.z_int (by decide +kernel) (pa_cons (pe_op op_add (pe_ix ix_list (pv 0) pe_int (fun _ _ => rfl)) (pe_op op_mul pe_int (pe_ix ix_list (pv 0) pe_int (fun _ _ => rfl)))) pa_nil)) pe_int))
    (pss_cons (ps_set (i := 4) sc_law_roll.nd rfl (.inl rfl) (pe_op op_add (pe_op op_mul (pe_op op_mod (pe_callTy call_int1 (by rfl) T.z_int (by decide +kernel) (pa_cons (pe_op op_add (pe_op op_mul (pv 3) (pv 3)) (pe_op op_mul pe_int (pe_ix ix_list (pv 0) pe_int (fun _ _ => rfl)))) pa_nil)) pe_int) pe_int) (pv 3)))
    (pss_one (ps_ret (pe_op op_mod (pe_callTy call_int1 (by rfl) T.z_int (by decide +kernel) (pa_cons (pe_op op_fdivW (pv 4) pe_int) pa_nil)) (pv 1))))))))), ?_⟩
    refine ⟨.ref a, rfl, a, _, 0, .int x, rfl, rfl, hS, atI_nat (j := 0) rfl, x, 0, rfl, rfl, decide (0 < x), rfl, ite2 (fun _ => ?_) (fun _ => ?_)⟩
    · refine ⟨.ref a, rfl, a, _, 0, .int x, rfl, rfl, hS, atI_nat (j := 0) rfl, .inl ⟨x, rfl, .int n, rfl, x, n, rfl, rfl, h0, ?_⟩⟩
      refine ⟨.ref a, rfl, a, _, 0, .int x, rfl, rfl, hS, atI_nat (j := 0) rfl, .int n, rfl, x, n, rfl, rfl, ⟨h0, h1⟩, ?_⟩
      refine ⟨.ref a, rfl, a, _, 0, 0, rfl, rfl, hd, rfl, ?_⟩
      exact ⟨_, rfl, q (x % n) (x / n) z (Int.emod_nonneg _ (by omega)) (Int.emod_lt_of_pos _ h0)⟩
    · refine ⟨.ref a, rfl, a, _, 2, .int z, rfl, rfl, hS, atI_nat (j := 2) rfl, z, 1, rfl, rfl, ?_⟩
      refine ⟨.ref a, rfl, a, _, 2, 2, rfl, rfl, hd, rfl, ?_⟩
      have hd' : (upd H a (dice x y (z + 1))) a = some (dice x y (z + 1)) := upd_same
      have hS' : SqL K (upd H a (dice x y (z + 1))) a [.int x, .int y, .int (z + 1)] := SqL.of hd'
      refine ⟨.ref a, rfl, a, _, 1, .int y, rfl, rfl, hS', atI_nat (j := 1) rfl, .ref a, rfl, a, _, 2, .int (z + 1), rfl, rfl, hS', atI_nat (j := 2) rfl, _, _, rfl, rfl, .inl ⟨by decide, by decide⟩, _, _, rfl, rfl, .inl ⟨_, rfl, _, _, rfl, rfl, (by decide : (0 : Int) < 2305843009213691579), ?_⟩⟩
      have b0 := Int.emod_nonneg (y + 92821991 * (z + 1)) (show (2305843009213691579 : Int) ≠ 0 by decide)
      have b1 := Int.emod_lt_of_pos (y + 92821991 * (z + 1)) (show (0 : Int) < 2305843009213691579 by decide)
      refine ⟨_, rfl, _, rfl, _, _, rfl, rfl, .inl ⟨Int.lt_of_lt_of_le (by decide) b0, Int.lt_trans b1 (by decide)⟩, .ref a, rfl, a, _, 2, .int (z + 1), rfl, rfl, hS', atI_nat (j := 2) rfl, _, _, rfl, rfl, .inl ⟨by decide, by decide⟩, _, _, rfl, rfl, .inl ⟨_, rfl, _, _, rfl, rfl, (by decide : (0 : Int) < 2305843009213692227), _, _, rfl, rfl, .inr ⟨by decide, by decide⟩, _, rfl, _, _, rfl, rfl, ?_⟩⟩
      refine ⟨_, rfl, _, _, rfl, rfl, ⟨by decide, by decide +kernel⟩, .inl ⟨_, rfl, .int n, rfl, _, _, rfl, rfl, h0, ?_⟩⟩
      exact q _ x (z + 1) (Int.emod_nonneg _ (by omega)) (Int.emod_lt_of_pos _ h0)
def spRoll2 : Sp := fun vs H Q _ => ∃ (a : Addr) (n : Int), vs = [.ref a, .int n] ∧ Dc H a ∧ 0 < n ∧ n.natAbs.log2 < 9000 ∧ ∀ (r : Nat) H', (r : Int) < n → Sx a H H' → Dc H' a → Q (.int r) H'
theorem roll2 : ∀ vs H Q E, spRoll2 vs H Q E → spRoll vs H Q E := fun vs H Q E h => by
  obtain ⟨a, n, rfl, ⟨x, y, z, e⟩, h0, h1, q⟩ := h
  refine ⟨a, x, y, z, n, rfl, e, h0, h1, fun r x' z' r0 r1 => ?_⟩
  obtain ⟨j, rfl⟩ := Int.eq_ofNat_of_zero_le r0
  exact q j _ r1 Sx.upd ⟨x', y, z', upd_same⟩
def spNear : Sp := fun vs H Q _ => ∃ (a : Addr) (m : Int), vs = [.ref a, .int m] ∧ Dc H a ∧ 0 ≤ m ∧ m ≤ 10 ^ 15 ∧ ∀ r H', -m ≤ r → r ≤ m → Sx a H H' → Dc H' a → Q (.int r) H'
theorem ok_law_near (T : Facts K mg) : FnOk P w K mg base CX0 2 T.f_law_near T.fd_law_near ["_law_dice_here", "_law_most"] spNear := by
  have G_law_roll : FnOk P w K mg base CX0 1 T.f_law_roll T.fd_law_roll ["_law_dice_here", "_law_total"] spRoll2 := (ok_law_roll T).imp roll2
  refine T.F_law_near.ok sc_law_near (fun vs H Q E h => ?_) (fun cdv A outer s H vs Q E hr h => ?_)
  · obtain ⟨a, m, rfl, _⟩ := h
    rfl
  · obtain ⟨a, m, rfl, hd, h0, h1, q⟩ := h
    refine ⟨_, (PSs.nox (pss_one (ps_ret (pe_op op_sub (pe_call G_law_roll hr (by rfl) T.g_law_roll T.F_law_roll.kp T.b_law_roll .nil pass0 (pa_cons (pv 0) (pa_cons (pe_op op_add (pe_op op_mul pe_int (pv 1)) pe_int) pa_nil))) (pv 1))))), ?_⟩
    have e15 : (10 : Int) ^ 15 = 1000000000000000 := by decide
    rw [e15] at h1
    refine ⟨_, rfl, _, rfl, _, _, rfl, rfl, .inl ⟨by decide, by decide⟩, _, _, rfl, rfl, a, _, rfl, hd, (by show 0 < 2 * m + 1; omega), ?_, fun r H' hr s d => ⟨_, rfl, _, _, rfl, rfl, ?_⟩⟩
    · refine Nat.lt_trans (PySem.Flt.log2_lt_of (k := 60) (by decide) ?_) (by decide)
      show (2 * m + 1).natAbs < 2 ^ 60
      omega
    · have hr' : (r : Int) < 2 * m + 1 := hr
      exact q _ H' (by omega) (by omega) s d
/-! ### the law's own gcd -/
def spLGcd : Sp := fun vs H Q _ => ∃ t b : Int, vs = [.int t, .int b] ∧ Q (.int ((Nat.gcd t.natAbs b.natAbs : Nat) : Int)) H
def yOf : L2.St → Nat
  | [_, some (.int y)] => y.toNat
  | _ => 0
theorem abs_nat (i : Int) : (if i < 0 then -i else i) = (i.natAbs : Int) := by split <;> omega
theorem ok_law_gcd (T : Facts K mg) : FnOk P w K mg base CX0 1 T.f_law_gcd T.fd_law_gcd ["_law_one", "_law_other"] spLGcd := by
  refine T.F_law_gcd.ok sc_law_gcd (fun vs H Q E h => ?_) (fun cdv A outer s H vs Q E hr h => ?_)
  · obtain ⟨t, b, rfl, _⟩ := h
    rfl
  · obtain ⟨t, b, rfl, q⟩ := h
    refine ⟨_, (PSs.nox (pss_cons (ps_par (i := 0) (j := 1) (by rfl) sc_law_gcd.nd rfl rfl (by decide) rfl rfl (pa_cons (pe_callB call_abs (by rfl) T.z_abs (by decide +kernel) (pa_cons (pv 0) pa_nil)) (pa_cons (pe_callB call_abs (by rfl) T.z_abs (by decide +kernel) (pa_cons (pv 1) pa_nil)) pa_nil)) (by rfl))
    (pss_cons (ps_while PassesOwn.never (pt_cmpR op_gt (pv 1) pe_int (nomark _))
      (pss_one (ps_par (i := 0) (j := 1) (by rfl) sc_law_gcd.nd rfl rfl (by decide) rfl rfl (pa_cons (pv 1) (pa_cons (pe_op op_mod (pe_callTy call_int1 (by rfl) T.z_int (by decide +kernel) (pa_cons (pv 0) pa_nil)) (pv 1)) pa_nil)) (by rfl))))
    (pss_one (ps_ret (pv 0)))))), ?_⟩
    refine ⟨_, rfl, t, rfl, _, rfl, b, rfl, _, _, rfl, ?_⟩
    rw [abs_nat, abs_nat]
    refine while_by (fun σ H' => ∃ x y : Nat, σ = [some (.int x), some (.int y)] ∧ Nat.gcd x y = Nat.gcd t.natAbs b.natAbs ∧ H' = H) (fun σ _ => yOf σ) ⟨_, _, rfl, rfl, rfl⟩ (fun σ H' hP => ?_) (fun σ H' Q1 Q2 hQ h => ?_)
    · obtain ⟨x, y, rfl, hg, rfl⟩ := hP
      refine ⟨_, rfl, _, _, rfl, rfl, _, rfl, ?_⟩
      by_cases c : 0 < (y : Int)
      · rw [decide_eq_true c]
        refine iteT ⟨_, rfl, _, rfl, .inl ⟨_, rfl, _, rfl, _, _, rfl, rfl, c, _, _, rfl, ?_⟩⟩
        have e : (x : Int) % (y : Int) = ((x % y : Nat) : Int) := (Int.natCast_emod x y).symm
        refine ⟨⟨y, x % y, ?_, ?_, rfl⟩, ?_⟩
        · show [some (V.int y), some (V.int ((x : Int) % (y : Int)))] = _
          rw [e]
        · rw [← hg, Nat.gcd_comm x y, Nat.gcd_rec y x, Nat.gcd_comm]
        · show ((x : Int) % (y : Int)).toNat < (y : Int).toNat
          rw [e]
          have := Nat.mod_lt x (show y > 0 by omega)
          omega
      · rw [decide_eq_false c]
        have ey : y = 0 := by omega
        subst ey
        refine iteF ⟨_, rfl, ?_⟩
        rw [← hg, Nat.gcd_zero_right] at q
        exact q
    · obtain ⟨v, e, x1, x2, e1, e2, k, e3, h⟩ := h
      exact ⟨v, e, x1, x2, e1, e2, k, e3, hQ _ _ h⟩
end
end K83

set_option Elab.async false
set_option linter.all false
set_option maxRecDepth 100000
set_option maxHeartbeats 4000000
namespace K83
open PySem PySem.Spec PyProof.Rows L2 StX RZ MyR SlX OwnR OwnF
theorem cont_snoc (x : Int) : ∀ l : List Int, cont (l ++ [x]) = Nat.gcd (cont l) x.natAbs
  | [] => by
    show Nat.gcd x.natAbs 0 = Nat.gcd 0 x.natAbs
    rw [Nat.gcd_zero_right, Nat.gcd_zero_left]
  | y :: ys => by
    show Nat.gcd y.natAbs (cont (ys ++ [x])) = Nat.gcd (Nat.gcd y.natAbs (cont ys)) x.natAbs
    rw [cont_snoc x ys, Nat.gcd_assoc]
theorem take_snoc {xs : List Int} {i : Nat} (h : i < xs.length) : xs.take (i + 1) = xs.take i ++ [co xs i] := by
  rw [List.take_add_one, List.getElem?_eq_getElem h, co_get h]
  rfl
theorem int_get {xs : List Int} {i : Nat} {x : V} (h : (xs.map V.int)[i]? = some x) : i < xs.length ∧ x = .int (co xs i) := by
  have hi : i < xs.length := by
    have := (List.getElem?_eq_some_iff.mp h).1
    rw [List.length_map] at this
    exact this
  rw [get_int hi] at h
  cases h
  exact ⟨hi, rfl⟩
theorem tab_snoc (n : Nat) (f : Nat → Int) : tab n f ++ [V.int (f n)] = tab (n + 1) f := by
  unfold tab
  rw [List.range_succ, List.map_append]
  rfl
theorem zs_tb {c : Int} {xs ys : List Int} (hl : xs.length = ys.length) : (tb xs.length fun k => co xs k + c * co ys k) = zs c xs ys := by
  refine co_inj (by rw [tb_len]; unfold zs; rw [List.length_zipWith, hl, Nat.min_self]) fun k => ?_
  rw [co_tb]
  unfold zs
  by_cases hk : k < xs.length
  · rw [if_pos hk, co_get (l := List.zipWith _ _ _) (by rw [List.length_zipWith]; omega), List.getElem_zipWith, co_get hk, co_get (by omega)]
  · rw [if_neg hk, co_far (by rw [List.length_zipWith]; omega)]
section
variable {P : Program} {w : World} {K : PySem.W.Frag} {mg : Str → Option Value} {base : Heap}
def spShared : Sp := fun vs H Q _ => ∃ (t : Addr) (ns : List Int), vs = [.ref t] ∧ H t = some (tp ns) ∧ Q (.int (cont ns : Nat)) H
def spSharedC (K : PySem.W.Frag) : Sp := fun vs H Q _ => ∃ (t : Addr) (ns : List Int), vs = [.ref t] ∧ (SqT K H t (ns.map V.int) ∨ SqL K H t (ns.map V.int)) ∧ Q (.int (cont ns : Nat)) H
theorem ok_law_sharedC (T : Facts K mg) : FnOk P w K mg base CX0 2 T.f_law_shared T.fd_law_shared ["_law_numbers"] (spSharedC K) := by
  have G_law_gcd : FnOk P w K mg base CX0 1 T.f_law_gcd T.fd_law_gcd ["_law_one", "_law_other"] spLGcd := ok_law_gcd T
  refine T.F_law_shared.ok sc_law_shared (fun vs H Q E h => ?_) (fun cdv A outer s H vs Q E hr h => ?_)
  · obtain ⟨t, ns, rfl, _⟩ := h
    rfl
  · obtain ⟨t, ns, rfl, ht, q⟩ := h
    refine ⟨_, (PSs.nox (pss_cons (ps_set (i := 1) sc_law_shared.nd rfl (.inl rfl) pe_int)
    (pss_cons (ps_for PassesOwn.never (by rfl) (SeqE.PI_or (pi_tup (pv 0)) (pi_list (pv 0))) (pg_name (i := 2) sc_law_shared.nd rfl (.inl rfl))
      (pss_one (ps_set (i := 1) sc_law_shared.nd rfl (.inl rfl) (pe_call G_law_gcd hr (by rfl) T.g_law_gcd T.F_law_gcd.kp T.b_law_gcd .nil pass0 (pa_cons (pv 1) (pa_cons (pv 2) pa_nil))))))
    (pss_one (ps_ret (pv 1)))))), ?_⟩
    rcases ht with ht | ht
    · refine .inl ⟨_, rfl, t, rfl, ⟨_, ht⟩, for_tup (xs := ns.map V.int) (fun i σ H' => ∃ y, σ = [some (.ref t), some (.int ((cont (ns.take i) : Nat) : Int)), y] ∧ H' = H) ⟨none, rfl, rfl⟩ (fun i σ H' _ hP => by rw [hP.choose_spec.2]; exact ht) (fun i x σ H' hx hP => ?_) (fun σ H' hP => ?_)⟩
      · obtain ⟨y, rfl, rfl⟩ := hP
        obtain ⟨hi, rfl⟩ := int_get hx
        refine ⟨_, rfl, _, rfl, _, _, rfl, some (.int (co ns i)), ?_, rfl⟩
        rw [take_snoc hi, cont_snoc]
        rfl
      · obtain ⟨y, rfl, rfl⟩ := hP
        rw [List.length_map, List.take_length]
        exact ⟨_, rfl, q⟩
    · refine .inr ⟨_, rfl, t, rfl, ⟨_, ht⟩, for_list (xs := ns.map V.int) (fun i σ H' => ∃ y, σ = [some (.ref t), some (.int ((cont (ns.take i) : Nat) : Int)), y] ∧ H' = H) ⟨none, rfl, rfl⟩ (fun i σ H' _ hP => by rw [hP.choose_spec.2]; exact ht) (fun i x σ H' hx hP => ?_) (fun σ H' hP => ?_)⟩
      · obtain ⟨y, rfl, rfl⟩ := hP
        obtain ⟨hi, rfl⟩ := int_get hx
        refine ⟨_, rfl, _, rfl, _, _, rfl, some (.int (co ns i)), ?_, rfl⟩
        rw [take_snoc hi, cont_snoc]
        rfl
      · obtain ⟨y, rfl, rfl⟩ := hP
        rw [List.length_map, List.take_length]
        exact ⟨_, rfl, q⟩
theorem ok_law_shared (T : Facts K mg) : FnOk P w K mg base CX0 2 T.f_law_shared T.fd_law_shared ["_law_numbers"] spShared := (ok_law_sharedC T).imp fun vs H Q E h => by
  obtain ⟨t, ns, rfl, ht, q⟩ := h
  exact ⟨t, ns, rfl, .inl (SqT.of ht), q⟩
def spPlus : Sp := fun vs H Q _ => ∃ (t u : Addr) (xs ys : List Int), vs = [.ref t, .ref u] ∧ H t = some (tp xs) ∧ H u = some (tp ys) ∧ xs.length = ys.length ∧ xs.length ≤ 100 ∧ ∀ p H', Same H H' → H p = none → H' p = some (tp (zs 1 xs ys)) → Q (.ref p) H'
theorem ok_law_plus (T : Facts K mg) : FnOk P w K mg base CX0 1 T.f_law_plus T.fd_law_plus ["_law_one", "_law_other"] spPlus := by
  refine T.F_law_plus.ok sc_law_plus (fun vs H Q E h => ?_) (fun cdv A outer s H vs Q E hr h => ?_)
  · obtain ⟨t, u, xs, ys, rfl, _⟩ := h
    rfl
  · obtain ⟨t, u, xs, ys, rfl, ht, hu, hl, hlt, q⟩ := h
    refine ⟨_, (PSs.nox (pss_one (ps_ret (pe_tupleOf (by rfl) T.z_tuple (pe_lc (own := [("_law_first", 2), ("_law_second", 3)]) (g := (gTup K 2 (gCons (gName 2) (gCons (gName 3) gNil)))) (tt := tYes) (by rfl) sc_law_plus.nd (pi_zipA (by rfl) T.z_zip (pa_cons (pv 0) (pa_cons (pv 1) pa_nil))) (blkOk_by (N := N_law_plus) (sc := defScope s_law_plus) (by decide +kernel)) (fun _ _ _ _ _ => (pg_tup (by rfl) (pgs_cons (pg_name (i := 2) sc_law_plus.nd rfl (.inl rfl)) (pgs_cons (pg_name (i := 3) sc_law_plus.nd rfl (.inl rfl)) pgs_nil)))) (fun _ _ _ _ _ => pts_nil) (fun _ _ _ _ _ => (pe_op op_add (pv 2) (pv 3)))))))), ?_⟩
    refine ⟨_, rfl, _, rfl, t, u, _, _, rfl, .inr ⟨SqT.of ht, SqT.of hu, fun D hD => ?_⟩⟩
    refine lc_zipT (xs := xs.map V.int) (ys := ys.map V.int) (by rw [List.length_map, List.length_map, hl]) (fun j H' => Same H H' ∧ H' D = some (.lst (tab j fun k => co xs k + 1 * co ys k))) ⟨same_upd0 hD, upd_same⟩ (fun j H' _ hP => ⟨SqT.of (hP.1 _ _ ht), SqT.of (hP.1 _ _ hu)⟩) (fun j x y A H' hx hy hP hA => ?_) (fun H' hP => ?_)
    · obtain ⟨sH, hD'⟩ := hP
      obtain ⟨hj, rfl⟩ := int_get hx
      obtain ⟨_, rfl⟩ := int_get hy
      have sA := same_upd0 (o := .tup [.int (co xs j), .int (co ys j)]) hA
      refine ⟨A, _, rfl, SqT.of upd_same, rfl, _, _, rfl, _, _, rfl, rfl, rfl, _, rfl, _, rfl, _, _, rfl, rfl, _, sA _ _ hD', ?_, fun b o e => ?_, ?_⟩
      · rw [tab_len]
        exact small1000 (by omega)
      · rw [upd_ne (ne_of_none e hD)]
        exact sA _ _ (sH _ _ e)
      · rw [upd_same, ← tab_snoc]
        show some (HO.lst (tab j _ ++ [V.int (co xs j + co ys j)])) = some (HO.lst (tab j _ ++ [V.int (co xs j + 1 * co ys j)]))
        rw [Int.one_mul]
    · obtain ⟨sH, hD'⟩ := hP
      rw [List.length_map] at hD'
      refine .inl ⟨D, _, rfl, SqL.of hD', fun p hp2 => ?_⟩
      refine q p _ (sH.trans (same_upd0 hp2)) (Same.free sH hp2) ?_
      rw [upd_same, tab_tb, zs_tb hl]
def spScaled : Sp := fun vs H Q _ => ∃ (t : Addr) (xs : List Int) (c : Int), vs = [.ref t, .int c] ∧ H t = some (tp xs) ∧ xs.length ≤ 100 ∧ (∀ x ∈ xs, sm x) ∧ sm c ∧ ∀ p H', Same H H' → H p = none → H' p = some (tp (xs.map fun x => c * x)) → Q (.ref p) H'
theorem ok_law_scaled (T : Facts K mg) : FnOk P w K mg base CX0 1 T.f_law_scaled T.fd_law_scaled ["_law_form_here", "_law_factor"] spScaled := by
  refine T.F_law_scaled.ok sc_law_scaled (fun vs H Q E h => ?_) (fun cdv A outer s H vs Q E hr h => ?_)
  · obtain ⟨t, xs, c, rfl, _⟩ := h
    rfl
  · obtain ⟨t, xs, c, rfl, ht, hl, hs, hc, q⟩ := h
    refine ⟨_, (PSs.nox (pss_one (ps_ret (pe_tupleOf (by rfl) T.z_tuple (pe_lc (own := [("_law_entry", 2)]) (g := (gName 2)) (tt := tYes) (by rfl) sc_law_scaled.nd (pi_tup (pv 0)) (blkOk_by (N := N_law_scaled) (sc := defScope s_law_scaled) (by decide +kernel)) (fun _ _ _ _ _ => (pg_name (i := 2) sc_law_scaled.nd rfl (.inl rfl))) (fun _ _ _ _ _ => pts_nil) (fun _ _ _ _ _ => (pe_op op_mulW (pv 1) (pv 2)))))))), ?_⟩
    refine ⟨_, rfl, t, rfl, ⟨_, SqT.of ht⟩, fun D hD => lc_tup (xs := xs.map V.int) (fun j H' => H' = upd H D (.lst (tab j fun k => c * co xs k))) rfl (fun j H' _ hP => ?_) (fun j x H' hx hP => ?_) (fun H' hP => ?_)⟩
    · rw [hP]
      exact SqT.of (same_upd0 hD _ _ ht)
    · subst hP
      obtain ⟨hj, rfl⟩ := int_get hx
      refine ⟨rfl, ⟨_, rfl, _, rfl, _, _, rfl, rfl, sm_mul hc (sm_co hs hj), _, upd_same, ?_, ?_⟩⟩
      · rw [tab_len]
        exact small1000 (by omega)
      · rw [upd_upd, ← tab_snoc]
    · subst hP
      rw [List.length_map, tab_tb, tb_map (fun x => c * x) xs]
      refine .inl ⟨D, _, rfl, SqL.of upd_same, fun p hp2 => ?_⟩
      exact q p _ ((same_upd0 hD).trans (same_upd0 hp2)) (Same.free (same_upd0 hD) hp2) upd_same
end
end K83

set_option Elab.async false
set_option linter.all false
set_option maxRecDepth 100000
set_option maxHeartbeats 4000000
namespace K83
open PySem PySem.Spec PyProof.Rows L2 StX RZ MyR SlX OwnR OwnF EnumT
section
variable {P : Program} {w : World} {K : PySem.W.Frag} {mg : Str → Option Value} {base : Heap}
def spProd : Sp := fun vs H Q _ => ∃ (a b : Addr) (xs ys : List Int), vs = [.ref a, .ref b] ∧ H a = some (tp xs) ∧ H b = some (tp ys) ∧ xs ≠ [] ∧ ys ≠ [] ∧ xs.length ≤ 100 ∧ ys.length ≤ 100 ∧ (∀ x ∈ xs, sm x) ∧ (∀ x ∈ ys, sm x) ∧ ∀ p H', Same H H' → H p = none → H' p = some (tp (ml xs ys)) → Q (.ref p) H'
theorem ok_law_product (T : Facts K mg) : FnOk P w K mg base CX0 1 T.f_law_product T.fd_law_product ["_law_one", "_law_other"] spProd := by
  refine T.F_law_product.ok sc_law_product (fun vs H Q E h => ?_) (fun cdv A outer s H vs Q E hr h => ?_)
  · obtain ⟨a, b, xs, ys, rfl, _⟩ := h
    rfl
  · obtain ⟨a, b, xs, ys, rfl, ha, hb, nx, ny, lx, ly, hx, hy, q⟩ := h
    have px : 0 < xs.length := List.length_pos_iff.mpr nx
    have py : 0 < ys.length := List.length_pos_iff.mpr ny
    refine ⟨_, (PSs.nox (pss_cons (ps_setLc (i := 2) (own := [("_law_place", 3)]) (g := (gName 3)) (tt := tYes) rfl sc_law_product.nd rfl rfl (sw_true rfl rfl rfl (by decide +kernel)) (pi_range1 (by rfl) T.z_range (pa_cons (pe_op op_sub (pe_op op_add (pe_callB call_len_seq (by rfl) T.z_len (by decide +kernel) (pa_cons (pv 0) pa_nil)) (pe_callB call_len_seq (by rfl) T.z_len (by decide +kernel) (pa_cons (pv 1) pa_nil))) pe_int) pa_nil)) (blkOk_by (N := N_law_product) (sc := defScope s_law_product) (by decide +kernel)) (fun _ _ _ _ _ => (pg_name (i := 3) sc_law_product.nd rfl (.inl rfl))) (fun _ _ _ _ _ => pts_nil) (fun _ _ _ _ _ => pe_int))
    (pss_cons (ps_for PassesOwn.never (by rfl) (pi_enumT (by rfl) T.z_enumerate (pa_cons (pv 0) pa_nil)) (pg_tup (by rfl) (pgs_cons (pg_name (i := 4) sc_law_product.nd rfl (.inl rfl)) (pgs_cons (pg_name (i := 5) sc_law_product.nd rfl (.inl rfl)) pgs_nil)))
      (pss_one (ps_for PassesOwn.never (by rfl) (pi_enumT (by rfl) T.z_enumerate (pa_cons (pv 1) pa_nil)) (pg_tup (by rfl) (pgs_cons (pg_name (i := 3) sc_law_product.nd rfl (.inl rfl)) (pgs_cons (pg_name (i := 6) sc_law_product.nd rfl (.inl rfl)) pgs_nil)))
        (pss_one (ps_asg (pe_op op_add (pe_ix ix_list (pv 2) (pe_op op_add (pv 4) (pv 3)) (fun _ _ => rfl)) (pe_op op_mulW (pv 5) (pv 6))) (pg_sub (pv 2) (pe_op op_add (pv 4) (pv 3)) set_list))))))
    (pss_one (ps_ret (pe_tupleOf (by rfl) T.z_tuple (pv 2))))))), ?_⟩
    refine ⟨_, rfl, a, _, rfl, .inr (SqT.of ha), _, rfl, b, _, rfl, .inr (SqT.of hb), ?_⟩
    rw [List.length_map, List.length_map]
    obtain ⟨N, hN⟩ : ∃ N, N = xs.length + ys.length - 1 := ⟨_, rfl⟩
    have eN : (((xs.length : Int) + (ys.length : Int) - 1)).toNat = N := by omega
    refine ⟨_, _, rfl, rfl, _, _, rfl, rfl, _, rfl, (by show -(2 ^ 62) ≤ (xs.length : Int) + (ys.length : Int) - 1; omega), (by show (xs.length : Int) + (ys.length : Int) - 1 < 2 ^ 62; omega), fun D hD => lc_range (n := _) (fun j H' => H' = upd H D (.lst (List.replicate j (V.int 0)))) rfl (fun j H' hj hP => ?_) (fun H' hP => ?_)⟩
    · subst hP
      have hj2 : j < N := by rw [← eN]; exact hj
      refine ⟨rfl, ⟨_, upd_same, ?_, ?_⟩⟩
      · rw [List.length_replicate]
        exact small1000 (by omega)
      · rw [upd_upd, List.replicate_succ']
    · subst hP
      show _
      rw [show List.replicate (((xs.length : Int) + (ys.length : Int) - 1)).toNat (V.int 0) = tab N (fun k => cv (xs.take 0) (co ys) k) by rw [eN, tab_rep]; rfl]
      have sD : ∀ o, Same H (upd H D o) := fun o => same_upd0 hD
      -- what stands in each turn: the list at D, and what stood before
      refine ⟨_, rfl, a, _, rfl, SqT.of (sD _ _ _ ha), for_enumT (xs := xs.map V.int) (fun i σ H' => ∃ y3 y4 y5 y6, σ = [some (.ref a), some (.ref b), some (.ref D), y3, y4, y5, y6] ∧ Same H H' ∧ H' D = some (.lst (tab N fun k => cv (xs.take i) (co ys) k))) ⟨none, none, none, none, rfl, sD _, upd_same⟩ (fun i σ H' hP => ?_) (fun i x B σ H' hxi hP hB => ?_) (fun σ H' hP => ?_)⟩
      · obtain ⟨y3, y4, y5, y6, _, sH, _⟩ := hP
        exact SqT.of (sH _ _ ha)
      · obtain ⟨y3, y4, y5, y6, rfl, sH, hL⟩ := hP
        obtain ⟨hi2, rfl⟩ := int_get hxi
        refine ⟨B, _, rfl, SqT.of upd_same, rfl, _, _, rfl, _, _, rfl, rfl, ?_⟩
        refine gen_upd H' B _ hB (fun H2 s2 _ => ?_)
        have sH2 := sH.trans s2
        have hL2 := s2 _ _ hL
        rw [tab_ext (g := J xs (co ys) i 0) fun k hk => J_0.symm] at hL2
        refine ⟨_, rfl, b, _, rfl, SqT.of (sH2 _ _ hb), for_enumT (xs := ys.map V.int) (fun j σ H3 => ∃ y3 y6, σ = [some (.ref a), some (.ref b), some (.ref D), y3, some (.int ((i : Nat) : Int)), some (.int (co xs i)), y6] ∧ Same H H3 ∧ H3 D = some (.lst (tab N (J xs (co ys) i j)))) ⟨y3, y6, rfl, sH2, hL2⟩ (fun j σ H3 hP => ?_) (fun j y B2 σ H3 hyj hP hB2 => ?_) (fun σ H3 hP => ?_)⟩
        · obtain ⟨y3, y6, _, sH3, _⟩ := hP
          exact SqT.of (sH3 _ _ hb)
        · obtain ⟨y3, y6, rfl, sH3, hL3⟩ := hP
          obtain ⟨hj2, rfl⟩ := int_get hyj
          refine ⟨B2, _, rfl, SqT.of upd_same, rfl, _, _, rfl, _, _, rfl, rfl, ?_⟩
          refine gen_upd H3 B2 _ hB2 (fun H4 s4 _ => ?_)
          have sH4 := sH3.trans s4
          have hL4 := s4 _ _ hL3
          have e1 : ((i : Nat) : Int) + ((j : Nat) : Int) = ((i + j : Nat) : Int) := by omega
          refine ⟨_, rfl, _, rfl, _, rfl, _, _, rfl, rfl, D, _, _, _, rfl, rfl, SqL.of hL4, at_of e1 (tab_get (by omega)), _, rfl, _, rfl, _, _, rfl, rfl, sm_mul (sm_co hx hi2) (sm_co hy hj2), _, _, rfl, rfl, ?_⟩
          refine ⟨_, rfl, _, rfl, _, rfl, _, _, rfl, rfl, D, _, _, (i + j), rfl, rfl, hL4, ?_, ?_⟩
          · rw [tab_len]
            exact ix_at e1 (by omega)
          · refine ⟨_, _, rfl, fun c o e => ?_, ?_⟩
            · rw [upd_ne (ne_of_none e hD)]
              exact sH4 _ _ e
            · rw [upd_same]
              show some (HO.lst ((tab N (J xs (co ys) i j)).set (i + j) (.int (J xs (co ys) i j (i + j) + co xs i * co ys j)))) = _
              rw [tab_set, tab_ext fun k hk => J_step]
        · obtain ⟨y3, y6, rfl, sH3, hL3⟩ := hP
          rw [List.length_map, tab_ext fun k hk => J_end hi2] at hL3
          exact ⟨_, _, _, _, rfl, sH3, hL3⟩
      · obtain ⟨y3, y4, y5, y6, rfl, sH, hL⟩ := hP
        rw [List.length_map, List.take_length, tab_tb] at hL
        refine ⟨_, rfl, .inl ⟨D, _, rfl, SqL.of hL, fun p hp => ?_⟩⟩
        refine q p _ (sH.trans (same_upd0 hp)) (Same.free sH hp) ?_
        rw [upd_same, hN]
        rfl
/-- the product of the first n -/
def pow (l : List Int) : Nat → List Int
  | 0 => [1]
  | n + 1 => ml (pow l n) l
def spPow : Sp := fun vs H Q _ => ∃ (a : Addr) (xs : List Int) (n : Nat), vs = [.ref a, .int n] ∧ H a = some (tp xs) ∧ xs ≠ [] ∧ xs.length ≤ 100 ∧ (∀ x ∈ xs, sm x) ∧ (∀ i, i < n → pow xs i ≠ [] ∧ (pow xs i).length ≤ 100 ∧ ∀ x ∈ pow xs i, sm x) ∧ n ≤ 100 ∧ ∀ p H', Same H H' → H' p = some (tp (pow xs n)) → Q (.ref p) H'
theorem ok_law_power (T : Facts K mg) : FnOk P w K mg base CX0 2 T.f_law_power T.fd_law_power ["_law_pair", "_law_times"] spPow := by
  have G_law_product : FnOk P w K mg base CX0 1 T.f_law_product T.fd_law_product ["_law_one", "_law_other"] spProd := ok_law_product T
  refine T.F_law_power.ok sc_law_power (fun vs H Q E h => ?_) (fun cdv A outer s H vs Q E hr h => ?_)
  · obtain ⟨a, xs, n, rfl, _⟩ := h
    rfl
  · obtain ⟨a, xs, n, rfl, ha, nx, lx, hx, hp, hn, q⟩ := h
    refine ⟨_, (PSs.nox (pss_cons (ps_set (i := 2) sc_law_power.nd rfl (.inl rfl) (pe_tup (pa_cons pe_int pa_nil)))
    (pss_cons (ps_for PassesOwn.never (by rfl) (pi_range1 (by rfl) T.z_range (pa_cons (pv 1) pa_nil)) (pg_name (i := 3) sc_law_power.nd rfl (.inl rfl))
      (pss_one (ps_set (i := 2) sc_law_power.nd rfl (.inl rfl) (pe_call G_law_product hr (by rfl) T.g_law_product T.F_law_product.kp T.b_law_product .nil pass0 (pa_cons (pv 2) (pa_cons (pv 0) pa_nil))))))
    (pss_one (ps_ret (pv 2)))))), ?_⟩
    refine ⟨(by show 1 ≤ sizeLine; decide), fun p0 n0 => ⟨_, rfl, n, rfl, by omega, by omega, for_range (n := (n : Int).toNat) (fun i σ H' => ∃ r y3, σ = [some (.ref a), some (.int n), some (.ref r), y3] ∧ Same H H' ∧ H' r = some (tp (pow xs i))) ⟨p0, none, rfl, same_upd0 n0, upd_same⟩ (fun i σ H' hi hP => ?_) (fun σ H' hP => ?_)⟩⟩
    · obtain ⟨r, y3, rfl, sH, hr2⟩ := hP
      obtain ⟨h1, h2, h3⟩ := hp i (by omega)
      exact ⟨_, rfl, _, rfl, r, a, _, xs, rfl, hr2, sH _ _ ha, h1, nx, h2, lx, h3, hx, fun p H2 s2 _ hp2 => ⟨p, _, rfl, sH.trans s2, hp2⟩⟩
    · obtain ⟨r, y3, rfl, sH, hr2⟩ := hP
      rw [Int.toNat_natCast] at hr2
      exact ⟨_, rfl, q r H' sH hr2⟩
end
end K83

set_option Elab.async false
set_option linter.all false
set_option maxRecDepth 100000
set_option maxHeartbeats 4000000
namespace K83
open PySem PySem.Spec PyProof.Rows L2 StX RZ MyR SlX OwnR OwnF EnumT
theorem first_of : ∀ ns : List Int, cont ns ≠ 0 → ∃ x r, ns.filter (fun x => x != 0) = x :: r ∧ sg ns = (if 0 < x then 1 else -1)
  | [], h => absurd rfl h
  | y :: ys, h => by
    by_cases c : y = 0
    · have hc : cont ys ≠ 0 := fun e => h (by
        show Nat.gcd y.natAbs (cont ys) = 0
        rw [c, e]
        rfl)
      obtain ⟨x, r, e1, e2⟩ := first_of ys hc
      refine ⟨x, r, ?_, ?_⟩
      · rw [List.filter_cons_of_neg (by rw [c]; decide)]
        exact e1
      · show (if y = 0 then sg ys else _) = _
        rw [if_pos c]
        exact e2
    · refine ⟨y, ys.filter (fun x => x != 0), ?_, ?_⟩
      · rw [List.filter_cons_of_pos (by simpa using c)]
      · show (if y = 0 then sg ys else if 0 < y then 1 else -1) = _
        rw [if_neg c]
section
variable {P : Program} {w : World} {K : PySem.W.Frag} {mg : Str → Option Value} {base : Heap}
theorem ok_law_plain (T : Facts K mg) : FnOk P w K mg base CX0 3 T.f_law_plain T.fd_law_plain ["_law_form_here"] spPrim := by
  have G_law_shared : FnOk P w K mg base CX0 2 T.f_law_shared T.fd_law_shared ["_law_numbers"] spShared := ok_law_shared T
  refine T.F_law_plain.ok sc_law_plain (fun vs H Q E h => ?_) (fun cdv A outer s H vs Q E hr h => ?_)
  · obtain ⟨t, ns, rfl, _⟩ := h
    rfl
  · obtain ⟨t, ns, rfl, ht, hl, hs, q⟩ := h
    refine ⟨_, (PSs.nox (pss_cons (ps_set (i := 1) sc_law_plain.nd rfl (.inr rfl) (pe_call G_law_shared hr (by rfl) T.g_law_shared T.F_law_shared.kp T.b_law_shared .nil pass0 (pa_cons (pv 0) pa_nil)))
    (pss_cons (ps_if (pt_cmpR op_eq (pv 1) pe_int (nomark _))
      (pss_one (ps_ret (pv 0)))
      pss_nil)
    (pss_cons (ps_set (i := 2) sc_law_plain.nd rfl (.inr rfl) (pe_ix ix_list (pe_lc (own := [("_law_entry", 3)]) (g := (gName 3)) (by rfl) sc_law_plain.nd (pi_tup (pv 0)) (blkOk_by (N := N_law_plain) (sc := defScope s_law_plain) (by decide +kernel)) (fun _ _ _ _ _ => (pg_name (i := 3) sc_law_plain.nd rfl (.inl rfl))) (fun _ _ _ _ _ => (pts_one (pt_cmpR op_ne (pv 3) pe_int (nomark _)))) (fun _ _ _ _ _ => (pv 3))) pe_int (fun _ _ => rfl)))
    (pss_one (ps_ret (pe_tupleOf (by rfl) T.z_tuple (pe_lc (own := [("_law_entry", 3)]) (g := (gName 3)) (tt := tYes) (by rfl) sc_law_plain.nd (pi_tup (pv 0)) (blkOk_by (N := N_law_plain) (sc := defScope s_law_plain) (by decide +kernel)) (fun _ _ _ _ _ => (pg_name (i := 3) sc_law_plain.nd rfl (.inl rfl))) (fun _ _ _ _ _ => pts_nil) (fun _ _ _ _ _ => (pe_op op_fdivZ (pv 3) (pe_ifExp (pt_cmpR op_gt (pv 2) pe_int (nomark _)) (pv 1) (pe_op op_sub pe_int (pv 1))))))))))))), ?_⟩
    refine ⟨_, rfl, t, ns, rfl, ht, _, rfl, rfl, _, rfl, ?_⟩
    by_cases c : cont ns = 0
    · rw [decide_eq_true (show V.int ((cont ns : Nat) : Int) = V.int 0 by rw [c]; rfl)]
      refine iteT ⟨_, rfl, q t H (Same.rf H) ?_⟩
      unfold prim
      rw [if_pos (by unfold part; rw [c]; exact Int.zero_mul _)]
      exact ht
    · rw [decide_eq_false fun z => c (Int.natCast_eq_zero.mp (V.int.inj z))]
      obtain ⟨x0, r0, e1, e2⟩ := first_of ns c
      have hpart : part ns = if 0 < x0 then ((cont ns : Nat) : Int) else 0 - ((cont ns : Nat) : Int) := by
        unfold part
        rw [e2]
        split
        · exact Int.mul_one _
        · rw [Int.mul_neg, Int.mul_one, Int.zero_sub]
      have hp0 : part ns ≠ 0 := fun e => c (by rw [← part_abs, e]; rfl)
      have hcd : CDivZ 0 (part ns) := ⟨hp0, Nat.lt_trans (PySem.Flt.log2_lt_of (k := 4000) (by decide) (sm_part hs)) (by decide)⟩
      refine iteF ⟨_, rfl, t, rfl, ⟨_, SqT.of ht⟩, fun D hD => lc_tup (xs := ns.map V.int) (fun j H' => Same H H' ∧ H' D = some (.lst (((ns.take j).filter (fun x => x != 0)).map V.int))) ⟨same_upd0 hD, upd_same⟩ (fun j H' _ hP => SqT.of (hP.1 _ _ ht)) (fun j x H' hx hP => ?_) (fun H1 hP => ?_)⟩
      · obtain ⟨sH, hL⟩ := hP
        obtain ⟨hj, rfl⟩ := int_get hx
        refine ⟨rfl, _, rfl, rfl, _, rfl, ?_⟩
        rw [take_snoc hj, List.filter_append]
        by_cases d : co ns j = 0
        · rw [decide_eq_true (show V.int (co ns j) = V.int 0 by rw [d])]
          refine iteF ⟨sH, ?_⟩
          rw [hL, List.filter_cons_of_neg (by rw [d]; decide), List.filter_nil, List.append_nil]
        · rw [decide_eq_false fun z => d (V.int.inj z)]
          refine iteT ⟨_, rfl, _, hL, ?_, fun b o e => ?_, ?_⟩
          · have h1 := List.length_filter_le (fun x => x != 0) (ns.take j)
            rw [List.length_take] at h1
            rw [List.length_map]
            exact small1000 (by omega)
          · rw [upd_ne (ne_of_none e hD)]
            exact sH _ _ e
          · rw [upd_same, List.filter_cons_of_pos (by simpa using d), List.filter_nil, List.map_append]
            rfl
      · obtain ⟨s1, hL⟩ := hP
        rw [List.length_map, List.take_length, e1] at hL
        refine ⟨D, _, _, .int x0, rfl, rfl, SqL.of hL, atI_nat (j := 0) rfl, ?_⟩
        have ht1 := s1 _ _ ht
        refine ⟨_, rfl, t, rfl, ⟨_, SqT.of ht1⟩, fun D2 hD2 => lc_tup (xs := ns.map V.int) (fun j H' => H' = upd H1 D2 (.lst (tab j fun k => (co ns k).fdiv (part ns)))) rfl (fun j H' _ hP => ?_) (fun j x H' hx hP => ?_) (fun H' hP => ?_)⟩
        · rw [hP]
          exact SqT.of (same_upd0 hD2 _ _ ht1)
        · subst hP
          obtain ⟨hj, rfl⟩ := int_get hx
          refine ⟨rfl, _, rfl, _, rfl, x0, 0, rfl, rfl, _, rfl, ?_⟩
          have fin : ∀ v : Int, v = part ns → True := fun _ _ => True.intro
          by_cases d : 0 < x0
          · rw [decide_eq_true d]
            rw [if_pos d] at hpart
            rw [hpart] at hcd
            refine iteT ⟨_, rfl, _, _, rfl, rfl, hcd, _, upd_same, ?_, ?_⟩
            · rw [tab_len]
              exact small1000 (by omega)
            · rw [upd_upd, ← tab_snoc, hpart]
          · rw [decide_eq_false d]
            rw [if_neg d] at hpart
            rw [hpart] at hcd
            refine iteF ⟨_, rfl, _, _, rfl, rfl, _, _, rfl, rfl, hcd, _, upd_same, ?_, ?_⟩
            · rw [tab_len]
              exact small1000 (by omega)
            · rw [upd_upd, ← tab_snoc, hpart]
        · subst hP
          rw [List.length_map, tab_tb, tb_map (fun x => x.fdiv (part ns)) ns]
          refine .inl ⟨D2, _, rfl, SqL.of upd_same, fun p hp2 => ?_⟩
          refine q p _ (s1.trans ((same_upd0 hD2).trans (same_upd0 hp2))) ?_
          rw [upd_same]
          unfold prim
          rw [if_neg hp0]
end
end K83

set_option Elab.async false
set_option linter.all false
set_option maxRecDepth 100000
set_option maxHeartbeats 4000000
namespace K83
open PySem PySem.Spec PyProof.Rows L2 StX RZ MyR SlX OwnR OwnF EnumT
theorem prim_len (l : List Int) : (prim l).length = l.length := by
  unfold prim
  split
  · rfl
  · rw [List.length_map]
theorem prim_mem {l : List Int} {b : Nat} (h : ∀ x ∈ l, x.natAbs ≤ b) : ∀ x ∈ prim l, x.natAbs ≤ b := by
  intro x hx
  unfold prim at hx
  by_cases c : part l = 0
  · rw [if_pos c] at hx
    exact h x hx
  · rw [if_neg c] at hx
    obtain ⟨y, hy, rfl⟩ := List.mem_map.mp hx
    have hd : part l ∣ y := Int.natAbs_dvd_natAbs.mp (by rw [part_abs]; exact Int.natAbs_dvd_natAbs.mpr (cont_dvd l y hy))
    obtain ⟨k, rfl⟩ := hd
    show ((part l * k).fdiv (part l)).natAbs ≤ b
    rw [Int.mul_fdiv_cancel_left _ c]
    refine Nat.le_trans ?_ (h _ hy)
    rw [Int.natAbs_mul]
    exact Nat.le_mul_of_pos_left _ (Int.natAbs_pos.mpr c)
section
variable {P : Program} {w : World} {K : PySem.W.Frag} {mg : Str → Option Value} {base : Heap}
theorem dc_ne {H : Hp} {d p : Addr} {xs : List V} (hd : Dc H d) (hp : H p = some (.tup xs)) : p ≠ d := fun e => by
  obtain ⟨x, y, z, h⟩ := hd
  rw [e, h] at hp
  cases hp
def spLine : Sp := fun vs H Q _ => ∃ (t : Addr) (u v : Int), vs = [.ref t] ∧ H t = some (tp [u, v]) ∧ ∀ p, H p = none → Q (.ref p) (upd H p (tp [v, 0 - u]))
theorem ok_law_line (T : Facts K mg) : FnOk P w K mg base CX0 1 T.f_law_line T.fd_law_line ["_law_point_here"] spLine := by
  refine T.F_law_line.ok sc_law_line (fun vs H Q E h => ?_) (fun cdv A outer s H vs Q E hr h => ?_)
  · obtain ⟨t, u, v, rfl, _⟩ := h
    rfl
  · obtain ⟨t, u, v, rfl, ht, q⟩ := h
    refine ⟨_, (PSs.nox (pss_one (ps_ret (pe_tup (pa_cons (pe_ix ix_tup (pv 0) pe_int (fun _ _ => rfl)) (pa_cons (pe_op op_sub pe_int (pe_ix ix_tup (pv 0) pe_int (fun _ _ => rfl))) pa_nil)))))), ?_⟩
    exact ⟨_, rfl, t, _, 1, _, rfl, rfl, SqT.of ht, atI_nat (j := 1) rfl, _, rfl, t, _, 0, _, rfl, rfl, SqT.of ht, atI_nat (j := 0) rfl, _, _, rfl, rfl, (by show 2 ≤ sizeLine; decide), fun p hp => q p hp⟩
/-- a drawn point -/
def spPoint : Sp := fun vs H Q _ => ∃ (d : Addr) (m : Nat), vs = [.ref d, .int m] ∧ Dc H d ∧ 1 ≤ m ∧ m ≤ 1000 ∧ ∀ p H' u v, Sx d H H' → Dc H' d → H' p = some (tp [u, v]) → u.natAbs ≤ m → v.natAbs ≤ m → Q (.ref p) H'
theorem ok_law_point (T : Facts K mg) : FnOk P w K mg base CX0 4 T.f_law_point T.fd_law_point ["_law_dice_here", "_law_most"] spPoint := by
  have G_law_near : FnOk P w K mg base CX0 2 T.f_law_near T.fd_law_near ["_law_dice_here", "_law_most"] spNear := ok_law_near T
  have G_law_plain : FnOk P w K mg base CX0 3 T.f_law_plain T.fd_law_plain ["_law_form_here"] spPrim := ok_law_plain T
  refine T.F_law_point.ok sc_law_point (fun vs H Q E h => ?_) (fun cdv A outer s H vs Q E hr h => ?_)
  · obtain ⟨d, m, rfl, _⟩ := h
    rfl
  · obtain ⟨d, m, rfl, hd, h1, h2, q⟩ := h
    refine ⟨_, (PSs.nox (pss_cons (ps_par (i := 2) (j := 3) (by rfl) sc_law_point.nd rfl rfl (by decide) rfl rfl (pa_cons (pe_call G_law_near (hr.mono (by decide)) (by rfl) T.g_law_near T.F_law_near.kp T.b_law_near .nil pass0 (pa_cons (pv 0) (pa_cons (pv 1) pa_nil))) (pa_cons (pe_call G_law_near (hr.mono (by decide)) (by rfl) T.g_law_near T.F_law_near.kp T.b_law_near .nil pass0 (pa_cons (pv 0) (pa_cons (pv 1) pa_nil))) pa_nil)) (by rfl))
    (pss_one (ps_ret (pe_ifExp (pt_cmpR (op_neD (hu64 hr)) (pe_tup (pa_cons (pv 2) (pa_cons (pv 3) pa_nil))) (pe_tup (pa_cons pe_int (pa_cons pe_int pa_nil))) (nomark _)) (pe_call G_law_plain hr (by rfl) T.g_law_plain T.F_law_plain.kp T.b_law_plain .nil pass0 (pa_cons (pe_tup (pa_cons (pv 2) (pa_cons (pv 3) pa_nil))) pa_nil)) (pe_tup (pa_cons pe_int (pa_cons pe_int pa_nil)))))))), ?_⟩
    have e15 : (10 : Int) ^ 15 = 1000000000000000 := by decide
    have z2 : 2 ≤ sizeLine := by decide
    refine ⟨_, rfl, _, rfl, d, m, rfl, hd, by omega, by rw [e15]; omega, fun u H1 u1 u2 s1 d1 => ⟨_, rfl, _, rfl, d, m, rfl, d1, by omega, by rw [e15]; omega, fun v H2 v1 v2 s2 d2 => ⟨_, _, rfl, ?_⟩⟩⟩
    have s12 := s1.trans s2
    refine ⟨_, rfl, _, rfl, z2, fun p1 n1 => gen_upd H2 p1 (tp [u, v]) n1 fun H3 s3 f3 => ⟨z2, fun p2 n2 => gen_upd H3 p2 (tp [0, 0]) n2 fun H4 s4 f4 => ?_⟩⟩
    refine ne_ints (xs := [u, v]) (ys := [0, 0]) (SqT.of (s4 _ _ f3)) (SqT.of f4) ?_
    have d4 := d2.same (s3.trans s4)
    have s14 : Sx d H H4 := s12.trans (Sx.of (s3.trans s4))
    by_cases c : [u, v] = [0, 0]
    · rw [decide_eq_true c]
      refine ⟨_, rfl, iteF ⟨z2, fun p3 n3 => gen_upd H4 p3 (tp [1, 0]) n3 fun H5 s5 f5 => ?_⟩⟩
      exact q p3 H5 1 0 (s14.trans (Sx.of s5)) (d4.same s5) f5 (by show 1 ≤ m; omega) (by show 0 ≤ m; omega)
    · rw [decide_eq_false c]
      refine ⟨_, rfl, iteT ⟨_, rfl, _, rfl, z2, fun p3 n3 => gen_upd H4 p3 (tp [u, v]) n3 fun H5 s5 f5 => ?_⟩⟩
      have hb : ∀ x ∈ [u, v], x.natAbs ≤ m := fun x hx => by
        simp only [List.mem_cons, List.not_mem_nil, or_false] at hx
        rcases hx with e | e <;> rw [e] <;> omega
      refine ⟨p3, [u, v], rfl, f5, by show 2 ≤ 1000; omega, fun x hx => Nat.lt_of_le_of_lt (hb x hx) (Nat.lt_of_le_of_lt h2 (by decide)), fun p H6 s6 hp => ?_⟩
      have hl := prim_len [u, v]
      have hm := prim_mem hb
      generalize prim [u, v] = r at hp hl hm
      match r, hl with
      | [x, y], _ => exact q p H6 x y (s14.trans (Sx.of (s5.trans s6))) (d4.same (s5.trans s6)) hp (hm x (by simp)) (hm y (by simp))
/-- a drawn form -/
def spSmall : Sp := fun vs H Q _ => ∃ (d : Addr) (n m : Nat), vs = [.ref d, .int n, .int m] ∧ Dc H d ∧ n ≤ 40 ∧ m ≤ 1000000000000 ∧ ∀ p H' l, Sx d H H' → Dc H' d → H' p = some (tp l) → l.length = n + 1 → (∀ x ∈ l, x.natAbs ≤ m) → Q (.ref p) H'
theorem ok_law_small_form (T : Facts K mg) : FnOk P w K mg base CX0 3 T.f_law_small_form T.fd_law_small_form ["_law_dice_here", "_law_degree", "_law_most"] spSmall := by
  have G_law_near : FnOk P w K mg base CX0 2 T.f_law_near T.fd_law_near ["_law_dice_here", "_law_most"] spNear := ok_law_near T
  refine T.F_law_small_form.ok sc_law_small_form (fun vs H Q E h => ?_) (fun cdv A outer s H vs Q E hr h => ?_)
  · obtain ⟨d, n, m, rfl, _⟩ := h
    rfl
  · obtain ⟨d, n, m, rfl, hd, hn, hm, q⟩ := h
    refine ⟨_, (PSs.nox (pss_one (ps_ret (pe_tupleOf (by rfl) T.z_tuple (pe_lc (own := [("_law_place", 3)]) (g := (gName 3)) (tt := tYes) (by rfl) sc_law_small_form.nd (pi_range1 (by rfl) T.z_range (pa_cons (pe_op op_add (pv 1) pe_int) pa_nil)) (blkOk_by (N := N_law_small_form) (sc := defScope s_law_small_form) (by decide +kernel)) (fun _ _ _ _ _ => (pg_name (i := 3) sc_law_small_form.nd rfl (.inl rfl))) (fun _ _ _ _ _ => pts_nil) (fun _ _ _ _ _ => (pe_call G_law_near hr (by rfl) T.g_law_near T.F_law_near.kp T.b_law_near .nil pass0 (pa_cons (pv 0) (pa_cons (pv 2) pa_nil))))))))), ?_⟩
    have e15 : (10 : Int) ^ 15 = 1000000000000000 := by decide
    refine ⟨_, rfl, _, _, rfl, rfl, _, rfl, (by show -(2 ^ 62) ≤ (n : Int) + 1; omega), (by show (n : Int) + 1 < 2 ^ 62; omega), fun D hD => lc_range (n := ((n : Int) + 1).toNat) (fun j H' => Sx d H H' ∧ Dc H' d ∧ ∃ l : List Int, H' D = some (.lst (l.map V.int)) ∧ l.length = j ∧ ∀ x ∈ l, x.natAbs ≤ m) ⟨Sx.of (same_upd0 hD), hd.same (same_upd0 hD), [], upd_same, rfl, fun x hx => by cases hx⟩ (fun j H' hj hP => ?_) (fun H' hP => ?_)⟩
    · obtain ⟨sH, dH, l, hL, hl, hb⟩ := hP
      have nD : D ≠ d := hd.ne hD
      refine ⟨rfl, _, rfl, _, rfl, d, m, rfl, dH, by omega, by rw [e15]; omega, fun r H2 r1 r2 s2 d2 => ⟨_, s2 D _ nD hL, ?_, fun b o hb2 e => ?_, ?_, l ++ [r], ?_, ?_, fun x hx => ?_⟩⟩
      · rw [List.length_map]
        exact small1000 (by omega)
      · rw [upd_ne (ne_of_none e hD)]
        exact (sH.trans s2) b o hb2 e
      · obtain ⟨x, y, z, e⟩ := d2
        exact ⟨x, y, z, by rw [upd_ne (Ne.symm nD)]; exact e⟩
      · rw [upd_same, List.map_append]
        rfl
      · rw [List.length_append, hl]
        rfl
      · rcases List.mem_append.mp hx with e | e
        · exact hb x e
        · rw [List.mem_singleton.mp e]
          omega
    · obtain ⟨sH, dH, l, hL, hl, hb⟩ := hP
      refine .inl ⟨D, _, rfl, SqL.of hL, fun p hp2 => ?_⟩
      exact q p _ l (sH.trans (Sx.of (same_upd0 hp2))) (dH.same (same_upd0 hp2)) upd_same (by omega) hb
end
end K83

set_option Elab.async false
set_option linter.all false
set_option maxRecDepth 100000
/-! how large the entries of products are -/
namespace K83
/-- the sum of the first n absolute values -/
def sN : Nat → (Nat → Int) → Nat
  | 0, _ => 0
  | n + 1, f => sN n f + (f n).natAbs
/-- the sum of the absolute values of the entries -/
def nm (l : List Int) : Nat := (l.map Int.natAbs).sum
theorem sN_add (f g : Nat → Int) : ∀ n, sN n (fun k => f k + g k) ≤ sN n f + sN n g
  | 0 => Nat.le_refl _
  | n + 1 => by
    have h1 := sN_add f g n
    have h2 := Int.natAbs_add_le (f n) (g n)
    show sN n (fun k => f k + g k) + (f n + g n).natAbs ≤ sN n f + (f n).natAbs + (sN n g + (g n).natAbs)
    omega
theorem sN_mul (c : Int) (f : Nat → Int) : ∀ n, sN n (fun k => c * f k) = c.natAbs * sN n f
  | 0 => rfl
  | n + 1 => by
    show sN n (fun k => c * f k) + (c * f n).natAbs = c.natAbs * (sN n f + (f n).natAbs)
    rw [sN_mul c f n, Int.natAbs_mul, Nat.mul_add]
theorem sN_sh (f : Nat → Int) : ∀ n, sN n (sh f) ≤ sN n f
  | 0 => Nat.le_refl _
  | 1 => Nat.zero_le _
  | n + 2 => by
    have key : ∀ n, sN (n + 1) (sh f) = sN n f := by
      intro n
      induction n with
      | zero => rfl
      | succ n ih =>
        show sN (n + 1) (sh f) + (f n).natAbs = sN n f + (f n).natAbs
        rw [ih]
    rw [key]
    exact Nat.le_add_right _ _
theorem sN_cv (g : Nat → Int) (n : Nat) : ∀ l : List Int, sN n (cv l g) ≤ nm l * sN n g
  | [] => by
    have : sN n (cv [] g) = 0 := by
      induction n with
      | zero => rfl
      | succ n ih => show sN n (cv [] g) + (0 : Int).natAbs = 0; rw [ih]; rfl
    omega
  | x :: xs => by
    have h1 := sN_cv g n xs
    have e : sN n (cv (x :: xs) g) = sN n (fun k => x * g k + sh (cv xs g) k) := by
      rw [show cv (x :: xs) g = fun k => x * g k + sh (cv xs g) k from funext (cv_cons x xs g)]
    have h2 := sN_add (fun k => x * g k) (sh (cv xs g)) n
    have h3 := sN_sh (cv xs g) n
    rw [e]
    rw [sN_mul] at h2
    show _ ≤ (x.natAbs + nm xs) * sN n g
    rw [Nat.add_mul]
    omega
theorem nm_snoc (l : List Int) (x : Int) : nm (l ++ [x]) = nm l + x.natAbs := by
  unfold nm
  rw [List.map_append, List.sum_append]
  simp
theorem nm_tb (f : Nat → Int) : ∀ n, nm (tb n f) = sN n f
  | 0 => rfl
  | n + 1 => by
    have e : tb (n + 1) f = tb n f ++ [f n] := by
      unfold tb
      rw [List.range_succ, List.map_append]
      rfl
    rw [e, nm_snoc, nm_tb f n]
    rfl
theorem nm_mem : ∀ {l : List Int} {x : Int}, x ∈ l → x.natAbs ≤ nm l
  | y :: ys, x, h => by
    show x.natAbs ≤ y.natAbs + nm ys
    rcases List.mem_cons.mp h with e | e
    · rw [e]; omega
    · have := nm_mem e; omega
theorem sN_co (l : List Int) (n : Nat) : sN n (co l) ≤ nm l := by
  by_cases h : n ≤ l.length
  · have mono : ∀ k, sN n (co l) ≤ sN (n + k) (co l) := by
      intro k
      induction k with
      | zero => exact Nat.le_refl _
      | succ k ih => exact Nat.le_trans ih (Nat.le_add_right _ _)
    have h1 := mono (l.length - n)
    rw [show n + (l.length - n) = l.length by omega] at h1
    rw [← nm_tb (co l) l.length, tb_co] at h1
    exact h1
  · have far : ∀ k, sN (l.length + k) (co l) = sN l.length (co l) := by
      intro k
      induction k with
      | zero => rfl
      | succ k ih =>
        show sN (l.length + k) (co l) + (co l (l.length + k)).natAbs = _
        rw [ih, co_far (by omega)]
        rfl
    have h1 := far (n - l.length)
    rw [show l.length + (n - l.length) = n by omega] at h1
    rw [h1, ← nm_tb (co l) l.length, tb_co]
    exact Nat.le_refl _
theorem nm_ml (l m : List Int) : nm (ml l m) ≤ nm l * nm m := by
  unfold ml
  rw [nm_tb]
  exact Nat.le_trans (sN_cv _ _ l) (Nat.mul_le_mul (Nat.le_refl _) (sN_co m _))
theorem nm_pl : ∀ (l m : List Int), nm (pl l m) ≤ nm l + nm m
  | [], _ => Nat.zero_le _
  | _ :: _, [] => Nat.zero_le _
  | x :: xs, y :: ys => by
    have h1 := nm_pl xs ys
    have h2 := Int.natAbs_add_le x y
    show (x + y).natAbs + nm (pl xs ys) ≤ x.natAbs + nm xs + (y.natAbs + nm ys)
    omega
theorem nm_scale (c : Int) : ∀ l : List Int, nm (l.map (c * ·)) = c.natAbs * nm l
  | [] => rfl
  | x :: xs => by
    show (c * x).natAbs + nm (xs.map (c * ·)) = c.natAbs * (x.natAbs + nm xs)
    rw [nm_scale c xs, Int.natAbs_mul, Nat.mul_add]
theorem nm_le {b : Nat} : ∀ {l : List Int}, (∀ x ∈ l, x.natAbs ≤ b) → nm l ≤ l.length * b
  | [], _ => Nat.zero_le _
  | x :: xs, h => by
    have h1 := nm_le (l := xs) fun y hy => h y (List.mem_cons_of_mem _ hy)
    have h2 := h x List.mem_cons_self
    show x.natAbs + nm xs ≤ (xs.length + 1) * b
    rw [Nat.succ_mul]
    omega
end K83

set_option Elab.async false
set_option linter.all false
set_option maxRecDepth 100000
set_option maxHeartbeats 4000000
namespace K83
open PySem PySem.Spec PyProof.Rows L2 StX RZ MyR SlX OwnR OwnF EnumT
section
variable {P : Program} {w : World} {K : PySem.W.Frag} {mg : Str → Option Value} {base : Heap}
end
end K83

set_option Elab.async false
set_option linter.all false
set_option maxRecDepth 100000
set_option maxHeartbeats 4000000
namespace K83
open PySem PySem.Spec PyProof.Rows L2 StX RZ MyR SlX OwnR OwnF EnumT
/-- the product of the first i rows -/
def allP (ls : List (List Int)) (i : Nat) : List Int := (ls.take i).foldl ml [1]
theorem allP_succ {ls : List (List Int)} {i : Nat} (h : i < ls.length) : allP ls (i + 1) = ml (allP ls i) ls[i] := by
  unfold allP
  rw [List.take_add_one, List.getElem?_eq_getElem h, List.foldl_append]
  rfl
section
variable {P : Program} {w : World} {K : PySem.W.Frag} {mg : Str → Option Value} {base : Heap}
def spAll : Sp := fun vs H Q _ => ∃ (l : Addr) (rs : List Addr) (ls : List (List Int)), vs = [.ref l] ∧ H l = some (.lst (rs.map V.ref)) ∧ rs.length = ls.length ∧ (∀ i (h : i < ls.length) (h' : i < rs.length), H rs[i] = some (tp ls[i]) ∧ Rw ls[i]) ∧ (∀ i, i < ls.length → Rw (allP ls i)) ∧ ∀ p H', Same H H' → H' p = some (tp (allP ls ls.length)) → Q (.ref p) H'
theorem ok_law_all_product (T : Facts K mg) : FnOk P w K mg base CX0 2 T.f_law_all_product T.fd_law_all_product ["_law_forms"] spAll := by
  have G_law_product : FnOk P w K mg base CX0 1 T.f_law_product T.fd_law_product ["_law_one", "_law_other"] spProd := ok_law_product T
  refine T.F_law_all_product.ok sc_law_all_product (fun vs H Q E h => ?_) (fun cdv A outer s H vs Q E hr h => ?_)
  · obtain ⟨l, rs, ls, rfl, _⟩ := h
    rfl
  · obtain ⟨l, rs, ls, rfl, hl, hlen, hrow, hall, q⟩ := h
    refine ⟨_, (PSs.nox (pss_cons (ps_set (i := 1) sc_law_all_product.nd rfl (.inl rfl) (pe_tup (pa_cons pe_int pa_nil)))
    (pss_cons (ps_for PassesOwn.never (by rfl) (pi_list (pv 0)) (pg_name (i := 2) sc_law_all_product.nd rfl (.inl rfl))
      (pss_one (ps_set (i := 1) sc_law_all_product.nd rfl (.inl rfl) (pe_call G_law_product hr (by rfl) T.g_law_product T.F_law_product.kp T.b_law_product .nil pass0 (pa_cons (pv 1) (pa_cons (pv 2) pa_nil))))))
    (pss_one (ps_ret (pv 1)))))), ?_⟩
    refine ⟨(by show 1 ≤ sizeLine; decide), fun p0 n0 => ⟨_, rfl, l, rfl, ⟨_, SqL.of (same_upd0 n0 _ _ hl)⟩, for_list (xs := rs.map V.ref) (fun i σ H' => ∃ r y, σ = [some (.ref l), some (.ref r), y] ∧ Same H H' ∧ H' r = some (tp (allP ls i))) ⟨p0, none, rfl, same_upd0 n0, upd_same⟩ (fun i σ H' _ hP => ?_) (fun i x σ H' hx hP => ?_) (fun σ H' hP => ?_)⟩⟩
    · obtain ⟨r, y, _, sH, _⟩ := hP
      exact SqL.of (sH _ _ hl)
    · obtain ⟨r, y, rfl, sH, hr2⟩ := hP
      rw [List.getElem?_map] at hx
      obtain ⟨b, hb, rfl⟩ := Option.map_eq_some_iff.mp hx
      obtain ⟨h1, e1⟩ := List.getElem?_eq_some_iff.mp hb
      have h2 : i < ls.length := by omega
      obtain ⟨hb2, rb⟩ := hrow i h2 h1
      rw [e1] at hb2
      have ra := hall i h2
      exact ⟨_, rfl, _, rfl, r, b, _, ls[i], rfl, hr2, sH _ _ hb2, ra.ne, rb.ne, ra.len, rb.len, ra.sm, rb.sm, fun p H2 s2 _ hp2 => ⟨p, _, rfl, sH.trans s2, by rw [allP_succ h2]; exact hp2⟩⟩
    · obtain ⟨r, y, rfl, sH, hr2⟩ := hP
      rw [List.length_map, hlen] at hr2
      exact ⟨_, rfl, q r H' sH hr2⟩
end
end K83

set_option Elab.async false
set_option linter.all false
set_option maxRecDepth 100000
/-! the primitive row of a primitive row -/
namespace K83
end K83

set_option Elab.async false
set_option linter.all false
set_option maxRecDepth 100000
/-! sums of rows, rows of 0 -/
namespace K83
theorem zs_one : ∀ xs ys : List Int, zs 1 xs ys = pl xs ys
  | [], _ => rfl
  | _ :: _, [] => rfl
  | x :: xs, y :: ys => by
    show (x + 1 * y) :: zs 1 xs ys = (x + y) :: pl xs ys
    rw [zs_one xs ys, Int.one_mul]
theorem any_cont : ∀ l : List Int, (!l.any (· != 0)) = decide (cont l = 0)
  | [] => rfl
  | x :: xs => by
    have h := any_cont xs
    rw [List.any_cons, Bool.not_or, h]
    by_cases c : x = 0
    · have e : cont (x :: xs) = cont xs := by
        show Nat.gcd x.natAbs (cont xs) = _
        rw [c]
        exact Nat.gcd_zero_left _
      rw [e, c]
      rfl
    · have e : cont (x :: xs) ≠ 0 := fun z => c (cont_zero z x List.mem_cons_self)
      rw [decide_eq_false e]
      have : (x != 0) = true := by simpa using c
      rw [this]
      rfl
theorem map_mul_comm (c : Int) (l : List Int) : (l.map fun x => x * c) = l.map fun x => c * x := List.map_congr_left fun x _ => Int.mul_comm x c
end K83

set_option Elab.async false
set_option linter.all false
set_option maxRecDepth 100000
/-! values of forms; a form is told by its values -/
namespace K83
/-- the value at x, y of the first n entries -/
def evF : Nat → (Nat → Int) → Int → Int → Int
  | 0, _, _, _ => 0
  | n + 1, g, x, y => x * evF n g x y + g n * y ^ n
def ev (l : List Int) (x y : Int) : Int := evF l.length (co l) x y
theorem evF_congr {g h : Nat → Int} {x y : Int} : ∀ n, (∀ i, i < n → g i = h i) → evF n g x y = evF n h x y
  | 0, _ => rfl
  | n + 1, e => by
    show x * evF n g x y + g n * y ^ n = x * evF n h x y + h n * y ^ n
    rw [evF_congr n fun i hi => e i (by omega), e n (by omega)]
theorem evF_add (g h : Nat → Int) (x y : Int) : ∀ n, evF n (fun i => g i + h i) x y = evF n g x y + evF n h x y
  | 0 => rfl
  | n + 1 => by
    show x * evF n (fun i => g i + h i) x y + (g n + h n) * y ^ n = (x * evF n g x y + g n * y ^ n) + (x * evF n h x y + h n * y ^ n)
    rw [evF_add g h x y n, Int.mul_add, Int.add_mul]
    omega
theorem evF_mul (c : Int) (g : Nat → Int) (x y : Int) : ∀ n, evF n (fun i => c * g i) x y = c * evF n g x y
  | 0 => by show (0 : Int) = c * 0; rw [Int.mul_zero]
  | n + 1 => by
    show x * evF n (fun i => c * g i) x y + (c * g n) * y ^ n = c * (x * evF n g x y + g n * y ^ n)
    rw [evF_mul c g x y n, Int.mul_add, Int.mul_assoc, ← Int.mul_assoc x c, Int.mul_comm x c, Int.mul_assoc]
theorem evF_sh (g : Nat → Int) (x y : Int) : ∀ n, evF (n + 1) (sh g) x y = y * evF n g x y
  | 0 => by
    show x * 0 + (0 : Int) * y ^ 0 = y * 0
    rw [Int.mul_zero, Int.zero_mul, Int.mul_zero]
    rfl
  | n + 1 => by
    show x * evF (n + 1) (sh g) x y + g n * y ^ (n + 1) = y * (x * evF n g x y + g n * y ^ n)
    rw [evF_sh g x y n, Int.mul_add, Int.pow_succ, ← Int.mul_assoc, Int.mul_comm x y, Int.mul_assoc, Int.mul_comm (y ^ n) y, ← Int.mul_assoc (g n), Int.mul_comm (g n) y, Int.mul_assoc y (g n)]
theorem evF_far {g : Nat → Int} (x y : Int) {n : Nat} (h : ∀ i, n ≤ i → g i = 0) : ∀ k, evF (n + k) g x y = x ^ k * evF n g x y
  | 0 => by rw [Nat.add_zero, Int.pow_zero, Int.one_mul]
  | k + 1 => by
    show x * evF (n + k) g x y + g (n + k) * y ^ (n + k) = _
    rw [evF_far x y h k, h _ (by omega), Int.zero_mul, Int.add_zero, Int.pow_succ, ← Int.mul_assoc, Int.mul_comm x]
theorem evF_zero (x y : Int) : ∀ n, evF n (fun _ => 0) x y = 0
  | 0 => rfl
  | n + 1 => by
    show x * evF n (fun _ => 0) x y + 0 * y ^ n = 0
    rw [evF_zero x y n, Int.mul_zero, Int.zero_mul]
    rfl
theorem ev_ml : ∀ {l m : List Int}, l ≠ [] → m ≠ [] → ∀ x y, ev (ml l m) x y = ev l x y * ev m x y := by
  intro l
  induction l with
  | nil => intro m h; exact absurd rfl h
  | cons a l ih =>
    intro m hl hm x y
    have hM : 0 < m.length := List.length_pos_iff.mpr hm
    have e0 : ev (ml (a :: l) m) x y = evF (l.length + m.length) (cv (a :: l) (co m)) x y := by
      unfold ev
      rw [ml_len, show (a :: l).length + m.length - 1 = l.length + m.length by rw [List.length_cons]; omega]
      exact evF_congr _ fun i _ => co_ml hm i
    rw [e0]
    have e1 : evF (l.length + m.length) (cv (a :: l) (co m)) x y = a * evF (l.length + m.length) (co m) x y + evF (l.length + m.length) (sh (cv l (co m))) x y := by
      rw [← evF_mul, ← evF_add]
      exact evF_congr _ fun i _ => cv_cons a l (co m) i
    rw [e1, show l.length + m.length = m.length + l.length by omega, evF_far x y (fun i hi => co_far hi) l.length]
    have e2 : ev (a :: l) x y = a * x ^ l.length + y * evF l.length (co l) x y := by
      unfold ev
      rw [List.length_cons]
      rw [show evF (l.length + 1) (co (a :: l)) x y = evF (l.length + 1) (fun i => a * (if i = 0 then 1 else 0) + sh (co l) i) x y from evF_congr _ fun i _ => by
        rw [co_cons]
        by_cases h : i = 0
        · rw [if_pos h, if_pos h, Int.mul_one]
        · rw [if_neg h, if_neg h, Int.mul_zero], evF_add, evF_mul, evF_sh]
      congr 1
      congr 1
      have h1 : evF (1 + l.length) (fun i => if i = 0 then (1 : Int) else 0) x y = x ^ l.length * evF 1 (fun i => if i = 0 then (1 : Int) else 0) x y := evF_far x y (n := 1) (fun i hi => if_neg (by omega)) l.length
      rw [show l.length + 1 = 1 + l.length by omega, h1]
      show x ^ l.length * (x * 0 + (if 0 = 0 then 1 else 0) * y ^ 0) = _
      rw [if_pos rfl, Int.mul_zero, Int.pow_zero, Int.mul_one, Int.zero_add, Int.mul_one]
    rw [e2]
    by_cases c : l = []
    · subst c
      show a * (x ^ 0 * evF m.length (co m) x y) + evF (m.length + 0) (sh (cv [] (co m))) x y = (a * x ^ 0 + y * 0) * ev m x y
      rw [show evF (m.length + 0) (sh (cv [] (co m))) x y = evF m.length (fun _ => 0) x y from evF_congr _ fun i _ => by cases i <;> rfl, evF_zero, Int.pow_zero, Int.one_mul, Int.mul_one, Int.mul_zero, Int.add_zero, Int.add_zero]
      rfl
    · have hL : 0 < l.length := List.length_pos_iff.mpr c
      have e3 : evF (m.length + l.length) (sh (cv l (co m))) x y = y * (ev l x y * ev m x y) := by
        rw [show m.length + l.length = (l.length + m.length - 1) + 1 by omega, evF_sh, ← ih c hm x y]
        congr 1
        unfold ev
        rw [ml_len]
        exact evF_congr _ fun i _ => (co_ml hm i).symm
      rw [e3]
      show a * (x ^ l.length * ev m x y) + y * (ev l x y * ev m x y) = (a * x ^ l.length + y * ev l x y) * ev m x y
      rw [Int.add_mul, Int.mul_assoc, Int.mul_assoc]
theorem ev_cons (a : Int) (l : List Int) (x y : Int) : ev (a :: l) x y = a * x ^ l.length + y * ev l x y := by
  unfold ev
  rw [List.length_cons]
  rw [show evF (l.length + 1) (co (a :: l)) x y = evF (l.length + 1) (fun i => a * (if i = 0 then 1 else 0) + sh (co l) i) x y from evF_congr _ fun i _ => by
    rw [co_cons]
    by_cases h : i = 0
    · rw [if_pos h, if_pos h, Int.mul_one]
    · rw [if_neg h, if_neg h, Int.mul_zero], evF_add, evF_mul, evF_sh]
  congr 1
  congr 1
  have h1 : evF (1 + l.length) (fun i => if i = 0 then (1 : Int) else 0) x y = x ^ l.length * evF 1 (fun i => if i = 0 then (1 : Int) else 0) x y := evF_far x y (n := 1) (fun i hi => if_neg (by omega)) l.length
  rw [show l.length + 1 = 1 + l.length by omega, h1]
  show x ^ l.length * (x * 0 + (if 0 = 0 then 1 else 0) * y ^ 0) = _
  rw [if_pos rfl, Int.mul_zero, Int.pow_zero, Int.mul_one, Int.zero_add, Int.mul_one]
/-- only the form with zeros has the value 0 everywhere -/
theorem evF_inj {g : Nat → Int} {M : Int} : ∀ n, (∀ i, i < n → (g i).natAbs < M.natAbs) → evF n g M 1 = 0 → ∀ i, i < n → g i = 0
  | 0, _, _, i, hi => absurd hi (Nat.not_lt_zero i)
  | n + 1, hb, e, i, hi => by
    have e' : M * evF n g M 1 + g n * 1 ^ n = 0 := e
    rw [Int.one_pow, Int.mul_one] at e'
    have hd : M ∣ g n := ⟨-evF n g M 1, by rw [Int.mul_neg]; omega⟩
    have hn : g n = 0 := Int.natAbs_eq_zero.mp (Nat.eq_zero_of_dvd_of_lt (Int.natAbs_dvd_natAbs.mpr hd) (hb n (by omega)))
    have hM : M ≠ 0 := fun z => by
      have := hb n (by omega)
      rw [z] at this
      exact absurd this (by simp)
    rw [hn, Int.add_zero] at e'
    have e2 : evF n g M 1 = 0 := (Int.mul_eq_zero.mp e').resolve_left hM
    by_cases c : i = n
    · rw [c]; exact hn
    · exact evF_inj n (fun j hj => hb j (by omega)) e2 i (by omega)
theorem ev_inj {l m : List Int} (hl : l.length = m.length) (h : ∀ x y, ev l x y = ev m x y) : l = m := by
  refine co_inj hl fun i => ?_
  by_cases c : i < l.length
  · have key := evF_inj (g := fun i => co l i + -1 * co m i) (M := ((nm l + nm m + 1 : Nat) : Int)) l.length (fun i _ => by
      rw [Int.natAbs_natCast]
      have h1 : (co l i).natAbs ≤ nm l := by
        rcases co_mem (l := l) (k := i) with e | e
        · rw [e]; exact Nat.zero_le _
        · exact nm_mem e
      have h2 : (co m i).natAbs ≤ nm m := by
        rcases co_mem (l := m) (k := i) with e | e
        · rw [e]; exact Nat.zero_le _
        · exact nm_mem e
      show (co l i + -1 * co m i).natAbs < _
      omega) (by
      rw [evF_add, evF_mul]
      have := h ((nm l + nm m + 1 : Nat) : Int) 1
      unfold ev at this
      rw [← hl] at this
      rw [this]
      omega) i c
    have key' : co l i + -1 * co m i = 0 := key
    omega
  · rw [co_far (by omega), co_far (by omega)]
end K83

set_option Elab.async false
set_option linter.all false
set_option maxRecDepth 100000
set_option maxHeartbeats 4000000
namespace K83
open PySem PySem.Spec PyProof.Rows L2 StX RZ MyR SlX OwnR OwnF EnumT
/-! ### drawn forms -/
/-- a row of a degree, with its size -/
structure Bd (l : List Int) (n b : Nat) : Prop where
  len : l.length = n + 1
  nm : nm l ≤ b
theorem Bd.ne {l : List Int} {n b : Nat} (h : Bd l n b) : l ≠ [] := fun e => by
  have := h.len
  rw [e] at this
  cases this
theorem Bd.mono {l : List Int} {n b c : Nat} (h : Bd l n b) (k : b ≤ c) : Bd l n c := ⟨h.len, Nat.le_trans h.nm k⟩
theorem Bd.mem {l : List Int} {n b : Nat} (h : Bd l n b) : ∀ x ∈ l, x.natAbs ≤ b := fun x hx => Nat.le_trans (nm_mem hx) h.nm
theorem Bd.rw {l : List Int} {n b : Nat} (h : Bd l n b) (hn : n ≤ 99) (hb : b < 2 ^ 4000) : Rw l := ⟨h.ne, by rw [h.len]; omega, fun x hx => Nat.lt_of_le_of_lt (h.mem x hx) hb⟩
theorem bd_ml {l m : List Int} {n k b c : Nat} (h : Bd l n b) (g : Bd m k c) : Bd (ml l m) (n + k) (b * c) :=
  ⟨by rw [ml_len, h.len, g.len]; omega, Nat.le_trans (nm_ml l m) (Nat.mul_le_mul h.nm g.nm)⟩
theorem bd_one : Bd [1] 0 1 := ⟨rfl, Nat.le_refl _⟩
theorem bd_line {u v : Int} {m : Nat} (hu : u.natAbs ≤ m) (hv : v.natAbs ≤ m) : Bd [v, 0 - u] 1 (2 * m) := ⟨rfl, by
  show v.natAbs + ((0 - u).natAbs + 0) ≤ _
  omega⟩
theorem bd_pair {u v : Int} {m : Nat} (hu : u.natAbs ≤ m) (hv : v.natAbs ≤ m) : Bd [u, v] 1 (2 * m) := ⟨rfl, by
  show u.natAbs + (v.natAbs + 0) ≤ _
  omega⟩
theorem bd_small {l : List Int} {n m : Nat} (hl : l.length = n + 1) (h : ∀ x ∈ l, x.natAbs ≤ m) : Bd l n ((n + 1) * m) := ⟨hl, by
  have := nm_le h
  rw [hl] at this
  exact this⟩
theorem bd_pow {l : List Int} {b : Nat} (h : Bd l 1 b) : ∀ i, Bd (pow l i) i (b ^ i)
  | 0 => bd_one
  | i + 1 => by
    rw [Nat.pow_succ]
    exact bd_ml (bd_pow h i) h
theorem bd_all {ls : List (List Int)} {b : Nat} (h : ∀ l ∈ ls, Bd l 1 b) : ∀ i, i ≤ ls.length → Bd (allP ls i) i (b ^ i)
  | 0, _ => bd_one
  | i + 1, hi => by
    rw [Nat.pow_succ, allP_succ hi]
    exact bd_ml (bd_all h i (by omega)) (h _ (List.getElem_mem hi))
theorem bd_zs {l m : List Int} {n b c : Nat} (h : Bd l n b) (g : Bd m n c) : Bd (zs 1 l m) n (b + c) := by
  rw [zs_one]
  exact ⟨by rw [pl_len (by rw [h.len, g.len]), h.len], Nat.le_trans (nm_pl l m) (Nat.add_le_add h.nm g.nm)⟩
theorem bd_scale {l : List Int} {n b d : Nat} {c : Int} (h : Bd l n b) (hc : c.natAbs ≤ d) : Bd (l.map (c * ·)) n (d * b) := ⟨by rw [List.length_map, h.len], by
  rw [nm_scale]
  exact Nat.mul_le_mul hc h.nm⟩
theorem p6 {i : Nat} (h : i ≤ 8) : 6 ^ i ≤ 1679616 := Nat.le_trans (Nat.pow_le_pow_right (by decide) h) (by decide)
theorem iteI {i j : Int} {A B : Prop} (h1 : i = j → A) (h2 : i ≠ j → B) : if decide (V.int i = V.int j) = true then A else B := by
  by_cases h : i = j
  · rw [decide_eq_true (by rw [h])]
    exact iteT (h1 h)
  · rw [decide_eq_false fun z => h (V.int.inj z)]
    exact iteF (h2 h)
section
variable {P : Program} {w : World} {K : PySem.W.Frag} {mg : Str → Option Value} {base : Heap}
def spDrawn : Sp := fun vs H Q _ => ∃ (d : Addr) (n : Nat), vs = [.ref d, .int n] ∧ Dc H d ∧ n ≤ 8 ∧ ∀ p H' l, Sx d H H' → Dc H' d → H' p = some (tp l) → Bd l n (10 ^ 14) → Q (.ref p) H'
theorem ok_law_form (T : Facts K mg) : FnOk P w K mg base CX0 5 T.f_law_form T.fd_law_form ["_law_dice_here", "_law_degree"] spDrawn := by
  have G_law_roll : FnOk P w K mg base CX0 1 T.f_law_roll T.fd_law_roll ["_law_dice_here", "_law_total"] spRoll2 := (ok_law_roll T).imp roll2
  have G_law_near : FnOk P w K mg base CX0 2 T.f_law_near T.fd_law_near ["_law_dice_here", "_law_most"] spNear := ok_law_near T
  have G_law_plus := ok_law_plus (P := P) (w := w) (base := base) T
  have G_law_scaled := ok_law_scaled (P := P) (w := w) (base := base) T
  have G_law_product := ok_law_product (P := P) (w := w) (base := base) T
  have G_law_all_product := ok_law_all_product (P := P) (w := w) (base := base) T
  have G_law_power := ok_law_power (P := P) (w := w) (base := base) T
  have G_law_line := ok_law_line (P := P) (w := w) (base := base) T
  have G_law_point := ok_law_point (P := P) (w := w) (base := base) T
  have G_law_small_form := ok_law_small_form (P := P) (w := w) (base := base) T
  refine T.F_law_form.ok sc_law_form (fun vs H Q E h => ?_) (fun cdv A outer s H vs Q E hr h => ?_)
  · obtain ⟨d, n, rfl, _⟩ := h
    rfl
  · obtain ⟨d, n, rfl, hd, hn, q⟩ := h
    have e15 : (10 : Int) ^ 15 = 1000000000000000 := by decide
    have e14 : (10 : Nat) ^ 14 = 100000000000000 := by decide
    rw [e14] at q
    have lg : ∀ i : Nat, i < 100 → (i : Int).natAbs.log2 < 9000 := fun i hi => Nat.lt_trans (PySem.Flt.log2_lt_of (k := 10) (by decide) (by show i < 2 ^ 10; omega)) (by decide)
    refine ⟨_, (PSs.nox (pss_cons (ps_set (i := 2) sc_law_form.nd rfl (.inl rfl) (pe_call G_law_roll (hr.mono (by decide)) (by rfl) T.g_law_roll T.F_law_roll.kp T.b_law_roll .nil pass0 (pa_cons (pv 0) (pa_cons pe_int pa_nil))))
    (pss_cons (ps_if (pt_cmpR op_eq (pv 2) pe_int (nomark _))
      (pss_one (ps_ret (pe_call G_law_all_product (hr.mono (by decide)) (by rfl) T.g_law_all_product T.F_law_all_product.kp T.b_law_all_product .nil pass0 (pa_cons (pe_lc (own := [("_law_turn", 3)]) (g := (gName 3)) (tt := tYes) (by rfl) sc_law_form.nd (pi_range1 (by rfl) T.z_range (pa_cons (pv 1) pa_nil)) (blkOk_by (N := N_law_form) (sc := defScope s_law_form) (by decide +kernel)) (fun _ _ _ _ _ => (pg_name (i := 3) sc_law_form.nd rfl (.inl rfl))) (fun _ _ _ _ _ => pts_nil) (fun _ _ _ _ _ => (pe_call G_law_line (hr.mono (by decide)) (by rfl) T.g_law_line T.F_law_line.kp T.b_law_line .nil pass0 (pa_cons (pe_call G_law_point hr (by rfl) T.g_law_point T.F_law_point.kp T.b_law_point .nil pass0 (pa_cons (pv 0) (pa_cons pe_int pa_nil))) pa_nil)))) pa_nil))))
      pss_nil)
    (pss_cons (ps_if (pt_cmpR op_eq (pv 2) pe_int (nomark _))
      (pss_cons (ps_par (i := 4) (j := 5) (by rfl) sc_law_form.nd rfl rfl (by decide) rfl rfl (pa_cons (pe_call G_law_line (hr.mono (by decide)) (by rfl) T.g_law_line T.F_law_line.kp T.b_law_line .nil pass0 (pa_cons (pe_call G_law_point hr (by rfl) T.g_law_point T.F_law_point.kp T.b_law_point .nil pass0 (pa_cons (pv 0) (pa_cons pe_int pa_nil))) pa_nil)) (pa_cons (pe_call G_law_roll (hr.mono (by decide)) (by rfl) T.g_law_roll T.F_law_roll.kp T.b_law_roll .nil pass0 (pa_cons (pv 0) (pa_cons (pe_op op_add (pv 1) pe_int) pa_nil))) pa_nil)) (by rfl))
      (pss_one (ps_ret (pe_call G_law_product (hr.mono (by decide)) (by rfl) T.g_law_product T.F_law_product.kp T.b_law_product .nil pass0 (pa_cons (pe_call G_law_power (hr.mono (by decide)) (by rfl) T.g_law_power T.F_law_power.kp T.b_law_power .nil pass0 (pa_cons (pv 4) (pa_cons (pv 5) pa_nil))) (pa_cons (pe_call G_law_small_form (hr.mono (by decide)) (by rfl) T.g_law_small_form T.F_law_small_form.kp T.b_law_small_form .nil pass0 (pa_cons (pv 0) (pa_cons (pe_op op_sub (pv 1) (pv 5)) (pa_cons pe_int pa_nil)))) pa_nil))))))
      pss_nil)
    (pss_cons (ps_if (pt_cmpR op_eq (pv 2) pe_int (nomark _))
      (pss_cons (ps_set (i := 6) sc_law_form.nd rfl (.inl rfl) (pe_tupleOf (by rfl) T.z_tuple (pe_lc (own := [("_law_place", 7)]) (g := (gName 7)) (tt := tYes) (by rfl) sc_law_form.nd (pi_range1 (by rfl) T.z_range (pa_cons (pe_op op_add (pv 1) pe_int) pa_nil)) (blkOk_by (N := N_law_form) (sc := defScope s_law_form) (by decide +kernel)) (fun _ _ _ _ _ => (pg_name (i := 7) sc_law_form.nd rfl (.inl rfl))) (fun _ _ _ _ _ => pts_nil) (fun _ _ _ _ _ => pe_int))))
      (pss_cons (ps_for PassesOwn.never (by rfl) (pi_range1 (by rfl) T.z_range (pa_cons (pe_op op_add pe_int (pe_call G_law_roll (hr.mono (by decide)) (by rfl) T.g_law_roll T.F_law_roll.kp T.b_law_roll .nil pass0 (pa_cons (pv 0) (pa_cons pe_int pa_nil)))) pa_nil)) (pg_name (i := 3) sc_law_form.nd rfl (.inl rfl))
        (pss_one (ps_set (i := 6) sc_law_form.nd rfl (.inl rfl) (pe_call G_law_plus (hr.mono (by decide)) (by rfl) T.g_law_plus T.F_law_plus.kp T.b_law_plus .nil pass0 (pa_cons (pv 6) (pa_cons (pe_call G_law_scaled (hr.mono (by decide)) (by rfl) T.g_law_scaled T.F_law_scaled.kp T.b_law_scaled .nil pass0 (pa_cons (pe_call G_law_power (hr.mono (by decide)) (by rfl) T.g_law_power T.F_law_power.kp T.b_law_power .nil pass0 (pa_cons (pe_call G_law_point hr (by rfl) T.g_law_point T.F_law_point.kp T.b_law_point .nil pass0 (pa_cons (pv 0) (pa_cons pe_int pa_nil))) (pa_cons (pv 1) pa_nil))) (pa_cons (pe_call G_law_near (hr.mono (by decide)) (by rfl) T.g_law_near T.F_law_near.kp T.b_law_near .nil pass0 (pa_cons (pv 0) (pa_cons pe_int pa_nil))) pa_nil))) pa_nil))))))
      (pss_one (ps_ret (pv 6)))))
      pss_nil)
    (pss_cons (ps_if (pt_cmpR op_eq (pv 2) pe_int (nomark _))
      (pss_one (ps_ret (pe_tupleOf (by rfl) T.z_tuple (pe_lc (own := [("_law_place", 7)]) (g := (gName 7)) (tt := tYes) (by rfl) sc_law_form.nd (pi_range1 (by rfl) T.z_range (pa_cons (pe_op op_add (pv 1) pe_int) pa_nil)) (blkOk_by (N := N_law_form) (sc := defScope s_law_form) (by decide +kernel)) (fun _ _ _ _ _ => (pg_name (i := 7) sc_law_form.nd rfl (.inl rfl))) (fun _ _ _ _ _ => pts_nil) (fun _ _ _ _ _ => (pe_op op_mulW (pe_call G_law_near (hr.mono (by decide)) (by rfl) T.g_law_near T.F_law_near.kp T.b_law_near .nil pass0 (pa_cons (pv 0) (pa_cons pe_int pa_nil))) (pe_call G_law_roll (hr.mono (by decide)) (by rfl) T.g_law_roll T.F_law_roll.kp T.b_law_roll .nil pass0 (pa_cons (pv 0) (pa_cons pe_int pa_nil)))))))))
      pss_nil)
    (pss_cons (ps_if (pw_and (pt_cmpR op_eq (pv 2) pe_int (nomark _)) (pw_and1 (pt_cmpR op_eq (pe_call G_law_roll (hr.mono (by decide)) (by rfl) T.g_law_roll T.F_law_roll.kp T.b_law_roll .nil pass0 (pa_cons (pv 0) (pa_cons pe_int pa_nil))) pe_int (nomark _)))).pt
      (pss_one (ps_ret (pe_tupleOf (by rfl) T.z_tuple (pe_lc (own := [("_law_place", 7)]) (g := (gName 7)) (tt := tYes) (by rfl) sc_law_form.nd (pi_range1 (by rfl) T.z_range (pa_cons (pe_op op_add (pv 1) pe_int) pa_nil)) (blkOk_by (N := N_law_form) (sc := defScope s_law_form) (by decide +kernel)) (fun _ _ _ _ _ => (pg_name (i := 7) sc_law_form.nd rfl (.inl rfl))) (fun _ _ _ _ _ => pts_nil) (fun _ _ _ _ _ => (pe_call G_law_near (hr.mono (by decide)) (by rfl) T.g_law_near T.F_law_near.kp T.b_law_near .nil pass0 (pa_cons (pv 0) (pa_cons (pe_op op_pow pe_int pe_int) pa_nil))))))))
      pss_nil)
    (pss_one (ps_ret (pe_call G_law_small_form (hr.mono (by decide)) (by rfl) T.g_law_small_form T.F_law_small_form.kp T.b_law_small_form .nil pass0 (pa_cons (pv 0) (pa_cons (pv 1) (pa_cons pe_int pa_nil))))))))))))), ?_⟩
    refine ⟨_, rfl, d, 6, rfl, hd, by decide, lg 6 (by decide), fun r H1 hr1 s1 d1 => ⟨_, rfl, rfl, _, rfl, iteI (fun _ => ?_) (fun r0 => ⟨_, rfl, rfl, _, rfl, iteI (fun _ => ?_) (fun r1 => ⟨_, rfl, rfl, _, rfl, iteI (fun _ => ?_) (fun r2 => ⟨_, rfl, rfl, _, rfl, iteI (fun _ => ?_) (fun r3 => ?_)⟩)⟩)⟩)⟩⟩
    · -- lines
      refine ⟨_, rfl, n, rfl, by omega, by omega, fun D hD => lc_range (n := (n : Int).toNat) (fun j H' => Sx d H H' ∧ Dc H' d ∧ ∃ (rs : List Addr) (ls : List (List Int)), H' D = some (.lst (rs.map V.ref)) ∧ rs.length = j ∧ ls.length = j ∧ (∀ i (h : i < ls.length) (h' : i < rs.length), H' rs[i] = some (tp ls[i])) ∧ ∀ l ∈ ls, Bd l 1 6) ⟨s1.trans (Sx.of (same_upd0 hD)), d1.same (same_upd0 hD), [], [], upd_same, rfl, rfl, fun i h _ => absurd h (Nat.not_lt_zero i), fun l h => (nomatch h)⟩ (fun j H' hj hP => ?_) (fun H' hP => ?_)⟩
      · obtain ⟨sH, dH, rs, ls, hL, hl1, hl2, hr, hb⟩ := hP
        refine ⟨rfl, _, rfl, d, 3, rfl, dH, by decide, by decide, fun p H2 u v s2 d2 hp hu hv => ⟨p, u, v, rfl, hp, fun p2 n2 => gen_upd H2 p2 _ n2 fun H3 s3 f3 => ?_⟩⟩
        have nD : D ≠ d := d1.ne hD
        have hL3 := s3 _ _ (s2 D _ nD hL)
        have dD : ∀ a l, H3 a = some (tp l) → a ≠ D := fun a l e z => by
          rw [z, hL3] at e
          cases e
        have d3 := d2.same s3
        refine ⟨_, hL3, by rw [List.length_map, hl1]; exact small1000 (by omega), fun b o hb2 e => ?_, ?_, rs ++ [p2], ls ++ [[v, 0 - u]], by rw [upd_same, List.map_append]; rfl, by rw [List.length_append, hl1]; rfl, by rw [List.length_append, hl2]; rfl, fun i h h' => ?_, fun l hl => ?_⟩
        · rw [upd_ne (ne_of_none (s1 b o hb2 e) hD)]
          exact s3 _ _ (s2 b o hb2 (sH b o hb2 e))
        · obtain ⟨x, y, z, e⟩ := d3
          exact ⟨x, y, z, by rw [upd_ne (Ne.symm nD)]; exact e⟩
        · by_cases c : i < ls.length
          · have e1 : (rs ++ [p2])[i] = rs[i]'(by omega) := List.getElem_append_left _
            have e2 : (ls ++ [[v, 0 - u]])[i] = ls[i] := List.getElem_append_left _
            rw [e1, e2]
            have e3 := s3 _ _ (s2 _ _ (dc_ne dH (hr i c (by omega))) (hr i c (by omega)))
            rw [upd_ne (dD _ _ e3)]
            exact e3
          · have ei : i = ls.length := by rw [List.length_append] at h; simp at h; omega
            subst ei
            have e1 : (rs ++ [p2])[ls.length] = p2 := by rw [List.getElem_append_right (by omega)]; simp [hl1, hl2]
            have e2 : (ls ++ [[v, 0 - u]])[ls.length] = [v, 0 - u] := by rw [List.getElem_append_right (by omega)]; simp
            rw [e1, e2, upd_ne (dD _ _ f3)]
            exact f3
        · rcases List.mem_append.mp hl with e | e
          · exact hb l e
          · rw [List.mem_singleton.mp e]
            exact bd_line hu hv
      · obtain ⟨sH, dH, rs, ls, hL, hl1, hl2, hr, hb⟩ := hP
        have hnn : ls.length = n := by omega
        refine ⟨D, rs, ls, rfl, hL, by omega, fun i h h' => ⟨hr i h h', (hb _ (List.getElem_mem h)).rw (by omega) (by decide)⟩, fun i hi => (bd_all hb i (by omega)).rw (by omega) (Nat.lt_of_le_of_lt (p6 (by omega)) (by decide)), fun p H3 s3 f3 => q p H3 _ (sH.trans (Sx.of s3)) (dH.same s3) f3 ?_⟩
        rw [hnn]
        exact (bd_all hb n (by omega)).mono (Nat.le_trans (p6 hn) (by decide))
    · -- a power of a line, times
      refine ⟨_, rfl, d, 3, rfl, d1, by decide, by decide, fun p H2 u v s2 d2 hp hu hv => ⟨p, u, v, rfl, hp, fun p2 n2 => gen_upd H2 p2 _ n2 fun H3 s3 f3 => ⟨_, rfl, _, rfl, _, _, rfl, rfl, ?_⟩⟩⟩
      have d3 := d2.same s3
      refine ⟨d, _, rfl, d3, by omega, lg (n + 1) (by omega), fun k H4 hk s4 d4 => ⟨_, _, rfl, ?_⟩⟩
      have hk' : k ≤ n := by have : (k : Int) < (n : Int) + 1 := hk; omega
      have f4 := s4 _ _ (dc_ne d3 f3) f3
      have bl : Bd [v, 0 - u] 1 6 := bd_line hu hv
      refine ⟨_, rfl, _, rfl, p2, _, k, rfl, f4, bl.ne, by show 2 ≤ 100; decide, fun x hx => (bl.rw (by decide) (Nat.lt_of_lt_of_le (show 6 < 2 ^ 4 by decide) (Nat.pow_le_pow_right (by decide) (by decide)))).sm x hx, fun i hi => ?_, by omega, fun p5 H5 s5 f5 => ?_⟩
      · have := (bd_pow bl i).rw (by omega) (Nat.lt_of_le_of_lt (p6 (by omega)) (by decide))
        exact ⟨this.ne, this.len, this.sm⟩
      · have d5 := d4.same s5
        refine ⟨_, rfl, _, rfl, _, rfl, _, _, rfl, rfl, d, n - k, 4, by show [V.ref d, V.int ((n : Int) - (k : Int)), V.int 4] = [V.ref d, V.int ((n - k : Nat) : Int), V.int 4]; rw [Int.ofNat_sub hk'], d5, by omega, by decide, fun p6' H6 l6 s6 d6 f6 hl6 hm6 => ?_⟩
        have f5' := s6 _ _ (dc_ne d5 f5) f5
        have b1 := bd_pow bl k
        have b2 := bd_small hl6 hm6
        have r1 := b1.rw (by omega) (Nat.lt_of_le_of_lt (p6 (by omega)) (by decide))
        have r2 := b2.rw (by omega) (Nat.lt_of_le_of_lt (show (n - k + 1) * 4 ≤ 36 by omega) (by decide))
        refine ⟨p5, p6', _, l6, rfl, f5', f6, r1.ne, r2.ne, r1.len, r2.len, r1.sm, r2.sm, fun p7 H7 s7 _ f7 => q p7 H7 _ ((((s1.trans s2).trans (Sx.of s3)).trans s4).trans (((Sx.of s5).trans s6).trans (Sx.of s7))) (d6.same s7) f7 ?_⟩
        have b3 := bd_ml b1 b2
        rw [show k + (n - k) = n by omega] at b3
        exact b3.mono (Nat.le_trans (Nat.mul_le_mul (p6 (by omega)) (show (n - k + 1) * 4 ≤ 36 by omega)) (by decide))
    · -- sums of powers
      refine ⟨_, rfl, _, _, rfl, rfl, _, rfl, by show -(2 ^ 62) ≤ (n : Int) + 1; omega, by show (n : Int) + 1 < 2 ^ 62; omega, fun D hD => lc_range (n := ((n : Int) + 1).toNat) (fun j H' => H' = upd H1 D (.lst (tab j fun _ => 0))) rfl (fun j H' hj hP => ?_) (fun H' hP => ?_)⟩
      · subst hP
        refine ⟨rfl, ⟨_, upd_same, by rw [tab_len]; exact small1000 (by omega), ?_⟩⟩
        rw [upd_upd, ← tab_snoc]
      · subst hP
        rw [show ((n : Int) + 1).toNat = n + 1 by omega, tab_tb]
        refine .inl ⟨D, _, rfl, SqL.of upd_same, fun p hp => gen_upd (upd H1 D _) p _ hp fun H2 s2 f2 => ?_⟩
        have s02 := (same_upd0 (o := HO.lst ((tb (n + 1) fun _ => 0).map V.int)) hD).trans s2
        have d2 := d1.same s02
        have b0 : Bd (tb (n + 1) fun _ => 0) n 0 := ⟨tb_len _ _, by
          rw [nm_tb]
          have : ∀ k, sN k (fun _ => 0) = 0 := by
            intro k
            induction k with
            | zero => rfl
            | succ k ih => show sN k (fun _ => 0) + 0 = 0; rw [ih]
          rw [this]
          exact Nat.le_refl _⟩
        refine ⟨_, rfl, d, 3, rfl, d2, by decide, lg 3 (by decide), fun k H3 hk s3 d3 => ⟨_, _, rfl, rfl, _, rfl, by omega, by omega, ?_⟩⟩
        have f3 := s3 _ _ (dc_ne d2 f2) f2
        have hk3 : (k : Int) < 3 := hk
        refine for_range (n := (1 + (k : Int)).toNat) (fun i σ H' => ∃ r y3 y4 y5 y7 l, σ = [some (.ref d), some (.int n), some (.int (r : Int)), y3, y4, y5, some (.ref y7), none] ∧ Sx d H1 H' ∧ Dc H' d ∧ H' y7 = some (tp l) ∧ Bd l n (i * 6718464)) ⟨_, _, _, _, _, _, rfl, (Sx.of s02).trans s3, d3, f3, b0.mono (Nat.zero_le _)⟩ (fun i σ H' hi hP => ?_) (fun σ H' hP => ?_)
        · obtain ⟨r', y3, y4, y5, y7, l, rfl, sH, dH, hl, bl⟩ := hP
          refine ⟨_, rfl, _, rfl, d, 3, rfl, dH, by decide, by decide, fun p4 H4 u v s4 d4 h4 hu hv => ⟨_, rfl, ?_⟩⟩
          have bp : Bd [u, v] 1 6 := bd_pair hu hv
          refine ⟨p4, _, n, rfl, h4, bp.ne, by show 2 ≤ 100; decide, fun x hx => (bp.rw (by decide) (Nat.lt_of_lt_of_le (show 6 < 2 ^ 4 by decide) (Nat.pow_le_pow_right (by decide) (by decide)))).sm x hx, fun i hi => ?_, by omega, fun p5 H5 s5 f5 => ?_⟩
          · have := (bd_pow bp i).rw (by omega) (Nat.lt_of_le_of_lt (p6 (by omega)) (by decide))
            exact ⟨this.ne, this.len, this.sm⟩
          · have d5 := d4.same s5
            have b5 := bd_pow bp n
            have r5 := b5.rw (by omega) (Nat.lt_of_le_of_lt (p6 (by omega)) (by decide))
            refine ⟨_, rfl, d, 4, rfl, d5, by decide, by rw [e15]; decide, fun c H6 c1 c2 s6 d6 => ?_⟩
            have f6 := s6 _ _ (dc_ne d5 f5) f5
            refine ⟨p5, _, c, rfl, f6, r5.len, r5.sm, Nat.lt_of_le_of_lt (show c.natAbs ≤ 4 by omega) (by decide), fun p7 H7 s7 _ f7 => ?_⟩
            have b7 := bd_scale (d := 4) b5 (show c.natAbs ≤ 4 by omega)
            have hl7 := s7 _ _ (s6 _ _ (dc_ne d5 (s5 _ _ (s4 _ _ (dc_ne dH hl) hl))) (s5 _ _ (s4 _ _ (dc_ne dH hl) hl)))
            refine ⟨_, p7, l, _, rfl, hl7, f7, by rw [bl.len, b7.len], by rw [bl.len]; omega, fun p8 H8 s8 _ f8 => ⟨_, _, _, _, p8, _, rfl, ((sH.trans s4).trans ((Sx.of s5).trans s6)).trans ((Sx.of s7).trans (Sx.of s8)), (d6.same s7).same s8, f8, (bd_zs bl b7).mono ?_⟩⟩
            have : 4 * 6 ^ n ≤ 4 * 1679616 := Nat.mul_le_mul (Nat.le_refl _) (p6 hn)
            rw [Nat.succ_mul]
            omega
        · obtain ⟨r', y3, y4, y5, y7, l, rfl, sH, dH, hl, bl⟩ := hP
          exact ⟨_, rfl, q y7 H' l (s1.trans sH) dH hl (bl.mono (by omega))⟩
    · -- some entries, some zeros
      refine ⟨_, rfl, _, _, rfl, rfl, _, rfl, by show -(2 ^ 62) ≤ (n : Int) + 1; omega, by show (n : Int) + 1 < 2 ^ 62; omega, fun D hD => lc_range (n := ((n : Int) + 1).toNat) (fun j H' => Sx d H1 H' ∧ Dc H' d ∧ ∃ l : List Int, H' D = some (.lst (l.map V.int)) ∧ l.length = j ∧ ∀ x ∈ l, x.natAbs ≤ 3) ⟨Sx.of (same_upd0 hD), d1.same (same_upd0 hD), [], upd_same, rfl, fun x hx => by cases hx⟩ (fun j H' hj hP => ?_) (fun H' hP => ?_)⟩
      · obtain ⟨sH, dH, l, hL, hl, hb⟩ := hP
        have nD : D ≠ d := d1.ne hD
        refine ⟨rfl, _, rfl, d, 3, rfl, dH, by decide, by rw [e15]; decide, fun c H2 c1 c2 s2 d2 => ⟨_, rfl, d, 2, rfl, d2, by decide, lg 2 (by decide), fun k H3 hk s3 d3 => ⟨_, _, rfl, rfl, sm_mul (Nat.lt_of_le_of_lt (show c.natAbs ≤ 3 by omega) (by decide)) (Nat.lt_of_le_of_lt (show ((k : Nat) : Int).natAbs ≤ 2 by have : (k : Int) < 2 := hk; omega) (by decide)), _, s3 D _ nD (s2 D _ nD hL), ?_, fun b o hb2 e => ?_, ?_, l ++ [c * (k : Int)], ?_, ?_, fun x hx => ?_⟩⟩⟩
        · rw [List.length_map]
          exact small1000 (by omega)
        · rw [upd_ne (ne_of_none e hD)]
          exact (sH.trans (s2.trans s3)) b o hb2 e
        · obtain ⟨x, y, z, e⟩ := d3
          exact ⟨x, y, z, by rw [upd_ne (Ne.symm nD)]; exact e⟩
        · rw [upd_same, List.map_append]
          rfl
        · rw [List.length_append, hl]
          rfl
        · rcases List.mem_append.mp hx with e | e
          · exact hb x e
          · rw [List.mem_singleton.mp e]
            have hk2 : (k : Int) < 2 := hk
            rw [Int.natAbs_mul]
            have := Nat.mul_le_mul (show c.natAbs ≤ 3 by omega) (show ((k : Nat) : Int).natAbs ≤ 1 by omega)
            omega
      · obtain ⟨sH, dH, l, hL, hl, hb⟩ := hP
        refine .inl ⟨D, _, rfl, SqL.of hL, fun p hp2 => ?_⟩
        exact q p _ l (s1.trans (sH.trans (Sx.of (same_upd0 hp2)))) (dH.same (same_upd0 hp2)) upd_same ((bd_small (n := n) (by omega) hb).mono (Nat.le_trans (Nat.mul_le_mul (show n + 1 ≤ 9 by omega) (Nat.le_refl _)) (by decide)))
    · -- great entries, or small ones
      have small : ∀ H2, Sx d H H2 → Dc H2 d → spSmall [V.ref d, V.int (n : Int), V.int 6] H2 Q E0 := fun H2 s2 d2 => ⟨d, n, 6, rfl, d2, by omega, by decide, fun p H3 l s3 d3 f3 hl hm => q p H3 l (s2.trans s3) d3 f3 ((bd_small hl hm).mono (by omega))⟩
      refine ⟨_, rfl, rfl, _, rfl, iteI (fun _ => ?_) (fun _ => ?_)⟩
      · refine ⟨_, rfl, d, 4, rfl, d1, by decide, lg 4 (by decide), fun k H2 hk s2 d2 => ⟨rfl, _, rfl, iteI (fun _ => ?_) (fun _ => ?_)⟩⟩
        · -- great entries
          refine ⟨_, rfl, _, _, rfl, rfl, _, rfl, by show -(2 ^ 62) ≤ (n : Int) + 1; omega, by show (n : Int) + 1 < 2 ^ 62; omega, fun D hD => lc_range (n := ((n : Int) + 1).toNat) (fun j H' => Sx d H2 H' ∧ Dc H' d ∧ ∃ l : List Int, H' D = some (.lst (l.map V.int)) ∧ l.length = j ∧ ∀ x ∈ l, x.natAbs ≤ 1000000000000) ⟨Sx.of (same_upd0 hD), d2.same (same_upd0 hD), [], upd_same, rfl, fun x hx => by cases hx⟩ (fun j H' hj hP => ?_) (fun H' hP => ?_)⟩
          · obtain ⟨sH, dH, l, hL, hl, hb⟩ := hP
            have nD : D ≠ d := d2.ne hD
            refine ⟨rfl, _, rfl, 10, 12, rfl, rfl, ⟨by decide, by decide, by decide⟩, d, 1000000000000, rfl, dH, by decide, by rw [e15]; decide, fun r H2 r1 r2 s2 d2 => ⟨_, s2 D _ nD hL, ?_, fun b o hb2 e => ?_, ?_, l ++ [r], ?_, ?_, fun x hx => ?_⟩⟩
            · rw [List.length_map]
              exact small1000 (by omega)
            · rw [upd_ne (ne_of_none e hD)]
              exact (sH.trans s2) b o hb2 e
            · obtain ⟨x, y, z, e⟩ := d2
              exact ⟨x, y, z, by rw [upd_ne (Ne.symm nD)]; exact e⟩
            · rw [upd_same, List.map_append]
              rfl
            · rw [List.length_append, hl]
              rfl
            · rcases List.mem_append.mp hx with e | e
              · exact hb x e
              · rw [List.mem_singleton.mp e]
                omega
          · obtain ⟨sH, dH, l, hL, hl, hb⟩ := hP
            refine .inl ⟨D, _, rfl, SqL.of hL, fun p hp2 => ?_⟩
            exact q p _ l ((s1.trans s2).trans (sH.trans (Sx.of (same_upd0 hp2)))) (dH.same (same_upd0 hp2)) upd_same ((bd_small (n := n) (by omega) hb).mono (Nat.le_trans (Nat.mul_le_mul (show n + 1 ≤ 9 by omega) (Nat.le_refl _)) (by decide)))
        · exact ⟨_, rfl, _, rfl, small H2 (s1.trans s2) d2⟩
      · exact ⟨_, rfl, _, rfl, small H1 s1 d1⟩
end
end K83

set_option Elab.async false
set_option linter.all false
set_option maxRecDepth 100000
set_option maxHeartbeats 4000000
namespace K83
open PySem PySem.Spec PyProof.Rows L2 StX RZ MyR SlX OwnR OwnF EnumT
/-! what is said of forms by those who use them (for other laws: K83u, K83v, K83y hold the same) -/
section
variable {P : Program} {w : World} {K : PySem.W.Frag} {mg : Str → Option Value} {base : Heap}
/-- what is asked of a told row -/
structure Tr (l : List Int) : Prop where
  ne : l ≠ []
  len : l.length ≤ 40
  sho : ∀ x ∈ l, Sho x
theorem Tr.rw {l : List Int} (h : Tr l) : Rw l := ⟨h.ne, by have := h.len; omega, fun x hx => Nat.lt_trans (h.sho x hx) (by decide)⟩
theorem Tr.pos {l : List Int} (h : Tr l) : 1 ≤ l.length := List.length_pos_iff.mpr h.ne
theorem shaped_lints (ns : List Int) : SeqAt.shaped (.list (ns.map PyData.int)) = true := by
  unfold SeqAt.shaped
  rw [show PyData.canLay0 (.list (ns.map PyData.int)) = PyData.canLayAll0 (ns.map PyData.int) from rfl, lay_ints]
  rw [show PyData.depth (.list (ns.map PyData.int)) = PyData.depthAll (ns.map PyData.int) + 1 from rfl, depth_ints]
  rfl
/-- Form(t) -/
theorem made_form {C x dx t : Addr} {l : List Int} {H0 H2 : Hp} (hx : H0 x = none) (hdx : H0 dx = none) (hne : dx ≠ x) (s : Same (upd (upd H0 dx (.own x)) x (.ins C dx [])) H2) (ht : H0 t = some (tp l)) : Same H0 (slH H2 x C dx [some (.ref t)]) ∧ Fo C (slH H2 x C dx [some (.ref t)]) x l := by
  have s3 := made (v := .ref t) hx hdx hne s
  refine ⟨s3, dx, t, upd_same, ?_, s3 _ _ ht⟩
  unfold slH
  rw [upd_ne hne, upd_same]
theorem Fo.sx {C a d : Addr} {H H' : Hp} {ns : List Int} (h : Fo C H a ns) (hd : Dc H d) (s : Sx d H H') : Fo C H' a ns := by
  obtain ⟨dx, t, h1, h2, h3⟩ := h
  obtain ⟨x, y, z, e⟩ := hd
  refine ⟨dx, t, s _ _ (fun q => ?_) h1, s _ _ (fun q => ?_) h2, s _ _ (fun q => ?_) h3⟩
  · rw [q, e] at h1
    cases h1
  · rw [q, e] at h2
    cases h2
  · rw [q, e] at h3
    cases h3
theorem mkF {CT C x dx t : Addr} {H : Hp} {l : List Int} {R : Hp → Prop} (hx : H x = none) (hdx : H dx = none) (hne : dx ≠ x) (ht : H t = some (tp l)) (h1 : 1 ≤ l.length) (h2 : l.length ≤ 41) (hs : ∀ z ∈ l, Sho z) (q : ∀ H', Same H H' → Fo C H' x l → R H') :
    spForm CT C [.ref x, .ref t] (upd (upd H dx (.own x)) x (.ins C dx [])) (fun v H2 => v = .non ∧ R H2) E0 := by
  refine ⟨x, dx, t, t, rfl, .inl ⟨upd_same, rfl⟩, .inr ⟨l, rfl, ?_, h1, h2, hs⟩, fun H2 s2 => ⟨rfl, ?_⟩⟩
  · rw [upd_ne (ne_of_none ht hx), upd_ne (ne_of_none ht hdx)]
    exact ht
  · obtain ⟨s, f⟩ := made_form hx hdx hne s2 ht
    exact q _ s f
theorem Bd.tr {l : List Int} {n b : Nat} (h : Bd l n b) (hn : n ≤ 39) (hb : b < 10 ^ 60) : Tr l := ⟨h.ne, by rw [h.len]; omega, fun x hx => Nat.lt_of_le_of_lt (h.mem x hx) hb⟩
/-- a pair of a form and its row -/
structure Pa (C : Addr) (H : Hp) (v : V) (l : List Int) : Prop where
  tr : Tr l
  at_ : ∃ p f t, v = .ref p ∧ H p = some (.tup [.ref f, .ref t]) ∧ Fo C H f l ∧ H t = some (tp l)
theorem Pa.same {C : Addr} {H H' : Hp} {v : V} {l : List Int} (h : Pa C H v l) (s : Same H H') : Pa C H' v l := by
  obtain ⟨p, f, t, e, h1, h2, h3⟩ := h.at_
  exact ⟨h.tr, p, f, t, e, s _ _ h1, h2.same s, s _ _ h3⟩
theorem ml_one (l : List Int) : ml l [1] = l := by
  refine co_inj (by rw [ml_len]; show l.length + 1 - 1 = _; omega) fun k => ?_
  rw [co_ml (by simp), cv_congr (h := fun i => if i = 0 then 1 else 0) l k fun i _ => by cases i <;> rfl, cv_one]
theorem prop_ent {C a : Addr} {H : Hp} {xs : List Int} {Q : VK} (fa : Fo C H a xs) (q : ∀ t, H t = some (tp xs) → Q (.ref t) H) : ∃ a' dx vs, V.ref a = .ref a' ∧ Slt H a' C dx vs ∧ spEnt C [.ref a'] H Q E0 := by
  obtain ⟨dx, t, ha, _⟩ := fa.slt
  exact ⟨a, dx, _, rfl, ha, a, xs, rfl, fa, q⟩
theorem prop_deg {C a : Addr} {H : Hp} {xs : List Int} {Q : VK} (fa : Fo C H a xs) (q : Q (.int ((xs.length : Int) - 1)) H) : ∃ a' dx vs, V.ref a = .ref a' ∧ Slt H a' C dx vs ∧ spDeg C [.ref a'] H Q E0 := by
  obtain ⟨dx, t, ha, _⟩ := fa.slt
  exact ⟨a, dx, _, rfl, ha, a, xs, rfl, fa, q⟩
end
end K83

set_option Elab.async false
set_option linter.all false
set_option maxRecDepth 100000
/-! changed forms, derived forms: the plain law -/
namespace K83
theorem ev_zs (c : Int) {l m : List Int} (h : l.length = m.length) (x y : Int) : ev (zs c l m) x y = ev l x y + c * ev m x y := by
  have hz : (zs c l m).length = l.length := by unfold zs; rw [List.length_zipWith, h, Nat.min_self]
  have co_zs : ∀ k, co (zs c l m) k = co l k + c * co m k := fun k => by
    unfold zs
    by_cases hk : k < l.length
    · rw [co_get (by rw [List.length_zipWith]; omega), co_get hk, co_get (by omega), List.getElem_zipWith]
    · rw [co_far (by rw [List.length_zipWith]; omega), co_far (by omega), co_far (by omega), Int.mul_zero]
      rfl
  unfold ev
  rw [hz, ← h, ← evF_mul, ← evF_add]
  exact evF_congr _ fun i _ => co_zs i
theorem ev_map (c : Int) (l : List Int) (x y : Int) : ev (l.map (c * ·)) x y = c * ev l x y := by
  unfold ev
  rw [List.length_map, ← evF_mul]
  exact evF_congr _ fun i _ => co_map c l i
theorem ev_one (x y : Int) : ev [1] x y = 1 := by
  rw [ev_cons]
  show 1 * x ^ 0 + y * 0 = 1
  rw [Int.pow_zero, Int.mul_zero]
  rfl
theorem ev_nil (x y : Int) : ev [] x y = 0 := rfl
theorem pow_ne {l : List Int} (h : l ≠ []) : ∀ n, pow l n ≠ []
  | 0 => by show [1] ≠ []; simp
  | n + 1 => ml_ne (pow_ne h n) h
theorem pow_len {l : List Int} (h : l.length = 2) : ∀ n, (pow l n).length = n + 1
  | 0 => rfl
  | n + 1 => by
    show (ml (pow l n) l).length = _
    rw [ml_len, pow_len h n, h]
    omega
theorem ev_pow {l : List Int} (h : l ≠ []) (x y : Int) : ∀ n, ev (pow l n) x y = ev l x y ^ n
  | 0 => by rw [Int.pow_zero]; exact ev_one x y
  | n + 1 => by
    show ev (ml (pow l n) l) x y = _
    rw [ev_ml (pow_ne h n) h, ev_pow h x y n, Int.pow_succ]
theorem zs_len {c : Int} {l m : List Int} (h : l.length = m.length) : (zs c l m).length = l.length := by unfold zs; rw [List.length_zipWith, h, Nat.min_self]
/-- how the program changes: the entries that are left, what is found, the power of the second row -/
def chg (X Y : List Int) : List Int → List Int → List Int → List Int
  | [], f, _ => f
  | e :: r, f, p => chg X Y r (zs e (ml f X) (ml p Y)) (ml p Y)
theorem chg_len {X Y : List Int} (hX : X.length = 2) (hY : Y.length = 2) : ∀ (r f p : List Int), f ≠ [] → f.length = p.length → (chg X Y r f p).length = f.length + r.length
  | [], f, p, _, _ => rfl
  | e :: r, f, p, nf, h => by
    have pf : 0 < f.length := List.length_pos_iff.mpr nf
    have l1 : (ml f X).length = f.length + 1 := by rw [ml_len, hX]; omega
    have l2 : (ml p Y).length = f.length + 1 := by rw [ml_len, hY, ← h]; omega
    have l3 : (zs e (ml f X) (ml p Y)).length = f.length + 1 := by rw [zs_len (by rw [l1, l2]), l1]
    show (chg X Y r (zs e (ml f X) (ml p Y)) (ml p Y)).length = _
    rw [chg_len hX hY r _ _ (fun z => by rw [z] at l3; cases l3) (by rw [l3, l2]), l3, List.length_cons]
    omega
theorem ev_chg {X Y : List Int} (hX : X.length = 2) (hY : Y.length = 2) (x y : Int) : ∀ (r f p : List Int), f ≠ [] → f.length = p.length →
    ev (chg X Y r f p) x y = ev f x y * ev X x y ^ r.length + ev p x y * ev Y x y * ev r (ev X x y) (ev Y x y)
  | [], f, p, _, _ => by
    show ev f x y = ev f x y * ev X x y ^ 0 + ev p x y * ev Y x y * 0
    rw [Int.pow_zero, Int.mul_one, Int.mul_zero, Int.add_zero]
  | e :: r, f, p, nf, h => by
    have pf : 0 < f.length := List.length_pos_iff.mpr nf
    have np : p ≠ [] := fun z => by rw [z] at h; simp at h; exact nf h
    have nX : X ≠ [] := fun z => by rw [z] at hX; cases hX
    have nY : Y ≠ [] := fun z => by rw [z] at hY; cases hY
    have l1 : (ml f X).length = f.length + 1 := by rw [ml_len, hX]; omega
    have l2 : (ml p Y).length = f.length + 1 := by rw [ml_len, hY, ← h]; omega
    have l3 : (zs e (ml f X) (ml p Y)).length = f.length + 1 := by rw [zs_len (by rw [l1, l2]), l1]
    show ev (chg X Y r (zs e (ml f X) (ml p Y)) (ml p Y)) x y = _
    rw [ev_chg hX hY x y r _ _ (fun z => by rw [z] at l3; cases l3) (by rw [l3, l2]), ev_zs e (by rw [l1, l2]), ev_ml nf nX, ev_ml np nY, ev_cons, List.length_cons, Int.pow_succ]
    generalize ev f x y = a
    generalize ev p x y = b
    generalize ev X x y = u
    generalize ev Y x y = v
    generalize ev r u v = w
    generalize u ^ r.length = z
    grind
/-- the changed form -/
def changed (X Y l : List Int) : List Int := chg X Y l.tail [co l 0] [1]
theorem changed_len {X Y l : List Int} (hX : X.length = 2) (hY : Y.length = 2) (h : l ≠ []) : (changed X Y l).length = l.length := by
  match l, h with
  | a :: r, _ =>
    show (chg X Y r [a] [1]).length = _
    rw [chg_len hX hY r [a] [1] (by simp) rfl]
    show 1 + r.length = r.length + 1
    omega
theorem ev_changed {X Y l : List Int} (hX : X.length = 2) (hY : Y.length = 2) (h : l ≠ []) (x y : Int) : ev (changed X Y l) x y = ev l (ev X x y) (ev Y x y) := by
  match l, h with
  | a :: r, _ =>
    show ev (chg X Y r [a] [1]) x y = _
    rw [ev_chg hX hY x y r [a] [1] (by simp) rfl, ev_one, ev_cons a r, Int.one_mul, ev_cons a []]
    show (a * x ^ 0 + y * 0) * _ + _ = _
    rw [Int.pow_zero, Int.mul_one, Int.mul_zero, Int.add_zero]
/-- how the law changes: the first i entries -/
def chL (X Y l : List Int) : Nat → List Int
  | 0 => List.replicate l.length 0
  | i + 1 => zs 1 (chL X Y l i) ((ml (pow X (l.length - 1 - i)) (pow Y i)).map (co l i * ·))
theorem chL_len {X Y l : List Int} (hX : X.length = 2) (hY : Y.length = 2) : ∀ i, i ≤ l.length → (chL X Y l i).length = l.length
  | 0, _ => List.length_replicate
  | i + 1, h => by
    have l1 := chL_len (l := l) hX hY i (by omega)
    have l2 : ((ml (pow X (l.length - 1 - i)) (pow Y i)).map (co l i * ·)).length = l.length := by
      rw [List.length_map, ml_len, pow_len hX, pow_len hY]
      omega
    show (zs 1 (chL X Y l i) _).length = _
    rw [zs_len (by rw [l1, l2]), l1]
theorem ev_rep (n : Nat) (x y : Int) : ev (List.replicate n 0) x y = 0 := by
  unfold ev
  rw [show evF (List.replicate n (0 : Int)).length (co (List.replicate n 0)) x y = evF (List.replicate n (0 : Int)).length (fun _ => 0) x y from evF_congr _ fun i hi => by
    rw [co_get hi, List.getElem_replicate], evF_zero]
theorem ev_chL {X Y l : List Int} (hX : X.length = 2) (hY : Y.length = 2) (x y : Int) : ∀ i, i < l.length → ev (chL X Y l (i + 1)) x y = ev X x y ^ (l.length - 1 - i) * evF (i + 1) (co l) (ev X x y) (ev Y x y)
  | i, h => by
    have nX : X ≠ [] := fun z => by rw [z] at hX; cases hX
    have nY : Y ≠ [] := fun z => by rw [z] at hY; cases hY
    have l1 := chL_len (l := l) hX hY i (by omega)
    have l2 : ((ml (pow X (l.length - 1 - i)) (pow Y i)).map (co l i * ·)).length = l.length := by
      rw [List.length_map, ml_len, pow_len hX, pow_len hY]
      omega
    have ih : ev (chL X Y l i) x y = ev X x y ^ (l.length - 1 - i) * (ev X x y * evF i (co l) (ev X x y) (ev Y x y)) := by
      match i, h with
      | 0, _ =>
        show ev (List.replicate l.length 0) x y = _ * (_ * 0)
        rw [ev_rep, Int.mul_zero, Int.mul_zero]
      | j + 1, h =>
        rw [ev_chL hX hY x y j (by omega), show l.length - 1 - j = (l.length - 1 - (j + 1)) + 1 by omega, Int.pow_succ, Int.mul_assoc]
    show ev (zs 1 (chL X Y l i) _) x y = ev X x y ^ (l.length - 1 - i) * (ev X x y * evF i (co l) (ev X x y) (ev Y x y) + co l i * ev Y x y ^ i)
    rw [ev_zs 1 (by rw [l1, l2]), ev_map, ev_ml (pow_ne nX _) (pow_ne nY _), ev_pow nX, ev_pow nY, ih]
    generalize ev X x y ^ (l.length - 1 - i) = A
    generalize ev Y x y ^ i = B
    generalize ev X x y = u
    generalize evF i (co l) u (ev Y x y) = w
    grind
theorem chL_all {X Y l : List Int} (hX : X.length = 2) (hY : Y.length = 2) (h : l ≠ []) : chL X Y l l.length = changed X Y l := by
  have pl : 0 < l.length := List.length_pos_iff.mpr h
  refine ev_inj (by rw [chL_len hX hY _ (Nat.le_refl _), changed_len hX hY h]) fun x y => ?_
  rw [ev_changed hX hY h]
  have := ev_chL (l := l) hX hY x y (l.length - 1) (by omega)
  rw [show l.length - 1 + 1 = l.length by omega, Nat.sub_self, Int.pow_zero, Int.one_mul] at this
  exact this
theorem ev2 (a b x y : Int) : ev [a, b] x y = a * x + b * y := by
  rw [ev_cons, ev_cons, ev_nil]
  show a * x ^ 1 + y * (b * x ^ 0 + y * 0) = _
  rw [Int.pow_zero, Int.pow_succ, Int.pow_zero]
  grind
theorem pow_zero {c : Int} : ∀ {n : Nat}, c ^ n = 0 → c = 0
  | 0, h => by rw [Int.pow_zero] at h; cases h
  | n + 1, h => by
    rw [Int.pow_succ] at h
    rcases Int.mul_eq_zero.mp h with e | e
    · exact pow_zero e
    · exact e
/-- a form of a degree, at multiples -/
theorem evF_hom (c : Int) (g : Nat → Int) (x y : Int) : ∀ n, c * evF n g (c * x) (c * y) = c ^ n * evF n g x y
  | 0 => by show c * 0 = _ * 0; rw [Int.mul_zero, Int.mul_zero]
  | n + 1 => by
    have ih := evF_hom c g x y n
    show c * (c * x * evF n g (c * x) (c * y) + g n * (c * y) ^ n) = c ^ (n + 1) * (x * evF n g x y + g n * y ^ n)
    rw [Int.mul_pow, Int.pow_succ]
    generalize evF n g (c * x) (c * y) = w at *
    generalize evF n g x y = z at *
    generalize c ^ n = A at *
    generalize y ^ n = B
    grind
theorem zero_of_ev {l : List Int} (h : ∀ x y, ev l x y = 0) : ∀ z ∈ l, z = 0 := by
  have e : l = List.replicate l.length 0 := ev_inj (by rw [List.length_replicate]) fun x y => by rw [h, ev_rep]
  intro z hz
  rw [e] at hz
  exact (List.mem_replicate.mp hz).2
theorem ev_zero {l : List Int} (h : ∀ z ∈ l, z = 0) (x y : Int) : ev l x y = 0 := by
  have e : l = List.replicate l.length 0 := List.eq_replicate_iff.mpr ⟨rfl, h⟩
  rw [e, ev_rep]
/-- no form other than zero becomes zero -/
theorem changed_zero {a b c d : Int} {l : List Int} (hd : a * d - b * c ≠ 0) (nl : l ≠ []) : ((changed [a, b] [c, d] l).any (· != 0)) = l.any (· != 0) := by
  have key : (∀ z ∈ changed [a, b] [c, d] l, z = 0) ↔ ∀ z ∈ l, z = 0 := by
    constructor
    · intro h
      refine zero_of_ev fun x y => ?_
      have h1 : ∀ u v, ev l (a * u + b * v) (c * u + d * v) = 0 := fun u v => by
        rw [← ev2, ← ev2 c d, ← ev_changed rfl rfl nl, ev_zero h]
      have h2 := h1 (d * x - b * y) (a * y - c * x)
      rw [show a * (d * x - b * y) + b * (a * y - c * x) = (a * d - b * c) * x by grind, show c * (d * x - b * y) + d * (a * y - c * x) = (a * d - b * c) * y by grind] at h2
      have h3 := evF_hom (a * d - b * c) (co l) x y l.length
      rw [show evF l.length (co l) ((a * d - b * c) * x) ((a * d - b * c) * y) = 0 from h2, Int.mul_zero] at h3
      rcases Int.mul_eq_zero.mp h3.symm with e | e
      · exact absurd (pow_zero e) hd
      · exact e
    · intro h
      refine zero_of_ev fun x y => ?_
      rw [ev_changed rfl rfl nl, ev_zero h]
  by_cases c1 : ∀ z ∈ l, z = 0
  · have c2 := key.mpr c1
    have f : ∀ m : List Int, (∀ z ∈ m, z = 0) → m.any (· != 0) = false := fun m hm => by
      rw [List.any_eq_false]
      intro z hz
      rw [hm z hz]
      decide
    rw [f _ c1, f _ c2]
  · have c2 : ¬ ∀ z ∈ changed [a, b] [c, d] l, z = 0 := fun z => c1 (key.mp z)
    have f : ∀ m : List Int, (¬ ∀ z ∈ m, z = 0) → m.any (· != 0) = true := fun m hm => by
      refine Classical.byContradiction fun q => hm fun z hz => ?_
      have := List.any_eq_false.mp (Bool.not_eq_true _ ▸ q) z hz
      simpa using this
    rw [f _ c1, f _ c2]
/-! ### derivatives -/
/-- derived by x, by y -/
def dX (l : List Int) : List Int := tb (l.length - 1) fun k => co l k * ((l.length : Int) - 1 - k)
def dY (l : List Int) : List Int := tb (l.length - 1) fun k => co l (k + 1) * ((k : Int) + 1)
theorem dX_len (l : List Int) : (dX l).length = l.length - 1 := tb_len _ _
theorem dY_len (l : List Int) : (dY l).length = l.length - 1 := tb_len _ _
theorem co_zs' (c : Int) {l m : List Int} (h : l.length = m.length) (k : Nat) : co (zs c l m) k = co l k + c * co m k := by
  unfold zs
  by_cases hk : k < l.length
  · rw [co_get (by rw [List.length_zipWith]; omega), co_get hk, co_get (by omega), List.getElem_zipWith]
  · rw [co_far (by rw [List.length_zipWith]; omega), co_far (by omega), co_far (by omega), Int.mul_zero]
    rfl
def it (f : List Int → List Int) : Nat → List Int → List Int
  | 0, l => l
  | n + 1, l => f (it f n l)
theorem dX_it_len (l : List Int) : ∀ n, (it dX n l).length = l.length - n
  | 0 => rfl
  | n + 1 => by
    show (dX (it dX n l)).length = _
    rw [dX_len, dX_it_len l n]
    omega
theorem dY_it_len (l : List Int) : ∀ n, (it dY n l).length = l.length - n
  | 0 => rfl
  | n + 1 => by
    show (dY (it dY n l)).length = _
    rw [dY_len, dY_it_len l n]
    omega
/-- derived i times by x, j times by y -/
def dd (i j : Nat) (l : List Int) : List Int := it dY j (it dX i l)
theorem dd_len (i j : Nat) (l : List Int) : (dd i j l).length = l.length - i - j := by
  unfold dd
  rw [dY_it_len, dX_it_len]
end K83

set_option Elab.async false
set_option linter.all false
set_option maxRecDepth 100000
set_option maxHeartbeats 4000000
namespace K83
open PySem PySem.Spec PyProof.Rows L2 StX RZ MyR SlX OwnR OwnF EnumT
/-- a comprehension over enumerate of a tuple -/
theorem lc_enumT {K : PySem.W.Frag} {a : Addr} {xs : List V} {g : TG} {tt : TT} {te : TE} {vs : List Nat} {σ : L2.St} {H1 : Hp} {D : Addr} {Qd : Hp → Prop} (Pv : Nat → Hp → Prop) (h0 : Pv 0 (upd H1 D (.lst []))) (hq : ∀ i H, i ≤ xs.length → Pv i H → SqT K H a xs)
    (hs : ∀ (i : Nat) (x : V) (T : Addr) (H : Hp), xs[i]? = some x → Pv i H → H T = none → g (.ref T) (wipe σ vs) (upd H T (.tup [.int (i : Nat), x])) fun σ2 H2 => wipe σ2 vs = wipe σ vs ∧ tt σ2 H2 fun b H3 =>
      if b = true then te σ2 H3 fun y H4 => ∃ acc, H4 D = some (.lst acc) ∧ acc.length < sizeLine ∧ Pv (i + 1) (upd H4 D (.lst (acc ++ [y]))) else Pv (i + 1) H3) (hd : ∀ H, Pv xs.length H → Qd H) :
    ∃ W : Nat → Nat → Hp → Prop, (∃ m, W 0 m (upd H1 D (.lst []))) ∧ ∀ i m H, W i m H →
      ((IteT K a).stop i H ∧ Qd H) ∨ ((IteT K a).go i H ∧ ∃ Nx : Hp → Prop, (∀ H', Nx H' → ∃ m', m' < m ∧ W (i + 1) m' H') ∧ ∀ x H', (IteT K a).yld i H x H' → g x (wipe σ vs) H' fun σ2 H2 => wipe σ2 vs = wipe σ vs ∧ tt σ2 H2 fun b H3 =>
        if b = true then te σ2 H3 fun y H4 => ∃ acc, H4 D = some (.lst acc) ∧ acc.length < sizeLine ∧ Nx (upd H4 D (.lst (acc ++ [y]))) else Nx H3) := by
  refine ⟨fun i m H => m = xs.length - i ∧ i ≤ xs.length ∧ Pv i H, ⟨xs.length, by simp, Nat.zero_le _, h0⟩, ?_⟩
  rintro i m H ⟨rfl, hi, p⟩
  have qx := hq i H hi p
  by_cases hlt : i < xs.length
  · have hx : xs[i]? = some xs[i] := List.getElem?_eq_getElem hlt
    refine .inr ⟨⟨xs, _, qx, hx⟩, Pv (i + 1), fun H' p' => ⟨xs.length - (i + 1), by omega, rfl, hlt, p'⟩, fun v H' y => ?_⟩
    obtain ⟨T, x', rfl, hT, rfl, f1⟩ := y
    exact hs i x' T H (f1 xs qx) p hT
  · have e : i = xs.length := by omega
    subst e
    exact .inl ⟨⟨xs, qx, rfl⟩, hd H p⟩
section
variable {P : Program} {w : World} {K : PySem.W.Frag} {mg : Str → Option Value} {base : Heap}
/-! ### values -/
/-- what is asked of a value's letters -/
structure Vb (l : List Int) (x y : Int) (M : Nat) : Prop where
  x : x.natAbs ≤ M
  y : y.natAbs ≤ M
  one : 1 ≤ M
  big : nm l * M ^ l.length < 2 ^ 4000
  pw : M ^ (l.length + 1) < 2 ^ 4000
/-! ### changes -/
/-- a table of two rows of two -/
def Tb (H : Hp) (t : Addr) (X Y : List Int) : Prop := ∃ r0 r1, H t = some (.tup [.ref r0, .ref r1]) ∧ H r0 = some (tp X) ∧ H r1 = some (tp Y)
theorem Tb.same {H H' : Hp} {t : Addr} {X Y : List Int} (h : Tb H t X Y) (s : Same H H') : Tb H' t X Y := by
  obtain ⟨r0, r1, h1, h2, h3⟩ := h
  exact ⟨r0, r1, s _ _ h1, s _ _ h2, s _ _ h3⟩
theorem Tb.sx {H H' : Hp} {t d : Addr} {X Y : List Int} (h : Tb H t X Y) (hd : Dc H d) (s : Sx d H H') : Tb H' t X Y := by
  obtain ⟨r0, r1, h1, h2, h3⟩ := h
  exact ⟨r0, r1, s _ _ (dc_ne hd h1) h1, s _ _ (dc_ne hd h2) h2, s _ _ (dc_ne hd h3) h3⟩
/-- short pairs -/
structure Pr2 (X : List Int) : Prop where
  len : X.length = 2
  sho : ∀ x ∈ X, Sho x
theorem sIx_neg {n : Nat} (h : 1 ≤ n) : HT.sIx n n (some (-1)) = n - 1 := by
  unfold HT.sIx
  simp only []
  split <;> omega
theorem cut_tail (xs : List V) (h : 1 ≤ xs.length) : cutV xs (some 1) none = xs.drop 1 := by
  unfold cutV
  have e1 : HT.sIx xs.length 0 (some 1) = 1 := by
    unfold HT.sIx
    simp only []
    split <;> omega
  have e2 : HT.sIx xs.length xs.length none = xs.length := rfl
  rw [e1, e2]
  exact List.take_of_length_le (by rw [List.length_drop]; omega)
theorem cut_init (xs : List V) (h : 1 ≤ xs.length) : cutV xs none (some (-1)) = xs.take (xs.length - 1) := by
  unfold cutV
  have e1 : HT.sIx xs.length 0 none = 0 := rfl
  rw [e1, sIx_neg h, List.drop_zero, Nat.sub_zero]
end
end K83

set_option Elab.async false
set_option linter.all false
set_option maxRecDepth 100000
set_option maxHeartbeats 4000000
namespace K83
open PySem PySem.Spec PyProof.Rows L2 StX RZ MyR SlX OwnR OwnF EnumT
section
variable {P : Program} {w : World} {K : PySem.W.Frag} {mg : Str → Option Value} {base : Heap}
/-- all that is derived on the way is let -/
structure DdOk (i j : Nat) (l : List Int) : Prop where
  len : i + j + 1 ≤ l.length
  le : l.length ≤ 100
  sx : ∀ u, u ≤ i → ∀ z ∈ it dX u l, sm z
  sy : ∀ u, u ≤ j → ∀ z ∈ it dY u (it dX i l), sm z
def spDerived : Sp := fun vs H Q _ => ∃ (a : Addr) (l : List Int) (i j : Nat), vs = [.ref a, .int i, .int j] ∧ H a = some (tp l) ∧ DdOk i j l ∧ ∀ p H', Same H H' → H' p = some (tp (dd i j l)) → Q (.ref p) H'
theorem ecut_init {l : List Int} (h : 1 ≤ l.length) : HO.tup (cutV (l.map V.int) none (some (-1))) = tp (l.take (l.length - 1)) := by
  rw [cut_init _ (by rw [List.length_map]; exact h), ← List.map_take, List.length_map]
theorem ecut_tail {l : List Int} (h : 1 ≤ l.length) : HO.tup (cutV (l.map V.int) (some 1) none) = tp (l.drop 1) := by
  rw [cut_tail _ (by rw [List.length_map]; exact h), ← List.map_drop]
theorem co_take {l : List Int} {n k : Nat} (h : k < n) : co (l.take n) k = co l k := by
  unfold co
  rw [List.getD_eq_getElem?_getD, List.getD_eq_getElem?_getD, List.getElem?_take_of_lt h]
theorem co_drop1 (l : List Int) (k : Nat) : co (l.drop 1) k = co l (k + 1) := by
  unfold co
  rw [List.getD_eq_getElem?_getD, List.getD_eq_getElem?_getD, List.getElem?_drop, Nat.add_comm]
theorem Pr2.rw {X : List Int} (h : Pr2 X) : Rw X := ⟨fun z => (by have := h.len; rw [z] at this; cases this), (by rw [h.len]; decide), fun x hx => Nat.lt_trans (h.sho x hx) (by decide)⟩
end
end K83

set_option Elab.async false
set_option linter.all false
set_option maxRecDepth 100000
set_option maxHeartbeats 4000000
namespace K83
open PySem PySem.Spec PyProof.Rows L2 StX RZ MyR SlX OwnR OwnF EnumT
/-! ### how large changed and derived forms are -/
theorem bd_zs' {l m : List Int} {n b c : Nat} (e : Int) (h : Bd l n b) (g : Bd m n c) : Bd (zs e l m) n (b + e.natAbs * c) := by
  have hz : zs e l m = zs 1 l (m.map (e * ·)) := by
    refine co_inj (by rw [zs_len (by rw [h.len, g.len]), zs_len (by rw [List.length_map, h.len, g.len])]) fun k => ?_
    rw [co_zs' e (by rw [h.len, g.len]), co_zs' 1 (by rw [List.length_map, h.len, g.len]), co_map, Int.one_mul]
  rw [hz]
  exact bd_zs h (bd_scale g (Nat.le_refl _))
theorem nm_cons (x : Int) (xs : List Int) : nm (x :: xs) = x.natAbs + nm xs := rfl
theorem chg_bd {X Y : List Int} {b : Nat} (hX : Bd X 1 b) (hY : Bd Y 1 b) : ∀ (r f p : List Int) (k S : Nat), Bd f k (S * b ^ k) → Bd p k (b ^ k) → Bd (chg X Y r f p) (k + r.length) ((S + nm r) * b ^ (k + r.length))
  | [], f, p, k, S, hf, hp => hf
  | e :: r, f, p, k, S, hf, hp => by
    have h1 := bd_ml hf hX
    have h2 := bd_ml hp hY
    have h3 := bd_zs' e h1 h2
    have h4 : Bd (zs e (ml f X) (ml p Y)) (k + 1) ((S + e.natAbs) * b ^ (k + 1)) := by
      refine h3.mono (Nat.le_of_eq ?_)
      rw [Nat.add_mul, Nat.pow_succ, Nat.mul_assoc]
    have h5 := chg_bd hX hY r _ _ (k + 1) (S + e.natAbs) h4 (by rw [Nat.pow_succ]; exact h2)
    rw [List.length_cons, nm_cons, show k + (r.length + 1) = k + 1 + r.length by omega, show S + (e.natAbs + nm r) = S + e.natAbs + nm r by omega]
    exact h5
theorem changed_bd {X Y l : List Int} {n b B : Nat} (hX : Bd X 1 b) (hY : Bd Y 1 b) (hl : Bd l n B) : Bd (changed X Y l) n (B * b ^ n) := by
  match l, hl with
  | a :: r, hl =>
    have hr : r.length = n := by have := hl.len; rw [List.length_cons] at this; omega
    have h0 : Bd [a] 0 (a.natAbs * b ^ 0) := ⟨rfl, by show a.natAbs + 0 ≤ _; rw [Nat.pow_zero]; omega⟩
    have := chg_bd hX hY r [a] [1] 0 a.natAbs h0 bd_one
    rw [Nat.zero_add, hr] at this
    exact this.mono (Nat.mul_le_mul (by have := hl.nm; rw [nm_cons] at this; exact this) (Nat.le_refl _))
theorem sN_le_mul {f g : Nat → Int} {c : Nat} : ∀ n, (∀ k, k < n → (f k).natAbs ≤ c * (g k).natAbs) → sN n f ≤ c * sN n g
  | 0, _ => Nat.zero_le _
  | n + 1, h => by
    show sN n f + (f n).natAbs ≤ c * (sN n g + (g n).natAbs)
    have h1 := sN_le_mul n fun k hk => h k (by omega)
    have h2 := h n (by omega)
    rw [Nat.mul_add]
    omega
theorem nm_drop1 (l : List Int) : nm (l.drop 1) ≤ nm l := by
  cases l with
  | nil => exact Nat.le_refl _
  | cons x xs => exact Nat.le_add_left _ _
theorem nm_dX (l : List Int) : nm (dX l) ≤ l.length * nm l := by
  unfold dX
  rw [nm_tb]
  refine Nat.le_trans (sN_le_mul (g := co l) (c := l.length) _ fun k hk => ?_) (Nat.mul_le_mul (Nat.le_refl _) (sN_co l _))
  rw [Int.natAbs_mul, Nat.mul_comm]
  exact Nat.mul_le_mul (by omega) (Nat.le_refl _)
theorem nm_dY (l : List Int) : nm (dY l) ≤ l.length * nm l := by
  unfold dY
  rw [nm_tb]
  refine Nat.le_trans (sN_le_mul (g := co (l.drop 1)) (c := l.length) _ fun k hk => ?_) (Nat.mul_le_mul (Nat.le_refl _) (Nat.le_trans (sN_co (l.drop 1) _) (nm_drop1 l)))
  rw [Int.natAbs_mul, Nat.mul_comm, co_drop1]
  exact Nat.mul_le_mul (by omega) (Nat.le_refl _)
theorem nm_dX_it (l : List Int) : ∀ u, nm (it dX u l) ≤ l.length ^ u * nm l
  | 0 => by rw [Nat.pow_zero, Nat.one_mul]; exact Nat.le_refl _
  | u + 1 => by
    have h1 := nm_dX (it dX u l)
    have h2 := nm_dX_it l u
    rw [dX_it_len] at h1
    show nm (dX (it dX u l)) ≤ _
    rw [Nat.pow_succ, Nat.mul_comm (l.length ^ u), Nat.mul_assoc]
    exact Nat.le_trans h1 (Nat.mul_le_mul (by omega) h2)
theorem nm_dY_it (l : List Int) : ∀ u, nm (it dY u l) ≤ l.length ^ u * nm l
  | 0 => by rw [Nat.pow_zero, Nat.one_mul]; exact Nat.le_refl _
  | u + 1 => by
    have h1 := nm_dY (it dY u l)
    have h2 := nm_dY_it l u
    rw [dY_it_len] at h1
    show nm (dY (it dY u l)) ≤ _
    rw [Nat.pow_succ, Nat.mul_comm (l.length ^ u), Nat.mul_assoc]
    exact Nat.le_trans h1 (Nat.mul_le_mul (by omega) h2)
theorem nm_dd (i j : Nat) (l : List Int) (h : 1 ≤ l.length) : nm (dd i j l) ≤ l.length ^ (i + j) * nm l := by
  unfold dd
  refine Nat.le_trans (nm_dY_it (it dX i l) j) ?_
  rw [dX_it_len]
  refine Nat.le_trans (Nat.mul_le_mul (Nat.pow_le_pow_left (show l.length - i ≤ l.length by omega) j) (nm_dX_it l i)) (Nat.le_of_eq ?_)
  rw [Nat.pow_add, ← Nat.mul_assoc, Nat.mul_comm (l.length ^ j)]
end K83

set_option Elab.async false
set_option linter.all false
set_option maxRecDepth 100000
set_option maxHeartbeats 4000000
namespace K83
open PySem PySem.Spec PyProof.Rows L2 StX RZ MyR SlX OwnR OwnF EnumT
section
variable {P : Program} {w : World} {K : PySem.W.Frag} {mg : Str → Option Value} {base : Heap}
def spByX : Sp := fun vs H Q _ => ∃ (a : Addr) (m : List Int), vs = [.ref a] ∧ H a = some (tp m) ∧ 1 ≤ m.length ∧ m.length ≤ 100 ∧ (∀ z ∈ m, sm z) ∧ ∀ p H', Same H H' → H' p = some (tp (dX m)) → Q (.ref p) H'
theorem ok_law_by_x (T : Facts K mg) : FnOk P w K mg base CX0 1 T.f_law_by_x T.fd_law_by_x ["_law_form_here"] spByX := by
  refine T.F_law_by_x.ok sc_law_by_x (fun vs H Q E h => ?_) (fun cdv A outer s H vs Q E hr h => ?_)
  · obtain ⟨a, m, rfl, _⟩ := h
    rfl
  · obtain ⟨a, m, rfl, ha, h1, h2, sm1, q⟩ := h
    refine ⟨_, (PSs.nox (pss_one (ps_ret (pe_tupleOf (by rfl) T.z_tuple (pe_lc (own := [("_law_at", 1), ("_law_entry", 2)]) (g := (gTup K 2 (gCons (gName 1) (gCons (gName 2) gNil)))) (tt := tYes) (by rfl) sc_law_by_x.nd (pi_enumT (by rfl) T.z_enumerate (pa_cons (pe_slice sl_tupA (pv 0) po_none (po_some (pe_un un_neg pe_int))) pa_nil)) (blkOk_by (N := N_law_by_x) (sc := defScope s_law_by_x) (by decide +kernel)) (fun _ _ _ _ _ => (pg_tup (by rfl) (pgs_cons (pg_name (i := 1) sc_law_by_x.nd rfl (.inl rfl)) (pgs_cons (pg_name (i := 2) sc_law_by_x.nd rfl (.inl rfl)) pgs_nil)))) (fun _ _ _ _ _ => pts_nil) (fun _ _ _ _ _ => (pe_op op_mulW (pv 2) (pe_op op_sub (pe_op op_sub (pe_callB (call_len_seq : CallR _ _ (Evl.rLenS K)) (by rfl) T.z_len (by decide +kernel) (pa_cons (pv 0) pa_nil)) pe_int) (pv 1))))))))), ?_⟩
    refine ⟨_, rfl, _, rfl, _, rfl, a, _, rfl, SqT.of ha, fun z => absurd z.2 (by rw [List.length_map, sIx_neg (by omega)]; omega), fun _ p np => ?_⟩
    rw [ecut_init (by omega)]
    refine gen_upd H p _ np fun H2 s2 f2 => ⟨p, _, rfl, SqT.of f2, fun D hD => lc_enumT (xs := (m.take (m.length - 1)).map V.int) (fun k H' => Same H2 H' ∧ H' D = some (.lst (tab k fun k => co m k * ((m.length : Int) - 1 - k)))) ⟨same_upd0 hD, upd_same⟩ (fun k H' _ hP => SqT.of (hP.1 _ _ f2)) (fun k x B H' hx hP hB => ?_) (fun H3 hP => ?_)⟩
    · obtain ⟨sH, hL⟩ := hP
      obtain ⟨hk, rfl⟩ := int_get hx
      rw [List.length_take] at hk
      rw [co_take (by omega)]
      refine gen_upd H' B _ hB fun H4 s4 f4 => ⟨B, _, rfl, SqT.of f4, rfl, _, _, rfl, _, _, rfl, rfl, rfl, ?_⟩
      have hfB := (s2.trans (sH.trans s4)) _ _ ha
      refine ⟨_, rfl, _, rfl, a, _, rfl, .inr (SqT.of hfB), ?_⟩
      rw [List.length_map]
      refine ⟨_, _, rfl, rfl, _, rfl, _, _, rfl, rfl, _, _, rfl, rfl, sm_mul (sm_co sm1 (by omega)) (Nat.lt_of_le_of_lt (show ((m.length : Int) - 1 - (k : Int)).natAbs ≤ 100 by omega) (Nat.lt_of_lt_of_le (show 100 < 2 ^ 7 by decide) (Nat.pow_le_pow_right (by decide) (by decide)))), _, s4 _ _ hL, ?_, fun b o e => ?_, ?_⟩
      · rw [tab_len]
        exact small1000 (by omega)
      · rw [upd_ne (ne_of_none e hD)]
        exact s4 _ _ (sH _ _ e)
      · rw [upd_same, ← tab_snoc]
    · obtain ⟨sH, hL⟩ := hP
      rw [List.length_map, List.length_take, Nat.min_eq_left (by omega), tab_tb] at hL
      exact .inl ⟨D, _, rfl, SqL.of hL, fun p5 n5 => q p5 _ (s2.trans (sH.trans (same_upd0 n5))) upd_same⟩
def spByY : Sp := fun vs H Q _ => ∃ (a : Addr) (m : List Int), vs = [.ref a] ∧ H a = some (tp m) ∧ 1 ≤ m.length ∧ m.length ≤ 100 ∧ (∀ z ∈ m, sm z) ∧ ∀ p H', Same H H' → H' p = some (tp (dY m)) → Q (.ref p) H'
theorem ok_law_by_y (T : Facts K mg) : FnOk P w K mg base CX0 1 T.f_law_by_y T.fd_law_by_y ["_law_form_here"] spByY := by
  refine T.F_law_by_y.ok sc_law_by_y (fun vs H Q E h => ?_) (fun cdv A outer s H vs Q E hr h => ?_)
  · obtain ⟨a, m, rfl, _⟩ := h
    rfl
  · obtain ⟨a, m, rfl, ha, h1, h2, sm1, q⟩ := h
    refine ⟨_, (PSs.nox (pss_one (ps_ret (pe_tupleOf (by rfl) T.z_tuple (pe_lc (own := [("_law_at", 1), ("_law_entry", 2)]) (g := (gTup K 2 (gCons (gName 1) (gCons (gName 2) gNil)))) (tt := tYes) (by rfl) sc_law_by_y.nd (pi_enumT (by rfl) T.z_enumerate (pa_cons (pe_slice sl_tupA (pv 0) (po_some pe_int) po_none) pa_nil)) (blkOk_by (N := N_law_by_y) (sc := defScope s_law_by_y) (by decide +kernel)) (fun _ _ _ _ _ => (pg_tup (by rfl) (pgs_cons (pg_name (i := 1) sc_law_by_y.nd rfl (.inl rfl)) (pgs_cons (pg_name (i := 2) sc_law_by_y.nd rfl (.inl rfl)) pgs_nil)))) (fun _ _ _ _ _ => pts_nil) (fun _ _ _ _ _ => (pe_op op_mulW (pv 2) (pe_op op_add (pv 1) pe_int)))))))), ?_⟩
    refine ⟨_, rfl, 1, rfl, a, _, rfl, SqT.of ha, fun z => absurd z.1 (by
      rw [List.length_map]
      unfold HT.sIx
      simp only []
      split <;> omega), fun _ p np => ?_⟩
    rw [ecut_tail (by omega)]
    refine gen_upd H p _ np fun H2 s2 f2 => ⟨p, _, rfl, SqT.of f2, fun D hD => lc_enumT (xs := (m.drop 1).map V.int) (fun k H' => Same H2 H' ∧ H' D = some (.lst (tab k fun k => co m (k + 1) * ((k : Int) + 1)))) ⟨same_upd0 hD, upd_same⟩ (fun k H' _ hP => SqT.of (hP.1 _ _ f2)) (fun k x B H' hx hP hB => ?_) (fun H3 hP => ?_)⟩
    · obtain ⟨sH, hL⟩ := hP
      obtain ⟨hk, rfl⟩ := int_get hx
      rw [List.length_drop] at hk
      rw [co_drop1]
      refine gen_upd H' B _ hB fun H4 s4 f4 => ⟨B, _, rfl, SqT.of f4, rfl, _, _, rfl, _, _, rfl, rfl, rfl, ?_⟩
      refine ⟨_, rfl, _, rfl, _, _, rfl, rfl, _, _, rfl, rfl, sm_mul (sm_co sm1 (by omega)) (Nat.lt_of_le_of_lt (show ((k : Int) + 1).natAbs ≤ 100 by omega) (Nat.lt_of_lt_of_le (show 100 < 2 ^ 7 by decide) (Nat.pow_le_pow_right (by decide) (by decide)))), _, s4 _ _ hL, ?_, fun b o e => ?_, ?_⟩
      · rw [tab_len]
        exact small1000 (by omega)
      · rw [upd_ne (ne_of_none e hD)]
        exact s4 _ _ (sH _ _ e)
      · rw [upd_same, ← tab_snoc]
    · obtain ⟨sH, hL⟩ := hP
      rw [List.length_map, List.length_drop, tab_tb] at hL
      exact .inl ⟨D, _, rfl, SqL.of hL, fun p5 n5 => q p5 _ (s2.trans (sH.trans (same_upd0 n5))) upd_same⟩
theorem ok_law_derived (T : Facts K mg) : FnOk P w K mg base CX0 2 T.f_law_derived T.fd_law_derived ["_law_form_here", "_law_one", "_law_other"] spDerived := by
  have G_law_by_x := ok_law_by_x (P := P) (w := w) (base := base) T
  have G_law_by_y := ok_law_by_y (P := P) (w := w) (base := base) T
  refine T.F_law_derived.ok sc_law_derived (fun vs H Q E h => ?_) (fun cdv A outer s H vs Q E hr h => ?_)
  · obtain ⟨a, l, i, j, rfl, _⟩ := h
    rfl
  · obtain ⟨a, l, i, j, rfl, ha, ok, q⟩ := h
    have hlen := ok.len
    have hle := ok.le
    refine ⟨_, (PSs.nox (pss_cons (ps_for PassesOwn.never (by rfl) (pi_range1 (by rfl) T.z_range (pa_cons (pv 1) pa_nil)) (pg_name (i := 3) sc_law_derived.nd rfl (.inl rfl))
      (pss_one (ps_set (i := 0) sc_law_derived.nd rfl (.inl rfl) (pe_call G_law_by_x hr (by rfl) T.g_law_by_x T.F_law_by_x.kp T.b_law_by_x .nil pass0 (pa_cons (pv 0) pa_nil)))))
    (pss_cons (ps_for PassesOwn.never (by rfl) (pi_range1 (by rfl) T.z_range (pa_cons (pv 2) pa_nil)) (pg_name (i := 3) sc_law_derived.nd rfl (.inl rfl))
      (pss_one (ps_set (i := 0) sc_law_derived.nd rfl (.inl rfl) (pe_call G_law_by_y hr (by rfl) T.g_law_by_y T.F_law_by_y.kp T.b_law_by_y .nil pass0 (pa_cons (pv 0) pa_nil)))))
    (pss_one (ps_ret (pv 0)))))), ?_⟩
    refine ⟨_, rfl, i, rfl, by omega, by omega, for_range (n := (i : Int).toNat) (fun u σ H' => ∃ fa y3, σ = [some (.ref fa), some (.int i), some (.int j), y3] ∧ Same H H' ∧ H' fa = some (tp (it dX u l))) ⟨a, none, rfl, Same.rf H, ha⟩ (fun u σ H1 hu hP => ?_) (fun σ H1 hP => ?_)⟩
    · obtain ⟨fa, y3, rfl, s1, hf⟩ := hP
      have lu := dX_it_len l u
      exact ⟨_, rfl, fa, _, rfl, hf, by omega, by omega, ok.sx u (by omega), fun p H2 s2 hp => ⟨p, _, rfl, s1.trans s2, hp⟩⟩
    · obtain ⟨fa, y3, rfl, s1, hf⟩ := hP
      rw [Int.toNat_natCast] at hf
      have lu0 := dX_it_len l i
      refine ⟨_, rfl, j, rfl, by omega, by omega, for_range (n := (j : Int).toNat) (fun u σ H' => ∃ fa y3, σ = [some (.ref fa), some (.int i), some (.int j), y3] ∧ Same H H' ∧ H' fa = some (tp (it dY u (it dX i l)))) ⟨fa, y3, rfl, s1, hf⟩ (fun u σ H1 hu hP => ?_) (fun σ H1 hP => ?_)⟩
      · obtain ⟨fa, y3, rfl, s1, hf⟩ := hP
        have lu := dY_it_len (it dX i l) u
        exact ⟨_, rfl, fa, _, rfl, hf, by omega, by omega, ok.sy u (by omega), fun p H2 s2 hp => ⟨p, _, rfl, s1.trans s2, hp⟩⟩
      · obtain ⟨fa, y3, rfl, s1, hf⟩ := hP
        rw [Int.toNat_natCast] at hf
        exact ⟨_, rfl, q fa H1 s1 hf⟩
/-- all that the law makes on its way is let -/
structure LchOk (X Y l : List Int) : Prop where
  ne : l ≠ []
  len : l.length ≤ 90
  lX : X.length = 2
  lY : Y.length = 2
  pX : ∀ i, i ≤ l.length → Rw (pow X i)
  pY : ∀ i, i ≤ l.length → Rw (pow Y i)
  pm : ∀ i, i < l.length → Rw (ml (pow X (l.length - 1 - i)) (pow Y i))
  sl : ∀ z ∈ l, sm z
def spLChanged : Sp := fun vs H Q _ => ∃ (a t : Addr) (l X Y : List Int), vs = [.ref a, .ref t] ∧ H a = some (tp l) ∧ Tb H t X Y ∧ LchOk X Y l ∧ ∀ p H', Same H H' → H' p = some (tp (changed X Y l)) → Q (.ref p) H'
theorem tab_repl (n : Nat) : tab n (fun _ => 0) = (List.replicate n (0 : Int)).map V.int := by
  rw [tab_tb]
  congr 1
  refine co_inj (by rw [tb_len, List.length_replicate]) fun k => ?_
  rw [co_tb]
  by_cases h : k < n
  · rw [if_pos h, co_get (by rw [List.length_replicate]; exact h), List.getElem_replicate]
  · rw [if_neg h, co_far (by rw [List.length_replicate]; omega)]
theorem ok_law_changed (T : Facts K mg) : FnOk P w K mg base CX0 3 T.f_law_changed T.fd_law_changed ["_law_form_here", "_law_table_here"] spLChanged := by
  have G_law_product := ok_law_product (P := P) (w := w) (base := base) T
  have G_law_power := ok_law_power (P := P) (w := w) (base := base) T
  have G_law_plus := ok_law_plus (P := P) (w := w) (base := base) T
  have G_law_scaled := ok_law_scaled (P := P) (w := w) (base := base) T
  refine T.F_law_changed.ok sc_law_changed (fun vs H Q E h => ?_) (fun cdv A outer s H vs Q E hr h => ?_)
  · obtain ⟨a, t, l, X, Y, rfl, _⟩ := h
    rfl
  · obtain ⟨a, t, l, X, Y, rfl, ha, ht, ok, q⟩ := h
    obtain ⟨r0, r1, h1, h2, h3⟩ := ht
    have hlen := ok.len
    have rX : Rw X := by have := ok.pX 1 (List.length_pos_iff.mpr ok.ne); rwa [show pow X 1 = X from by show ml [1] X = X; rw [ml_comm, ml_one]] at this
    have rY : Rw Y := by have := ok.pY 1 (List.length_pos_iff.mpr ok.ne); rwa [show pow Y 1 = Y from by show ml [1] Y = Y; rw [ml_comm, ml_one]] at this
    refine ⟨_, (PSs.nox (pss_cons (ps_set (i := 2) sc_law_changed.nd rfl (.inl rfl) (pe_tupleOf (by rfl) T.z_tuple (pe_lc (own := [("_law_entry", 3)]) (g := (gName 3)) (tt := tYes) (by rfl) sc_law_changed.nd (pi_tup (pv 0)) (blkOk_by (N := N_law_changed) (sc := defScope s_law_changed) (by decide +kernel)) (fun _ _ _ _ _ => (pg_name (i := 3) sc_law_changed.nd rfl (.inl rfl))) (fun _ _ _ _ _ => pts_nil) (fun _ _ _ _ _ => pe_int))))
    (pss_cons (ps_for PassesOwn.never (by rfl) (pi_enumT (by rfl) T.z_enumerate (pa_cons (pv 0) pa_nil)) (pg_tup (by rfl) (pgs_cons (pg_name (i := 4) sc_law_changed.nd rfl (.inl rfl)) (pgs_cons (pg_name (i := 3) sc_law_changed.nd rfl (.inl rfl)) pgs_nil)))
      (pss_cons (ps_set (i := 5) sc_law_changed.nd rfl (.inl rfl) (pe_call G_law_product (hr.mono (by decide)) (by rfl) T.g_law_product T.F_law_product.kp T.b_law_product .nil pass0 (pa_cons (pe_call G_law_power hr (by rfl) T.g_law_power T.F_law_power.kp T.b_law_power .nil pass0 (pa_cons (pe_ix ix_tup (pv 1) pe_int (fun _ _ => rfl)) (pa_cons (pe_op op_sub (pe_op op_sub (pe_callB call_len_seq (by rfl) T.z_len (by decide +kernel) (pa_cons (pv 0) pa_nil)) pe_int) (pv 4)) pa_nil))) (pa_cons (pe_call G_law_power hr (by rfl) T.g_law_power T.F_law_power.kp T.b_law_power .nil pass0 (pa_cons (pe_ix ix_tup (pv 1) pe_int (fun _ _ => rfl)) (pa_cons (pv 4) pa_nil))) pa_nil))))
      (pss_one (ps_set (i := 2) sc_law_changed.nd rfl (.inl rfl) (pe_call G_law_plus (hr.mono (by decide)) (by rfl) T.g_law_plus T.F_law_plus.kp T.b_law_plus .nil pass0 (pa_cons (pv 2) (pa_cons (pe_call G_law_scaled (hr.mono (by decide)) (by rfl) T.g_law_scaled T.F_law_scaled.kp T.b_law_scaled .nil pass0 (pa_cons (pv 5) (pa_cons (pv 3) pa_nil))) pa_nil)))))))
    (pss_one (ps_ret (pv 2)))))), ?_⟩
    refine ⟨_, rfl, a, rfl, ⟨_, SqT.of ha⟩, fun D hD => lc_tup (xs := l.map V.int) (fun j H' => H' = upd H D (.lst (tab j fun _ => 0))) rfl (fun j H' _ hP => by rw [hP]; exact SqT.of (same_upd0 hD _ _ ha)) (fun j x H' hx hP => ?_) (fun H' hP => ?_)⟩
    · subst hP
      obtain ⟨hj, rfl⟩ := int_get hx
      refine ⟨rfl, _, upd_same, by rw [tab_len]; exact small1000 (by omega), ?_⟩
      rw [upd_upd, ← tab_snoc]
    · subst hP
      rw [List.length_map, tab_repl]
      refine .inl ⟨D, _, rfl, SqL.of upd_same, fun p0 n0 => ?_⟩
      have sD := same_upd0 (o := .lst ((List.replicate l.length (0 : Int)).map V.int)) hD
      refine gen_upd _ p0 (tp (List.replicate l.length 0)) n0 fun H1 s1 f1 => ?_
      have s01 := sD.trans s1
      refine ⟨_, rfl, a, _, rfl, SqT.of (s01 _ _ ha), for_enumT (xs := l.map V.int) (fun i σ H' => ∃ fa y3 y4 y5, σ = [some (.ref a), some (.ref t), some (.ref fa), y3, y4, y5] ∧ Same H H' ∧ H' fa = some (tp (chL X Y l i))) ⟨p0, none, none, none, rfl, s01, f1⟩ (fun i σ H' hP => ?_) (fun i x B σ H' hx hP hB => ?_) (fun σ H' hP => ?_)⟩
      · obtain ⟨fa, y3, y4, y5, _, sH, _⟩ := hP
        exact SqT.of (sH _ _ ha)
      · obtain ⟨fa, y3, y4, y5, rfl, sH, hf⟩ := hP
        obtain ⟨hi, rfl⟩ := int_get hx
        refine gen_upd H' B _ hB fun H2 s2 f2 => ⟨B, _, rfl, SqT.of f2, rfl, _, _, rfl, _, _, rfl, rfl, ?_⟩
        have t2 := sH.trans s2
        refine ⟨_, rfl, t, _, 0, _, rfl, rfl, SqT.of (t2 _ _ h1), atI_nat (j := 0) rfl, _, rfl, a, _, rfl, .inr (SqT.of (t2 _ _ ha)), ?_⟩
        rw [List.length_map]
        refine ⟨_, _, rfl, rfl, _, rfl, _, _, rfl, rfl, r0, X, l.length - 1 - i, ?_, t2 _ _ h2, rX.ne, rX.len, rX.sm, fun k hk => ?_, by omega, fun p3 H3 s3 f3 => ?_⟩
        · show [V.ref r0, V.int ((l.length : Int) - 1 - (i : Int))] = [V.ref r0, V.int ((l.length - 1 - i : Nat) : Int)]
          rw [show (l.length : Int) - 1 - (i : Int) = ((l.length - 1 - i : Nat) : Int) by omega]
        · have r := ok.pX k (by omega)
          exact ⟨r.ne, r.len, r.sm⟩
        have t3 := t2.trans s3
        refine ⟨_, rfl, t, _, 1, _, rfl, rfl, SqT.of (t3 _ _ h1), atI_nat (j := 1) rfl, _, rfl, r1, Y, i, rfl, t3 _ _ h3, rY.ne, rY.len, rY.sm, fun k hk => ?_, by omega, fun p4 H4 s4 f4 => ?_⟩
        · have r := ok.pY k (by omega)
          exact ⟨r.ne, r.len, r.sm⟩
        have f3' := s4 _ _ f3
        have qX := ok.pX (l.length - 1 - i) (by omega)
        have qY := ok.pY i (by omega)
        have qm := ok.pm i hi
        refine ⟨p3, p4, _, _, rfl, f3', f4, qX.ne, qY.ne, qX.len, qY.len, qX.sm, qY.sm, fun p5 H5 s5 _ f5 => ?_⟩
        have t5 := (s2.trans s3).trans (s4.trans s5)
        refine ⟨_, rfl, _, rfl, _, rfl, p5, _, _, rfl, f5, qm.len, qm.sm, sm_co ok.sl hi, fun p6 H6 s6 _ f6 => ?_⟩
        have lc := chL_len (l := l) ok.lX ok.lY i (by omega)
        have lm : ((ml (pow X (l.length - 1 - i)) (pow Y i)).map (co l i * ·)).length = l.length := by
          rw [List.length_map, ml_len, pow_len ok.lX, pow_len ok.lY]
          omega
        exact ⟨fa, p6, _, _, rfl, (t5.trans s6) _ _ hf, f6, by rw [lc]; exact lm.symm, by rw [lc]; omega, fun p7 H7 s7 _ f7 => ⟨p7, _, _, _, rfl, sH.trans ((t5.trans s6).trans s7), f7⟩⟩
      · obtain ⟨fa, y3, y4, y5, rfl, sH, hf⟩ := hP
        rw [List.length_map, chL_all ok.lX ok.lY ok.ne] at hf
        exact ⟨_, rfl, q fa H' sH hf⟩
end
end K83

set_option Elab.async false
set_option linter.all false
set_option maxRecDepth 100000
set_option maxHeartbeats 4000000
namespace K83
open PySem PySem.Spec PyProof.Rows L2 StX RZ MyR SlX OwnR OwnF EnumT
section
variable {P : Program} {w : World} {K : PySem.W.Frag} {mg : Str → Option Value} {base : Heap}
theorem sm_le {x : Int} {n : Nat} (h : x.natAbs ≤ n) (hn : n < 2 ^ 60) : sm x := Nat.lt_of_le_of_lt h (Nat.lt_of_lt_of_le hn (Nat.pow_le_pow_right (by decide) (by decide)))
def spTable : Sp := fun vs H Q _ => ∃ (d : Addr) (m : Nat), vs = [.ref d, .int m] ∧ Dc H d ∧ 1 ≤ m ∧ m ≤ 1000 ∧ ∀ p H' a b c e, Sx d H H' → Dc H' d → Tb H' p [a, b] [c, e] → a.natAbs ≤ m → b.natAbs ≤ m → c.natAbs ≤ m → e.natAbs ≤ m → a * e - b * c ≠ 0 → Q (.ref p) H'
theorem ok_law_table (T : Facts K mg) : FnOk P w K mg base CX0 3 T.f_law_table T.fd_law_table ["_law_dice_here", "_law_most"] spTable := by
  have G_law_near : FnOk P w K mg base CX0 2 T.f_law_near T.fd_law_near ["_law_dice_here", "_law_most"] spNear := ok_law_near T
  refine T.F_law_table.ok sc_law_table (fun vs H Q E h => ?_) (fun cdv A outer s H vs Q E hr h => ?_)
  · obtain ⟨d, m, rfl, _⟩ := h
    rfl
  · obtain ⟨d, m, rfl, hd, h1, h2, q⟩ := h
    have e15 : (10 : Int) ^ 15 = 1000000000000000 := by decide
    have z2 : 2 ≤ sizeLine := by decide
    refine ⟨_, (PSs.nox (pss_cons (ps_set (i := 2) sc_law_table.nd rfl (.inl rfl) (pe_tupleOf (by rfl) T.z_tuple (pe_lc (own := [("_law_row", 3)]) (g := (gName 3)) (tt := tYes) (by rfl) sc_law_table.nd (pi_range1 (by rfl) T.z_range (pa_cons pe_int pa_nil)) (blkOk_by (N := N_law_table) (sc := defScope s_law_table) (by decide +kernel)) (fun _ _ _ _ _ => (pg_name (i := 3) sc_law_table.nd rfl (.inl rfl))) (fun _ _ _ _ _ => pts_nil) (fun _ _ _ _ _ => (pe_tup (pa_cons (pe_call G_law_near hr (by rfl) T.g_law_near T.F_law_near.kp T.b_law_near .nil pass0 (pa_cons (pv 0) (pa_cons (pv 1) pa_nil))) (pa_cons (pe_call G_law_near hr (by rfl) T.g_law_near T.F_law_near.kp T.b_law_near .nil pass0 (pa_cons (pv 0) (pa_cons (pv 1) pa_nil))) pa_nil)))))))
    (pss_one (ps_ret (pe_ifExp (pt_cmpR op_ne (pe_op op_mulW (pe_ix ix_tup (pe_ix ix_tup (pv 2) pe_int (fun _ _ => rfl)) pe_int (fun _ _ => rfl)) (pe_ix ix_tup (pe_ix ix_tup (pv 2) pe_int (fun _ _ => rfl)) pe_int (fun _ _ => rfl))) (pe_op op_mulW (pe_ix ix_tup (pe_ix ix_tup (pv 2) pe_int (fun _ _ => rfl)) pe_int (fun _ _ => rfl)) (pe_ix ix_tup (pe_ix ix_tup (pv 2) pe_int (fun _ _ => rfl)) pe_int (fun _ _ => rfl))) (nomark _)) (pv 2) (pe_tup (pa_cons (pe_tup (pa_cons pe_int (pa_cons pe_int pa_nil))) (pa_cons (pe_tup (pa_cons pe_int (pa_cons pe_int pa_nil))) pa_nil)))))))), ?_⟩
    refine ⟨2, rfl, by decide, by decide, fun D hD => lc_range (n := (2 : Int).toNat) (fun j H' => Sx d H H' ∧ Dc H' d ∧ ∃ (rs : List Addr) (ls : List (List Int)), H' D = some (.lst (rs.map V.ref)) ∧ rs.length = j ∧ ls.length = j ∧ (∀ i (h : i < ls.length) (h' : i < rs.length), H' rs[i] = some (tp ls[i])) ∧ ∀ l ∈ ls, l.length = 2 ∧ ∀ x ∈ l, x.natAbs ≤ m) ⟨Sx.of (same_upd0 hD), hd.same (same_upd0 hD), [], [], upd_same, rfl, rfl, fun i h _ => absurd h (Nat.not_lt_zero i), fun l h => (nomatch h)⟩ (fun j H' hj hP => ?_) (fun H' hP => ?_)⟩
    · obtain ⟨sH, dH, rs, ls, hL, hl1, hl2, hr, hb⟩ := hP
      have nD : D ≠ d := hd.ne hD
      refine ⟨rfl, _, rfl, _, rfl, d, m, rfl, dH, by omega, by rw [e15]; omega, fun u H2 u1 u2 s2 d2 => ⟨_, rfl, _, rfl, d, m, rfl, d2, by omega, by rw [e15]; omega, fun v H3 v1 v2 s3 d3 => ⟨z2, fun p2 n2 => gen_upd H3 p2 (tp [u, v]) n2 fun H4 s4 f4 => ?_⟩⟩⟩
      have hL4 := s4 _ _ (s3 D _ nD (s2 D _ nD hL))
      have dD : ∀ a l, H4 a = some (tp l) → a ≠ D := fun a l e z => by
        rw [z, hL4] at e
        cases e
      have d4 := d3.same s4
      have hj2 : j < 2 := hj
      refine ⟨_, hL4, by rw [List.length_map, hl1]; exact small1000 (by omega), fun b o hb2 e => ?_, ?_, rs ++ [p2], ls ++ [[u, v]], by rw [upd_same, List.map_append]; rfl, by rw [List.length_append, hl1]; rfl, by rw [List.length_append, hl2]; rfl, fun i h h' => ?_, fun l hl => ?_⟩
      · rw [upd_ne (ne_of_none e hD)]
        exact s4 _ _ (s3 b o hb2 (s2 b o hb2 (sH b o hb2 e)))
      · obtain ⟨x, y, z, e⟩ := d4
        exact ⟨x, y, z, by rw [upd_ne (Ne.symm nD)]; exact e⟩
      · by_cases c : i < ls.length
        · have e1 : (rs ++ [p2])[i] = rs[i]'(by omega) := List.getElem_append_left _
          have e2 : (ls ++ [[u, v]])[i] = ls[i] := List.getElem_append_left _
          rw [e1, e2]
          have e3 := s3 _ _ (dc_ne d2 (s2 _ _ (dc_ne dH (hr i c (by omega))) (hr i c (by omega)))) (s2 _ _ (dc_ne dH (hr i c (by omega))) (hr i c (by omega)))
          rw [upd_ne (dD _ _ (s4 _ _ e3))]
          exact s4 _ _ e3
        · have ei : i = ls.length := by rw [List.length_append] at h; simp at h; omega
          subst ei
          have e1 : (rs ++ [p2])[ls.length] = p2 := by rw [List.getElem_append_right (by omega)]; simp [hl1, hl2]
          have e2 : (ls ++ [[u, v]])[ls.length] = [u, v] := by rw [List.getElem_append_right (by omega)]; simp
          rw [e1, e2, upd_ne (dD _ _ f4)]
          exact f4
      · rcases List.mem_append.mp hl with e | e
        · exact hb l e
        · rw [List.mem_singleton.mp e]
          refine ⟨rfl, fun x hx => ?_⟩
          simp only [List.mem_cons, List.not_mem_nil, or_false] at hx
          rcases hx with e | e <;> rw [e] <;> omega
    · obtain ⟨sH, dH, rs, ls, hL, hl1, hl2, hr, hb⟩ := hP
      match rs, hl1, ls, hl2, hL, hr, hb with
      | [r0, r1], _, [l0, l1], _, hL, hr, hb =>
        have k0 : H' r0 = some (tp l0) := hr 0 (by simp) (by simp)
        have k1 : H' r1 = some (tp l1) := hr 1 (by simp) (by simp)
        obtain ⟨b0, c0⟩ := hb l0 (by simp)
        obtain ⟨b1, c1⟩ := hb l1 (by simp)
        match l0, b0, l1, b1, k0, k1, c0, c1 with
        | [a, b], _, [c, e], _, k0, k1, c0, c1 =>
          have ba := c0 a (by simp)
          have bb := c0 b (by simp)
          have bc := c1 c (by simp)
          have be := c1 e (by simp)
          refine .inl ⟨D, _, rfl, SqL.of hL, fun p np => ?_⟩
          refine gen_upd H' p (.tup [.ref r0, .ref r1]) np fun H2 s2 f2 => ?_
          have k0' := s2 _ _ k0
          have k1' := s2 _ _ k1
          have sa := sm_le (n := 1000) (show a.natAbs ≤ 1000 by omega) (by decide)
          have sb := sm_le (n := 1000) (show b.natAbs ≤ 1000 by omega) (by decide)
          have sc := sm_le (n := 1000) (show c.natAbs ≤ 1000 by omega) (by decide)
          have se := sm_le (n := 1000) (show e.natAbs ≤ 1000 by omega) (by decide)
          refine ⟨_, rfl, p, _, 0, _, rfl, rfl, SqT.of f2, atI_nat (j := 0) rfl, r0, _, 0, _, rfl, rfl, SqT.of k0', atI_nat (j := 0) rfl, _, rfl, p, _, 1, _, rfl, rfl, SqT.of f2, atI_nat (j := 1) rfl, r1, _, 1, _, rfl, rfl, SqT.of k1', atI_nat (j := 1) rfl, _, _, rfl, rfl, sm_mul sa se, ?_⟩
          refine ⟨_, rfl, p, _, 0, _, rfl, rfl, SqT.of f2, atI_nat (j := 0) rfl, r0, _, 1, _, rfl, rfl, SqT.of k0', atI_nat (j := 1) rfl, _, rfl, p, _, 1, _, rfl, rfl, SqT.of f2, atI_nat (j := 1) rfl, r1, _, 0, _, rfl, rfl, SqT.of k1', atI_nat (j := 0) rfl, _, _, rfl, rfl, sm_mul sb sc, rfl, _, rfl, ?_⟩
          by_cases z : a * e = b * c
          · rw [decide_eq_true (show V.int (a * e) = V.int (b * c) by rw [z])]
            refine iteF ⟨z2, fun q0 m0 => gen_upd H2 q0 (tp [1, 1]) m0 fun H3 s3 f3 => ⟨z2, fun q1 m1 => gen_upd H3 q1 (tp [0, 1]) m1 fun H4 s4 f4 => ⟨z2, fun q2 m2 => gen_upd H4 q2 (.tup [.ref q0, .ref q1]) m2 fun H5 s5 f5 => ?_⟩⟩⟩
            have s25 := (s3.trans s4).trans s5
            exact q q2 H5 1 1 0 1 (sH.trans (Sx.of (s2.trans s25))) (dH.same (s2.trans s25)) ⟨q0, q1, f5, s5 _ _ (s4 _ _ f3), s5 _ _ f4⟩ (by show 1 ≤ m; omega) (by show 1 ≤ m; omega) (by show 0 ≤ m; omega) (by show 1 ≤ m; omega) (by decide)
          · rw [decide_eq_false fun y => z (V.int.inj y)]
            refine iteT ⟨_, rfl, q p H2 a b c e (sH.trans (Sx.of s2)) (dH.same s2) ⟨r0, r1, f2, k0', k1'⟩ ba bb bc be (by omega)⟩
def spDet : Sp := fun vs H Q _ => ∃ (t : Addr) (a b c e : Int), vs = [.ref t] ∧ Tb H t [a, b] [c, e] ∧ a.natAbs ≤ 1000000 ∧ b.natAbs ≤ 1000000 ∧ c.natAbs ≤ 1000000 ∧ e.natAbs ≤ 1000000 ∧ Q (.int (a * e - b * c)) H
theorem ok_law_det (T : Facts K mg) : FnOk P w K mg base CX0 1 T.f_law_det T.fd_law_det ["_law_table_here"] spDet := by
  refine T.F_law_det.ok sc_law_det (fun vs H Q E h => ?_) (fun cdv A outer s H vs Q E hr h => ?_)
  · obtain ⟨t, a, b, c, e, rfl, _⟩ := h
    rfl
  · obtain ⟨t, a, b, c, e, rfl, ⟨r0, r1, f2, k0, k1⟩, ba, bb, bc, be, q⟩ := h
    refine ⟨_, (PSs.nox (pss_one (ps_ret (pe_op op_sub (pe_op op_mulW (pe_ix ix_tup (pe_ix ix_tup (pv 0) pe_int (fun _ _ => rfl)) pe_int (fun _ _ => rfl)) (pe_ix ix_tup (pe_ix ix_tup (pv 0) pe_int (fun _ _ => rfl)) pe_int (fun _ _ => rfl))) (pe_op op_mulW (pe_ix ix_tup (pe_ix ix_tup (pv 0) pe_int (fun _ _ => rfl)) pe_int (fun _ _ => rfl)) (pe_ix ix_tup (pe_ix ix_tup (pv 0) pe_int (fun _ _ => rfl)) pe_int (fun _ _ => rfl))))))), ?_⟩
    refine ⟨_, rfl, t, _, 0, _, rfl, rfl, SqT.of f2, atI_nat (j := 0) rfl, r0, _, 0, _, rfl, rfl, SqT.of k0, atI_nat (j := 0) rfl, _, rfl, t, _, 1, _, rfl, rfl, SqT.of f2, atI_nat (j := 1) rfl, r1, _, 1, _, rfl, rfl, SqT.of k1, atI_nat (j := 1) rfl, _, _, rfl, rfl, sm_mul (sm_le ba (by decide)) (sm_le be (by decide)), ?_⟩
    exact ⟨_, rfl, t, _, 0, _, rfl, rfl, SqT.of f2, atI_nat (j := 0) rfl, r0, _, 1, _, rfl, rfl, SqT.of k0, atI_nat (j := 1) rfl, _, rfl, t, _, 1, _, rfl, rfl, SqT.of f2, atI_nat (j := 1) rfl, r1, _, 0, _, rfl, rfl, SqT.of k1, atI_nat (j := 0) rfl, _, _, rfl, rfl, sm_mul (sm_le bb (by decide)) (sm_le bc (by decide)), _, _, rfl, rfl, q⟩
end
end K83

set_option Elab.async false
set_option linter.all false
set_option maxRecDepth 100000
/-! layings: the plain law -/
namespace K83
theorem evF_cons (g : Nat → Int) (x y : Int) : ∀ m, evF (m + 1) g x y = g 0 * x ^ m + y * evF m (fun k => g (k + 1)) x y
  | 0 => by
    show x * 0 + g 0 * y ^ 0 = g 0 * x ^ 0 + y * 0
    rw [Int.pow_zero, Int.pow_zero]
    grind
  | m + 1 => by
    show x * evF (m + 1) g x y + g (m + 1) * y ^ (m + 1) = g 0 * x ^ (m + 1) + y * (x * evF m (fun k => g (k + 1)) x y + g (m + 1) * y ^ m)
    rw [evF_cons g x y m, Int.pow_succ, Int.pow_succ]
    generalize evF m (fun k => g (k + 1)) x y = w
    generalize x ^ m = A
    generalize y ^ m = B
    grind
theorem ev_tb (n : Nat) (f : Nat → Int) (x y : Int) : ev (tb n f) x y = evF n f x y := by
  unfold ev
  rw [tb_len]
  exact evF_congr _ fun i hi => by rw [co_tb, if_pos hi]
theorem ev_dX (l : List Int) (x y : Int) : ev (dX l) x y = evF (l.length - 1) (fun k => co l k * ((l.length : Int) - 1 - k)) x y := ev_tb _ _ x y
theorem ev_dY (l : List Int) (x y : Int) : ev (dY l) x y = evF (l.length - 1) (fun k => co l (k + 1) * ((k : Int) + 1)) x y := ev_tb _ _ x y
theorem ev_dX_cons (a : Int) (l : List Int) (x y : Int) : ev (dX (a :: l)) x y = a * l.length * x ^ (l.length - 1) + y * ev (dX l) x y := by
  rw [ev_dX, ev_dX]
  show evF (l.length + 1 - 1) _ x y = _
  rw [Nat.add_sub_cancel]
  cases hl : l.length with
  | zero =>
    show (0 : Int) = a * 0 * _ + y * 0
    grind
  | succ m =>
    rw [evF_cons]
    rw [show evF m (fun k => co (a :: l) (k + 1) * (((a :: l).length : Int) - 1 - ((k + 1 : Nat) : Int))) x y = evF (m + 1 - 1) (fun k => co l k * (((m + 1 : Nat) : Int) - 1 - k)) x y from by
      rw [Nat.add_sub_cancel]
      refine evF_congr _ fun k _ => ?_
      show co l k * (((a :: l).length : Int) - 1 - ((k + 1 : Nat) : Int)) = _
      congr 1
      rw [List.length_cons, hl]
      omega]
    show a * (((a :: l).length : Int) - 1 - ((0 : Nat) : Int)) * x ^ m + _ = _
    rw [List.length_cons, hl, Nat.add_sub_cancel, show (((m + 1 + 1 : Nat)) : Int) - 1 - ((0 : Nat) : Int) = ((m + 1 : Nat) : Int) by omega]
theorem ev_dY_cons (a : Int) (l : List Int) (x y : Int) : ev (dY (a :: l)) x y = ev l x y + y * ev (dY l) x y := by
  rw [ev_dY, ev_dY]
  show evF (l.length + 1 - 1) (fun k => co l k * ((k : Int) + 1)) x y = _
  rw [Nat.add_sub_cancel]
  have e1 : evF l.length (fun k => co l k * ((k : Int) + 1)) x y = ev l x y + evF l.length (fun k => co l k * (k : Int)) x y := by
    unfold ev
    rw [← evF_add]
    exact evF_congr _ fun k _ => by grind
  rw [e1]
  congr 1
  cases hl : l.length with
  | zero =>
    show (0 : Int) = y * 0
    rw [Int.mul_zero]
  | succ m =>
    rw [evF_cons, Nat.add_sub_cancel]
    show co l 0 * ((0 : Nat) : Int) * x ^ m + y * evF m (fun k => co l (k + 1) * ((k + 1 : Nat) : Int)) x y = _
    rw [show evF m (fun k => co l (k + 1) * ((k + 1 : Nat) : Int)) x y = evF m (fun k => co l (k + 1) * ((k : Int) + 1)) x y from evF_congr _ fun k _ => by rw [show ((k + 1 : Nat) : Int) = (k : Int) + 1 by omega]]
    show co l 0 * 0 * x ^ m + _ = _
    grind
/-- a step along a line: up to squares it is told by the derivatives -/
theorem pow_step (x u h : Int) : ∀ n : Nat, ∃ R, (x + u * h) ^ n = x ^ n + h * (u * (n * x ^ (n - 1))) + h * h * R
  | 0 => ⟨0, by rw [Int.pow_zero, Int.pow_zero]; show (1 : Int) = 1 + h * (u * (0 * _)) + h * h * 0; grind⟩
  | 1 => ⟨0, by
    rw [Int.pow_succ, Int.pow_zero, Int.pow_succ, Int.pow_zero]
    show 1 * (x + u * h) = 1 * x + h * (u * (1 * 1)) + h * h * 0
    grind⟩
  | n + 2 => by
    obtain ⟨R, e⟩ := pow_step x u h (n + 1)
    refine ⟨u * u * ((n + 1 : Nat) * x ^ n) + R * (x + u * h), ?_⟩
    rw [Int.pow_succ, e, show n + 1 - 1 = n by omega, show n + 2 - 1 = n + 1 by omega, Int.pow_succ x (n + 1), Int.pow_succ x n, show ((n + 2 : Nat) : Int) = ((n + 1 : Nat) : Int) + 1 by omega]
    generalize x ^ n = A
    generalize ((n + 1 : Nat) : Int) = N
    grind
theorem ev_step (x y u v h : Int) : ∀ l : List Int, ∃ R, ev l (x + u * h) (y + v * h) = ev l x y + h * (u * ev (dX l) x y + v * ev (dY l) x y) + h * h * R
  | [] => ⟨0, by
    show (0 : Int) = 0 + h * (u * ev (dX []) x y + v * ev (dY []) x y) + h * h * 0
    rw [show ev (dX []) x y = 0 from rfl, show ev (dY []) x y = 0 from rfl]
    grind⟩
  | a :: l => by
    obtain ⟨R, e⟩ := ev_step x y u v h l
    obtain ⟨S, e2⟩ := pow_step x u h l.length
    refine ⟨a * S + v * (u * ev (dX l) x y + v * ev (dY l) x y) + (y + v * h) * R, ?_⟩
    rw [ev_cons, ev_cons, ev_dX_cons, ev_dY_cons, e, e2]
    generalize ev (dX l) x y = EX
    generalize ev (dY l) x y = EY
    generalize ev l x y = E
    generalize x ^ (l.length - 1) = A
    generalize x ^ l.length = B
    generalize (l.length : Int) = n
    grind
theorem step_eq {p q : Int} (H : ∀ h : Int, ∃ R, h * p = h * q + h * h * R) : p = q := by
  obtain ⟨R, e⟩ := H (((p - q).natAbs + 1 : Nat) : Int)
  have hp : (((p - q).natAbs + 1 : Nat) : Int) ≠ 0 := by omega
  have e2 : p = q + (((p - q).natAbs + 1 : Nat) : Int) * R := by
    refine Int.eq_of_mul_eq_mul_left hp ?_
    rw [Int.mul_add, ← Int.mul_assoc]
    exact e
  have hd : (((p - q).natAbs + 1 : Nat) : Int) ∣ p - q := ⟨R, by omega⟩
  have hz := Nat.eq_zero_of_dvd_of_lt (Int.natAbs_dvd_natAbs.mpr hd) (by rw [Int.natAbs_natCast]; omega)
  omega
theorem map_len (c : Int) (l : List Int) : (l.map (c * ·)).length = l.length := List.length_map ..
theorem dX_ne {l : List Int} (h : 2 ≤ l.length) : dX l ≠ [] := fun z => by have := dX_len l; rw [z] at this; have : 0 = l.length - 1 := this; omega
theorem dY_ne {l : List Int} (h : 2 ≤ l.length) : dY l ≠ [] := fun z => by have := dY_len l; rw [z] at this; have : 0 = l.length - 1 := this; omega
theorem ne_of2 {l : List Int} (h : 1 ≤ l.length) : l ≠ [] := List.length_pos_iff.mp h
/-- the rule of the chain -/
theorem dX_changed {a b c e : Int} {l : List Int} (h : 2 ≤ l.length) : dX (changed [a, b] [c, e] l) = zs 1 ((changed [a, b] [c, e] (dX l)).map (a * ·)) ((changed [a, b] [c, e] (dY l)).map (c * ·)) := by
  have nl := ne_of2 (show 1 ≤ l.length by omega)
  have l0 := changed_len (X := [a, b]) (Y := [c, e]) rfl rfl nl
  have l1 := changed_len (X := [a, b]) (Y := [c, e]) rfl rfl (dX_ne h)
  have l2 := changed_len (X := [a, b]) (Y := [c, e]) rfl rfl (dY_ne h)
  rw [dX_len] at l1
  rw [dY_len] at l2
  refine ev_inj (by rw [dX_len, l0, zs_len (by rw [map_len, map_len, l1, l2]), map_len, l1]) fun x y => step_eq fun k => ?_
  obtain ⟨R, e1⟩ := ev_step x y 1 0 k (changed [a, b] [c, e] l)
  obtain ⟨S, e2⟩ := ev_step (a * x + b * y) (c * x + e * y) a c k l
  rw [ev_changed rfl rfl nl, ev_changed rfl rfl nl, ev2, ev2, ev2, ev2] at e1
  rw [show a * (x + 1 * k) + b * (y + 0 * k) = a * x + b * y + a * k by grind, show c * (x + 1 * k) + e * (y + 0 * k) = c * x + e * y + c * k by grind, e2] at e1
  refine ⟨S - R, ?_⟩
  rw [ev_zs 1 (by rw [map_len, map_len, l1, l2]), ev_map, ev_map, ev_changed rfl rfl (dX_ne h), ev_changed rfl rfl (dY_ne h), ev2, ev2]
  grind
theorem dY_changed {a b c e : Int} {l : List Int} (h : 2 ≤ l.length) : dY (changed [a, b] [c, e] l) = zs 1 ((changed [a, b] [c, e] (dX l)).map (b * ·)) ((changed [a, b] [c, e] (dY l)).map (e * ·)) := by
  have nl := ne_of2 (show 1 ≤ l.length by omega)
  have l0 := changed_len (X := [a, b]) (Y := [c, e]) rfl rfl nl
  have l1 := changed_len (X := [a, b]) (Y := [c, e]) rfl rfl (dX_ne h)
  have l2 := changed_len (X := [a, b]) (Y := [c, e]) rfl rfl (dY_ne h)
  rw [dX_len] at l1
  rw [dY_len] at l2
  refine ev_inj (by rw [dY_len, l0, zs_len (by rw [map_len, map_len, l1, l2]), map_len, l1]) fun x y => step_eq fun k => ?_
  obtain ⟨R, e1⟩ := ev_step x y 0 1 k (changed [a, b] [c, e] l)
  obtain ⟨S, e2⟩ := ev_step (a * x + b * y) (c * x + e * y) b e k l
  rw [ev_changed rfl rfl nl, ev_changed rfl rfl nl, ev2, ev2, ev2, ev2] at e1
  rw [show a * (x + 0 * k) + b * (y + 1 * k) = a * x + b * y + b * k by grind, show c * (x + 0 * k) + e * (y + 1 * k) = c * x + e * y + e * k by grind, e2] at e1
  refine ⟨S - R, ?_⟩
  rw [ev_zs 1 (by rw [map_len, map_len, l1, l2]), ev_map, ev_map, ev_changed rfl rfl (dX_ne h), ev_changed rfl rfl (dY_ne h), ev2, ev2]
  grind
/-! ### the laying -/
def L : Nat → List Int → List Int → List Int
  | 0, f, g => ml f g
  | t + 1, f, g => zs (-1) (L t (dX f) (dY g)) (L t (dY f) (dX g))
theorem L_len : ∀ (t : Nat) (f g : List Int), t + 1 ≤ f.length → t + 1 ≤ g.length → (L t f g).length = f.length + g.length - 1 - 2 * t
  | 0, f, g, _, _ => ml_len f g
  | t + 1, f, g, hf, hg => by
    have h1 := L_len t (dX f) (dY g) (by rw [dX_len]; omega) (by rw [dY_len]; omega)
    have h2 := L_len t (dY f) (dX g) (by rw [dY_len]; omega) (by rw [dX_len]; omega)
    rw [dX_len, dY_len] at h1
    rw [dX_len, dY_len] at h2
    show (zs (-1) (L t (dX f) (dY g)) (L t (dY f) (dX g))).length = _
    rw [zs_len (by rw [h1, h2]), h1]
    omega
theorem ev_L_succ {t : Nat} {f g : List Int} (hf : t + 2 ≤ f.length) (hg : t + 2 ≤ g.length) (x y : Int) : ev (L (t + 1) f g) x y = ev (L t (dX f) (dY g)) x y - ev (L t (dY f) (dX g)) x y := by
  have h1 := L_len t (dX f) (dY g) (by rw [dX_len]; omega) (by rw [dY_len]; omega)
  have h2 := L_len t (dY f) (dX g) (by rw [dY_len]; omega) (by rw [dX_len]; omega)
  rw [dX_len, dY_len] at h1
  rw [dX_len, dY_len] at h2
  show ev (zs (-1) (L t (dX f) (dY g)) (L t (dY f) (dX g))) x y = _
  rw [ev_zs (-1) (by rw [h1, h2])]
  omega
theorem dX_zs' (c : Int) {l m : List Int} (h : l.length = m.length) : dX (zs c l m) = zs c (dX l) (dX m) := by
  refine co_inj (by rw [dX_len, zs_len h, zs_len (by rw [dX_len, dX_len, h]), dX_len]) fun k => ?_
  rw [co_zs' c (by rw [dX_len, dX_len, h])]
  unfold dX
  rw [co_tb, co_tb, co_tb, zs_len h, ← h, co_zs' c h]
  by_cases d : k < l.length - 1
  · rw [if_pos d, if_pos d, if_pos d]
    grind
  · rw [if_neg d, if_neg d, if_neg d]
    grind
theorem dY_zs' (c : Int) {l m : List Int} (h : l.length = m.length) : dY (zs c l m) = zs c (dY l) (dY m) := by
  refine co_inj (by rw [dY_len, zs_len h, zs_len (by rw [dY_len, dY_len, h]), dY_len]) fun k => ?_
  rw [co_zs' c (by rw [dY_len, dY_len, h])]
  unfold dY
  rw [co_tb, co_tb, co_tb, zs_len h, ← h, co_zs' c h]
  by_cases d : k < l.length - 1
  · rw [if_pos d, if_pos d, if_pos d]
    grind
  · rw [if_neg d, if_neg d, if_neg d]
    grind
/-- a laying is a sum in both -/
theorem L_zsl (c : Int) (x y : Int) : ∀ (t : Nat) (f f' g : List Int), f.length = f'.length → t + 1 ≤ f.length → t + 1 ≤ g.length → ev (L t (zs c f f') g) x y = ev (L t f g) x y + c * ev (L t f' g) x y
  | 0, f, f', g, h, hf, hg => by
    have n1 : zs c f f' ≠ [] := ne_of2 (by rw [zs_len h]; omega)
    show ev (ml (zs c f f') g) x y = ev (ml f g) x y + c * ev (ml f' g) x y
    rw [ev_ml n1 (ne_of2 hg), ev_ml (ne_of2 hf) (ne_of2 hg), ev_ml (ne_of2 (by omega)) (ne_of2 hg), ev_zs c h]
    grind
  | t + 1, f, f', g, h, hf, hg => by
    rw [ev_L_succ (by rw [zs_len h]; omega) (by omega), ev_L_succ (by omega) (by omega), ev_L_succ (by omega) (by omega), dX_zs' c h, dY_zs' c h,
      L_zsl c x y t _ _ _ (by rw [dX_len, dX_len, h]) (by rw [dX_len]; omega) (by rw [dY_len]; omega), L_zsl c x y t _ _ _ (by rw [dY_len, dY_len, h]) (by rw [dY_len]; omega) (by rw [dX_len]; omega)]
    grind
theorem L_zsr (c : Int) (x y : Int) : ∀ (t : Nat) (f g g' : List Int), g.length = g'.length → t + 1 ≤ f.length → t + 1 ≤ g.length → ev (L t f (zs c g g')) x y = ev (L t f g) x y + c * ev (L t f g') x y
  | 0, f, g, g', h, hf, hg => by
    have n1 : zs c g g' ≠ [] := ne_of2 (by rw [zs_len h]; omega)
    show ev (ml f (zs c g g')) x y = ev (ml f g) x y + c * ev (ml f g') x y
    rw [ev_ml (ne_of2 hf) n1, ev_ml (ne_of2 hf) (ne_of2 hg), ev_ml (ne_of2 hf) (ne_of2 (by omega)), ev_zs c h]
    grind
  | t + 1, f, g, g', h, hf, hg => by
    rw [ev_L_succ (by omega) (by rw [zs_len h]; omega), ev_L_succ (by omega) (by omega), ev_L_succ (by omega) (by omega), dX_zs' c h, dY_zs' c h,
      L_zsr c x y t _ _ _ (by rw [dY_len, dY_len, h]) (by rw [dX_len]; omega) (by rw [dY_len]; omega), L_zsr c x y t _ _ _ (by rw [dX_len, dX_len, h]) (by rw [dY_len]; omega) (by rw [dX_len]; omega)]
    grind
theorem dX_map (c : Int) (l : List Int) : dX (l.map (c * ·)) = (dX l).map (c * ·) := by
  refine co_inj (by rw [dX_len, map_len, map_len, dX_len]) fun k => ?_
  rw [co_map]
  unfold dX
  rw [co_tb, co_tb, map_len, co_map]
  by_cases d : k < l.length - 1
  · rw [if_pos d, if_pos d]
    grind
  · rw [if_neg d, if_neg d]
    grind
theorem dY_map (c : Int) (l : List Int) : dY (l.map (c * ·)) = (dY l).map (c * ·) := by
  refine co_inj (by rw [dY_len, map_len, map_len, dY_len]) fun k => ?_
  rw [co_map]
  unfold dY
  rw [co_tb, co_tb, map_len, co_map]
  by_cases d : k < l.length - 1
  · rw [if_pos d, if_pos d]
    grind
  · rw [if_neg d, if_neg d]
    grind
theorem L_mapl (c : Int) (x y : Int) : ∀ (t : Nat) (f g : List Int), t + 1 ≤ f.length → t + 1 ≤ g.length → ev (L t (f.map (c * ·)) g) x y = c * ev (L t f g) x y
  | 0, f, g, hf, hg => by
    show ev (ml (f.map (c * ·)) g) x y = c * ev (ml f g) x y
    rw [ev_ml (ne_of2 (by rw [map_len]; omega)) (ne_of2 hg), ev_ml (ne_of2 hf) (ne_of2 hg), ev_map]
    grind
  | t + 1, f, g, hf, hg => by
    rw [ev_L_succ (by rw [map_len]; omega) (by omega), ev_L_succ (by omega) (by omega), dX_map, dY_map, L_mapl c x y t _ _ (by rw [dX_len]; omega) (by rw [dY_len]; omega), L_mapl c x y t _ _ (by rw [dY_len]; omega) (by rw [dX_len]; omega)]
    grind
theorem L_mapr (c : Int) (x y : Int) : ∀ (t : Nat) (f g : List Int), t + 1 ≤ f.length → t + 1 ≤ g.length → ev (L t f (g.map (c * ·))) x y = c * ev (L t f g) x y
  | 0, f, g, hf, hg => by
    show ev (ml f (g.map (c * ·))) x y = c * ev (ml f g) x y
    rw [ev_ml (ne_of2 hf) (ne_of2 (by rw [map_len]; omega)), ev_ml (ne_of2 hf) (ne_of2 hg), ev_map]
    grind
  | t + 1, f, g, hf, hg => by
    rw [ev_L_succ (by omega) (by rw [map_len]; omega), ev_L_succ (by omega) (by omega), dX_map, dY_map, L_mapr c x y t _ _ (by rw [dX_len]; omega) (by rw [dY_len]; omega), L_mapr c x y t _ _ (by rw [dY_len]; omega) (by rw [dX_len]; omega)]
    grind
/-- laid the other way round -/
theorem L_swap (x y : Int) : ∀ (t : Nat) (f g : List Int), t + 1 ≤ f.length → t + 1 ≤ g.length → ev (L t g f) x y = (-1) ^ t * ev (L t f g) x y
  | 0, f, g, hf, hg => by
    show ev (ml g f) x y = 1 * ev (ml f g) x y
    rw [ml_comm, Int.one_mul]
  | t + 1, f, g, hf, hg => by
    rw [ev_L_succ (by omega) (by omega), ev_L_succ (by omega) (by omega), L_swap x y t (dY f) (dX g) (by rw [dY_len]; omega) (by rw [dX_len]; omega), L_swap x y t (dX f) (dY g) (by rw [dX_len]; omega) (by rw [dY_len]; omega), Int.pow_succ]
    grind
/-- laid after a change -/
theorem L_changed {a b c e : Int} (x y : Int) : ∀ (t : Nat) (f g : List Int), t + 1 ≤ f.length → t + 1 ≤ g.length →
    ev (L t (changed [a, b] [c, e] f) (changed [a, b] [c, e] g)) x y = (a * e - b * c) ^ t * ev (L t f g) (a * x + b * y) (c * x + e * y)
  | 0, f, g, hf, hg => by
    have l1 := changed_len (X := [a, b]) (Y := [c, e]) rfl rfl (ne_of2 hf)
    have l2 := changed_len (X := [a, b]) (Y := [c, e]) rfl rfl (ne_of2 hg)
    rw [Int.pow_zero, Int.one_mul]
    show ev (ml (changed [a, b] [c, e] f) (changed [a, b] [c, e] g)) x y = ev (ml f g) _ _
    rw [ev_ml (ne_of2 (by omega)) (ne_of2 (by omega)), ev_ml (ne_of2 hf) (ne_of2 hg), ev_changed rfl rfl (ne_of2 hf), ev_changed rfl rfl (ne_of2 hg), ev2, ev2]
  | t + 1, f, g, hf, hg => by
    have l1 := changed_len (X := [a, b]) (Y := [c, e]) rfl rfl (ne_of2 (show 1 ≤ f.length by omega))
    have l2 := changed_len (X := [a, b]) (Y := [c, e]) rfl rfl (ne_of2 (show 1 ≤ g.length by omega))
    have lfx := changed_len (X := [a, b]) (Y := [c, e]) rfl rfl (dX_ne (l := f) (by omega))
    have lfy := changed_len (X := [a, b]) (Y := [c, e]) rfl rfl (dY_ne (l := f) (by omega))
    have lgx := changed_len (X := [a, b]) (Y := [c, e]) rfl rfl (dX_ne (l := g) (by omega))
    have lgy := changed_len (X := [a, b]) (Y := [c, e]) rfl rfl (dY_ne (l := g) (by omega))
    rw [dX_len] at lfx lgx
    rw [dY_len] at lfy lgy
    rw [ev_L_succ (by omega) (by omega), ev_L_succ (by omega) (by omega), dX_changed (l := f) (by omega), dY_changed (l := f) (by omega), dX_changed (l := g) (by omega), dY_changed (l := g) (by omega)]
    have two : ∀ (p q r s : Int), ev (L t (zs 1 ((changed [a, b] [c, e] (dX f)).map (p * ·)) ((changed [a, b] [c, e] (dY f)).map (q * ·))) (zs 1 ((changed [a, b] [c, e] (dX g)).map (r * ·)) ((changed [a, b] [c, e] (dY g)).map (s * ·)))) x y =
        p * r * ((a * e - b * c) ^ t * ev (L t (dX f) (dX g)) (a * x + b * y) (c * x + e * y)) + p * s * ((a * e - b * c) ^ t * ev (L t (dX f) (dY g)) (a * x + b * y) (c * x + e * y)) +
        q * r * ((a * e - b * c) ^ t * ev (L t (dY f) (dX g)) (a * x + b * y) (c * x + e * y)) + q * s * ((a * e - b * c) ^ t * ev (L t (dY f) (dY g)) (a * x + b * y) (c * x + e * y)) := fun p q r s => by
      have ih1 := L_changed (a := a) (b := b) (c := c) (e := e) x y t (dX f) (dX g) (by rw [dX_len]; omega) (by rw [dX_len]; omega)
      have ih2 := L_changed (a := a) (b := b) (c := c) (e := e) x y t (dX f) (dY g) (by rw [dX_len]; omega) (by rw [dY_len]; omega)
      have ih3 := L_changed (a := a) (b := b) (c := c) (e := e) x y t (dY f) (dX g) (by rw [dY_len]; omega) (by rw [dX_len]; omega)
      have ih4 := L_changed (a := a) (b := b) (c := c) (e := e) x y t (dY f) (dY g) (by rw [dY_len]; omega) (by rw [dY_len]; omega)
      rw [L_zsl 1 x y t _ _ _ (by rw [map_len, map_len, lfx, lfy]) (by rw [map_len, lfx]; omega) (by rw [zs_len (by rw [map_len, map_len, lgx, lgy]), map_len, lgx]; omega),
        L_zsr 1 x y t _ _ _ (by rw [map_len, map_len, lgx, lgy]) (by rw [map_len, lfx]; omega) (by rw [map_len, lgx]; omega),
        L_zsr 1 x y t _ _ _ (by rw [map_len, map_len, lgx, lgy]) (by rw [map_len, lfy]; omega) (by rw [map_len, lgx]; omega),
        L_mapl p x y t _ _ (by rw [lfx]; omega) (by rw [map_len, lgx]; omega), L_mapl p x y t _ _ (by rw [lfx]; omega) (by rw [map_len, lgy]; omega),
        L_mapl q x y t _ _ (by rw [lfy]; omega) (by rw [map_len, lgx]; omega), L_mapl q x y t _ _ (by rw [lfy]; omega) (by rw [map_len, lgy]; omega),
        L_mapr r x y t _ _ (by rw [lfx]; omega) (by rw [lgx]; omega), L_mapr s x y t _ _ (by rw [lfx]; omega) (by rw [lgy]; omega),
        L_mapr r x y t _ _ (by rw [lfy]; omega) (by rw [lgx]; omega), L_mapr s x y t _ _ (by rw [lfy]; omega) (by rw [lgy]; omega), ih1, ih2, ih3, ih4]
      grind
    rw [two, two, Int.pow_succ]
    grind
/-! ### sums -/
def su : Nat → (Nat → Int) → Int
  | 0, _ => 0
  | n + 1, φ => su n φ + φ n
theorem su_congr {φ ψ : Nat → Int} : ∀ n, (∀ k, k < n → φ k = ψ k) → su n φ = su n ψ
  | 0, _ => rfl
  | n + 1, h => by
    show su n φ + φ n = su n ψ + ψ n
    rw [su_congr n fun k hk => h k (by omega), h n (by omega)]
theorem su_add (φ ψ : Nat → Int) : ∀ n, su n (fun k => φ k + ψ k) = su n φ + su n ψ
  | 0 => rfl
  | n + 1 => by
    show su n (fun k => φ k + ψ k) + (φ n + ψ n) = su n φ + φ n + (su n ψ + ψ n)
    rw [su_add φ ψ n]
    omega
theorem su_shift (φ : Nat → Int) : ∀ n, su (n + 1) φ = φ 0 + su n (fun k => φ (k + 1))
  | 0 => by show 0 + φ 0 = φ 0 + 0; omega
  | n + 1 => by
    show su (n + 1) φ + φ (n + 1) = φ 0 + (su n (fun k => φ (k + 1)) + φ (n + 1))
    rw [su_shift φ n]
    omega
/-- how many lots -/
def ch : Nat → Nat → Nat
  | _, 0 => 1
  | 0, _ + 1 => 0
  | n + 1, k + 1 => ch n k + ch n (k + 1)
theorem ch_zero (n : Nat) : ch n 0 = 1 := by cases n <;> rfl
theorem ch_far : ∀ n k : Nat, n < k → ch n k = 0
  | n, 0, h => absurd h (Nat.not_lt_zero n)
  | 0, k + 1, _ => rfl
  | n + 1, k + 1, h => by
    show ch n k + ch n (k + 1) = 0
    rw [ch_far n k (by omega), ch_far n (k + 1) (by omega)]
theorem ch_mul : ∀ n k : Nat, (ch n (k + 1) : Int) * ((k : Int) + 1) = ch n k * ((n : Int) - k)
  | 0, k => by
    show ((0 : Nat) : Int) * _ = _
    cases k with
    | zero => show (0 : Int) * _ = 1 * ((0 : Int) - 0); grind
    | succ k => show (0 : Int) * _ = (0 : Int) * _; grind
  | n + 1, 0 => by
    have h := ch_mul n 0
    rw [ch_zero] at h
    show ((ch n 0 + ch n (0 + 1) : Nat) : Int) * _ = ((ch (n + 1) 0 : Nat) : Int) * _
    rw [ch_zero, ch_zero, Int.natCast_add]
    have e : ((0 : Nat) : Int) = 0 := rfl
    rw [e] at h ⊢
    rw [show ((n + 1 : Nat) : Int) = (n : Int) + 1 by omega]
    grind
  | n + 1, k + 1 => by
    have h1 := ch_mul n (k + 1)
    have h2 := ch_mul n k
    show ((ch n (k + 1) + ch n (k + 1 + 1) : Nat) : Int) * _ = ((ch n k + ch n (k + 1) : Nat) : Int) * _
    rw [Int.natCast_add (ch n (k + 1)), Int.natCast_add (ch n k)]
    rw [show ((k + 1 : Nat) : Int) = (k : Int) + 1 by omega] at h1 ⊢
    rw [show ((n + 1 : Nat) : Int) = (n : Int) + 1 by omega]
    grind
/-- the sign of a place -/
def sgn (k : Nat) : Int := if k % 2 = 0 then 1 else -1
theorem sgn_succ (k : Nat) : sgn (k + 1) = -sgn k := by
  unfold sgn
  by_cases h : k % 2 = 0
  · rw [if_pos h, if_neg (by omega)]
  · rw [if_neg h, if_pos (by omega)]
    rfl
theorem sgn_pow : ∀ k : Nat, (-1 : Int) ^ k = sgn k
  | 0 => rfl
  | k + 1 => by
    rw [Int.pow_succ, sgn_pow k, sgn_succ]
    omega
theorem dXY (l : List Int) : dX (dY l) = dY (dX l) := by
  refine co_inj (by rw [dX_len, dY_len, dY_len, dX_len]) fun k => ?_
  have a1 : ∀ m : List Int, ∀ k, co (dX m) k = if k < m.length - 1 then co m k * ((m.length : Int) - 1 - k) else 0 := fun m k => co_tb k
  have a2 : ∀ m : List Int, ∀ k, co (dY m) k = if k < m.length - 1 then co m (k + 1) * ((k : Int) + 1) else 0 := fun m k => co_tb k
  rw [a1 (dY l), a2 (dX l), dX_len, dY_len, a1 l, a2 l]
  by_cases h : k < l.length - 1 - 1
  · rw [if_pos h, if_pos h, if_pos (by omega), if_pos (by omega)]
    rw [show ((k + 1 : Nat) : Int) = (k : Int) + 1 by omega, show ((l.length - 1 : Nat) : Int) = (l.length : Int) - 1 by omega]
    grind
  · rw [if_neg h, if_neg h]
theorem it_succ (f : List Int → List Int) (n : Nat) (l : List Int) : it f n (f l) = it f (n + 1) l := by
  induction n with
  | zero => rfl
  | succ n ih => show f (it f n (f l)) = f (it f (n + 1) l); rw [ih]
theorem dX_it_dY (l : List Int) : ∀ n, it dX n (dY l) = dY (it dX n l)
  | 0 => rfl
  | n + 1 => by
    show dX (it dX n (dY l)) = dY (dX (it dX n l))
    rw [dX_it_dY l n, dXY]
theorem dd_dX (i j : Nat) (l : List Int) : dd i j (dX l) = dd (i + 1) j l := by
  unfold dd
  rw [it_succ]
theorem dd_dY (i j : Nat) (l : List Int) : dd i j (dY l) = dd i (j + 1) l := by
  unfold dd
  rw [dX_it_dY, it_succ]
/-- a laying, as a sum -/
theorem L_sum (x y : Int) : ∀ (t : Nat) (f g : List Int), t + 1 ≤ f.length → t + 1 ≤ g.length →
    ev (L t f g) x y = su (t + 1) fun k => sgn k * ch t k * (ev (dd (t - k) k f) x y * ev (dd k (t - k) g) x y)
  | 0, f, g, hf, hg => by
    show ev (ml f g) x y = 0 + 1 * 1 * (ev f x y * ev g x y)
    rw [ev_ml (ne_of2 hf) (ne_of2 hg)]
    grind
  | t + 1, f, g, hf, hg => by
    rw [ev_L_succ (by omega) (by omega), L_sum x y t _ _ (by rw [dX_len]; omega) (by rw [dY_len]; omega), L_sum x y t _ _ (by rw [dY_len]; omega) (by rw [dX_len]; omega)]
    have T : ∃ T : Nat → Int, ∀ k, k ≤ t + 1 → T k = ev (dd (t + 1 - k) k f) x y * ev (dd k (t + 1 - k) g) x y := ⟨_, fun _ _ => rfl⟩
    obtain ⟨T, hT⟩ := T
    have e1 : su (t + 1) (fun k => sgn k * ch t k * (ev (dd (t - k) k (dX f)) x y * ev (dd k (t - k) (dY g)) x y)) = su (t + 1) fun k => sgn k * ch t k * T k := su_congr _ fun k hk => by
      rw [dd_dX, dd_dY, hT k (by omega), show t - k + 1 = t + 1 - k by omega]
    have e2 : su (t + 1) (fun k => sgn k * ch t k * (ev (dd (t - k) k (dY f)) x y * ev (dd k (t - k) (dX g)) x y)) = su (t + 1) fun k => sgn k * ch t k * T (k + 1) := su_congr _ fun k hk => by
      rw [dd_dX, dd_dY, hT (k + 1) (by omega), show t + 1 - (k + 1) = t - k by omega]
    have e3 : su (t + 1 + 1) (fun k => sgn k * ch (t + 1) k * (ev (dd (t + 1 - k) k f) x y * ev (dd k (t + 1 - k) g) x y)) = su (t + 1 + 1) fun k => sgn k * ch (t + 1) k * T k := su_congr _ fun k hk => by
      rw [hT k (by omega)]
    rw [e1, e2, e3, su_shift _ (t + 1)]
    have e4 : su (t + 1) (fun k => sgn (k + 1) * ch (t + 1) (k + 1) * T (k + 1)) = su (t + 1) (fun k => sgn (k + 1) * ch t (k + 1) * T (k + 1)) + su (t + 1) (fun k => -1 * (sgn k * ch t k * T (k + 1))) := by
      rw [← su_add]
      refine su_congr _ fun k hk => ?_
      show sgn (k + 1) * ((ch t k + ch t (k + 1) : Nat) : Int) * T (k + 1) = _
      rw [Int.natCast_add, sgn_succ]
      grind
    have e5 := su_shift (fun k => sgn k * ch t k * T k) (t + 1)
    have e6 : su (t + 1 + 1) (fun k => sgn k * ch t k * T k) = su (t + 1) (fun k => sgn k * ch t k * T k) + sgn (t + 1) * ch t (t + 1) * T (t + 1) := rfl
    have e7 : su (t + 1) (fun k => -1 * (sgn k * ch t k * T (k + 1))) = - su (t + 1) (fun k => sgn k * ch t k * T (k + 1)) := by
      have : ∀ n φ, su n (fun k => -1 * φ k) = - su n φ := by
        intro n φ
        induction n with
        | zero => rfl
        | succ n ih => show su n (fun k => -1 * φ k) + -1 * φ n = -(su n φ + φ n); rw [ih]; omega
      exact this _ _
    rw [e4, e7]
    rw [e6, ch_far t (t + 1) (by omega)] at e5
    rw [ch_zero] at e5 ⊢
    have z0 : sgn (t + 1) * ((0 : Nat) : Int) * T (t + 1) = 0 := by
      rw [show ((0 : Nat) : Int) = 0 from rfl, Int.mul_zero, Int.zero_mul]
    omega
end K83

set_option Elab.async false
set_option linter.all false
set_option maxRecDepth 100000
set_option maxHeartbeats 4000000
namespace K83
open PySem PySem.Spec PyProof.Rows L2 StX RZ MyR SlX OwnR OwnF EnumT GxR
/-! ### the first entry other than 0 -/
def nzr (l : List Int) : Bool := l.any (· != 0)
def fi (l : List Int) : Nat := l.findIdx (· != 0)
theorem fi_lt {l : List Int} (h : nzr l = true) : fi l < l.length := by
  unfold fi
  refine List.findIdx_lt_length_of_exists ?_
  obtain ⟨x, h1, h2⟩ := List.any_eq_true.mp h
  exact ⟨x, h1, h2⟩
theorem fi_ne {l : List Int} (h : nzr l = true) : co l (fi l) ≠ 0 := by
  have := List.findIdx_getElem (p := (· != 0)) (w := fi_lt h)
  rw [co_get (fi_lt h)]
  have h2 : (l[fi l]'(fi_lt h) != 0) = true := this
  simpa using h2
theorem nzr_co {l : List Int} (h : nzr l = false) (k : Nat) : co l k = 0 := by
  by_cases hk : k < l.length
  · have := List.any_eq_false.mp h l[k] (List.getElem_mem hk)
    rw [co_get hk]
    simpa using this
  · exact co_far (by omega)
theorem nzr_iff {l : List Int} : nzr l = true ↔ ∃ k, k < l.length ∧ co l k ≠ 0 := by
  constructor
  · intro h
    exact ⟨fi l, fi_lt h, fi_ne h⟩
  · rintro ⟨k, hk, hz⟩
    cases e : nzr l with
    | true => rfl
    | false => exact absurd (nzr_co e k) hz
theorem cont_nzr (l : List Int) : cont l = 0 ↔ nzr l = false := by
  have h := any_cont l
  unfold nzr
  constructor
  · intro e
    rw [decide_eq_true e] at h
    simpa using h
  · intro e
    rw [e] at h
    exact of_decide_eq_true h.symm
theorem filt_head {l : List Int} (h : nzr l = true) : ((List.range l.length).filter fun k => co l k != 0)[0]? = some (fi l) := by
  rw [← List.head?_eq_getElem?, List.head?_filter]
  refine List.find?_eq_some_iff_getElem.mpr ⟨by simpa using fi_ne h, fi l, by rw [List.length_range]; exact fi_lt h, List.getElem_range _, fun j hj => ?_⟩
  rw [List.getElem_range]
  have hj2 : j < l.findIdx (· != 0) := hj
  have := List.not_of_lt_findIdx hj2
  have hl : j < l.length := Nat.lt_trans hj (fi_lt h)
  rw [co_get hl]
  simpa using this
/-! ### tables of code objects -/
def Tg (Ps : List Addr) (H : Hp) : Prop := ∀ P ∈ Ps, TabG H P
def Sts (Ps : List Addr) (H H' : Hp) : Prop := ∀ b o, b ∉ Ps → H b = some o → H' b = some o
/-- all but the dice at d and the tables Ps stays -/
def Sy (d : Addr) (Ps : List Addr) (H H' : Hp) : Prop := ∀ b o, b ≠ d → b ∉ Ps → H b = some o → H' b = some o
theorem Sts.rf (Ps : List Addr) (H : Hp) : Sts Ps H H := fun _ _ _ e => e
theorem Sts.of {Ps : List Addr} {H H' : Hp} (s : Same H H') : Sts Ps H H' := fun b o _ h => s b o h
theorem Sts.trans {Ps : List Addr} {H H1 H2 : Hp} (s : Sts Ps H H1) (t : Sts Ps H1 H2) : Sts Ps H H2 := fun b o n h => t b o n (s b o n h)
theorem Sy.rf (d : Addr) (Ps : List Addr) (H : Hp) : Sy d Ps H H := fun _ _ _ _ e => e
theorem Sy.of {d : Addr} {Ps : List Addr} {H H' : Hp} (s : Same H H') : Sy d Ps H H' := fun b o _ _ h => s b o h
theorem Sy.ofD {d : Addr} {Ps : List Addr} {H H' : Hp} (s : Sx d H H') : Sy d Ps H H' := fun b o n _ h => s b o n h
theorem Sy.ofP {d : Addr} {Ps : List Addr} {H H' : Hp} (s : Sts Ps H H') : Sy d Ps H H' := fun b o _ n h => s b o n h
theorem Sy.trans {d : Addr} {Ps : List Addr} {H H1 H2 : Hp} (s : Sy d Ps H H1) (t : Sy d Ps H1 H2) : Sy d Ps H H2 := fun b o n m h => t b o n m (s b o n m h)
theorem tabS {P : Addr} {H H' : Hp} (t : TabG H P) (s : Same H H') : TabG H' P := by
  obtain ⟨ps, h, k⟩ := t
  exact ⟨ps, s _ _ h, k⟩
theorem Tg.same {Ps : List Addr} {H H' : Hp} (t : Tg Ps H) (s : Same H H') : Tg Ps H' := fun P m => tabS (t P m) s
theorem Tg.sx {Ps : List Addr} {d : Addr} {H H' : Hp} (t : Tg Ps H) (s : Sx d H H') (hd : Dc H d) : Tg Ps H' := fun P m => by
  obtain ⟨ps, h, k⟩ := t P m
  obtain ⟨x, y, z, e⟩ := hd
  refine ⟨ps, s _ _ (fun q => ?_) h, k⟩
  rw [q, e] at h
  cases h
theorem Tg.ne {Ps : List Addr} {H : Hp} {a : Addr} {o : HO} (t : Tg Ps H) (h : H a = some o) (ho : ∀ ps, o ≠ .tbl ps) : a ∉ Ps := fun m => by
  obtain ⟨ps, e, _⟩ := t a m
  rw [h] at e
  exact ho ps (Option.some.inj e)
theorem Tg.sts {Ps : List Addr} {H H1 H' : Hp} (t : Tg Ps H1) (s : Sts Ps H H1) (s2 : Same H1 H') : Tg Ps H' := t.same s2
theorem tbd_sts {Ps : List Addr} {P : Addr} {H H' : Hp} (t : Tabbed P H H') (h : P ∈ Ps) : Sts Ps H H' := fun b o nb e => (t.2 b (fun z => nb (z ▸ h))).trans e
theorem tbd_tg {Ps : List Addr} {P : Addr} {H H' : Hp} (t : Tabbed P H H') (g : Tg Ps H) : Tg Ps H' := fun P' m => by
  by_cases e : P' = P
  · rw [e]
    exact t.1
  · obtain ⟨ps, h, k⟩ := g P' m
    exact ⟨ps, (t.2 P' e).trans h, k⟩
theorem Sts.tup {Ps : List Addr} {H H' : Hp} {t : Addr} {xs : List V} (s : Sts Ps H H') (g : Tg Ps H) (h : H t = some (.tup xs)) : H' t = some (.tup xs) := s _ _ (g.ne h fun _ e => by cases e) h
theorem Sts.lst {Ps : List Addr} {H H' : Hp} {t : Addr} {xs : List V} (s : Sts Ps H H') (g : Tg Ps H) (h : H t = some (.lst xs)) : H' t = some (.lst xs) := s _ _ (g.ne h fun _ e => by cases e) h
theorem Sts.fo {Ps : List Addr} {C a : Addr} {H H' : Hp} {l : List Int} (s : Sts Ps H H') (g : Tg Ps H) (h : Fo C H a l) : Fo C H' a l := by
  obtain ⟨dx, t, e1, e2, e3⟩ := h
  exact ⟨dx, t, s _ _ (g.ne e1 fun _ e => by cases e) e1, s _ _ (g.ne e2 fun _ e => by cases e) e2, s _ _ (g.ne e3 fun _ e => by cases e) e3⟩
theorem Sts.dc {Ps : List Addr} {d : Addr} {H H' : Hp} (s : Sts Ps H H') (g : Tg Ps H) (h : Dc H d) : Dc H' d := by
  obtain ⟨x, y, z, e⟩ := h
  exact ⟨x, y, z, s _ _ (g.ne e fun _ e => by cases e) e⟩
/-- dice and the tables -/
structure Dp (d : Addr) (Ps : List Addr) (H : Hp) : Prop where
  dd : Dc H d
  tt : Tg Ps H
theorem Dp.same {d : Addr} {Ps : List Addr} {H H' : Hp} (D : Dp d Ps H) (s : Same H H') : Dp d Ps H' := ⟨D.dd.same s, D.tt.same s⟩
theorem Dp.sx {d : Addr} {Ps : List Addr} {H H' : Hp} (D : Dp d Ps H) (s : Sx d H H') (h : Dc H' d) : Dp d Ps H' := ⟨h, D.tt.sx s D.dd⟩
theorem Dp.sp {d : Addr} {Ps : List Addr} {H H' : Hp} (D : Dp d Ps H) (s : Sts Ps H H') (h : Tg Ps H') : Dp d Ps H' := ⟨s.dc D.tt D.dd, h⟩
theorem Dp.tup {d : Addr} {Ps : List Addr} {H H' : Hp} {t : Addr} {xs : List V} (D : Dp d Ps H) (s : Sy d Ps H H') (h : H t = some (.tup xs)) : H' t = some (.tup xs) := s _ _ (dc_ne D.dd h) (D.tt.ne h fun _ e => by cases e) h
theorem Dp.fo {d : Addr} {Ps : List Addr} {H H' : Hp} {C a : Addr} {l : List Int} (D : Dp d Ps H) (s : Sy d Ps H H') (h : Fo C H a l) : Fo C H' a l := by
  obtain ⟨dx, t, e1, e2, e3⟩ := h
  obtain ⟨x, y, z, e⟩ := D.dd
  have nd : ∀ {b o}, H b = some o → (∀ l, o ≠ .lst l) → b ≠ d := fun h1 h2 q => by
    rw [q, e] at h1
    exact h2 _ (Option.some.inj h1).symm
  exact ⟨dx, t, s _ _ (nd e1 fun _ e => by cases e) (D.tt.ne e1 fun _ e => by cases e) e1, s _ _ (nd e2 fun _ e => by cases e) (D.tt.ne e2 fun _ e => by cases e) e2, s _ _ (nd e3 fun _ e => by cases e) (D.tt.ne e3 fun _ e => by cases e) e3⟩
theorem script_Sy {K : PySem.W.Frag} {d a : Addr} {Ps : List Addr} {H H' : Hp} {o : HO} {xs : List V} (s : Sy d Ps (upd H d o) H') (n : H d = none) (t : Tg Ps H) (h : SqL K H a xs) : SqL K H' a xs := by
  rcases h with (h | ⟨u, h⟩) | h
  · have ne : a ≠ d := ne_of_none h n
    exact .inl (.inl (s a _ ne (t.ne h fun _ e => by cases e) (by rw [upd_ne ne]; exact h)))
  · have ne : a ≠ d := ne_of_none h n
    exact .inl (.inr ⟨u, s a _ ne (t.ne h fun _ e => by cases e) (by rw [upd_ne ne]; exact h)⟩)
  · exact .inr h
def spLawT (K : PySem.W.Frag) (Ps : List Addr) : Sp := fun vs H Q _ => ∃ (a : Addr) (ns : List Int), vs = [.ref a] ∧ SqL K H a (ns.map V.int) ∧ ns.length ≤ 63 ∧ Tg Ps H ∧ ∀ H', Q (.bl true) H'
end K83

set_option Elab.async false
set_option linter.all false
set_option maxRecDepth 100000
set_option maxHeartbeats 2000000
/-! // by an int of any size, where the quotient is not too great: fewer than 4500 bits -/
namespace FDivQ
open PySem PySem.Spec PyProof.Rows L2
theorem noPylong_quot {x y : Int} (h : x.natAbs.log2 ≤ y.natAbs.log2 + 4470) : Builtin.divisionGoesByPylong x y = false := by
  show (decide ((if y == 0 then 0 else y.natAbs.log2 / 30 + 1) > 300) && decide ((if x == 0 then 0 else x.natAbs.log2 / 30 + 1) > (if y == 0 then 0 else y.natAbs.log2 / 30 + 1) + 150)) = false
  by_cases hy : (y == 0) = true
  · rw [if_pos hy]
    rfl
  · rw [if_neg hy]
    by_cases hx : (x == 0) = true
    · rw [if_pos hx]
      simp
    · rw [if_neg hx]
      have : ¬ (x.natAbs.log2 / 30 + 1 > y.natAbs.log2 / 30 + 1 + 150) := by omega
      rw [decide_eq_false this, Bool.and_false]
/-- a divisor other than 0 of fewer than 9000 bits, or a quotient of fewer than some 4470 -/
def CDivQ (i j : Int) : Prop := j ≠ 0 ∧ (j.natAbs.log2 < 9000 ∨ i.natAbs.log2 ≤ j.natAbs.log2 + 4470)
theorem op_fdivQ {X : Cx} : OpR X (binaryOp .FloorDiv) (rI CDivQ fun i j => .int (i.fdiv j)) := opI fun i j _ _ _ _ _ hc q =>
  floordiv_int hc.1 q (.inl (hc.2.elim PyProof.noPylong_of_log2 noPylong_quot))
/-- an exact quotient below 2 ^ 4470 -/
theorem CDivQ.exact {i j q : Int} (hj : j ≠ 0) (e : i = q * j) (hq : q.natAbs < 2 ^ 4470) : CDivQ i j := by
  refine ⟨hj, .inr ?_⟩
  by_cases h0 : i.natAbs = 0
  · rw [h0, Nat.log2_zero]
    exact Nat.zero_le _
  · have h1 : j.natAbs ≠ 0 := by omega
    have h2 : i.natAbs < 2 ^ (4470 + (j.natAbs.log2 + 1)) := by
      rw [e, Int.natAbs_mul, Nat.pow_add]
      exact Nat.mul_lt_mul'' hq Nat.lt_log2_self
    have := (Nat.log2_lt h0).mpr h2
    omega
end FDivQ

set_option Elab.async false
set_option linter.all false
/-! list(xs) of a list or a tuple, the fragment named (for comprehensions) -/
namespace ListOf
open PySem PySem.Spec PyProof.Rows L2
def rListOf (K : PySem.W.Frag) : List V → Hp → VK → Prop := fun xs H Q => ∃ p ys, xs = [V.ref p] ∧ (SqL K H p ys ∨ SqT K H p ys) ∧ ∀ l, H l = none → Q (.ref l) (upd H l (.lst ys))
theorem call_list_ofK {X : Cx} {K : PySem.W.Frag} (e : X.K = K) : CallR X (.type "list") (rListOf K) := by
  subst e
  exact call_list_of
end ListOf

set_option Elab.async false
set_option linter.all false
set_option maxRecDepth 100000
set_option maxHeartbeats 4000000
set_option exponentiation.threshold 10000
namespace K83
open PySem PySem.Spec PyProof.Rows L2 StX RZ MyR SlX OwnR OwnF EnumT GxR GenNx FDivQ
def gl (l : List Int) : Nat := l.foldl (fun a x => Nat.gcd a x.natAbs) 0
theorem gl_snoc (l : List Int) (x : Int) : gl (l ++ [x]) = Nat.gcd (gl l) x.natAbs := by
  unfold gl
  rw [List.foldl_append]
  rfl
def foE (l : List Int) : Int := (l.find? (· != 0)).getD 0
theorem foE_of {l : List Int} {r : Int} (h : FirstOf (fun i => i != 0) l 0 r) : r = foE l := by
  unfold foE
  rcases h with ⟨h, rfl⟩ | ⟨i, h1, h2, h3⟩
  · have e : l.find? (· != 0) = none := List.find?_eq_none.mpr fun x hx => by
      obtain ⟨j, hj, e⟩ := List.mem_iff_getElem.mp hx
      have q : (x != 0) = false := h j x (by rw [List.getElem?_eq_getElem hj, e])
      rw [q]
      exact Bool.false_ne_true
    rw [e]
    rfl
  · obtain ⟨hi, e⟩ := List.getElem?_eq_some_iff.mp h1
    have e2 : l.find? (· != 0) = some r := List.find?_eq_some_iff_getElem.mpr ⟨h2, i, hi, e, fun j hj => by
      have q : (l[j] != 0) = false := h3 j _ hj (List.getElem?_eq_getElem (Nat.lt_trans hj hi))
      rw [q]
      rfl⟩
    rw [e2]
    rfl
abbrev ls (ns : List Int) : HO := .lst (ns.map V.int)
section
variable {P : Program} {w : World} {K : PySem.W.Frag} {mg : Str → Option Value} {base : Heap} {Ps : List Addr}
def spSharedL (K : PySem.W.Frag) : Sp := fun vs H Q _ => ∃ (t : Addr) (ns : List Int), vs = [.ref t] ∧ SqL K H t (ns.map V.int) ∧ Q (.int (gl ns : Nat)) H
theorem ok_shared_of (T : Facts K mg) : FnOk P w K mg base CX0 1 T.f_shared_of T.fd_shared_of ["numbers"] (spSharedL K) := by
  refine T.F_shared_of.ok sc_shared_of (fun vs H Q E h => ?_) (fun cdv A outer s H vs Q E hr h => ?_)
  · obtain ⟨t, ns, rfl, _⟩ := h
    rfl
  · obtain ⟨t, ns, rfl, ht, q⟩ := h
    refine ⟨_, (PSs.nox (pss_cons (ps_set (i := 1) sc_shared_of.nd rfl (.inl rfl) pe_int)
    (pss_cons (ps_for PassesOwn.never (by rfl) (pi_list (pv 0)) (pg_name (i := 2) sc_shared_of.nd rfl (.inl rfl))
      (pss_one (ps_set (i := 1) sc_shared_of.nd rfl (.inl rfl) (pe_callBfun cr_gcd (by rfl) T.m_gcd (pa_cons (pv 1) (pa_cons (pv 2) pa_nil))))))
    (pss_one (ps_ret (pv 1)))))), ?_⟩
    refine ⟨_, rfl, t, rfl, ⟨_, ht⟩, for_list (xs := ns.map V.int) (fun i σ H' => ∃ y, σ = [some (.ref t), some (.int ((gl (ns.take i) : Nat) : Int)), y] ∧ H' = H) ⟨none, rfl, rfl⟩ (fun i σ H' _ hP => by rw [hP.choose_spec.2]; exact ht) (fun i x σ H' hx hP => ?_) (fun σ H' hP => ?_)⟩
    · obtain ⟨y, rfl, rfl⟩ := hP
      obtain ⟨hi, rfl⟩ := int_get hx
      refine ⟨_, rfl, _, rfl, _, _, rfl, some (.int (co ns i)), ?_, rfl⟩
      rw [take_snoc hi, gl_snoc]
      rfl
    · obtain ⟨y, rfl, rfl⟩ := hP
      rw [List.length_map, List.take_length]
      exact ⟨_, rfl, q⟩
def spSharedS (K : PySem.W.Frag) : Sp := fun vs H Q _ => ∃ (t : Addr) (ns : List Int), vs = [.ref t] ∧ (SqT K H t (ns.map V.int) ∨ SqL K H t (ns.map V.int)) ∧ Q (.int (gl ns : Nat)) H
def spFirstOf (K : PySem.W.Frag) (Ps : List Addr) : Sp := fun vs H Q _ => ∃ (t : Addr) (l : List Int), vs = [.ref t] ∧ SqL K H t (l.map V.int) ∧ Tg Ps H ∧ ∀ H', Sts Ps H H' → Tg Ps H' → Q (.int (foE l)) H'
theorem ok_first_of (T : Facts K mg) (TB_first_of : TabB base mg T.c_first_of T.P_first_of) (hP : T.P_first_of ∈ Ps) : FnOk P w K mg base CX0 1 T.f_first_of T.fd_first_of ["numbers"] (spFirstOf K Ps) := by
  refine HookT.okC T.F_first_of sc_first_of (fun vs H Q E h => ?_) (fun A outer s H vs Q E hr h => ?_)
  · obtain ⟨t, l, rfl, _⟩ := h
    rfl
  · obtain ⟨t, l, rfl, ht, hG, q⟩ := h
    refine ⟨_, (PSs.nox (pss_one (ps_ret (GenNl.pe_nextL hr (by rfl) T.z_next TB_first_of T.code_first_of (GenNx.genS_of rfl rfl (by decide +kernel) rfl rfl) (pv 0) (GenNx.test_ne0 rfl rfl))))), ?_⟩
    refine ⟨_, rfl, t, l, rfl, ht, hG _ hP, fun r H2 hr2 hT => ?_⟩
    have q2 := q H2 (tbd_sts hT hP) (tbd_tg hT hG)
    rw [← foE_of hr2] at q2
    exact q2
end
theorem lc_zipL {K : PySem.W.Frag} {a b : Addr} {xs ys : List V} {g : TG} {tt : TT} {te : TE} {vs : List Nat} {σ : L2.St} {H1 : Hp} {D : Addr} {Qd : Hp → Prop} (hl : xs.length = ys.length) (Pv : Nat → Hp → Prop) (h0 : Pv 0 (upd H1 D (.lst []))) (hq : ∀ i H, i ≤ xs.length → Pv i H → SqL K H a xs ∧ SqL K H b ys)
    (hs : ∀ (i : Nat) (x y : V) (T : Addr) (H : Hp), xs[i]? = some x → ys[i]? = some y → Pv i H → H T = none → g (.ref T) (wipe σ vs) (upd H T (.tup [x, y])) fun σ2 H2 => wipe σ2 vs = wipe σ vs ∧ tt σ2 H2 fun b H3 =>
      if b = true then te σ2 H3 fun y H4 => ∃ acc, H4 D = some (.lst acc) ∧ acc.length < sizeLine ∧ Pv (i + 1) (upd H4 D (.lst (acc ++ [y]))) else Pv (i + 1) H3) (hd : ∀ H, Pv xs.length H → Qd H) :
    ∃ W : Nat → Nat → Hp → Prop, (∃ m, W 0 m (upd H1 D (.lst []))) ∧ ∀ i m H, W i m H →
      ((Itz K a b).stop i H ∧ Qd H) ∨ ((Itz K a b).go i H ∧ ∃ Nx : Hp → Prop, (∀ H', Nx H' → ∃ m', m' < m ∧ W (i + 1) m' H') ∧ ∀ x H', (Itz K a b).yld i H x H' → g x (wipe σ vs) H' fun σ2 H2 => wipe σ2 vs = wipe σ vs ∧ tt σ2 H2 fun b H3 =>
        if b = true then te σ2 H3 fun y H4 => ∃ acc, H4 D = some (.lst acc) ∧ acc.length < sizeLine ∧ Nx (upd H4 D (.lst (acc ++ [y]))) else Nx H3) := by
  refine ⟨fun i m H => m = xs.length - i ∧ i ≤ xs.length ∧ Pv i H, ⟨xs.length, by simp, Nat.zero_le _, h0⟩, ?_⟩
  rintro i m H ⟨rfl, hi, p⟩
  obtain ⟨qx, qy⟩ := hq i H hi p
  by_cases hlt : i < xs.length
  · have hlt2 : i < ys.length := by omega
    have hx : xs[i]? = some xs[i] := List.getElem?_eq_getElem hlt
    have hy : ys[i]? = some ys[i] := List.getElem?_eq_getElem hlt2
    refine .inr ⟨⟨xs, ys, _, _, qx, qy, hx, hy⟩, Pv (i + 1), fun H' p' => ⟨xs.length - (i + 1), by omega, rfl, hlt, p'⟩, fun v H' y => ?_⟩
    obtain ⟨T, x', y', rfl, hT, rfl, f1, f2⟩ := y
    exact hs i x' y' T H (f1 xs qx) (f2 ys qy) p hT
  · have e : i = xs.length := by omega
    subst e
    exact .inl ⟨⟨xs, ys, qx, qy, Or.inl (Nat.le_refl _)⟩, hd H p⟩
def dv (l : List Int) (c : Int) : List Int := l.map fun x => x.fdiv c
theorem dv_tb (l : List Int) (c : Int) : (tb l.length fun k => (co l k).fdiv c) = dv l c := tb_map (fun x => x.fdiv c) l
def primE (l : List Int) : List Int := if gl l = 0 then l else dv l (if 0 < foE l then (gl l : Int) else -(gl l : Int))
def DivOk (l : List Int) : Prop := gl l ≠ 0 → ∀ x ∈ l, CDivQ x (gl l)
theorem cdivQ_neg {i j : Int} (h : CDivQ i j) : CDivQ i (-j) := ⟨fun e => h.1 (by omega), by rw [Int.natAbs_neg]; exact h.2⟩
theorem co_memE {l : List Int} {k : Nat} (h : k < l.length) : co l k ∈ l := by
  rw [co_get h]
  exact List.getElem_mem h
section
variable {P : Program} {w : World} {K : PySem.W.Frag} {mg : Str → Option Value} {base : Heap} {Ps : List Addr}
def spPrimL (Ps : List Addr) : Sp := fun vs H Q _ => ∃ (t : Addr) (l : List Int), vs = [.ref t] ∧ H t = some (ls l) ∧ l.length ≤ 100 ∧ DivOk l ∧ Tg Ps H ∧ ∀ p H', Sts Ps H H' → Tg Ps H' → H' p = some (ls (primE l)) → Q (.ref p) H'
theorem ok_primitive_of (T : Facts K mg) (TB_first_of : TabB base mg T.c_first_of T.P_first_of) (hP : T.P_first_of ∈ Ps) : FnOk P w K mg base CX0 2 T.f_primitive_of T.fd_primitive_of ["numbers"] (spPrimL Ps) := by
  have G_shared_of : FnOk P w K mg base CX0 1 T.f_shared_of T.fd_shared_of ["numbers"] (spSharedL K) := ok_shared_of T
  have G_first_of := ok_first_of (P := P) (w := w) (base := base) T TB_first_of hP
  refine T.F_primitive_of.ok sc_primitive_of (fun vs H Q E h => ?_) (fun cdv A outer s H vs Q E hr h => ?_)
  · obtain ⟨t, l, rfl, _⟩ := h
    rfl
  · obtain ⟨t, l, rfl, ht, hl, hdo, hG, q⟩ := h
    refine ⟨_, (PSs.nox (pss_cons (ps_set (i := 1) sc_primitive_of.nd rfl (.inr rfl) (pe_call G_shared_of hr (by rfl) T.g_shared_of T.F_shared_of.kp T.b_shared_of .nil pass0 (pa_cons (pv 0) pa_nil)))
    (pss_cons (ps_if (pt_cmpR op_eq (pv 1) pe_int (nomark _))
      (pss_one (ps_ret (pe_callTy call_list_of (by rfl) T.z_list (by decide +kernel) (pa_cons (pv 0) pa_nil))))
      pss_nil)
    (pss_cons (ps_set (i := 1) sc_primitive_of.nd rfl (.inr rfl) (pe_ifExp (pt_cmpR op_gt (pe_call G_first_of hr (by rfl) T.g_first_of T.F_first_of.kp T.b_first_of .nil pass0 (pa_cons (pv 0) pa_nil)) pe_int (nomark _)) (pv 1) (pe_un un_neg (pv 1))))
    (pss_one (ps_ret (pe_lc (own := [("number", 2)]) (g := (gName 2)) (tt := tYes) (by rfl) sc_primitive_of.nd (pi_list (pv 0)) (blkOk_by (N := N_primitive_of) (sc := defScope s_primitive_of) (by decide +kernel)) (fun _ _ _ _ _ => (pg_name (i := 2) sc_primitive_of.nd rfl (.inl rfl))) (fun _ _ _ _ _ => pts_nil) (fun _ _ _ _ _ => (pe_op FDivQ.op_fdivQ (pv 2) (pv 1)))))))))), ?_⟩
    refine ⟨_, rfl, t, l, rfl, SqL.of ht, _, rfl, rfl, _, rfl, ?_⟩
    by_cases c : gl l = 0
    · rw [decide_eq_true (show V.int ((gl l : Nat) : Int) = V.int 0 by rw [c]; rfl)]
      refine iteT ⟨_, rfl, t, l.map V.int, rfl, .inl (SqL.of ht), fun p hp => q p _ (Sts.of (same_upd0 hp)) (hG.same (same_upd0 hp)) ?_⟩
      unfold primE
      rw [if_pos c]
      exact upd_same
    · rw [decide_eq_false fun z => c (Int.natCast_eq_zero.mp (V.int.inj z))]
      refine iteF ⟨_, rfl, t, l, rfl, SqL.of ht, hG, fun H1 s1 g1 => ?_⟩
      have ht1 := s1.lst hG ht
      have fin : ∀ c2 : Int, primE l = dv l c2 → (∀ x ∈ l, CDivQ x c2) → ∀ D, H1 D = none → ∃ W : Nat → Nat → Hp → Prop, (∃ m, W 0 m (upd H1 D (.lst []))) ∧ ∀ i m H, W i m H →
          ((Itl K t).stop i H ∧ Q (.ref D) H) ∨ ((Itl K t).go i H ∧ ∃ Nx : Hp → Prop, (∀ H', Nx H' → ∃ m', m' < m ∧ W (i + 1) m' H') ∧ ∀ x H', (Itl K t).yld i H x H' → gName 2 x (wipe (List.set (L2.start N_primitive_of [V.ref t]) 1 (some (V.int c2))) [2]) H' fun σ2 H2 => wipe σ2 [2] = wipe (List.set (L2.start N_primitive_of [V.ref t]) 1 (some (V.int c2))) [2] ∧ tYes σ2 H2 fun b H3 =>
            if b = true then tOp (rI CDivQ fun i j => V.int (i.fdiv j)) (tVar 2) (tVar 1) σ2 H3 fun y H4 => ∃ acc, H4 D = some (.lst acc) ∧ acc.length < sizeLine ∧ Nx (upd H4 D (.lst (acc ++ [y]))) else Nx H3) := fun c2 e hc D hD => by
        refine lc_list (xs := l.map V.int) (fun j H' => H' = upd H1 D (.lst (tab j fun k => (co l k).fdiv c2))) rfl (fun j H' _ hP => ?_) (fun j x H' hx hP => ?_) (fun H' hP => ?_)
        · rw [hP]
          exact SqL.of (same_upd0 hD _ _ ht1)
        · subst hP
          obtain ⟨hj, rfl⟩ := int_get hx
          refine ⟨rfl, _, rfl, _, rfl, _, _, rfl, rfl, hc _ (co_memE hj), _, upd_same, ?_, ?_⟩
          · rw [tab_len]
            exact small1000 (by omega)
          · rw [upd_upd, ← tab_snoc]
        · subst hP
          rw [List.length_map]
          refine q D _ (s1.trans (Sts.of (same_upd0 hD))) (g1.same (same_upd0 hD)) ?_
          rw [upd_same, tab_tb, dv_tb, e]
      refine ⟨_, _, rfl, rfl, _, rfl, ?_⟩
      by_cases d : 0 < foE l
      · rw [decide_eq_true d]
        refine iteT ⟨_, rfl, _, rfl, t, rfl, ⟨_, SqL.of ht1⟩, fin _ ?_ (hdo c)⟩
        unfold primE
        rw [if_neg c, if_pos d]
      · rw [decide_eq_false d]
        refine iteF ⟨_, rfl, _, rfl, _, rfl, t, rfl, ⟨_, SqL.of ht1⟩, fin _ ?_ fun x hx => cdivQ_neg (hdo c x hx)⟩
        unfold primE
        rw [if_neg c, if_neg d]
def lf (row head : List Int) (p : Nat) : List Int :=
  tb row.length fun k => co row k * (co head p).fdiv (Nat.gcd (co head p).natAbs (co row p).natAbs : Nat) - (co row p).fdiv (Nat.gcd (co head p).natAbs (co row p).natAbs : Nat) * co head k
def less (row head : List Int) (p : Nat) : List Int := if co row p = 0 then row else if 1 < gl (lf row head p) then dv (lf row head p) (gl (lf row head p)) else lf row head p
structure LessOk (row head : List Int) (p : Nat) : Prop where
  c1 : CDivQ (co head p) (Nat.gcd (co head p).natAbs (co row p).natAbs : Nat)
  c2 : CDivQ (co row p) (Nat.gcd (co head p).natAbs (co row p).natAbs : Nat)
  m1 : ∀ k, k < row.length → CMulW (co row k) ((co head p).fdiv (Nat.gcd (co head p).natAbs (co row p).natAbs : Nat))
  m2 : ∀ k, k < row.length → CMulW ((co row p).fdiv (Nat.gcd (co head p).natAbs (co row p).natAbs : Nat)) (co head k)
  d : DivOk (lf row head p)
def spLess : Sp := fun vs H Q _ => ∃ (a b : Addr) (row head : List Int) (p : Nat), vs = [.ref a, .ref b, .int p] ∧ H a = some (ls row) ∧ H b = some (ls head) ∧ row.length = head.length ∧ row.length ≤ 100 ∧ p < row.length ∧ (co row p ≠ 0 → LessOk row head p) ∧ ∀ q H', Same H H' → H' q = some (ls (less row head p)) → Q (.ref q) H'
theorem sz2 : 2 ≤ sizeLine := by decide
theorem ok_less_head (T : Facts K mg) : FnOk P w K mg base CX0 2 T.f_less_head T.fd_less_head ["row", "head", "place"] spLess := by
  have G_shared_of : FnOk P w K mg base CX0 1 T.f_shared_of T.fd_shared_of ["numbers"] (spSharedL K) := ok_shared_of T
  refine T.F_less_head.ok sc_less_head (fun vs H Q E h => ?_) (fun cdv A outer s H vs Q E hr h => ?_)
  · obtain ⟨a, b, row, head, p, rfl, _⟩ := h
    rfl
  · obtain ⟨a, b, row, head, p, rfl, ha, hb, hl, hl1, hp, ok, q⟩ := h
    refine ⟨_, (PSs.nox (pss_cons (ps_asg (pe_tup (pa_cons (pe_ix ix_list (pv 1) (pv 2) (fun _ _ => rfl)) (pa_cons (pe_ix ix_list (pv 0) (pv 2) (fun _ _ => rfl)) pa_nil))) (pg_tup (by rfl) (pgs_cons (pg_name (i := 3) sc_less_head.nd rfl (.inr rfl)) (pgs_cons (pg_name (i := 4) sc_less_head.nd rfl (.inr rfl)) pgs_nil))))
    (pss_cons (ps_if (pt_cmpR op_eq (pv 4) pe_int (nomark _))
      (pss_one (ps_ret (pv 0)))
      pss_nil)
    (pss_cons (ps_set (i := 5) sc_less_head.nd rfl (.inl rfl) (pe_callBfun cr_gcd (by rfl) T.m_gcd (pa_cons (pv 3) (pa_cons (pv 4) pa_nil))))
    (pss_cons (ps_asg (pe_tup (pa_cons (pe_op FDivQ.op_fdivQ (pv 3) (pv 5)) (pa_cons (pe_op FDivQ.op_fdivQ (pv 4) (pv 5)) pa_nil))) (pg_tup (by rfl) (pgs_cons (pg_name (i := 3) sc_less_head.nd rfl (.inr rfl)) (pgs_cons (pg_name (i := 4) sc_less_head.nd rfl (.inr rfl)) pgs_nil))))
    (pss_cons (ps_setLc (i := 6) (own := [("entry", 7), ("taken", 8)]) (g := (gTup K 2 (gCons (gName 7) (gCons (gName 8) gNil)))) (tt := tYes) rfl sc_less_head.nd rfl rfl (sw_true rfl rfl rfl (by decide +kernel)) (pi_zipA (by rfl) T.z_zip (pa_cons (pv 0) (pa_cons (pv 1) pa_nil))) (blkOk_by (N := N_less_head) (sc := defScope s_less_head) (by decide +kernel)) (fun _ _ _ _ _ => (pg_tup (by rfl) (pgs_cons (pg_name (i := 7) sc_less_head.nd rfl (.inl rfl)) (pgs_cons (pg_name (i := 8) sc_less_head.nd rfl (.inl rfl)) pgs_nil)))) (fun _ _ _ _ _ => pts_nil) (fun _ _ _ _ _ => (pe_op op_sub (pe_op op_mulW (pv 7) (pv 3)) (pe_op op_mulW (pv 4) (pv 8)))))
    (pss_cons (ps_set (i := 9) sc_less_head.nd rfl (.inr rfl) (pe_call G_shared_of hr (by rfl) T.g_shared_of T.F_shared_of.kp T.b_shared_of .nil pass0 (pa_cons (pv 6) pa_nil)))
    (pss_one (ps_ret (pe_ifExp (pt_cmpR op_gt (pv 9) pe_int (nomark _)) (pe_lc (own := [("entry", 7)]) (g := (gName 7)) (tt := tYes) (by rfl) sc_less_head.nd (pi_list (pv 6)) (blkOk_by (N := N_less_head) (sc := defScope s_less_head) (by decide +kernel)) (fun _ _ _ _ _ => (pg_name (i := 7) sc_less_head.nd rfl (.inl rfl))) (fun _ _ _ _ _ => pts_nil) (fun _ _ _ _ _ => (pe_op FDivQ.op_fdivQ (pv 7) (pv 9)))) (pv 6))))))))))), ?_⟩
    refine ⟨_, rfl, _, rfl, b, _, p, .int (co head p), rfl, rfl, SqL.of hb, atI_nat (get_int (by omega)), _, rfl, _, rfl, a, _, p, .int (co row p), rfl, rfl, SqL.of ha, atI_nat (get_int hp), sz2, fun t1 n1 => ?_⟩
    refine ⟨t1, _, rfl, SqT.of upd_same, rfl, _, _, rfl, _, _, rfl, rfl, ?_⟩
    have s1 := same_upd0 (o := .tup [.int (co head p), .int (co row p)]) n1
    generalize upd H t1 (.tup [.int (co head p), .int (co row p)]) = H1 at s1 ⊢
    refine ⟨_, rfl, rfl, _, rfl, ?_⟩
    by_cases c : co row p = 0
    · rw [decide_eq_true (show V.int (co row p) = V.int 0 by rw [c])]
      refine iteT ⟨_, rfl, q a H1 s1 ?_⟩
      unfold less
      rw [if_pos c]
      exact s1 _ _ ha
    · rw [decide_eq_false fun z => c (V.int.inj z)]
      have k := ok c
      refine iteF ⟨_, rfl, _, rfl, _, _, rfl, ?_⟩
      refine ⟨_, rfl, _, rfl, _, _, rfl, rfl, k.c1, _, rfl, _, rfl, _, _, rfl, rfl, k.c2, sz2, fun t2 n2 => ?_⟩
      refine ⟨t2, _, rfl, SqT.of upd_same, rfl, _, _, rfl, _, _, rfl, rfl, ?_⟩
      have m1 := k.m1
      have m2 := k.m2
      have dd := k.d
      have el : less row head p = if 1 < gl (lf row head p) then dv (lf row head p) (gl (lf row head p)) else lf row head p := if_neg c
      have ef : lf row head p = tb row.length fun k => co row k * (co head p).fdiv (Nat.gcd (co head p).natAbs (co row p).natAbs : Nat) - (co row p).fdiv (Nat.gcd (co head p).natAbs (co row p).natAbs : Nat) * co head k := rfl
      rw [el] at q
      clear k ok el
      dsimp only []
      generalize lf row head p = f at ef q dd
      generalize (co head p).fdiv (Nat.gcd (co head p).natAbs (co row p).natAbs : Nat) = o1 at m1 ef ⊢
      generalize (co row p).fdiv (Nat.gcd (co head p).natAbs (co row p).natAbs : Nat) = o2 at m2 ef ⊢
      have s2 : Same H (upd H1 t2 (.tup [.int o1, .int o2])) := fun b o e => same_upd0 n2 b o (s1 b o e)
      generalize upd H1 t2 (.tup [.int o1, .int o2]) = H2 at s2 ⊢
      refine ⟨_, rfl, _, rfl, a, b, _, _, rfl, .inl ⟨SqL.of (s2 _ _ ha), SqL.of (s2 _ _ hb), fun D hD => ?_⟩⟩
      refine lc_zipL (xs := row.map V.int) (ys := head.map V.int) (by rw [List.length_map, List.length_map, hl]) (fun j H' => Same H2 H' ∧ H' D = some (.lst (tab j fun k => co row k * o1 - o2 * co head k))) ⟨same_upd0 hD, upd_same⟩ (fun j H' _ hP => ⟨SqL.of (hP.1 _ _ (s2 _ _ ha)), SqL.of (hP.1 _ _ (s2 _ _ hb))⟩) (fun j x y A H' hx hy hP hA => ?_) (fun H' hP => ?_)
      · obtain ⟨sH, hD'⟩ := hP
        obtain ⟨hj, rfl⟩ := int_get hx
        obtain ⟨_, rfl⟩ := int_get hy
        have sA := same_upd0 (o := .tup [.int (co row j), .int (co head j)]) hA
        refine ⟨A, _, rfl, SqT.of upd_same, rfl, _, _, rfl, _, _, rfl, rfl, rfl, _, rfl, _, rfl, _, _, rfl, rfl, m1 j hj, _, rfl, _, rfl, _, _, rfl, rfl, m2 j hj, _, _, rfl, rfl, _, sA _ _ hD', ?_, fun b o e => ?_, ?_⟩
        · rw [tab_len]
          exact small1000 (by omega)
        · rw [upd_ne (ne_of_none e hD)]
          exact sA _ _ (sH _ _ e)
        · rw [upd_same, ← tab_snoc]
      · obtain ⟨s3, hL⟩ := hP
        rw [List.length_map, tab_tb, ← ef] at hL
        have hfl : f.length ≤ 100 := by rw [ef, tb_len]; exact hl1
        have s4 : Same H H' := fun b o e => s3 _ _ (s2 _ _ e)
        refine ⟨_, rfl, D, f, rfl, SqL.of hL, ?_⟩
        refine ⟨_, rfl, _, _, rfl, rfl, _, rfl, ?_⟩
        by_cases d : 1 < gl f
        · rw [decide_eq_true (show (1 : Int) < ((gl f : Nat) : Int) by omega)]
          rw [if_pos d] at q
          refine iteT ⟨_, rfl, D, rfl, ⟨_, SqL.of hL⟩, fun D2 hD2 => ?_⟩
          refine lc_list (xs := f.map V.int) (fun j H3 => H3 = upd H' D2 (.lst (tab j fun k => (co f k).fdiv (gl f)))) rfl (fun j H3 _ hP => ?_) (fun j x H3 hx hP => ?_) (fun H3 hP => ?_)
          · rw [hP]
            exact SqL.of (same_upd0 hD2 _ _ hL)
          · subst hP
            obtain ⟨hj, rfl⟩ := int_get hx
            refine ⟨rfl, _, rfl, _, rfl, _, _, rfl, rfl, dd (by omega) _ (co_memE hj), _, upd_same, ?_, ?_⟩
            · rw [tab_len]
              exact small1000 (by omega)
            · rw [upd_upd, ← tab_snoc]
          · subst hP
            rw [List.length_map]
            refine q D2 _ (fun b o e => same_upd0 hD2 _ _ (s4 _ _ e)) ?_
            rw [upd_same, tab_tb, dv_tb]
        · rw [decide_eq_false (show ¬ (1 : Int) < ((gl f : Nat) : Int) by omega)]
          rw [if_neg d] at q
          exact iteF ⟨_, rfl, q D H' s4 hL⟩
end
def lless (row head : List Int) (p : Nat) : List Int := if 1 < gl (lf row head p) then dv (lf row head p) (gl (lf row head p)) else lf row head p
theorem lc_enumL {K : PySem.W.Frag} {a : Addr} {xs : List V} {g : TG} {tt : TT} {te : TE} {vs : List Nat} {σ : L2.St} {H1 : Hp} {D : Addr} {Qd : Hp → Prop} (Pv : Nat → Hp → Prop) (h0 : Pv 0 (upd H1 D (.lst []))) (hq : ∀ i H, i ≤ xs.length → Pv i H → SqL K H a xs)
    (hs : ∀ (i : Nat) (x : V) (T : Addr) (H : Hp), xs[i]? = some x → Pv i H → H T = none → g (.ref T) (wipe σ vs) (upd H T (.tup [.int (i : Nat), x])) fun σ2 H2 => wipe σ2 vs = wipe σ vs ∧ tt σ2 H2 fun b H3 =>
      if b = true then te σ2 H3 fun y H4 => ∃ acc, H4 D = some (.lst acc) ∧ acc.length < sizeLine ∧ Pv (i + 1) (upd H4 D (.lst (acc ++ [y]))) else Pv (i + 1) H3) (hd : ∀ H, Pv xs.length H → Qd H) :
    ∃ W : Nat → Nat → Hp → Prop, (∃ m, W 0 m (upd H1 D (.lst []))) ∧ ∀ i m H, W i m H →
      ((Ite K a).stop i H ∧ Qd H) ∨ ((Ite K a).go i H ∧ ∃ Nx : Hp → Prop, (∀ H', Nx H' → ∃ m', m' < m ∧ W (i + 1) m' H') ∧ ∀ x H', (Ite K a).yld i H x H' → g x (wipe σ vs) H' fun σ2 H2 => wipe σ2 vs = wipe σ vs ∧ tt σ2 H2 fun b H3 =>
        if b = true then te σ2 H3 fun y H4 => ∃ acc, H4 D = some (.lst acc) ∧ acc.length < sizeLine ∧ Nx (upd H4 D (.lst (acc ++ [y]))) else Nx H3) := by
  refine ⟨fun i m H => m = xs.length - i ∧ i ≤ xs.length ∧ Pv i H, ⟨xs.length, by simp, Nat.zero_le _, h0⟩, ?_⟩
  rintro i m H ⟨rfl, hi, p⟩
  have qx := hq i H hi p
  by_cases hlt : i < xs.length
  · have hx : xs[i]? = some xs[i] := List.getElem?_eq_getElem hlt
    refine .inr ⟨⟨xs, _, qx, hx⟩, Pv (i + 1), fun H' p' => ⟨xs.length - (i + 1), by omega, rfl, hlt, p'⟩, fun v H' y => ?_⟩
    obtain ⟨T, x', rfl, hT, rfl, f1⟩ := y
    exact hs i x' T H (f1 xs qx) p hT
  · have e : i = xs.length := by omega
    subst e
    exact .inl ⟨⟨xs, qx, Nat.le_refl _⟩, hd H p⟩
theorem ne_lintsL {K : PySem.W.Frag} {H : Hp} {a b : Addr} {xs ys : List Int} {Q : VK} (ha : SqL K H a (xs.map V.int)) (hb : SqL K H b (ys.map V.int)) (q : Q (.bl (!decide (xs = ys))) H) : rNeD K (.ref a) (.ref b) H Q := by
  refine ⟨.list (xs.map PyData.int), .list (ys.map PyData.int), .lst ha (dpAll_ints xs), .lst hb (dpAll_ints ys), shaped_lints xs, shaped_lints ys, ?_⟩
  rw [show PyData.eqv (.list (xs.map PyData.int)) (.list (ys.map PyData.int)) = decide (xs = ys) from eqvAll_ints xs ys]
  exact q
def RX (p : Addr → List Int → Prop) : List Addr → List (List Int) → Prop
  | [], [] => True
  | a :: as, r :: rs => p a r ∧ RX p as rs
  | _, _ => False
theorem RX.len {p : Addr → List Int → Prop} : ∀ {as : List Addr} {rs : List (List Int)}, RX p as rs → as.length = rs.length
  | [], [], _ => rfl
  | a :: as, r :: rs, h => congrArg (· + 1) (RX.len h.2)
theorem RX.imp {p q : Addr → List Int → Prop} (f : ∀ a r, p a r → q a r) : ∀ {as : List Addr} {rs : List (List Int)}, RX p as rs → RX q as rs
  | [], [], _ => True.intro
  | a :: as, r :: rs, h => ⟨f _ _ h.1, RX.imp f h.2⟩
theorem RX.app {p : Addr → List Int → Prop} {bs : List Addr} {ss : List (List Int)} (g : RX p bs ss) : ∀ {as : List Addr} {rs : List (List Int)}, RX p as rs → RX p (as ++ bs) (rs ++ ss)
  | [], [], _ => g
  | a :: as, r :: rs, h => ⟨h.1, RX.app g h.2⟩
theorem RX.get {p : Addr → List Int → Prop} : ∀ {as : List Addr} {rs : List (List Int)} {i : Nat}, RX p as rs → i < rs.length → ∃ a r, as[i]? = some a ∧ rs[i]? = some r ∧ p a r
  | [], [], _, _, h => absurd h (Nat.not_lt_zero _)
  | a :: as, r :: rs, 0, h, _ => ⟨a, r, rfl, rfl, h.1⟩
  | a :: as, r :: rs, i + 1, h, hi => by
    obtain ⟨b, s, e1, e2, k⟩ := RX.get (i := i) h.2 (Nat.lt_of_succ_lt_succ hi)
    exact ⟨b, s, by rw [List.getElem?_cons_succ]; exact e1, by rw [List.getElem?_cons_succ]; exact e2, k⟩
theorem RX.erase {p : Addr → List Int → Prop} : ∀ {as : List Addr} {rs : List (List Int)} (i : Nat), RX p as rs → RX p (as.eraseIdx i) (rs.eraseIdx i)
  | [], [], _, _ => True.intro
  | a :: as, r :: rs, 0, h => h.2
  | a :: as, r :: rs, i + 1, h => ⟨h.1, RX.erase i h.2⟩
theorem RX.snoc {p : Addr → List Int → Prop} {as : List Addr} {rs : List (List Int)} {a : Addr} {r : List Int} (h : RX p as rs) (k : p a r) : RX p (as ++ [a]) (rs ++ [r]) := RX.app (bs := [a]) (ss := [r]) ⟨k, True.intro⟩ h
def RR (H : Hp) : List Addr → List (List Int) → Prop := RX fun a r => H a = some (ls r)
def RA (H : Hp) : List Addr → List (List Int) → Prop := RX fun a r => H a = some (tp r) ∨ H a = some (ls r)
def RT (H : Hp) : List Addr → List (List Int) → Prop := RX fun a r => H a = some (tp r)
theorem RR.same {H H' : Hp} {as : List Addr} {rs : List (List Int)} (h : RR H as rs) (s : Same H H') : RR H' as rs := RX.imp (fun a r e => s _ _ e) h
theorem RR.sts {Ps : List Addr} {H H' : Hp} {as : List Addr} {rs : List (List Int)} (h : RR H as rs) (s : Sts Ps H H') (g : Tg Ps H) : RR H' as rs := RX.imp (fun a r e => s.lst g e) h
theorem RA.same {H H' : Hp} {as : List Addr} {rs : List (List Int)} (h : RA H as rs) (s : Same H H') : RA H' as rs := RX.imp (fun a r e => e.imp (s _ _) (s _ _)) h
theorem RX.impM {p q : Addr → List Int → Prop} : ∀ {as : List Addr} {rs : List (List Int)}, (∀ a ∈ as, ∀ r, p a r → q a r) → RX p as rs → RX q as rs
  | [], [], _, _ => True.intro
  | a :: as, r :: rs, f, h => ⟨f a List.mem_cons_self r h.1, RX.impM (fun b hb => f b (List.mem_cons_of_mem _ hb)) h.2⟩
theorem row_ne {H : Hp} {b D : Addr} {r : List Int} {xs : List Addr} (h : H b = some (ls r)) (hD : H D = some (.lst (xs.map V.ref))) (hx : xs ≠ []) : b ≠ D := fun e => by
  rw [e, hD] at h
  have h := HO.lst.inj (Option.some.inj h)
  cases xs with
  | nil => exact hx rfl
  | cons x xs =>
    cases r with
    | nil => cases h
    | cons y r => cases h
theorem row_ne2 {H : Hp} {b D : Addr} {r : List Int} {xs : List Addr} (h : H b = some (ls r)) (hD : H D = some (.lst (xs.map V.ref))) (hr : r ≠ []) : b ≠ D := fun e => by
  rw [e, hD] at h
  have h := HO.lst.inj (Option.some.inj h)
  cases r with
  | nil => exact hr rfl
  | cons y r =>
    cases xs with
    | nil => cases h
    | cons x xs => cases h
theorem RR.upd {H : Hp} {D : Addr} {o : HO} {xs as : List Addr} {rs : List (List Int)} (h : RR H as rs) (hD : H D = some (.lst (xs.map V.ref))) (hx : as ≠ [] → xs ≠ []) : RR (L2.upd H D o) as rs :=
  RX.impM (fun a ha r e => by rw [upd_ne (row_ne e hD (hx fun z => by rw [z] at ha; cases ha))]; exact e) h
def hix (left : List (List Int)) (p : Nat) : Option Nat := left.findIdx? fun r => co r p != 0
def hds (left : List (List Int)) (p : Nat) : List Int := ((List.range left.length).filter fun i => co (left.getD i []) p != 0).map fun (i : Nat) => (i : Int)
theorem hds_hix (left : List (List Int)) (p : Nat) : (hds left p)[0]? = (hix left p).map fun (i : Nat) => (i : Int) := by
  unfold hds hix
  rw [List.getElem?_map, ← List.head?_eq_getElem?, List.head?_filter]
  congr 1
  cases e : List.findIdx? (fun r => co r p != 0) left with
  | none =>
    rw [List.find?_eq_none]
    intro i hi
    have hi : i < left.length := List.mem_range.mp hi
    have h := List.findIdx?_eq_none_iff.mp e left[i] (List.getElem_mem hi)
    rw [List.getD_eq_getElem?_getD, List.getElem?_eq_getElem hi]
    show ¬ (co left[i] p != 0) = true
    rw [h]
    exact Bool.false_ne_true
  | some k =>
    obtain ⟨hk, h1, h2⟩ := List.findIdx?_eq_some_iff_getElem.mp e
    refine List.find?_eq_some_iff_getElem.mpr ⟨?_, k, by rw [List.length_range]; exact hk, List.getElem_range _, fun j hj => ?_⟩
    · rw [List.getD_eq_getElem?_getD, List.getElem?_eq_getElem hk]
      exact h1
    · rw [List.getElem_range, List.getD_eq_getElem?_getD, List.getElem?_eq_getElem (Nat.lt_trans hj hk)]
      have := h2 j hj
      simpa using this
def stp (le : List Int → List Int → Nat → List Int) (p : Nat) (s : List (List Int) × List (List Int)) : List (List Int) × List (List Int) := match hix s.1 p with
  | none => s
  | some h => ((s.1.eraseIdx h).map fun r => le r (s.1.getD h []) p, (s.2.map fun r => le r (s.1.getD h []) p) ++ [s.1.getD h []])
def eS (le : List Int → List Int → Nat → List Int) (rows : List (List Int)) : Nat → List (List Int) × List (List Int)
  | 0 => (rows, [])
  | p + 1 => stp le p (eS le rows p)
def ech (le : List Int → List Int → Nat → List Int) (rows : List (List Int)) (w : Nat) : List (List Int) := (eS le rows w).2.map primE
structure EOk (le : List Int → List Int → Nat → List Int) (rows : List (List Int)) (w : Nat) : Prop where
  d : ∀ r ∈ (eS le rows w).2, DivOk r
  l : ∀ p, p < w → ∀ h, hix (eS le rows p).1 p = some h → ∀ r, (r ∈ (eS le rows p).1.eraseIdx h ∨ r ∈ (eS le rows p).2) → LessOk r ((eS le rows p).1.getD h []) p
theorem lc_rows {K : PySem.W.Frag} {a : Addr} {fs : List Addr} {R : List (List Int)} {f : List Int → List Int} {te : TE} {σ : L2.St} {k : Nat} {H1 : Hp} {D : Addr} {Qd : Hp → Prop} (hD : H1 D = none) (ha : H1 a = some (.lst (fs.map V.ref))) (hR : RR H1 fs R) (hl : R.length ≤ 100)
    (hw : ∀ x, wipe ((wipe σ [k]).set k (some x)) [k] = wipe σ [k])
    (hte : ∀ (ad : Addr) (r : List Int) (H2 : Hp) (Q : VK), r ∈ R → Same H1 H2 → H2 ad = some (ls r) → (∀ q H3, Same H2 H3 → H3 q = some (ls (f r)) → Q (.ref q) H3) → te ((wipe σ [k]).set k (some (.ref ad))) H2 Q)
    (hf : ∀ r ∈ R, f r ≠ []) (hd : ∀ bs H6, Same H1 H6 → H6 D = some (.lst (bs.map V.ref)) → RR H6 bs (R.map f) → Qd H6) :
    ∃ W : Nat → Nat → Hp → Prop, (∃ m, W 0 m (upd H1 D (.lst []))) ∧ ∀ i m H, W i m H →
      ((Itl K a).stop i H ∧ Qd H) ∨ ((Itl K a).go i H ∧ ∃ Nx : Hp → Prop, (∀ H', Nx H' → ∃ m', m' < m ∧ W (i + 1) m' H') ∧ ∀ x H', (Itl K a).yld i H x H' → gName k x (wipe σ [k]) H' fun σ2 H2 => wipe σ2 [k] = wipe σ [k] ∧ tYes σ2 H2 fun b H3 =>
        if b = true then te σ2 H3 fun y H4 => ∃ acc, H4 D = some (.lst acc) ∧ acc.length < sizeLine ∧ Nx (upd H4 D (.lst (acc ++ [y]))) else Nx H3) := by
  refine lc_list (xs := fs.map V.ref) (fun j H' => ∃ bs, Same H1 H' ∧ H' D = some (.lst (bs.map V.ref)) ∧ bs.length = j ∧ RR H' bs ((R.take j).map f)) ⟨[], same_upd0 hD, upd_same, rfl, True.intro⟩ (fun j H' _ hP => SqL.of (hP.choose_spec.1 _ _ ha)) (fun j x H' hx hP => ?_) (fun H' hP => ?_)
  · obtain ⟨bs, s1, h1, h2, h3⟩ := hP
    rw [List.getElem?_map] at hx
    obtain ⟨ad, had, rfl⟩ := Option.map_eq_some_iff.mp hx
    obtain ⟨ad', r, e1, e2, e3⟩ := RX.get hR (by rw [← hR.len]; exact (List.getElem?_eq_some_iff.mp had).1)
    rw [had] at e1
    cases e1
    have hj : j < R.length := (List.getElem?_eq_some_iff.mp e2).1
    refine ⟨hw _, ?_⟩
    show te _ _ _
    refine hte ad r H' _ (List.mem_of_getElem? e2) s1 (s1 _ _ e3) fun q H3 s3 e4 => ⟨bs.map V.ref, s3 _ _ h1, ?_, bs ++ [q], fun b o e => ?_, ?_, ?_, ?_⟩
    · rw [List.length_map, h2]
      exact small1000 (by omega)
    · rw [upd_ne (ne_of_none e hD)]
      exact s3 _ _ (s1 _ _ e)
    · rw [upd_same, List.map_append]
      rfl
    · rw [List.length_append, h2]
      rfl
    · rw [List.take_add_one, e2, List.map_append]
      refine RX.snoc (RR.upd (h3.same s3) (s3 _ _ h1) fun z => z) ?_
      show upd H3 D _ q = _
      by_cases hq : q = D
      · exact absurd hq (row_ne2 e4 (s3 _ _ h1) (hf r (List.mem_of_getElem? e2)))
      · rw [upd_ne hq]
        exact e4
  · obtain ⟨bs, s1, h1, h2, h3⟩ := hP
    rw [List.length_map, hR.len, List.take_length] at h3
    exact hd bs H' s1 h1 h3
theorem lc_rowsS {Ps : List Addr} {K : PySem.W.Frag} {a : Addr} {fs : List Addr} {R : List (List Int)} {f : List Int → List Int} {te : TE} {σ : L2.St} {k : Nat} {H1 : Hp} {D : Addr} {Qd : Hp → Prop} (hG : Tg Ps H1) (hD : H1 D = none) (ha : H1 a = some (.lst (fs.map V.ref))) (hR : RR H1 fs R) (hl : R.length ≤ 100)
    (hw : ∀ x, wipe ((wipe σ [k]).set k (some x)) [k] = wipe σ [k])
    (hte : ∀ (ad : Addr) (r : List Int) (H2 : Hp) (Q : VK), r ∈ R → Sts Ps H1 H2 → Tg Ps H2 → H2 ad = some (ls r) → (∀ q H3, Sts Ps H2 H3 → Tg Ps H3 → H3 q = some (ls (f r)) → Q (.ref q) H3) → te ((wipe σ [k]).set k (some (.ref ad))) H2 Q)
    (hf : ∀ r ∈ R, f r ≠ []) (hd : ∀ bs H6, Sts Ps H1 H6 → Tg Ps H6 → H6 D = some (.lst (bs.map V.ref)) → RR H6 bs (R.map f) → Qd H6) :
    ∃ W : Nat → Nat → Hp → Prop, (∃ m, W 0 m (upd H1 D (.lst []))) ∧ ∀ i m H, W i m H →
      ((Itl K a).stop i H ∧ Qd H) ∨ ((Itl K a).go i H ∧ ∃ Nx : Hp → Prop, (∀ H', Nx H' → ∃ m', m' < m ∧ W (i + 1) m' H') ∧ ∀ x H', (Itl K a).yld i H x H' → gName k x (wipe σ [k]) H' fun σ2 H2 => wipe σ2 [k] = wipe σ [k] ∧ tYes σ2 H2 fun b H3 =>
        if b = true then te σ2 H3 fun y H4 => ∃ acc, H4 D = some (.lst acc) ∧ acc.length < sizeLine ∧ Nx (upd H4 D (.lst (acc ++ [y]))) else Nx H3) := by
  refine lc_list (xs := fs.map V.ref) (fun j H' => ∃ bs, Sts Ps H1 H' ∧ Tg Ps H' ∧ H' D = some (.lst (bs.map V.ref)) ∧ bs.length = j ∧ RR H' bs ((R.take j).map f)) ⟨[], Sts.of (same_upd0 hD), hG.same (same_upd0 hD), upd_same, rfl, True.intro⟩ (fun j H' _ hP => SqL.of (hP.choose_spec.1.lst hG ha)) (fun j x H' hx hP => ?_) (fun H' hP => ?_)
  · obtain ⟨bs, s1, t1, h1, h2, h3⟩ := hP
    rw [List.getElem?_map] at hx
    obtain ⟨ad, had, rfl⟩ := Option.map_eq_some_iff.mp hx
    obtain ⟨ad', r, e1, e2, e3⟩ := RX.get hR (by rw [← hR.len]; exact (List.getElem?_eq_some_iff.mp had).1)
    rw [had] at e1
    cases e1
    have hj : j < R.length := (List.getElem?_eq_some_iff.mp e2).1
    refine ⟨hw _, ?_⟩
    show te _ _ _
    refine hte ad r H' _ (List.mem_of_getElem? e2) s1 t1 (s1.lst hG e3) fun q H3 s3 t3 e4 => ⟨bs.map V.ref, s3.lst t1 h1, ?_, bs ++ [q], fun b o nb e => ?_, ?_, ?_, ?_, ?_⟩
    · rw [List.length_map, h2]
      exact small1000 (by omega)
    · rw [upd_ne (ne_of_none e hD)]
      exact s3 _ _ nb (s1 _ _ nb e)
    · intro P m
      obtain ⟨ps, e, k2⟩ := t3 P m
      refine ⟨ps, ?_, k2⟩
      rw [upd_ne (fun z => by
        have h5 := s3.lst t1 h1
        rw [← z, e] at h5
        cases h5)]
      exact e
    · rw [upd_same, List.map_append]
      rfl
    · rw [List.length_append, h2]
      rfl
    · rw [List.take_add_one, e2, List.map_append]
      refine RX.snoc (RR.upd (h3.sts s3 t1) (s3.lst t1 h1) fun z => z) ?_
      show upd H3 D _ q = _
      by_cases hq : q = D
      · exact absurd hq (row_ne2 e4 (s3.lst t1 h1) (hf r (List.mem_of_getElem? e2)))
      · rw [upd_ne hq]
        exact e4
  · obtain ⟨bs, s1, t1, h1, h2, h3⟩ := hP
    rw [List.length_map, hR.len, List.take_length] at h3
    exact hd bs H' s1 t1 h1 h3
theorem primE_len (l : List Int) : (primE l).length = l.length := by
  unfold primE dv
  split
  · rfl
  · rw [List.length_map]
theorem erase_map : ∀ (l : List Addr) (h : Nat), (l.map V.ref).eraseIdx h = (l.eraseIdx h).map V.ref
  | [], _ => rfl
  | a :: l, 0 => rfl
  | a :: l, h + 1 => by
    show V.ref a :: (l.map V.ref).eraseIdx h = V.ref a :: (l.eraseIdx h).map V.ref
    rw [erase_map l h]
theorem less_len (row head : List Int) (p : Nat) : (less row head p).length = row.length := by
  unfold less dv lf
  split
  · rfl
  · split
    · rw [List.length_map, tb_len]
    · rw [tb_len]
theorem stp_none {le : List Int → List Int → Nat → List Int} {p : Nat} {s : List (List Int) × List (List Int)} (h : hix s.1 p = none) : stp le p s = s := by
  unfold stp
  rw [h]
theorem stp_some {le : List Int → List Int → Nat → List Int} {p h : Nat} {s : List (List Int) × List (List Int)} (e : hix s.1 p = some h) : stp le p s = ((s.1.eraseIdx h).map fun r => le r (s.1.getD h []) p, (s.2.map fun r => le r (s.1.getD h []) p) ++ [s.1.getD h []]) := by
  unfold stp
  rw [e]
theorem eS_len {rows : List (List Int)} {n : Nat} (h : ∀ r ∈ rows, r.length = n) : ∀ p, (∀ r ∈ (eS less rows p).1, r.length = n) ∧ ∀ r ∈ (eS less rows p).2, r.length = n
  | 0 => ⟨h, fun r hr => absurd hr List.not_mem_nil⟩
  | p + 1 => by
    obtain ⟨h1, h2⟩ := eS_len h p
    show (∀ r ∈ (stp less p (eS less rows p)).1, r.length = n) ∧ ∀ r ∈ (stp less p (eS less rows p)).2, r.length = n
    cases e : hix (eS less rows p).1 p with
    | none =>
      rw [stp_none e]
      exact ⟨h1, h2⟩
    | some k =>
      rw [stp_some e]
      refine ⟨fun r hr => ?_, fun r hr => ?_⟩
      · obtain ⟨x, hx, rfl⟩ := List.mem_map.mp hr
        rw [less_len]
        exact h1 x (List.mem_of_mem_eraseIdx hx)
      · rcases List.mem_append.mp hr with hr | hr
        · obtain ⟨x, hx, rfl⟩ := List.mem_map.mp hr
          rw [less_len]
          exact h2 x hx
        · rw [List.mem_singleton.mp hr]
          obtain ⟨hk, _, _⟩ := List.findIdx?_eq_some_iff_getElem.mp e
          rw [List.getD_eq_getElem?_getD, List.getElem?_eq_getElem hk]
          exact h1 _ (List.getElem_mem hk)
theorem eS_cnt (le : List Int → List Int → Nat → List Int) (rows : List (List Int)) : ∀ p, (eS le rows p).1.length + (eS le rows p).2.length = rows.length
  | 0 => rfl
  | p + 1 => by
    have ih := eS_cnt le rows p
    show (stp le p (eS le rows p)).1.length + (stp le p (eS le rows p)).2.length = _
    cases e : hix (eS le rows p).1 p with
    | none => rw [stp_none e]; exact ih
    | some k =>
      obtain ⟨hk, _, _⟩ := List.findIdx?_eq_some_iff_getElem.mp e
      rw [stp_some e]
      show ((eS le rows p).1.eraseIdx k |>.map _).length + (_ ++ [_]).length = _
      rw [List.length_map, List.length_eraseIdx_of_lt hk, List.length_append, List.length_map]
      show _ - 1 + (_ + 1) = _
      omega
section
variable {P : Program} {w : World} {K : PySem.W.Frag} {mg : Str → Option Value} {base : Heap} {Ps : List Addr}
def spEch (K : PySem.W.Frag) (Ps : List Addr) : Sp := fun vs H Q _ => ∃ (t : Addr) (as : List Addr) (rows : List (List Int)) (n : Nat), vs = [.ref t, .int n] ∧ (H t = some (.tup (as.map V.ref)) ∨ H t = some (.lst (as.map V.ref))) ∧ RA H as rows ∧ rows.length ≤ 100 ∧ n ≤ 100 ∧ (∀ r ∈ rows, r.length = n) ∧
  EOk less rows n ∧ Tg Ps H ∧ ∀ p bs H', Sts Ps H H' → Tg Ps H' → H' p = some (.lst (bs.map V.ref)) → RR H' bs (ech less rows n) → Q (.ref p) H'
theorem ok_echelon_rows (T : Facts K mg) (TB_first_of : TabB base mg T.c_first_of T.P_first_of) (hP : T.P_first_of ∈ Ps) : FnOk P w K mg base CX0 3 T.f_echelon_rows T.fd_echelon_rows ["rows", "width"] (spEch K Ps) := by
  have G_less_head : FnOk P w K mg base CX0 2 T.f_less_head T.fd_less_head ["row", "head", "place"] spLess := ok_less_head T
  have G_primitive_of := ok_primitive_of (P := P) (w := w) (base := base) T TB_first_of hP
  refine T.F_echelon_rows.ok sc_echelon_rows (fun vs H Q E h => ?_) (fun cdv A outer s H vs Q E hr h => ?_)
  · obtain ⟨t, as, rows, n, rfl, _⟩ := h
    rfl
  · obtain ⟨t, as, rows, n, rfl, hS, hA, hl, hn, hw, ok, hG, q⟩ := h
    refine ⟨_, (PSs.nox (pss_cons (ps_par (i := 2) (j := 3) (by rfl) sc_echelon_rows.nd rfl rfl (by decide) rfl rfl (pa_cons (pe_lc (own := [("row", 4)]) (g := (gName 4)) (tt := tYes) (by rfl) sc_echelon_rows.nd (SeqE.PI_or (pi_tup (pv 0)) (pi_list (pv 0))) (blkOk_by (N := N_echelon_rows) (sc := defScope s_echelon_rows) (by decide +kernel)) (fun _ _ _ _ _ => (pg_name (i := 4) sc_echelon_rows.nd rfl (.inl rfl))) (fun _ _ _ _ _ => pts_nil) (fun _ _ _ _ _ => (pe_callTy (ListOf.call_list_ofK (by rfl) : CallR _ (.type "list") (ListOf.rListOf K)) (by rfl) T.z_list (by decide +kernel) (pa_cons (pv 4) pa_nil)))) (pa_cons (pe_lst pa_nil) pa_nil)) (by rfl))
    (pss_cons (ps_for PassesOwn.never (by rfl) (pi_range1 (by rfl) T.z_range (pa_cons (pv 1) pa_nil)) (pg_name (i := 5) sc_echelon_rows.nd rfl (.inr rfl))
      (pss_cons (ps_setLc (i := 6) (own := [("row", 4), ("at", 7)]) (g := (gTup K 2 (gCons (gName 7) (gCons (gName 4) gNil)))) rfl sc_echelon_rows.nd rfl rfl (sw_true rfl rfl rfl (by decide +kernel)) (pi_enum (by rfl) T.z_enumerate (pa_cons (pv 2) pa_nil)) (blkOk_by (N := N_echelon_rows) (sc := defScope s_echelon_rows) (by decide +kernel)) (fun _ _ _ _ _ => (pg_tup (by rfl) (pgs_cons (pg_name (i := 7) sc_echelon_rows.nd rfl (.inl rfl)) (pgs_cons (pg_name (i := 4) sc_echelon_rows.nd rfl (.inl rfl)) pgs_nil)))) (fun _ _ _ _ _ => (pts_one (pt_cmpR op_ne (pe_ix (ix_list : IxR _ (rIxL K)) (pv 4) (pv 5) (fun _ _ => rfl)) pe_int (nomark _)))) (fun _ _ _ _ _ => (pv 7)))
      (pss_one (ps_if (pt_cmpR (op_neD (hu64 hr)) (pv 6) (pe_lst pa_nil) (nomark _))
        (pss_cons (ps_set (i := 8) sc_echelon_rows.nd rfl (.inr rfl) (pe_bm PySem.F.plainAttrs_list PySem.F.slot_list_pop PySem.F.type_list_pop mt_popAt (pv 2) (pa_cons (pe_ix ix_list (pv 6) pe_int (fun _ _ => rfl)) pa_nil)))
        (pss_cons (ps_set (i := 3) sc_echelon_rows.nd rfl (.inl rfl) (pe_lst (pa_star (pe_lc (own := [("row", 4)]) (g := (gName 4)) (tt := tYes) (by rfl) sc_echelon_rows.nd (pi_list (pv 3)) (blkOk_by (N := N_echelon_rows) (sc := defScope s_echelon_rows) (by decide +kernel)) (fun _ _ _ _ _ => (pg_name (i := 4) sc_echelon_rows.nd rfl (.inl rfl))) (fun _ _ _ _ _ => pts_nil) (fun _ _ _ _ _ => (pe_call G_less_head hr (by rfl) T.g_less_head T.F_less_head.kp T.b_less_head .nil pass0 (pa_cons (pv 4) (pa_cons (pv 8) (pa_cons (pv 5) pa_nil)))))) (pa_cons (pv 8) pa_nil))))
        (pss_one (ps_setLc (i := 2) (own := [("row", 4)]) (g := (gName 4)) (tt := tYes) rfl sc_echelon_rows.nd rfl rfl (sw_true rfl rfl rfl (by decide +kernel)) (pi_list (pv 2)) (blkOk_by (N := N_echelon_rows) (sc := defScope s_echelon_rows) (by decide +kernel)) (fun _ _ _ _ _ => (pg_name (i := 4) sc_echelon_rows.nd rfl (.inl rfl))) (fun _ _ _ _ _ => pts_nil) (fun _ _ _ _ _ => (pe_call G_less_head hr (by rfl) T.g_less_head T.F_less_head.kp T.b_less_head .nil pass0 (pa_cons (pv 4) (pa_cons (pv 8) (pa_cons (pv 5) pa_nil)))))))))
        pss_nil))))
    (pss_one (ps_ret (pe_lc (own := [("row", 4)]) (g := (gName 4)) (tt := tYes) (by rfl) sc_echelon_rows.nd (pi_list (pv 3)) (blkOk_by (N := N_echelon_rows) (sc := defScope s_echelon_rows) (by decide +kernel)) (fun _ _ _ _ _ => (pg_name (i := 4) sc_echelon_rows.nd rfl (.inl rfl))) (fun _ _ _ _ _ => pts_nil) (fun _ _ _ _ _ => (pe_call G_primitive_of hr (by rfl) T.g_primitive_of T.F_primitive_of.kp T.b_primitive_of .nil pass0 (pa_cons (pv 4) pa_nil))))))))), ?_⟩
    have step : ∀ (i : Nat) (x : V) (D : Addr) (H' : Hp), H D = none → (as.map V.ref)[i]? = some x → (∃ bs, Same H H' ∧ H' D = some (.lst (bs.map V.ref)) ∧ bs.length = i ∧ RR H' bs (rows.take i)) →
        ∃ a r, x = .ref a ∧ (H' a = some (ls r) ∨ H' a = some (tp r)) ∧ ∀ l, H' l = none → ∃ acc, (upd H' l (ls r)) D = some (.lst acc) ∧ acc.length < sizeLine ∧ ∃ bs, Same H (upd (upd H' l (ls r)) D (.lst (acc ++ [.ref l]))) ∧ (upd (upd H' l (ls r)) D (.lst (acc ++ [.ref l]))) D = some (.lst (bs.map V.ref)) ∧ bs.length = i + 1 ∧ RR (upd (upd H' l (ls r)) D (.lst (acc ++ [.ref l]))) bs (rows.take (i + 1)) := fun i x D H' hD hx hP => by
      obtain ⟨bs, s1, h1, h2, h3⟩ := hP
      rw [List.getElem?_map] at hx
      obtain ⟨a, ha, rfl⟩ := Option.map_eq_some_iff.mp hx
      have hi : i < rows.length := by
        rw [← hA.len]
        exact (List.getElem?_eq_some_iff.mp ha).1
      obtain ⟨a', r, e1, e2, k⟩ := RX.get hA hi
      rw [ha] at e1
      cases e1
      refine ⟨a, r, rfl, k.symm.imp (s1 _ _) (s1 _ _), fun l hl => ⟨bs.map V.ref, ?_, ?_, bs ++ [l], ?_, ?_, ?_, ?_⟩⟩
      · exact same_upd0 hl _ _ h1
      · rw [List.length_map, h2]
        exact small1000 (by omega)
      · intro b o e
        rw [upd_ne (ne_of_none e hD)]
        exact same_upd0 hl _ _ (s1 _ _ e)
      · rw [upd_same, List.map_append]
        rfl
      · rw [List.length_append, h2]
        rfl
      · have lD : l ≠ D := fun e => by
          rw [e, h1] at hl
          cases hl
        have hr2 : RR (upd H' l (ls r)) bs (rows.take i) := h3.same (same_upd0 hl)
        have et : rows.take (i + 1) = rows.take i ++ [r] := by
          rw [List.take_add_one, e2]
          rfl
        rw [et]
        refine RX.snoc (RR.upd hr2 (same_upd0 hl _ _ h1) fun z => z) ?_
        show upd (upd H' l (ls r)) D _ l = _
        rw [upd_ne lD]
        exact upd_same
    rcases hS with hS | hS
    case' inl =>
      refine .inl ⟨_, rfl, t, rfl, ⟨_, SqT.of hS⟩, fun D hD => ?_⟩
      refine lc_tup (xs := as.map V.ref) (fun j H' => ∃ bs, Same H H' ∧ H' D = some (.lst (bs.map V.ref)) ∧ bs.length = j ∧ RR H' bs (rows.take j)) ⟨[], same_upd0 hD, upd_same, rfl, True.intro⟩ (fun j H' _ hP => SqT.of (hP.choose_spec.1 _ _ hS)) (fun j x H' hx hP => by
        obtain ⟨a, r, rfl, k, f⟩ := step j x D H' hD hx hP
        exact ⟨rfl, _, rfl, a, r.map V.int, rfl, k.imp SqL.of SqT.of, fun l hl => f l hl⟩) (fun H1 hP => ?_)
    case' inr =>
      refine .inr ⟨_, rfl, t, rfl, ⟨_, SqL.of hS⟩, fun D hD => ?_⟩
      refine lc_list (xs := as.map V.ref) (fun j H' => ∃ bs, Same H H' ∧ H' D = some (.lst (bs.map V.ref)) ∧ bs.length = j ∧ RR H' bs (rows.take j)) ⟨[], same_upd0 hD, upd_same, rfl, True.intro⟩ (fun j H' _ hP => SqL.of (hP.choose_spec.1 _ _ hS)) (fun j x H' hx hP => by
        obtain ⟨a, r, rfl, k, f⟩ := step j x D H' hD hx hP
        exact ⟨rfl, _, rfl, a, r.map V.int, rfl, k.imp SqL.of SqT.of, fun l hl => f l hl⟩) (fun H1 hP => ?_)
    all_goals
      clear step
      obtain ⟨bs, s1, h1, h2, h3⟩ := hP
      rw [show rows.take ((as.map V.ref).length) = rows by rw [List.length_map, hA.len, List.take_length]] at h3
      have hbl := h3.len
      dsimp only [tCons, tLst, tNil]
      refine ⟨by decide, fun F hF => ⟨_, _, rfl, ?_⟩⟩
      have s2 : Same H (upd H1 F (.lst [])) := fun b o e => same_upd0 hF _ _ (s1 _ _ e)
      refine ⟨_, rfl, _, rfl, by omega, by omega, for_range (n := n) (fun i σ H' => ∃ L F ls' fs y4 y5 y6 y7 y8, σ = [some (.ref t), some (.int n), some (.ref L), some (.ref F), y4, y5, y6, y7, y8] ∧ Same H H' ∧ H L = none ∧ L ≠ F ∧ H' L = some (.lst (ls'.map V.ref)) ∧ H' F = some (.lst (fs.map V.ref)) ∧ RR H' ls' (eS less rows i).1 ∧ RR H' fs (eS less rows i).2) ⟨D, F, bs, [], none, none, none, none, none, rfl, s2, hD, (fun e => by rw [e, hF] at h1; cases h1), same_upd0 hF _ _ h1, upd_same, h3.same (same_upd0 hF), True.intro⟩ (fun i σ H' hi hP => ?_) (fun σ H' hP => ?_)⟩
      · obtain ⟨L, F, ls', fs, y4, y5, y6, y7, y8, rfl, sH, nL, nLF, eL, eF, rL, rF⟩ := hP
        rw [Int.zero_add]
        refine ⟨_, rfl, L, _, rfl, SqL.of eL, fun D2 hD2 => ?_⟩
        refine lc_enumL (xs := ls'.map V.ref) (fun j H3 => Same H' H3 ∧ H3 D2 = some (.lst ((((List.range j).filter fun k => co ((eS less rows i).1.getD k []) i != 0).map fun (k : Nat) => (k : Int)).map V.int))) ⟨same_upd0 hD2, upd_same⟩ (fun j H3 _ hP => SqL.of (hP.1 _ _ eL)) (fun j x A H3 hx hP hA => ?_) (fun H3 hP => ?_)
        · obtain ⟨s3, hL⟩ := hP
          rw [List.getElem?_map] at hx
          obtain ⟨a, ha, rfl⟩ := Option.map_eq_some_iff.mp hx
          obtain ⟨a', r, e1, e2, k⟩ := RX.get rL (by rw [← rL.len]; exact (List.getElem?_eq_some_iff.mp ha).1)
          rw [ha] at e1
          cases e1
          have eg : (eS less rows i).1.getD j [] = r := by rw [List.getD_eq_getElem?_getD, e2]; rfl
          have sA := same_upd0 (o := .tup [.int (j : Nat), .ref a]) hA
          have hri : i < r.length := by rw [(eS_len hw i).1 r (List.mem_of_getElem? e2)]; exact hi
          refine ⟨A, _, rfl, SqT.of upd_same, rfl, _, _, rfl, _, _, rfl, rfl, rfl, _, rfl, _, rfl, a, _, _, .int (co r i), rfl, rfl, SqL.of (sA _ _ (s3 _ _ k)), atI_nat (get_int hri), rfl, _, rfl, ?_⟩
          rw [List.range_succ, List.filter_append]
          by_cases d : co r i = 0
          · rw [decide_eq_true (show V.int (co r i) = V.int 0 by rw [d])]
            refine iteF ⟨fun b o e => sA _ _ (s3 _ _ e), ?_⟩
            rw [sA _ _ hL, List.filter_cons_of_neg (by rw [eg, d]; decide), List.filter_nil, List.append_nil]
          · rw [decide_eq_false fun z => d (V.int.inj z)]
            refine iteT ⟨_, rfl, _, sA _ _ hL, ?_, fun b o e => ?_, ?_⟩
            · rw [List.length_map, List.length_map]
              have hj : j < (eS less rows i).1.length := (List.getElem?_eq_some_iff.mp e2).1
              have h1 := List.length_filter_le (fun k => co ((eS less rows i).1.getD k []) i != 0) (List.range j)
              rw [List.length_range] at h1
              have := eS_cnt less rows i
              exact small1000 (by omega)
            · rw [upd_ne (ne_of_none e hD2)]
              exact sA _ _ (s3 _ _ e)
            · rw [upd_same, List.filter_cons_of_pos (by rw [eg]; simpa using d), List.filter_nil, List.map_append, List.map_append]
              rfl
        · obtain ⟨s3, hL⟩ := hP
          rw [List.length_map, rL.len] at hL
          have hL : H3 D2 = some (.lst ((hds (eS less rows i).1 i).map V.int)) := hL
          have s4 : Same H H3 := fun b o e => s3 _ _ (sH _ _ e)
          refine ⟨_, rfl, by decide, fun N hN => ne_lintsL (xs := hds (eS less rows i).1 i) (ys := []) (SqL.of (same_upd0 hN _ _ hL)) (SqL.of upd_same) ⟨_, rfl, ?_⟩⟩
          have s5 : Same H (upd H3 N (.lst [])) := fun b o e => same_upd0 hN _ _ (s4 _ _ e)
          have s6 : Same H' (upd H3 N (.lst [])) := fun b o e => same_upd0 hN _ _ (s3 _ _ e)
          cases eh : hix (eS less rows i).1 i with
          | none =>
            have e0 : hds (eS less rows i).1 i = [] := by
              have q := hds_hix (eS less rows i).1 i
              rw [eh] at q
              cases e1 : hds (eS less rows i).1 i with
              | nil => rfl
              | cons y ys =>
                rw [e1] at q
                cases q
            rw [e0]
            refine iteF ⟨L, F, ls', fs, y4, some (.int i), some (.ref D2), y7, y8, rfl, s5, nL, nLF, s6 _ _ eL, s6 _ _ eF, ?_, ?_⟩
            · show RR _ ls' (stp less i (eS less rows i)).1
              rw [stp_none eh]
              exact rL.same s6
            · show RR _ fs (stp less i (eS less rows i)).2
              rw [stp_none eh]
              exact rF.same s6
          | some h =>
            have q := hds_hix (eS less rows i).1 i
            rw [eh] at q
            have en : hds (eS less rows i).1 i ≠ [] := fun z => by
              rw [z] at q
              cases q
            rw [decide_eq_false en]
            have hL2 := same_upd0 (o := .lst []) hN _ _ hL
            generalize upd H3 N (.lst []) = H4 at s5 s6 hL2 ⊢
            refine iteT ?_
            obtain ⟨hh, _, _⟩ := List.findIdx?_eq_some_iff_getElem.mp eh
            obtain ⟨ad, r, g1, g2, g3⟩ := RX.get rL hh
            have eg : (eS less rows i).1.getD h [] = r := by rw [List.getD_eq_getElem?_getD, g2]; rfl
            have hll : h < (ls'.map V.ref).length := by
              rw [List.length_map]
              exact (List.getElem?_eq_some_iff.mp g1).1
            have hsm : (ls'.map V.ref).length ≤ 100 := by have := eS_cnt less rows i; rw [List.length_map, rL.len]; omega
            have hsi : seqIndex? (h : Int) (ls'.map V.ref).length = some h := by
              unfold seqIndex?
              have n1 : ¬ ((h : Int) < 0) := by omega
              simp only [if_neg n1]
              rw [if_pos (by simp; simpa using hll)]
              rfl
            have q0 : ((hds (eS less rows i).1 i).map V.int)[0]? = some (V.int (h : Nat)) := by
              rw [List.getElem?_map, q]
              rfl
            refine ⟨_, rfl, .inl ⟨rfl, _, SqL.of (s6 _ _ eL)⟩, _, rfl, D2, _, 0, .int (h : Nat), rfl, rfl, SqL.of hL2, atI_nat (j := 0) q0, L, _, (h : Nat), h, .ref ad, rfl, rfl, s6 _ _ eL, by omega, by omega, hsi, by rw [List.getElem?_map, g1]; rfl, ?_⟩
            have s7 : Same H (upd H4 L (.lst ((ls'.map V.ref).eraseIdx h))) := fun b o e => by
              rw [upd_ne (ne_of_none e nL)]
              exact s5 _ _ e
            have eL7 : (upd H4 L (.lst ((ls'.map V.ref).eraseIdx h))) L = some (.lst ((ls'.eraseIdx h).map V.ref)) := by
              rw [upd_same]
              rw [erase_map]
            have eF7 : (upd H4 L (.lst ((ls'.map V.ref).eraseIdx h))) F = some (.lst (fs.map V.ref)) := by
              rw [upd_ne (Ne.symm nLF)]
              exact s6 _ _ eF
            have hls : ls' ≠ [] := fun z => by
              rw [z] at hll
              exact absurd hll (Nat.not_lt_zero _)
            have rL7 : RR (upd H4 L (.lst ((ls'.map V.ref).eraseIdx h))) (ls'.eraseIdx h) ((eS less rows i).1.eraseIdx h) := RX.erase h (RR.upd (rL.same s6) (s6 _ _ eL) fun _ => hls)
            have rF7 : RR (upd H4 L (.lst ((ls'.map V.ref).eraseIdx h))) fs (eS less rows i).2 := RR.upd (rF.same s6) (s6 _ _ eL) fun _ => hls
            have g7 : (upd H4 L (.lst ((ls'.map V.ref).eraseIdx h))) ad = some (ls r) := by
              rw [upd_ne (row_ne (s6 _ _ g3) (s6 _ _ eL) hls)]
              exact s6 _ _ g3
            generalize upd H4 L (.lst ((ls'.map V.ref).eraseIdx h)) = H7 at s7 eL7 eF7 rL7 rF7 g7 ⊢
            have hok := ok.l i hi h eh
            rw [eg] at hok
            obtain ⟨n1, n2⟩ := eS_len hw i
            have hrl : r.length = n := n1 r (List.mem_of_getElem? g2)
            have hFl : (eS less rows i).2.length ≤ 100 := by have := eS_cnt less rows i; omega
            refine ⟨_, rfl, F, rfl, ⟨_, SqL.of eF7⟩, fun N2 hN2 => lc_rows (f := fun x => less x r i) hN2 eF7 rF7 hFl (fun _ => rfl) (fun ad2 r2 H2 Q2 hr2 s8 e8 kq => ⟨_, rfl, _, rfl, _, rfl, ad2, ad, r2, r, i, rfl, e8, s8 _ _ g7, by rw [n2 r2 hr2, hrl], by rw [n2 r2 hr2]; exact hn, by rw [n2 r2 hr2]; exact hi, fun _ => hok r2 (.inr hr2), kq⟩) (fun r2 hr2 z => ?_) (fun bs8 H8 s8 e8 r8 => ?_)⟩
            · have := less_len r2 r i
              rw [z, n2 r2 hr2] at this
              have : 0 = n := this
              omega
            · refine ⟨N2, _, rfl, .inr (SqL.of e8), _, rfl, ?_, fun F2 hF2 => ?_⟩
              · rw [List.length_append, List.length_map, r8.len, List.length_map]
                exact Nat.le_trans (Nat.add_le_add_right hFl 1) (by decide)
              have s9 : Same H7 (upd H8 F2 (.lst (bs8.map V.ref ++ [.ref ad]))) := fun b o e => same_upd0 hF2 _ _ (s8 _ _ e)
              have eF9 : (upd H8 F2 (.lst (bs8.map V.ref ++ [.ref ad]))) F2 = some (.lst ((bs8 ++ [ad]).map V.ref)) := by
                rw [upd_same, List.map_append]
                rfl
              have r9 : RR (upd H8 F2 (.lst (bs8.map V.ref ++ [.ref ad]))) (bs8 ++ [ad]) ((eS less rows i).2.map (fun x => less x r i) ++ [r]) := RX.snoc (r8.same (same_upd0 hF2)) (s9 _ _ g7)
              generalize upd H8 F2 (.lst (bs8.map V.ref ++ [.ref ad])) = H9 at s9 eF9 r9 ⊢
              have hLl : ((eS less rows i).1.eraseIdx h).length ≤ 100 := by have := eS_cnt less rows i; rw [List.length_eraseIdx_of_lt hh]; omega
              refine ⟨_, rfl, L, rfl, ⟨_, SqL.of (s9 _ _ eL7)⟩, fun L2 hL2 => lc_rows (f := fun x => less x r i) hL2 (s9 _ _ eL7) (rL7.same s9) hLl (fun _ => rfl) (fun ad2 r2 H2 Q2 hr2 s8 e8 kq => ⟨_, rfl, _, rfl, _, rfl, ad2, ad, r2, r, i, rfl, e8, s8 _ _ (s9 _ _ g7), by rw [n1 r2 (List.mem_of_mem_eraseIdx hr2), hrl], by rw [n1 r2 (List.mem_of_mem_eraseIdx hr2)]; exact hn, by rw [n1 r2 (List.mem_of_mem_eraseIdx hr2)]; exact hi, fun _ => hok r2 (.inl hr2), kq⟩) (fun r2 hr2 z => ?_) (fun bsA HA sA eA rA => ?_)⟩
              · have := less_len r2 r i
                rw [z, n1 r2 (List.mem_of_mem_eraseIdx hr2)] at this
                have : 0 = n := this
                omega
              · have nL2 : H L2 = none := by
                  cases e : H L2 with
                  | none => rfl
                  | some o =>
                    rw [s9 _ _ (s7 _ _ e)] at hL2
                    cases hL2
                refine ⟨L2, F2, bsA, bs8 ++ [ad], y4, some (.int i), some (.ref D2), y7, some (.ref ad), rfl, fun b o e => sA _ _ (s9 _ _ (s7 _ _ e)), nL2, fun e => ?_, eA, sA _ _ eF9, ?_, ?_⟩
                · rw [e, eF9] at hL2
                  cases hL2
                · show RR HA bsA (stp less i (eS less rows i)).1
                  rw [stp_some eh, eg]
                  exact rA
                · show RR HA (bs8 ++ [ad]) (stp less i (eS less rows i)).2
                  rw [stp_some eh, eg]
                  exact r9.same sA
      · obtain ⟨L, F, ls', fs, y4, y5, y6, y7, y8, rfl, sH, nL, nLF, eL, eF, rL, rF⟩ := hP
        have hFl : (eS less rows n).2.length ≤ 100 := by have := eS_cnt less rows n; omega
        have n2 := (eS_len hw n).2
        refine ⟨_, rfl, F, rfl, ⟨_, SqL.of eF⟩, fun D2 hD2 => lc_rowsS (Ps := Ps) (f := primE) (hG.same sH) hD2 eF rF hFl (fun _ => rfl) (fun ad r H2 Q2 hr2 s8 t8 e8 kq => ⟨_, rfl, ad, r, rfl, e8, by rw [n2 r hr2]; exact hn, ok.d r hr2, t8, kq⟩) (fun r hr2 z => ?_) (fun bs8 H8 s8 t8 e8 r8 => q D2 bs8 H8 ((Sts.of sH).trans s8) t8 e8 r8)⟩
        have e0 := primE_len r
        rw [z, n2 r hr2] at e0
        have e0 : n = 0 := e0.symm
        subst e0
        cases hr2
end
theorem lless_len (row head : List Int) (p : Nat) : (lless row head p).length = row.length := by
  unfold lless dv lf
  split
  · rw [List.length_map, tb_len]
  · rw [tb_len]
def ld (r : List Int) : Nat := r.findIdx (· != 0)
section
variable {P : Program} {w : World} {K : PySem.W.Frag} {mg : Str → Option Value} {base : Heap} {Ps : List Addr}
end
end K83

set_option Elab.async false
set_option linter.all false
/-! linear algebra over the integers, up to factors: spans, independence, numbers of rows -/
namespace LA
/-- sums -/
def S : Nat → (Nat → Int) → Int
  | 0, _ => 0
  | n + 1, f => S n f + f n
theorem S_congr {f g : Nat → Int} : ∀ {n : Nat}, (∀ i, i < n → f i = g i) → S n f = S n g
  | 0, _ => rfl
  | n + 1, h => by
    show S n f + f n = S n g + g n
    rw [S_congr fun i hi => h i (Nat.lt_succ_of_lt hi), h n (Nat.lt_succ_self n)]
theorem S_zero {f : Nat → Int} {n : Nat} (h : ∀ i, i < n → f i = 0) : S n f = 0 := by
  induction n with
  | zero => rfl
  | succ n ih =>
    show S n f + f n = 0
    rw [ih fun i hi => h i (Nat.lt_succ_of_lt hi), h n (Nat.lt_succ_self n)]
    rfl
theorem S_add (f g : Nat → Int) : ∀ n, S n (fun i => f i + g i) = S n f + S n g
  | 0 => rfl
  | n + 1 => by
    show S n _ + (f n + g n) = (S n f + f n) + (S n g + g n)
    rw [S_add f g n]
    omega
theorem S_mul (c : Int) (f : Nat → Int) : ∀ n, S n (fun i => c * f i) = c * S n f
  | 0 => (Int.mul_zero c).symm
  | n + 1 => by
    show S n _ + c * f n = c * (S n f + f n)
    rw [S_mul c f n, Int.mul_add]
theorem S_mulr (c : Int) (f : Nat → Int) (n : Nat) : S n (fun i => f i * c) = S n f * c := by
  rw [Int.mul_comm (S n f) c, ← S_mul c f n]
  exact S_congr fun i _ => Int.mul_comm _ _
theorem S_swap (f : Nat → Nat → Int) (m : Nat) : ∀ n, S n (fun i => S m (fun k => f i k)) = S m (fun k => S n (fun i => f i k))
  | 0 => (S_zero fun i _ => rfl).symm
  | n + 1 => by
    show S n _ + S m _ = _
    rw [S_swap f m n, ← S_add]
    rfl
/-- one alone -/
theorem S_one {f : Nat → Int} {n p : Nat} (hp : p < n) (h : ∀ i, i < n → i ≠ p → f i = 0) : S n f = f p := by
  induction n with
  | zero => exact absurd hp (Nat.not_lt_zero _)
  | succ n ih =>
    show S n f + f n = f p
    by_cases c : p = n
    · subst c
      rw [S_zero fun i hi => h i (Nat.lt_succ_of_lt hi) (Nat.ne_of_lt hi), Int.zero_add]
    · rw [ih (by omega) fun i hi hne => h i (Nat.lt_succ_of_lt hi) hne, h n (Nat.lt_succ_self n) (Ne.symm c), Int.add_zero]
/-- all but one: i, or i + 1 from p on -/
def sk (p i : Nat) : Nat := if i < p then i else i + 1
theorem S_skip (f : Nat → Int) (p : Nat) : ∀ n, p ≤ n → S (n + 1) f = f p + S n fun i => f (sk p i)
  | 0, h => by
    have : p = 0 := by omega
    subst this
    show 0 + f 0 = f 0 + 0
    omega
  | n + 1, h => by
    by_cases c : p = n + 1
    · subst c
      show S (n + 1) f + f (n + 1) = _
      rw [Int.add_comm]
      congr 1
      exact S_congr fun i hi => by
        unfold sk
        rw [if_pos hi]
    · show S (n + 1) f + f (n + 1) = f p + (S n (fun i => f (sk p i)) + f (sk p n))
      rw [S_skip f p n (by omega), show sk p n = n + 1 by unfold sk; rw [if_neg (by omega)]]
      omega
/-- more vectors than columns: they hang on one another -/
theorem dep : ∀ (m n : Nat) (x : Nat → Nat → Int), m < n → ∃ y : Nat → Int, (∃ i, i < n ∧ y i ≠ 0) ∧ ∀ j, j < m → S n (fun i => y i * x i j) = 0
  | 0, n, x, h => ⟨fun _ => 1, ⟨0, h, by decide⟩, fun j hj => absurd hj (Nat.not_lt_zero _)⟩
  | m + 1, n, x, h => by
    by_cases c : ∀ i, i < n → x i m = 0
    · obtain ⟨y, hy, he⟩ := dep m n x (by omega)
      refine ⟨y, hy, fun j hj => ?_⟩
      by_cases e : j = m
      · subst e
        exact S_zero fun i hi => by rw [c i hi, Int.mul_zero]
      · exact he j (by omega)
    · obtain ⟨p, hp⟩ := Classical.not_forall.mp c
      obtain ⟨hpn, hp0⟩ : p < n ∧ x p m ≠ 0 := ⟨Classical.byContradiction fun z => hp fun a => absurd a z, fun z => hp fun _ => z⟩
      obtain ⟨n', rfl⟩ : ∃ n', n = n' + 1 := ⟨n - 1, by omega⟩
      obtain ⟨y, ⟨i0, hi0, hy0⟩, he⟩ := dep m n' (fun i j => x p m * x (sk p i) j - x (sk p i) m * x p j) (by omega)
      have back : ∀ i, (if sk p i < p then sk p i else sk p i - 1) = i ∧ sk p i ≠ p := fun i => by
        unfold sk
        by_cases z : i < p
        · rw [if_pos z, if_pos z]
          exact ⟨rfl, by omega⟩
        · rw [if_neg z, if_neg (by omega)]
          exact ⟨by omega, by omega⟩
      let Y : Nat → Int := fun k => if k = p then - S n' (fun i => y i * x (sk p i) m) else x p m * y (if k < p then k else k - 1)
      have Yp : Y p = - S n' (fun i => y i * x (sk p i) m) := if_pos rfl
      have Ys : ∀ i, Y (sk p i) = x p m * y i := fun i => by
        show (if sk p i = p then _ else _) = _
        rw [if_neg (back i).2, (back i).1]
      refine ⟨Y, ⟨sk p i0, by unfold sk; split <;> omega, by rw [Ys]; exact Int.mul_ne_zero hp0 hy0⟩, fun j hj => ?_⟩
      have e0 : S n' (fun i => Y (sk p i) * x (sk p i) j) = S n' (fun i => x p m * y i * x (sk p i) j) := S_congr fun i _ => by rw [Ys i]
      rw [S_skip _ p n' (by omega), e0]
      show Y p * x p j + _ = 0
      rw [Yp]
      have e1 : S n' (fun i => x p m * y i * x (sk p i) j) = S n' (fun i => y i * (x p m * x (sk p i) j - x (sk p i) m * x p j)) + S n' (fun i => y i * x (sk p i) m) * x p j := by
        rw [← S_mulr, ← S_add]
        exact S_congr fun i _ => by grind
      rw [e1]
      by_cases e : j = m
      · subst e
        rw [S_zero (f := fun i => y i * (x p j * x (sk p i) j - x (sk p i) j * x p j)) fun i _ => by rw [Int.mul_comm (x p j), Int.sub_self, Int.mul_zero]]
        grind
      · rw [he j (by omega)]
        grind
/-- v, times a number other than 0, is a sum of multiples of m rows -/
def Sp (w m : Nat) (B : Nat → Nat → Int) (v : Nat → Int) : Prop := ∃ c : Int, c ≠ 0 ∧ ∃ a : Nat → Int, ∀ j, j < w → c * v j = S m (fun k => a k * B k j)
def Ind (w n : Nat) (A : Nat → Nat → Int) : Prop := ∀ a : Nat → Int, (∀ j, j < w → S n (fun i => a i * A i j) = 0) → ∀ i, i < n → a i = 0
/-- independent rows are not more than rows whose span holds them -/
theorem steinitz {w n m : Nat} {A B : Nat → Nat → Int} (hI : Ind w n A) (h : ∀ i, i < n → Sp w m B (A i)) : n ≤ m := by
  by_cases c : n ≤ m
  · exact c
  · exfalso
    have h' : ∀ i, ∃ c : Int, i < n → c ≠ 0 ∧ ∃ a : Nat → Int, ∀ j, j < w → c * A i j = S m (fun k => a k * B k j) := fun i => by
      by_cases hi : i < n
      · obtain ⟨c, hc, a, ha⟩ := h i hi
        exact ⟨c, fun _ => ⟨hc, a, ha⟩⟩
      · exact ⟨0, fun z => absurd z hi⟩
    obtain ⟨C, hC⟩ := Classical.axiomOfChoice h'
    have h2 : ∀ i, ∃ a : Nat → Int, i < n → ∀ j, j < w → C i * A i j = S m (fun k => a k * B k j) := fun i => by
      by_cases hi : i < n
      · obtain ⟨_, a, ha⟩ := hC i hi
        exact ⟨a, fun _ => ha⟩
      · exact ⟨fun _ => 0, fun z => absurd z hi⟩
    obtain ⟨a, ha⟩ := Classical.axiomOfChoice h2
    obtain ⟨y, ⟨i0, hi0, hy⟩, he⟩ := dep m n a (by omega)
    have z := hI (fun i => y i * C i) (fun j hj => by
      have e1 : S n (fun i => y i * C i * A i j) = S n (fun i => S m (fun k => y i * a i k * B k j)) := S_congr fun i hi => by
        rw [Int.mul_assoc, ha i hi j hj, ← S_mul]
        exact S_congr fun k _ => by rw [Int.mul_assoc]
      rw [e1, S_swap]
      exact S_zero fun k hk => by rw [S_mulr, he k hk, Int.zero_mul]) i0 hi0
    exact Int.mul_ne_zero hy (hC i0 hi0).1 z
theorem Sp.own {w m : Nat} {B : Nat → Nat → Int} {k : Nat} (hk : k < m) : Sp w m B (B k) := ⟨1, by decide, fun i => if i = k then 1 else 0, fun j _ => by
  rw [Int.one_mul, S_one hk fun i _ hne => by
    show (if i = k then (1 : Int) else 0) * B i j = 0
    rw [if_neg hne, Int.zero_mul]]
  show B k j = (if k = k then (1 : Int) else 0) * B k j
  rw [if_pos rfl, Int.one_mul]⟩
theorem Sp.zero {w m : Nat} {B : Nat → Nat → Int} {v : Nat → Int} (h : ∀ j, j < w → v j = 0) : Sp w m B v := ⟨1, by decide, fun _ => 0, fun j hj => by
  rw [h j hj, S_zero fun i _ => Int.zero_mul _]
  rfl⟩
theorem Sp.lin {w m : Nat} {B : Nat → Nat → Int} {u v : Nat → Int} (α β : Int) (h : Sp w m B u) (g : Sp w m B v) : Sp w m B fun j => α * u j + β * v j := by
  obtain ⟨c, hc, a, ha⟩ := h
  obtain ⟨d, hd, b, hb⟩ := g
  refine ⟨c * d, Int.mul_ne_zero hc hd, fun k => α * d * a k + β * c * b k, fun j hj => ?_⟩
  have e : S m (fun k => (α * d * a k + β * c * b k) * B k j) = α * d * S m (fun k => a k * B k j) + β * c * S m (fun k => b k * B k j) := by
    rw [← S_mul, ← S_mul, ← S_add]
    exact S_congr fun k _ => by grind
  rw [e, ← ha j hj, ← hb j hj]
  grind
theorem Sp.div {w m : Nat} {B : Nat → Nat → Int} {u v : Nat → Int} {c : Int} (hc : c ≠ 0) (h : Sp w m B u) (e : ∀ j, j < w → c * v j = u j) : Sp w m B v := by
  obtain ⟨d, hd, a, ha⟩ := h
  exact ⟨d * c, Int.mul_ne_zero hd hc, a, fun j hj => by rw [Int.mul_assoc, e j hj]; exact ha j hj⟩
theorem Sp.sum {w m' : Nat} {B B' : Nat → Nat → Int} (a : Nat → Int) : ∀ {m : Nat}, (∀ k, k < m → Sp w m' B' (B k)) → Sp w m' B' fun j => S m (fun k => a k * B k j)
  | 0, _ => .zero fun j _ => rfl
  | m + 1, h => by
    have q := Sp.lin 1 (a m) (Sp.sum a fun k hk => h k (Nat.lt_succ_of_lt hk)) (h m (Nat.lt_succ_self m))
    exact .div (c := 1) (by decide) q fun j _ => by rw [Int.one_mul, Int.one_mul]; rfl
/-- what is in the span of rows that are in a span -/
theorem Sp.trans {w m m' : Nat} {B B' : Nat → Nat → Int} {v : Nat → Int} (h : Sp w m B v) (g : ∀ k, k < m → Sp w m' B' (B k)) : Sp w m' B' v := by
  obtain ⟨c, hc, a, ha⟩ := h
  exact .div hc (Sp.sum a g) ha
/-- one factor for all -/
theorem common {w r : Nat} {E A : Nat → Nat → Int} : ∀ {n : Nat}, (∀ i, i < n → Sp w r E (A i)) → ∃ c : Int, c ≠ 0 ∧ ∃ a : Nat → Nat → Int, ∀ i, i < n → ∀ j, j < w → c * A i j = S r (fun k => a i k * E k j)
  | 0, _ => ⟨1, by decide, fun _ _ => 0, fun i hi => absurd hi (Nat.not_lt_zero _)⟩
  | n + 1, h => by
    obtain ⟨c, hc, a, ha⟩ := common (n := n) fun i hi => h i (Nat.lt_succ_of_lt hi)
    obtain ⟨d, hd, b, hb⟩ := h n (Nat.lt_succ_self n)
    refine ⟨c * d, Int.mul_ne_zero hc hd, fun i k => if i = n then c * b k else d * a i k, fun i hi j hj => ?_⟩
    by_cases e : i = n
    · subst e
      rw [S_congr (g := fun k => c * (b k * E k j)) fun k _ => by
        show (if i = i then c * b k else d * a i k) * E k j = _
        rw [if_pos rfl, Int.mul_assoc], S_mul, ← hb j hj, Int.mul_assoc]
    · rw [S_congr (g := fun k => d * (a i k * E k j)) fun k _ => by
        show (if i = n then c * b k else d * a i k) * E k j = _
        rw [if_neg e, Int.mul_assoc], S_mul, ← ha i (by omega) j hj, Int.mul_comm c d, Int.mul_assoc]
/-- rows with leads: E i is the only one that is not 0 at its lead -/
structure Ech (w r : Nat) (E : Nat → Nat → Int) (lead : Nat → Nat) : Prop where
  lt : ∀ i, i < r → lead i < w
  nz : ∀ i, i < r → E i (lead i) ≠ 0
  z : ∀ i k, i < r → k < r → k ≠ i → E k (lead i) = 0
theorem Ech.ind {w r : Nat} {E : Nat → Nat → Int} {lead : Nat → Nat} (h : Ech w r E lead) : Ind w r E := fun a ha i hi => by
  have e := ha (lead i) (h.lt i hi)
  rw [S_one hi fun k hk hne => by rw [h.z i k hi hk hne, Int.mul_zero]] at e
  rcases Int.mul_eq_zero.mp e with z | z
  · exact z
  · exact absurd z (h.nz i hi)
/-- the rows of A have the base E -/
structure Base (w n : Nat) (A : Nat → Nat → Int) (r : Nat) (E : Nat → Nat → Int) : Prop where
  ind : Ind w r E
  of : ∀ k, k < r → Sp w n A (E k)
  to : ∀ i, i < n → Sp w r E (A i)
theorem Base.same {w n r r' : Nat} {A E E' : Nat → Nat → Int} (h : Base w n A r E) (g : Base w n A r' E') : r = r' :=
  Nat.le_antisymm (steinitz h.ind fun k hk => (h.of k hk).trans g.to) (steinitz g.ind fun k hk => (g.of k hk).trans h.to)
/-- columns have no greater number -/
theorem Base.col {w n r r' : Nat} {A E E' : Nat → Nat → Int} (h : Base w n A r E) (g : Base n w (fun j i => A i j) r' E') : r' ≤ r := by
  obtain ⟨c, hc, a, ha⟩ := common h.to
  refine steinitz g.ind fun k hk => (g.of k hk).trans (B' := fun k i => a i k) fun j hj => ⟨c, hc, fun k => E k j, fun i hi => ?_⟩
  rw [ha i hi j hj]
  exact S_congr fun k _ => Int.mul_comm _ _
theorem Base.turned {w n r r' : Nat} {A E E' : Nat → Nat → Int} (h : Base w n A r E) (g : Base n w (fun j i => A i j) r' E') : r = r' :=
  Nat.le_antisymm (g.col h) (h.col g)
/-- rows that are sums of multiples of others -/
theorem Base.le {w n m r r' : Nat} {A B E E' : Nat → Nat → Int} (h : Base w n A r E) (g : Base w m B r' E') (s : ∀ i, i < n → Sp w m B (A i)) : r ≤ r' :=
  steinitz h.ind fun k hk => ((h.of k hk).trans s).trans g.to
theorem Base.ind_all {w n r : Nat} {A E : Nat → Nat → Int} (h : Base w n A r E) (hA : Ind w n A) : r = n :=
  Nat.le_antisymm (steinitz h.ind h.of) (steinitz hA h.to)
end LA

set_option Elab.async false
set_option linter.all false
/-! small solutions: more small rows than columns hang on one another by small factors -/
namespace LA
theorem pigeon : ∀ (N : Nat) (f : Nat → Nat), (∀ i, i < N + 1 → f i < N) → ∃ i j, i < j ∧ j < N + 1 ∧ f i = f j
  | 0, f, h => absurd (h 0 (Nat.lt_succ_self 0)) (Nat.not_lt_zero _)
  | N + 1, f, h => by
    by_cases c : ∃ i, i < N + 1 ∧ f i = f (N + 1)
    · obtain ⟨i, hi, e⟩ := c
      exact ⟨i, N + 1, hi, Nat.lt_succ_self _, e⟩
    · have ne : ∀ i, i < N + 1 → f i ≠ f (N + 1) := fun i hi e => c ⟨i, hi, e⟩
      have hl := h (N + 1) (Nat.lt_succ_self _)
      obtain ⟨i, j, hij, hj, e⟩ := pigeon N (fun i => if f i < f (N + 1) then f i else f i - 1) (fun i hi => by
        have h1 := ne i hi
        have h2 := h i (by omega)
        show (if f i < f (N + 1) then f i else f i - 1) < N
        split <;> omega)
      refine ⟨i, j, hij, by omega, ?_⟩
      have h1 := ne i (by omega)
      have h2 := ne j hj
      have e : (if f i < f (N + 1) then f i else f i - 1) = (if f j < f (N + 1) then f j else f j - 1) := e
      split at e <;> split at e <;> omega
/-- digits put together -/
def enc (b : Nat) : Nat → (Nat → Nat) → Nat
  | 0, _ => 0
  | n + 1, g => enc b n g + b ^ n * g n
theorem enc_lt {b : Nat} : ∀ {n : Nat} {g : Nat → Nat}, (∀ i, i < n → g i < b) → enc b n g < b ^ n
  | 0, g, _ => Nat.zero_lt_one
  | n + 1, g, h => by
    have h1 := enc_lt (n := n) fun i hi => h i (Nat.lt_succ_of_lt hi)
    have h2 := h n (Nat.lt_succ_self n)
    show enc b n g + b ^ n * g n < b ^ (n + 1)
    have h3 : b ^ n * (g n + 1) ≤ b ^ n * b := Nat.mul_le_mul_left _ h2
    have h4 : b ^ (n + 1) = b ^ n * b := rfl
    rw [Nat.mul_add, Nat.mul_one] at h3
    omega
theorem enc_inj {b : Nat} : ∀ {n : Nat} {f g : Nat → Nat}, (∀ i, i < n → f i < b) → (∀ i, i < n → g i < b) → enc b n f = enc b n g → ∀ i, i < n → f i = g i
  | 0, _, _, _, _, _ => fun i hi => absurd hi (Nat.not_lt_zero _)
  | n + 1, f, g, hf, hg, e => by
    have h1 := enc_lt (n := n) fun i hi => hf i (Nat.lt_succ_of_lt hi)
    have h2 := enc_lt (n := n) fun i hi => hg i (Nat.lt_succ_of_lt hi)
    have e : enc b n f + b ^ n * f n = enc b n g + b ^ n * g n := e
    have p : 0 < b ^ n := by omega
    have e1 : enc b n f = enc b n g := by
      have q : (enc b n f + b ^ n * f n) % b ^ n = (enc b n g + b ^ n * g n) % b ^ n := by rw [e]
      rwa [Nat.add_mul_mod_self_left, Nat.add_mul_mod_self_left, Nat.mod_eq_of_lt h1, Nat.mod_eq_of_lt h2] at q
    have e2 : f n = g n := Nat.eq_of_mul_eq_mul_left p (by omega)
    intro i hi
    by_cases c : i = n
    · rw [c]; exact e2
    · exact enc_inj (fun i hi => hf i (Nat.lt_succ_of_lt hi)) (fun i hi => hg i (Nat.lt_succ_of_lt hi)) e1 i (by omega)
theorem enc_dig (b t : Nat) : ∀ n, enc b n (fun i => t / b ^ i % b) = t % b ^ n
  | 0 => by
    show 0 = t % 1
    rw [Nat.mod_one]
  | n + 1 => by
    show enc b n _ + b ^ n * (t / b ^ n % b) = t % (b ^ n * b)
    rw [enc_dig b t n, Nat.mod_mul]
theorem S_abs {f : Nat → Int} {n : Nat} {B : Nat} (h : ∀ i, i < n → (f i).natAbs ≤ B) : (S n f).natAbs ≤ n * B := by
  induction n with
  | zero => exact Nat.zero_le _
  | succ n ih =>
    have h1 := ih fun i hi => h i (Nat.lt_succ_of_lt hi)
    have h2 := h n (Nat.lt_succ_self n)
    show (S n f + f n).natAbs ≤ (n + 1) * B
    have h3 := Int.natAbs_add_le (S n f) (f n)
    rw [Nat.succ_mul]
    omega
theorem siegel (m M : Nat) (x : Nat → Nat → Int) (hx : ∀ i, i < m + 1 → ∀ j, j < m → (x i j).natAbs ≤ M) :
    ∃ y : Nat → Int, (∃ i, i < m + 1 ∧ y i ≠ 0) ∧ (∀ i, (y i).natAbs ≤ (2 * (m + 1) * M + 1) ^ m) ∧ ∀ j, j < m → S (m + 1) (fun i => y i * x i j) = 0 := by
  generalize hY : (2 * (m + 1) * M + 1) ^ m = Y
  let d : Nat → Nat → Nat := fun t i => t / (Y + 1) ^ i % (Y + 1)
  have dl : ∀ t i, d t i < Y + 1 := fun t i => Nat.mod_lt _ (Nat.succ_pos _)
  let s : Nat → Nat → Int := fun t j => S (m + 1) fun i => (d t i : Int) * x i j
  have sb : ∀ t j, j < m → (s t j).natAbs ≤ (m + 1) * (Y * M) := fun t j hj => S_abs fun i hi => by
    rw [Int.natAbs_mul, Int.natAbs_natCast]
    exact Nat.mul_le_mul (Nat.le_of_lt_succ (dl t i)) (hx i hi j hj)
  generalize hC : (m + 1) * (Y * M) = C at sb
  let g : Nat → Nat → Nat := fun t j => (s t j + C).toNat
  have gl : ∀ t j, j < m → g t j < 2 * C + 1 := fun t j hj => by
    have := sb t j hj
    show (s t j + C).toNat < _
    omega
  have hW : (2 * C + 1) ^ m < (Y + 1) ^ (m + 1) := by
    have h1 : 2 * C + 1 ≤ (2 * (m + 1) * M + 1) * (Y + 1) := by
      have : 2 * C = 2 * (m + 1) * M * Y := by
        rw [← hC, Nat.mul_comm Y M, ← Nat.mul_assoc, ← Nat.mul_assoc]
      rw [this]
      generalize 2 * (m + 1) * M = q
      rw [Nat.add_mul, Nat.mul_add, Nat.one_mul, Nat.mul_one]
      omega
    have h2 := Nat.pow_le_pow_left h1 m
    rw [Nat.mul_pow, hY] at h2
    have h3 : 0 < (Y + 1) ^ m := Nat.pow_pos (Nat.succ_pos _)
    have h4 : (Y + 1) ^ (m + 1) = (Y + 1) ^ m * (Y + 1) := rfl
    rw [h4, Nat.mul_add, Nat.mul_one, Nat.mul_comm _ Y]
    omega
  obtain ⟨t, t', ht, ht', e⟩ := pigeon ((2 * C + 1) ^ m) (fun t => enc (2 * C + 1) m (g t)) fun t _ => enc_lt (gl t)
  have eg := enc_inj (gl t) (gl t') e
  refine ⟨fun i => (d t i : Int) - d t' i, ?_, fun i => ?_, fun j hj => ?_⟩
  · refine Classical.byContradiction fun c => ?_
    have same : ∀ i, i < m + 1 → d t i = d t' i := fun i hi => Classical.byContradiction fun z => c ⟨i, hi, by
      show (d t i : Int) - d t' i ≠ 0
      omega⟩
    have e1 := enc_dig (Y + 1) t (m + 1)
    have e2 := enc_dig (Y + 1) t' (m + 1)
    rw [Nat.mod_eq_of_lt (by omega)] at e1 e2
    have e3 : ∀ n, n ≤ m + 1 → enc (Y + 1) n (d t) = enc (Y + 1) n (d t') := fun n => by
      induction n with
      | zero => exact fun _ => rfl
      | succ n ih =>
        intro hn
        show enc (Y + 1) n (d t) + _ * d t n = enc (Y + 1) n (d t') + _ * d t' n
        rw [ih (by omega), same n (by omega)]
    have := e3 (m + 1) (Nat.le_refl _)
    have e1 : enc (Y + 1) (m + 1) (d t) = t := e1
    have e2 : enc (Y + 1) (m + 1) (d t') = t' := e2
    omega
  · have h1 := dl t i
    have h2 := dl t' i
    show ((d t i : Int) - d t' i).natAbs ≤ Y
    omega
  · have e1 : s t j = s t' j := by
      have q := eg j hj
      have h1 := sb t j hj
      have h2 := sb t' j hj
      have q : (s t j + C).toNat = (s t' j + C).toNat := q
      omega
    have e2 : S (m + 1) (fun i => ((d t i : Int) - d t' i) * x i j) = s t j + (-1) * s t' j := by
      show _ = S (m + 1) (fun i => (d t i : Int) * x i j) + (-1) * S (m + 1) (fun i => (d t' i : Int) * x i j)
      rw [← S_mul, ← S_add]
      exact S_congr fun i _ => by grind
    rw [e2, e1]
    omega
end LA

set_option Elab.async false
set_option linter.all false
set_option maxRecDepth 100000
set_option maxHeartbeats 4000000
set_option exponentiation.threshold 10000
namespace K83
open PySem PySem.Spec PyProof.Rows L2 StX RZ MyR SlX OwnR OwnF EnumT GxR GenNx FDivQ LA
theorem gl_iff {d : Nat} : ∀ (l : List Int) (a : Nat), d ∣ l.foldl (fun a x => Nat.gcd a x.natAbs) a ↔ d ∣ a ∧ ∀ x ∈ l, d ∣ x.natAbs
  | [], a => ⟨fun h => ⟨h, fun x hx => absurd hx List.not_mem_nil⟩, fun h => h.1⟩
  | y :: l, a => by
    rw [List.foldl_cons, gl_iff l]
    constructor
    · rintro ⟨h1, h2⟩
      refine ⟨Nat.dvd_trans h1 (Nat.gcd_dvd_left ..), fun x hx => ?_⟩
      rcases List.mem_cons.mp hx with rfl | hx
      · exact Nat.dvd_trans h1 (Nat.gcd_dvd_right ..)
      · exact h2 x hx
    · rintro ⟨h1, h2⟩
      exact ⟨Nat.dvd_gcd h1 (h2 y List.mem_cons_self), fun x hx => h2 x (List.mem_cons_of_mem _ hx)⟩
theorem gl_dvd {l : List Int} {x : Int} (h : x ∈ l) : gl l ∣ x.natAbs := ((gl_iff l 0).mp (Nat.dvd_refl _)).2 x h
theorem gl_dvdI {l : List Int} {x : Int} (h : x ∈ l) : (gl l : Int) ∣ x := Int.ofNat_dvd_left.mpr (gl_dvd h)
theorem dvd_gl {l : List Int} {d : Nat} (h : ∀ x ∈ l, d ∣ x.natAbs) : d ∣ gl l := (gl_iff l 0).mpr ⟨Nat.dvd_zero _, h⟩
theorem mem_co {l : List Int} {x : Int} (h : x ∈ l) : ∃ k, k < l.length ∧ co l k = x := by
  obtain ⟨k, hk, e⟩ := List.mem_iff_getElem.mp h
  exact ⟨k, hk, by rw [co_get hk, e]⟩
theorem dvd_glc {l : List Int} {d : Nat} (h : ∀ k, k < l.length → d ∣ (co l k).natAbs) : d ∣ gl l := dvd_gl fun x hx => by
  obtain ⟨k, hk, e⟩ := mem_co hx
  rw [← e]
  exact h k hk
theorem gl_dvdc (l : List Int) (k : Nat) : gl l ∣ (co l k).natAbs := by
  by_cases h : k < l.length
  · exact gl_dvd (co_memE h)
  · rw [co_far (by omega)]
    exact Nat.dvd_zero _
theorem gl_zero {l : List Int} (h : gl l = 0) (k : Nat) : co l k = 0 := by
  have := gl_dvdc l k
  rw [h] at this
  have := Nat.eq_zero_of_zero_dvd this
  omega
theorem co_dv (l : List Int) (c : Int) (k : Nat) : co (dv l c) k = (co l k).fdiv c := by
  by_cases h : k < l.length
  · have h2 : k < (dv l c).length := by
      unfold dv
      rw [List.length_map]
      exact h
    rw [co_get h2, co_get h]
    exact List.getElem_map ..
  · rw [co_far (l := dv l c) (by unfold dv; rw [List.length_map]; omega), co_far (by omega), Int.zero_fdiv]
theorem fdiv_ex {x c : Int} (h : c ∣ x) : c * x.fdiv c = x := Int.mul_fdiv_cancel' h
theorem dv_ex {l : List Int} (h : gl l ≠ 0) (k : Nat) : (gl l : Int) * co (dv l (gl l)) k = co l k := by
  rw [co_dv]
  exact fdiv_ex (Int.ofNat_dvd_left.mpr (gl_dvdc l k))
theorem gl_dv {l : List Int} (h : gl l ≠ 0) : gl (dv l (gl l)) = 1 := by
  have q : gl l * gl (dv l (gl l)) ∣ gl l := dvd_glc fun k _ => by
    rw [← dv_ex h k, Int.natAbs_mul, Int.natAbs_natCast]
    exact Nat.mul_dvd_mul_left _ (gl_dvdc _ _)
  have hp : 0 < gl l := Nat.pos_of_ne_zero h
  have h1 : gl (dv l (gl l)) ∣ 1 := Nat.dvd_of_mul_dvd_mul_left hp (by rw [Nat.mul_one]; exact q)
  exact Nat.dvd_one.mp h1
theorem red_le {w : Nat} {v : List Int} {u : Nat → Int} {α β : Int} (hv : gl v ≤ 1) (hl : v.length = w) (hα : α ≠ 0) (h : ∀ j, j < w → α * co v j = β * u j) : ∀ j, j < w → (co v j).natAbs ≤ (u j).natAbs := by
  have hn : ∀ j, j < w → α.natAbs * (co v j).natAbs = β.natAbs * (u j).natAbs := fun j hj => by
    rw [← Int.natAbs_mul, ← Int.natAbs_mul, h j hj]
  have ha : 0 < α.natAbs := by omega
  generalize α.natAbs = a at hn ha
  generalize β.natAbs = b at hn
  have hg : 0 < Nat.gcd a b := Nat.gcd_pos_of_pos_left _ ha
  obtain ⟨a', ea⟩ := Nat.gcd_dvd_left a b
  obtain ⟨b', eb⟩ := Nat.gcd_dvd_right a b
  have cop : Nat.Coprime a' b' := by
    have e1 : a' = a / Nat.gcd a b := Nat.eq_div_of_mul_eq_right (by omega) ea.symm
    have e2 : b' = b / Nat.gcd a b := Nat.eq_div_of_mul_eq_right (by omega) eb.symm
    rw [e1, e2]
    exact Nat.coprime_div_gcd_div_gcd hg
  have hn2 : ∀ j, j < w → a' * (co v j).natAbs = b' * (u j).natAbs := fun j hj => by
    refine Nat.eq_of_mul_eq_mul_left hg ?_
    rw [← Nat.mul_assoc, ← Nat.mul_assoc, ← ea, ← eb]
    exact hn j hj
  have ha' : 0 < a' := by
    rcases Nat.eq_zero_or_pos a' with z | z
    · rw [z, Nat.mul_zero] at ea
      omega
    · exact z
  have hb : b' ∣ gl v := dvd_glc fun k hk => cop.symm.dvd_of_dvd_mul_left ⟨_, hn2 k (hl ▸ hk)⟩
  intro j hj
  rcases Nat.eq_zero_or_pos (gl v) with z | z
  · rw [gl_zero z]
    exact Nat.zero_le _
  · have e1 : gl v = 1 := by omega
    rw [e1] at hb
    have e2 := Nat.dvd_one.mp hb
    have q := hn2 j hj
    rw [e2, Nat.one_mul] at q
    rw [← q]
    exact Nat.le_mul_of_pos_left _ ha'
abbrev row (B : List (List Int)) (k : Nat) : Nat → Int := co (B.getD k [])
def SpM (w : Nat) (B : List (List Int)) (v : List Int) : Prop := Sp w B.length (row B) (co v)
theorem row_mem {B : List (List Int)} {x : List Int} (h : x ∈ B) : ∃ k, k < B.length ∧ row B k = co x := by
  obtain ⟨k, hk, e⟩ := List.mem_iff_getElem.mp h
  exact ⟨k, hk, by unfold row; rw [List.getD_eq_getElem?_getD, List.getElem?_eq_getElem hk, e]; rfl⟩
theorem mem_row {B : List (List Int)} {k : Nat} (h : k < B.length) : B.getD k [] ∈ B := by
  rw [List.getD_eq_getElem?_getD, List.getElem?_eq_getElem h]
  exact List.getElem_mem h
theorem SpM.own {w : Nat} {B : List (List Int)} {x : List Int} (h : x ∈ B) : SpM w B x := by
  obtain ⟨k, hk, e⟩ := row_mem h
  unfold SpM
  rw [← e]
  exact Sp.own hk
theorem SpM.trans {w : Nat} {B B' : List (List Int)} {v : List Int} (h : SpM w B v) (g : ∀ x ∈ B, SpM w B' x) : SpM w B' v :=
  Sp.trans h fun k hk => g _ (mem_row hk)
theorem SpM.mono {w : Nat} {B B' : List (List Int)} {v : List Int} (h : SpM w B v) (g : ∀ x ∈ B, x ∈ B') : SpM w B' v := h.trans fun x hx => SpM.own (g x hx)
theorem SpM.lin {w : Nat} {B : List (List Int)} {u v t : List Int} {c : Int} (α β : Int) (hc : c ≠ 0) (h : SpM w B u) (g : SpM w B v) (e : ∀ j, j < w → c * co t j = α * co u j + β * co v j) : SpM w B t :=
  Sp.div hc (Sp.lin α β h g) e
theorem SpM.zero {w : Nat} {B : List (List Int)} {v : List Int} (h : ∀ j, j < w → co v j = 0) : SpM w B v := Sp.zero h
theorem SpM.mul {w : Nat} {B : List (List Int)} {u t : List Int} {c α : Int} (hc : c ≠ 0) (h : SpM w B u) (e : ∀ j, j < w → c * co t j = α * co u j) : SpM w B t :=
  h.lin α 0 hc h fun j hj => by rw [e j hj, Int.zero_mul, Int.add_zero]
theorem ind_of {w n : Nat} {A B : Nat → Nat → Int} (hA : Ind w n A) (h : ∀ i, i < n → Sp w n B (A i)) : Ind w n B := fun a ha i0 hi0 => by
  refine Classical.byContradiction fun ne => ?_
  obtain ⟨m, rfl⟩ : ∃ m, n = m + 1 := ⟨n - 1, by omega⟩
  have key : ∀ k, k < m + 1 → Sp w m (fun i => B (sk i0 i)) (B k) := fun k hk => by
    by_cases c : k = i0
    · subst c
      refine ⟨a k, ne, fun i => - a (sk k i), fun j hj => ?_⟩
      have e := ha j hj
      rw [S_skip _ k m (by omega)] at e
      rw [S_congr (g := fun i => (-1) * (a (sk k i) * B (sk k i) j)) fun i _ => by rw [Int.neg_mul, Int.neg_mul, Int.one_mul], S_mul]
      omega
    · obtain ⟨i, hi, e⟩ : ∃ i, i < m ∧ sk i0 i = k := by
        by_cases d : k < i0
        · exact ⟨k, by omega, if_pos d⟩
        · exact ⟨k - 1, by omega, by unfold sk; rw [if_neg (by omega)]; omega⟩
      rw [← e]
      exact Sp.own hi
  have := steinitz hA fun i hi => (h i hi).trans key
  omega
def BdE (R M : Nat) : Nat := R * ((2 * R * M + 1) ^ (R - 1) * M)
theorem Bd_mono {R R' M : Nat} (h : R ≤ R') : BdE R M ≤ BdE R' M := by
  unfold BdE
  refine Nat.mul_le_mul h (Nat.mul_le_mul_right _ ?_)
  refine Nat.le_trans (Nat.pow_le_pow_left (Nat.add_le_add_right (Nat.mul_le_mul_right _ (Nat.mul_le_mul_left _ h)) 1) _) ?_
  exact Nat.pow_le_pow_right (Nat.succ_pos _) (by omega)
theorem Bd_le {R M : Nat} (h : 1 ≤ R) : M ≤ BdE R M := by
  unfold BdE
  have h1 : 0 < (2 * R * M + 1) ^ (R - 1) := Nat.pow_pos (Nat.succ_pos _)
  have h2 := Nat.mul_le_mul_right M (show 1 ≤ (2 * R * M + 1) ^ (R - 1) from h1)
  have h3 := Nat.mul_le_mul_right ((2 * R * M + 1) ^ (R - 1) * M) h
  omega
theorem bd_left {w r M : Nat} {B : Nat → Nat → Int} {P : Nat → Nat} {v : List Int} (hl : v.length = w) (hv : gl v ≤ 1) (hM : ∀ i, i < r + 1 → ∀ j, (B i j).natAbs ≤ M) (hP : ∀ k, k < r → P k < w) (hI : Ind r r fun k j => B k (P j)) (hs : Sp w (r + 1) B (co v)) (hz : ∀ k, k < r → co v (P k) = 0) :
    ∀ j, j < w → (co v j).natAbs ≤ BdE (r + 1) M := by
  obtain ⟨y, ⟨i0, hi0, hy0⟩, hyb, hy⟩ := siegel r M (fun i k => B i (P k)) fun i hi k hk => hM i hi _
  obtain ⟨c, hc, a, ha⟩ := hs
  have yr : y r ≠ 0 := fun z => by
    have q := hI y (fun k hk => by
      have e := hy k hk
      have e : S r (fun i => y i * B i (P k)) + y r * B r (P k) = 0 := e
      rw [z, Int.zero_mul, Int.add_zero] at e
      exact e)
    by_cases d : i0 = r
    · rw [d] at hy0
      exact hy0 z
    · exact hy0 (q i0 (by omega))
  have D : ∀ j, j < w → y r * (c * co v j) - a r * S (r + 1) (fun i => y i * B i j) = S r (fun i => (y r * a i - a r * y i) * B i j) := fun j hj => by
    rw [ha j hj, ← S_mul, ← S_mul]
    have e : S r (fun i => (y r * a i - a r * y i) * B i j) = S r (fun i => y r * (a i * B i j)) + (-1) * S r (fun i => a r * (y i * B i j)) := by
      rw [← S_mul, ← S_add]
      exact S_congr fun i _ => by grind
    rw [e]
    show S r _ + y r * (a r * B r j) - (S r _ + a r * (y r * B r j)) = _
    grind
  have dz := hI (fun i => y r * a i - a r * y i) fun k hk => by
    rw [← D (P k) (hP k hk), hz k hk, hy k hk]
    rw [Int.mul_zero, Int.mul_zero, Int.mul_zero]
    rfl
  refine fun j hj => Nat.le_trans (red_le (u := fun j => S (r + 1) (fun i => y i * B i j)) (α := y r * c) (β := a r) hv hl (Int.mul_ne_zero yr hc) (fun j hj => ?_) j hj) (S_abs fun i hi => ?_)
  · have e := D j hj
    rw [S_zero (f := fun i => (y r * a i - a r * y i) * B i j) fun i hi => by rw [dz i hi, Int.zero_mul]] at e
    rw [Int.mul_assoc]
    exact Int.sub_eq_zero.mp e
  · rw [Int.natAbs_mul]
    exact Nat.mul_le_mul (hyb i) (hM i hi j)
theorem bd_found {w m M : Nat} {B : Nat → Nat → Int} {P : Nat → Nat} {v : List Int} {i0 : Nat} (hl : v.length = w) (hv : gl v ≤ 1) (hM : ∀ i, i < m + 1 → ∀ j, (B i j).natAbs ≤ M) (hP : ∀ k, k < m + 1 → P k < w) (hI : Ind (m + 1) (m + 1) fun k j => B k (P j)) (hs : Sp w (m + 1) B (co v)) (hi0 : i0 < m + 1) (hz : ∀ k, k < m + 1 → k ≠ i0 → co v (P k) = 0) :
    ∀ j, j < w → (co v j).natAbs ≤ BdE (m + 1) M := by
  obtain ⟨y, ⟨i1, hi1, hy1⟩, hyb, hy⟩ := siegel m M (fun i k => B i (P (sk i0 k))) fun i hi k hk => hM i hi _
  obtain ⟨c, hc, a, ha⟩ := hs
  have uz : ∀ k, k < m + 1 → k ≠ i0 → S (m + 1) (fun i => y i * B i (P k)) = 0 := fun k hk hne => by
    obtain ⟨i, hi, e⟩ : ∃ i, i < m ∧ sk i0 i = k := by
      by_cases d : k < i0
      · exact ⟨k, by omega, if_pos d⟩
      · exact ⟨k - 1, by omega, by unfold sk; rw [if_neg (by omega)]; omega⟩
    have := hy i hi
    rw [e] at this
    exact this
  have u0 : S (m + 1) (fun i => y i * B i (P i0)) ≠ 0 := fun z => hy1 (hI y (fun k hk => by
    by_cases d : k = i0
    · rw [d]
      exact z
    · exact uz k hk d) i1 hi1)
  generalize hU : S (m + 1) (fun i => y i * B i (P i0)) = U at u0
  have D : ∀ j, j < w → U * (c * co v j) - c * co v (P i0) * S (m + 1) (fun i => y i * B i j) = S (m + 1) (fun i => (U * a i - c * co v (P i0) * y i) * B i j) := fun j hj => by
    rw [ha j hj, ← S_mul, ← S_mul]
    have e : S (m + 1) (fun i => (U * a i - c * co v (P i0) * y i) * B i j) = S (m + 1) (fun i => U * (a i * B i j)) + (-1) * S (m + 1) (fun i => c * co v (P i0) * (y i * B i j)) := by
      rw [← S_mul, ← S_add]
      exact S_congr fun i _ => by grind
    rw [e]
    omega
  have dz := hI (fun i => U * a i - c * co v (P i0) * y i) fun k hk => by
    rw [← D (P k) (hP k hk)]
    by_cases d : k = i0
    · rw [d, hU]
      grind
    · rw [hz k hk d, uz k hk d]
      rw [Int.mul_zero, Int.mul_zero, Int.mul_zero]
      rfl
  refine fun j hj => Nat.le_trans (red_le (u := fun j => S (m + 1) (fun i => y i * B i j)) (α := U * c) (β := c * co v (P i0)) hv hl (Int.mul_ne_zero u0 hc) (fun j hj => ?_) j hj) (S_abs fun i hi => ?_)
  · have e := D j hj
    rw [S_zero (f := fun i => (U * a i - c * co v (P i0) * y i) * B i j) fun i hi => by rw [dz i hi, Int.zero_mul]] at e
    rw [Int.mul_assoc]
    exact Int.sub_eq_zero.mp e
  · rw [Int.natAbs_mul]
    exact Nat.mul_le_mul (hyb i) (hM i hi j)
structure LeP (le : List Int → List Int → Nat → List Int) : Prop where
  lin : ∀ row head p, co head p ≠ 0 → row.length = head.length → ∃ c : Int, c ≠ 0 ∧ ∀ j, c * co (le row head p) j = co head p * co row j - co row p * co head j
  len : ∀ row head p, (le row head p).length = row.length
  red : ∀ row head p, gl (le row head p) ≤ 1 ∨ le row head p = row
theorem lf_lin {row head : List Int} {p : Nat} (h : co head p ≠ 0) (hl : row.length = head.length) (j : Nat) : ((Nat.gcd (co head p).natAbs (co row p).natAbs : Nat) : Int) * co (lf row head p) j = co head p * co row j - co row p * co head j := by
  unfold lf
  have d1 : ((Nat.gcd (co head p).natAbs (co row p).natAbs : Nat) : Int) ∣ co head p := Int.ofNat_dvd_left.mpr (Nat.gcd_dvd_left ..)
  have d2 : ((Nat.gcd (co head p).natAbs (co row p).natAbs : Nat) : Int) ∣ co row p := Int.ofNat_dvd_left.mpr (Nat.gcd_dvd_right ..)
  have e1 := fdiv_ex d1
  have e2 := fdiv_ex d2
  generalize ((Nat.gcd (co head p).natAbs (co row p).natAbs : Nat) : Int) = g at e1 e2 ⊢
  rw [co_tb]
  by_cases hj : j < row.length
  · rw [if_pos hj]
    grind
  · rw [if_neg hj, co_far (l := row) (by omega), co_far (l := head) (i := j) (by omega), Int.mul_zero, Int.mul_zero, Int.mul_zero]
    rfl
theorem gcd_ne {a b : Int} (h : a ≠ 0) : ((Nat.gcd a.natAbs b.natAbs : Nat) : Int) ≠ 0 := by
  have := Nat.gcd_pos_of_pos_left b.natAbs (show 0 < a.natAbs by omega)
  omega
theorem lless_lin {row head : List Int} {p : Nat} (h : co head p ≠ 0) (hl : row.length = head.length) : ∃ c : Int, c ≠ 0 ∧ ∀ j, c * co (lless row head p) j = co head p * co row j - co row p * co head j := by
  unfold lless
  have g0 := gcd_ne (b := co row p) h
  by_cases d : 1 < gl (lf row head p)
  · rw [if_pos d]
    refine ⟨_, Int.mul_ne_zero g0 (show ((gl (lf row head p) : Nat) : Int) ≠ 0 by omega), fun j => ?_⟩
    rw [Int.mul_assoc, dv_ex (by omega), lf_lin h hl]
  · rw [if_neg d]
    exact ⟨_, g0, lf_lin h hl⟩
theorem lless_red (row head : List Int) (p : Nat) : gl (lless row head p) ≤ 1 := by
  unfold lless
  by_cases d : 1 < gl (lf row head p)
  · rw [if_pos d, gl_dv (by omega)]
    exact Nat.le_refl _
  · rw [if_neg d]
    omega
theorem less_eq {row head : List Int} {p : Nat} (h : co row p ≠ 0) : less row head p = lless row head p := by
  unfold less lless
  rw [if_neg h]
theorem less_id {row head : List Int} {p : Nat} (h : co row p = 0) : less row head p = row := by
  unfold less
  rw [if_pos h]
theorem lePL : LeP lless := ⟨fun _ _ _ h hl => lless_lin h hl, lless_len, fun _ _ _ => .inl (lless_red ..)⟩
theorem lePP : LeP less := ⟨fun row head p h hl => by
  by_cases c : co row p = 0
  · rw [less_id c]
    exact ⟨_, h, fun j => by rw [c, Int.zero_mul, Int.sub_zero]⟩
  · rw [less_eq c]
    exact lless_lin h hl, less_len, fun row head p => by
  by_cases c : co row p = 0
  · exact .inr (less_id c)
  · rw [less_eq c]
    exact .inl (lless_red ..)⟩
structure Inv (w : Nat) (rows : List (List Int)) (p : Nat) (left found Hh : List (List Int)) (P : List Nat) : Prop where
  hr : ∀ x ∈ Hh, x ∈ rows
  hl : Hh.length = found.length
  pl : P.length = found.length
  lf : ∀ r ∈ left, ∃ x ∈ rows, SpM w (Hh ++ [x]) r
  ff : ∀ r ∈ found, SpM w Hh r
  lz : ∀ r ∈ left, ∀ j, j < p → co r j = 0
  pp : ∀ k, k < found.length → P.getD k 0 < p
  nz : ∀ k, k < found.length → row found k (P.getD k 0) ≠ 0
  z : ∀ i k, i < found.length → k < found.length → k ≠ i → row found k (P.getD i 0) = 0
  be : ∀ k, k < found.length → ∀ j, j < P.getD k 0 → row found k j = 0
  rd : ∀ r, r ∈ left ∨ r ∈ found → gl r ≤ 1 ∨ r ∈ rows
  rv : ∀ x ∈ rows, SpM w (found ++ left) x
  ll : ∀ r, r ∈ left ∨ r ∈ found → r.length = w
theorem row_app {A : List (List Int)} {x : List Int} {k : Nat} : row (A ++ [x]) k = if k < A.length then row A k else if k = A.length then co x else co [] := by
  unfold row
  rw [List.getD_eq_getElem?_getD, List.getD_eq_getElem?_getD]
  by_cases h : k < A.length
  · rw [if_pos h, List.getElem?_append_left h]
  · rw [if_neg h, List.getElem?_append_right (by omega)]
    by_cases e : k = A.length
    · rw [if_pos e, e, Nat.sub_self]
      rfl
    · rw [if_neg e, List.getElem?_eq_none (by show 1 ≤ _; omega)]
      rfl
theorem row_map {A : List (List Int)} {f : List Int → List Int} {k : Nat} (h : k < A.length) : row (A.map f) k = co (f (A.getD k [])) := by
  unfold row
  rw [List.getD_eq_getElem?_getD, List.getD_eq_getElem?_getD, List.getElem?_map, List.getElem?_eq_getElem h]
  rfl
theorem getD_app {P : List Nat} {x k : Nat} : (P ++ [x]).getD k 0 = if k < P.length then P.getD k 0 else if k = P.length then x else 0 := by
  rw [List.getD_eq_getElem?_getD, List.getD_eq_getElem?_getD]
  by_cases h : k < P.length
  · rw [if_pos h, List.getElem?_append_left h]
  · rw [if_neg h, List.getElem?_append_right (by omega)]
    by_cases e : k = P.length
    · rw [if_pos e, e, Nat.sub_self]
      rfl
    · rw [if_neg e, List.getElem?_eq_none (by show 1 ≤ _; omega)]
      rfl
theorem hix_some {left : List (List Int)} {p h : Nat} (e : hix left p = some h) : h < left.length ∧ co (left.getD h []) p ≠ 0 := by
  obtain ⟨hh, h1, _⟩ := List.findIdx?_eq_some_iff_getElem.mp e
  refine ⟨hh, ?_⟩
  rw [List.getD_eq_getElem?_getD, List.getElem?_eq_getElem hh]
  show co left[h] p ≠ 0
  simpa using h1
theorem hix_none {left : List (List Int)} {p : Nat} (e : hix left p = none) : ∀ r ∈ left, co r p = 0 := fun r hr => by
  have := List.findIdx?_eq_none_iff.mp e r hr
  simpa using this
theorem Inv.init {w : Nat} {rows : List (List Int)} (hw : ∀ r ∈ rows, r.length = w) : Inv w rows 0 rows [] [] [] :=
  ⟨fun x hx => absurd hx List.not_mem_nil, rfl, rfl, fun r hr => ⟨r, hr, SpM.own (by simp)⟩, fun r hr => absurd hr List.not_mem_nil, fun r _ j hj => absurd hj (Nat.not_lt_zero _), fun k hk => absurd hk (Nat.not_lt_zero _), fun k hk => absurd hk (Nat.not_lt_zero _), fun i k hi => absurd hi (Nat.not_lt_zero _), fun k hk => absurd hk (Nat.not_lt_zero _), fun r hr => .inr (hr.resolve_right List.not_mem_nil), fun x hx => SpM.own (by simpa using hx), fun r hr => hw r (hr.resolve_right List.not_mem_nil)⟩
theorem Inv.none {w p : Nat} {rows left found Hh : List (List Int)} {P : List Nat} (I : Inv w rows p left found Hh P) (e : hix left p = none) : Inv w rows (p + 1) left found Hh P :=
  ⟨I.hr, I.hl, I.pl, I.lf, I.ff, fun r hr j hj => by
    by_cases c : j = p
    · rw [c]
      exact hix_none e r hr
    · exact I.lz r hr j (by omega), fun k hk => Nat.lt_succ_of_lt (I.pp k hk), I.nz, I.z, I.be, I.rd, I.rv, I.ll⟩
theorem Inv.some {le : List Int → List Int → Nat → List Int} (hle : LeP le) {w p h : Nat} {rows left found Hh : List (List Int)} {P : List Nat} (I : Inv w rows p left found Hh P) (hp : p < w) (e : hix left p = .some h) :
    ∃ x, Inv w rows (p + 1) ((left.eraseIdx h).map fun r => le r (left.getD h []) p) ((found.map fun r => le r (left.getD h []) p) ++ [left.getD h []]) (Hh ++ [x]) (P ++ [p]) := by
  obtain ⟨hh, hd⟩ := hix_some e
  have hm : left.getD h [] ∈ left := mem_row hh
  generalize hH : left.getD h [] = hed at hd hm
  obtain ⟨x, hx, hs⟩ := I.lf hed hm
  have hlen := I.ll hed (.inl hm)
  have sub : ∀ r ∈ left.eraseIdx h, r ∈ left := fun r hr => List.mem_of_mem_eraseIdx hr
  have lin : ∀ r, r ∈ left ∨ r ∈ found → ∃ c : Int, c ≠ 0 ∧ ∀ j, c * co (le r hed p) j = co hed p * co r j - co r p * co hed j := fun r hr => hle.lin r hed p hd (by rw [I.ll r hr, hlen])
  have van : ∀ r, r ∈ left ∨ r ∈ found → ∀ j, co r j = 0 → co hed j = 0 → co (le r hed p) j = 0 := fun r hr j h1 h2 => by
    obtain ⟨c, hc, q⟩ := lin r hr
    have := q j
    rw [h1, h2, Int.mul_zero, Int.mul_zero] at this
    exact (Int.mul_eq_zero.mp this).resolve_left hc
  have vanp : ∀ r, r ∈ left ∨ r ∈ found → co (le r hed p) p = 0 := fun r hr => by
    obtain ⟨c, hc, q⟩ := lin r hr
    have := q p
    rw [Int.mul_comm (co hed p), Int.sub_self] at this
    · exact (Int.mul_eq_zero.mp this).resolve_left hc
  have keep : ∀ r, r ∈ left ∨ r ∈ found → ∀ j, co r j ≠ 0 → co hed j = 0 → co (le r hed p) j ≠ 0 := fun r hr j h1 h2 z => by
    obtain ⟨c, hc, q⟩ := lin r hr
    have := q j
    rw [z, h2, Int.mul_zero, Int.mul_zero, Int.sub_zero] at this
    rcases Int.mul_eq_zero.mp this.symm with z | z
    · exact hd z
    · exact h1 z
  have hz : ∀ j, j < p → co hed j = 0 := I.lz hed hm
  have fl : (found.map fun r => le r hed p).length = found.length := List.length_map ..
  have rw1 : ∀ k, k < found.length → row ((found.map fun r => le r hed p) ++ [hed]) k = co (le (found.getD k []) hed p) := fun k hk => by
    rw [row_app, fl, if_pos hk, row_map hk]
  have rw2 : row ((found.map fun r => le r hed p) ++ [hed]) found.length = co hed := by
    rw [row_app, fl, if_neg (Nat.lt_irrefl _), if_pos rfl]
  have pw1 : ∀ k, k < found.length → (P ++ [p]).getD k 0 = P.getD k 0 := fun k hk => by rw [getD_app, I.pl, if_pos hk]
  have pw2 : (P ++ [p]).getD found.length 0 = p := by rw [getD_app, I.pl, if_neg (Nat.lt_irrefl _), if_pos rfl]
  have nl : ((found.map fun r => le r hed p) ++ [hed]).length = found.length + 1 := by
    rw [List.length_append, fl]
    rfl
  refine ⟨x, fun y hy => ?_, ?_, ?_, fun r hr => ?_, fun r hr => ?_, fun r hr j hj => ?_, fun k hk => ?_, fun k hk => ?_, fun i k hi hk hne => ?_, fun k hk j hj => ?_, fun r hr => ?_, fun y hy => ?_, fun r hr => ?_⟩
  · rcases List.mem_append.mp hy with hy | hy
    · exact I.hr y hy
    · rw [List.mem_singleton.mp hy]
      exact hx
  · rw [List.length_append, List.length_append, fl, I.hl]
    rfl
  · rw [List.length_append, List.length_append, fl, I.pl]
    rfl
  · obtain ⟨r0, hr0, rfl⟩ := List.mem_map.mp hr
    obtain ⟨y, hy, hs2⟩ := I.lf r0 (sub r0 hr0)
    obtain ⟨c, hc, q⟩ := lin r0 (.inl (sub r0 hr0))
    refine ⟨y, hy, SpM.lin (co hed p) (- co r0 p) hc (hs2.mono fun z hz => ?_) (hs.mono fun z hz => ?_) fun j _ => by rw [q j, Int.neg_mul, Int.sub_eq_add_neg]⟩
    · simp only [List.mem_append, List.mem_singleton] at hz ⊢
      rcases hz with hz | hz
      · exact .inl (.inl hz)
      · exact .inr hz
    · exact List.mem_append.mpr (.inl hz)
  · rcases List.mem_append.mp hr with hr | hr
    · obtain ⟨r0, hr0, rfl⟩ := List.mem_map.mp hr
      obtain ⟨c, hc, q⟩ := lin r0 (.inr hr0)
      exact SpM.lin (co hed p) (- co r0 p) hc ((I.ff r0 hr0).mono fun z hz => List.mem_append.mpr (.inl hz)) hs fun j _ => by rw [q j, Int.neg_mul, Int.sub_eq_add_neg]
    · rw [List.mem_singleton.mp hr]
      exact hs
  · obtain ⟨r0, hr0, rfl⟩ := List.mem_map.mp hr
    by_cases c : j = p
    · rw [c]
      exact vanp r0 (.inl (sub r0 hr0))
    · exact van r0 (.inl (sub r0 hr0)) j (I.lz r0 (sub r0 hr0) j (by omega)) (hz j (by omega))
  · rw [nl] at hk
    by_cases c : k = found.length
    · rw [c, pw2]
      exact Nat.lt_succ_self _
    · rw [pw1 k (by omega)]
      exact Nat.lt_succ_of_lt (I.pp k (by omega))
  · rw [nl] at hk
    by_cases c : k = found.length
    · rw [c, pw2, rw2]
      exact hd
    · have hk : k < found.length := by omega
      rw [pw1 k hk, rw1 k hk]
      exact keep _ (.inr (mem_row hk)) _ (I.nz k hk) (hz _ (I.pp k hk))
  · rw [nl] at hi hk
    by_cases c : k = found.length
    · have hi : i < found.length := by omega
      rw [c, rw2, pw1 i hi]
      exact hz _ (I.pp i hi)
    · have hk : k < found.length := by omega
      rw [rw1 k hk]
      by_cases d : i = found.length
      · rw [d, pw2]
        exact vanp _ (.inr (mem_row hk))
      · have hi : i < found.length := by omega
        rw [pw1 i hi]
        exact van _ (.inr (mem_row hk)) _ (I.z i k hi hk hne) (hz _ (I.pp i hi))
  · rw [nl] at hk
    by_cases c : k = found.length
    · rw [c, pw2] at hj
      rw [c, rw2]
      exact hz j hj
    · have hk : k < found.length := by omega
      rw [pw1 k hk] at hj
      rw [rw1 k hk]
      exact van _ (.inr (mem_row hk)) _ (I.be k hk j hj) (hz j (Nat.lt_trans hj (I.pp k hk)))
  · have key : ∀ r0, r0 ∈ left ∨ r0 ∈ found → gl (le r0 hed p) ≤ 1 ∨ le r0 hed p ∈ rows := fun r0 h0 => by
      rcases hle.red r0 hed p with g | g
      · exact .inl g
      · rw [g]
        exact I.rd r0 h0
    rcases hr with hr | hr
    · obtain ⟨r0, hr0, rfl⟩ := List.mem_map.mp hr
      exact key r0 (.inl (sub r0 hr0))
    · rcases List.mem_append.mp hr with hr | hr
      · obtain ⟨r0, hr0, rfl⟩ := List.mem_map.mp hr
        exact key r0 (.inr hr0)
      · rw [List.mem_singleton.mp hr]
        exact I.rd hed (.inl hm)
  · refine (I.rv y hy).trans fun r hr => ?_
    have hin : SpM w (((found.map fun r => le r hed p) ++ [hed]) ++ ((left.eraseIdx h).map fun r => le r hed p)) hed := SpM.own (by simp)
    have back : ∀ r0, r0 ∈ left ∨ r0 ∈ found → le r0 hed p ∈ ((found.map fun r => le r hed p) ++ [hed]) ++ ((left.eraseIdx h).map fun r => le r hed p) → SpM w (((found.map fun r => le r hed p) ++ [hed]) ++ ((left.eraseIdx h).map fun r => le r hed p)) r0 := fun r0 h0 hm0 => by
      obtain ⟨c, hc, q⟩ := lin r0 h0
      exact SpM.lin c (co r0 p) hd (SpM.own hm0) hin fun j _ => by rw [q j]; omega
    rcases List.mem_append.mp hr with hr | hr
    · exact back r (.inr hr) (List.mem_append.mpr (.inl (List.mem_append.mpr (.inl (List.mem_map.mpr ⟨r, hr, rfl⟩)))))
    · obtain ⟨i, hi, ei⟩ := List.mem_iff_getElem.mp hr
      by_cases c : i = h
      · have : r = hed := by
          rw [← ei, ← hH, List.getD_eq_getElem?_getD]
          subst c
          rw [List.getElem?_eq_getElem hi]
          rfl
        rw [this]
        exact hin
      · exact back r (.inl hr) (List.mem_append.mpr (.inr (List.mem_map.mpr ⟨r, List.mem_eraseIdx_iff_getElem.mpr ⟨i, hi, c, ei⟩, rfl⟩)))
  · have key : ∀ r0, r0 ∈ left ∨ r0 ∈ found → (le r0 hed p).length = w := fun r0 h0 => by
      rw [hle.len]
      exact I.ll r0 h0
    rcases hr with hr | hr
    · obtain ⟨r0, hr0, rfl⟩ := List.mem_map.mp hr
      exact key r0 (.inl (sub r0 hr0))
    · rcases List.mem_append.mp hr with hr | hr
      · obtain ⟨r0, hr0, rfl⟩ := List.mem_map.mp hr
        exact key r0 (.inr hr0)
      · rw [List.mem_singleton.mp hr]
        exact hlen
theorem inv {le : List Int → List Int → Nat → List Int} (hle : LeP le) {w : Nat} {rows : List (List Int)} (hw : ∀ r ∈ rows, r.length = w) : ∀ p, p ≤ w → ∃ Hh P, Inv w rows p (eS le rows p).1 (eS le rows p).2 Hh P
  | 0, _ => ⟨[], [], Inv.init hw⟩
  | p + 1, hp => by
    obtain ⟨Hh, P, I⟩ := inv hle hw p (by omega)
    show ∃ Hh P, Inv w rows (p + 1) (stp le p (eS le rows p)).1 (stp le p (eS le rows p)).2 Hh P
    cases e : hix (eS le rows p).1 p with
    | none =>
      rw [stp_none e]
      exact ⟨Hh, P, I.none e⟩
    | some h =>
      rw [stp_some e]
      obtain ⟨x, J⟩ := I.some hle (by omega) e
      exact ⟨_, _, J⟩
theorem Inv.ind {w p : Nat} {rows left found Hh : List (List Int)} {P : List Nat} (I : Inv w rows p left found Hh P) (hp : p ≤ w) : Ind found.length found.length fun k j => row Hh k (P.getD j 0) := by
  refine ind_of (A := fun k j => row found k (P.getD j 0)) ?_ fun i hi => ?_
  · exact Ech.ind (lead := fun i => i) ⟨fun i hi => hi, fun i hi => I.nz i hi, fun i k hi hk hne => I.z i k hi hk hne⟩
  · obtain ⟨c, hc, a, ha⟩ := I.ff _ (mem_row hi)
    rw [I.hl] at ha
    exact ⟨c, hc, a, fun j hj => ha _ (Nat.lt_of_lt_of_le (I.pp j hj) hp)⟩
theorem co_bd {rows : List (List Int)} {M : Nat} (hM : ∀ r ∈ rows, ∀ x ∈ r, x.natAbs ≤ M) {r : List Int} (hr : r ∈ rows) (j : Nat) : (co r j).natAbs ≤ M := by
  by_cases h : j < r.length
  · exact hM r hr _ (co_memE h)
  · rw [co_far (by omega)]
    exact Nat.zero_le _
theorem Inv.bd {w p M : Nat} {rows left found Hh : List (List Int)} {P : List Nat} (I : Inv w rows p left found Hh P) (hp : p ≤ w) (hM : ∀ r ∈ rows, ∀ x ∈ r, x.natAbs ≤ M) (hc : left.length + found.length = rows.length) :
    ∀ r, r ∈ left ∨ r ∈ found → ∀ j, (co r j).natAbs ≤ BdE rows.length M := fun r hr j => by
  by_cases hj : j < w
  · rcases I.rd r hr with hv | hv
    · rcases hr with hr | hr
      · obtain ⟨x, hx, hs⟩ := I.lf r hr
        have hp1 := List.length_pos_of_mem hr
        refine Nat.le_trans (bd_left (r := found.length) (B := row (Hh ++ [x])) (P := fun k => P.getD k 0) (I.ll r (.inl hr)) hv (fun i hi j => ?_) (fun k hk => Nat.lt_of_lt_of_le (I.pp k hk) hp) (fun a ha => I.ind hp a fun k hk => ?_) ?_ (fun k hk => I.lz r hr _ (I.pp k hk)) j hj) (Bd_mono (by omega))
        · rw [row_app, I.hl]
          by_cases c : i < found.length
          · rw [if_pos c]
            exact co_bd hM (I.hr _ (mem_row (by rw [I.hl]; exact c))) j
          · rw [if_neg c, if_pos (by omega)]
            exact co_bd hM hx j
        · rw [← ha k hk]
          exact S_congr fun i hi => by
            show _ = a i * row (Hh ++ [x]) i (P.getD k 0)
            rw [row_app, I.hl, if_pos hi]
        · unfold SpM at hs
          rw [List.length_append, I.hl] at hs
          exact hs
      · obtain ⟨i0, hi0, e⟩ := row_mem hr
        obtain ⟨m, hm⟩ : ∃ m, found.length = m + 1 := ⟨found.length - 1, by omega⟩
        have hI := I.ind hp
        have hs := I.ff r hr
        unfold SpM at hs
        rw [I.hl] at hs
        rw [hm] at hI hs hi0
        refine Nat.le_trans (bd_found (B := row Hh) (P := fun k => P.getD k 0) (i0 := i0) (I.ll r (.inr hr)) hv (fun i hi j => co_bd hM (I.hr _ (mem_row (by rw [I.hl, hm]; exact hi))) j) (fun k hk => Nat.lt_of_lt_of_le (I.pp k (by omega)) hp) hI hs hi0 (fun k hk hne => ?_) j hj) (Bd_mono (by omega))
        rw [← e]
        exact I.z k i0 (by omega) (by omega) (Ne.symm hne)
    · exact Nat.le_trans (co_bd hM hv j) (Bd_le (List.length_pos_of_mem hv))
  · rw [co_far (by rw [I.ll r hr]; omega)]
    exact Nat.zero_le _
theorem quot_le {c q x : Int} (h : c * q = x) (hc : c ≠ 0) : q.natAbs ≤ x.natAbs := by
  rw [← h, Int.natAbs_mul]
  exact Nat.le_mul_of_pos_left _ (by omega)
theorem cdiv_of {x c : Int} (hc : c ≠ 0) (hd : c ∣ x) (hb : x.natAbs < 2 ^ 4470) : CDivQ x c := by
  have e := fdiv_ex hd
  refine CDivQ.exact hc (q := x.fdiv c) (by rw [Int.mul_comm]; exact e.symm) ?_
  have := quot_le e hc
  generalize 2 ^ 4470 = Z at hb ⊢
  omega
theorem log_lt {n k : Nat} (h : n < 2 ^ k) (hk : 0 < k) : n.log2 < k := by
  by_cases h0 : n = 0
  · rw [h0, Nat.log2_zero]
    exact hk
  · exact (Nat.log2_lt h0).mpr h
theorem cmul_of {a b : Int} (h1 : a.natAbs < 2 ^ 4470) (h2 : b.natAbs < 2 ^ 4470) : CMulW a b := by
  have := log_lt h1 (by decide)
  have := log_lt h2 (by decide)
  unfold CMulW
  omega
theorem divOk_of {l : List Int} (h : ∀ j, (co l j).natAbs < 2 ^ 4470) : DivOk l := fun h0 x hx => by
  obtain ⟨k, _, e⟩ := mem_co hx
  refine cdiv_of (by omega) (gl_dvdI hx) ?_
  rw [← e]
  exact h k
theorem lessOk_of {r hd : List Int} {p : Nat} (hp : co hd p ≠ 0) (hl : r.length = hd.length) (h1 : ∀ j, (co r j).natAbs < 2 ^ 4470) (h2 : ∀ j, (co hd j).natAbs < 2 ^ 4470) (h3 : co r p ≠ 0 → ∀ j, (co (lless r hd p) j).natAbs < 2 ^ 4470) : LessOk r hd p := by
  have g0 := gcd_ne (b := co r p) hp
  have d1 : ((Nat.gcd (co hd p).natAbs (co r p).natAbs : Nat) : Int) ∣ co hd p := Int.ofNat_dvd_left.mpr (Nat.gcd_dvd_left ..)
  have d2 : ((Nat.gcd (co hd p).natAbs (co r p).natAbs : Nat) : Int) ∣ co r p := Int.ofNat_dvd_left.mpr (Nat.gcd_dvd_right ..)
  have q1 := quot_le (fdiv_ex d1) g0
  have q2 := quot_le (fdiv_ex d2) g0
  refine ⟨cdiv_of g0 d1 (h2 p), cdiv_of g0 d2 (h1 p), fun k _ => cmul_of (h1 k) (Nat.lt_of_le_of_lt q1 (h2 p)), fun k _ => cmul_of (Nat.lt_of_le_of_lt q2 (h1 p)) (h2 k), ?_⟩
  by_cases c : co r p = 0
  · refine divOk_of fun j => ?_
    have e := lf_lin (row := r) hp hl j
    rw [c, Int.zero_mul, Int.sub_zero] at e
    have e2 : (Nat.gcd (co hd p).natAbs (0 : Int).natAbs) = (co hd p).natAbs := Nat.gcd_zero_right _
    rw [e2] at e
    have e3 : (co hd p).natAbs * (co (lf r hd p) j).natAbs = (co hd p).natAbs * (co r j).natAbs := by
      have := congrArg Int.natAbs e
      rwa [Int.natAbs_mul, Int.natAbs_mul, Int.natAbs_natCast] at this
    rw [Nat.eq_of_mul_eq_mul_left (by omega) e3]
    exact h1 j
  · intro h0 x hx
    obtain ⟨k, _, e⟩ := mem_co hx
    have q := h3 c k
    unfold lless at q
    by_cases d : 1 < gl (lf r hd p)
    · rw [if_pos d] at q
      have e1 := dv_ex h0 k
      rw [e] at e1
      exact CDivQ.exact (q := co (dv (lf r hd p) (gl (lf r hd p))) k) (by omega) (by rw [Int.mul_comm]; exact e1.symm) q
    · rw [if_neg d, e] at q
      exact cdiv_of (by omega) (gl_dvdI hx) q
theorem eok {le : List Int → List Int → Nat → List Int} (hle : LeP le) (hl2 : ∀ r hd p, co r p ≠ 0 → le r hd p = lless r hd p) {w M : Nat} {rows : List (List Int)} (hw : ∀ r ∈ rows, r.length = w) (hM : ∀ r ∈ rows, ∀ x ∈ r, x.natAbs ≤ M) (hb : BdE rows.length M < 2 ^ 4470) : EOk le rows w := by
  have bd : ∀ p, p ≤ w → ∀ r, r ∈ (eS le rows p).1 ∨ r ∈ (eS le rows p).2 → ∀ j, (co r j).natAbs < 2 ^ 4470 := fun p hp r hr j => by
    obtain ⟨Hh, P, I⟩ := inv hle hw p hp
    exact Nat.lt_of_le_of_lt (I.bd hp hM (eS_cnt le rows p) r hr j) hb
  refine ⟨fun r hr => divOk_of (bd w (Nat.le_refl _) r (.inr hr)), fun p hp h e r hr => ?_⟩
  obtain ⟨hh, hd⟩ := hix_some e
  obtain ⟨Hh, P, I⟩ := inv hle hw p (by omega)
  have hm := mem_row hh
  have hr1 : r ∈ (eS le rows p).1 ∨ r ∈ (eS le rows p).2 := hr.imp List.mem_of_mem_eraseIdx id
  refine lessOk_of hd (by rw [I.ll r hr1, I.ll _ (.inl hm)]) (bd p (by omega) r hr1) (bd p (by omega) _ (.inl hm)) fun c => ?_
  rw [← hl2 _ _ _ c]
  refine bd (p + 1) hp _ ?_
  show _ ∈ (stp le p (eS le rows p)).1 ∨ _ ∈ (stp le p (eS le rows p)).2
  rw [stp_some e]
  rcases hr with hr | hr
  · exact .inl (List.mem_map.mpr ⟨r, hr, rfl⟩)
  · exact .inr (List.mem_append.mpr (.inl (List.mem_map.mpr ⟨r, hr, rfl⟩)))
theorem eokP {w M : Nat} {rows : List (List Int)} (hw : ∀ r ∈ rows, r.length = w) (hM : ∀ r ∈ rows, ∀ x ∈ r, x.natAbs ≤ M) (hb : BdE rows.length M < 2 ^ 4470) : EOk less rows w := eok lePP (fun _ _ _ c => less_eq c) hw hM hb
theorem eokL {w M : Nat} {rows : List (List Int)} (hw : ∀ r ∈ rows, r.length = w) (hM : ∀ r ∈ rows, ∀ x ∈ r, x.natAbs ≤ M) (hb : BdE rows.length M < 2 ^ 4470) : EOk lless rows w := eok lePL (fun _ _ _ _ => rfl) hw hM hb
theorem gl_mul (c : Int) : ∀ (l : List Int) (a : Nat), (l.map (c * ·)).foldl (fun a x => Nat.gcd a x.natAbs) (c.natAbs * a) = c.natAbs * l.foldl (fun a x => Nat.gcd a x.natAbs) a
  | [], _ => rfl
  | x :: l, a => by
    rw [List.map_cons, List.foldl_cons, List.foldl_cons, Int.natAbs_mul, Nat.gcd_mul_left]
    exact gl_mul c l _
theorem gl_scale (c : Int) (l : List Int) : gl (l.map (c * ·)) = c.natAbs * gl l := gl_mul c l 0
theorem co_scale (c : Int) (l : List Int) (j : Nat) : co (l.map (c * ·)) j = c * co l j := by
  by_cases h : j < l.length
  · rw [co_get (by rw [List.length_map]; exact h), co_get h, List.getElem_map]
  · rw [co_far (by rw [List.length_map]; omega), co_far (by omega), Int.mul_zero]
theorem gl0_of {l : List Int} (h : ∀ j, co l j = 0) : gl l = 0 := Nat.eq_zero_of_zero_dvd (dvd_glc fun k _ => by rw [h k]; exact Nat.dvd_refl _)
theorem ld_char {l : List Int} {k : Nat} (h : co l k ≠ 0) (hz : ∀ j, j < k → co l j = 0) : ld l = k := by
  have hk : k < l.length := by
    refine Classical.byContradiction fun c => h (co_far (by omega))
  unfold ld
  refine (List.findIdx_eq hk).mpr ⟨?_, fun j hj => ?_⟩
  · rw [← co_get hk]
    simpa using h
  · have := hz j hj
    rw [co_get (by omega)] at this
    simpa using this
theorem fo_ld : ∀ {l : List Int}, (∃ k, co l k ≠ 0) → foE l = co l (ld l) ∧ co l (ld l) ≠ 0 ∧ ∀ j, j < ld l → co l j = 0
  | [], ⟨k, h⟩ => absurd (co_far (Nat.zero_le _)) h
  | x :: l, ⟨k, h⟩ => by
    by_cases c : x = 0
    · have hk : ∃ k, co l k ≠ 0 := by
        cases k with
        | zero => exact absurd c h
        | succ k => exact ⟨k, h⟩
      obtain ⟨h1, h2, h3⟩ := fo_ld hk
      have e1 : foE (x :: l) = foE l := by
        unfold foE
        rw [List.find?_cons_of_neg (by simp [c])]
      have e2 : ld (x :: l) = ld l + 1 := ld_char (l := x :: l) (k := ld l + 1) h2 fun j hj => by
        cases j with
        | zero => exact c
        | succ j => exact h3 j (by omega)
      rw [e1, e2]
      refine ⟨h1, h2, fun j hj => ?_⟩
      cases j with
      | zero => exact c
      | succ j => exact h3 j (by omega)
    · have e1 : foE (x :: l) = x := by
        unfold foE
        rw [List.find?_cons_of_pos (by simp [c])]
        rfl
      have e2 : ld (x :: l) = 0 := ld_char (l := x :: l) (k := 0) c fun j hj => absurd hj (Nat.not_lt_zero _)
      rw [e1, e2]
      exact ⟨rfl, c, fun j hj => absurd hj (Nat.not_lt_zero _)⟩
def pf (l : List Int) : Int := if gl l = 0 then 1 else if 0 < foE l then (gl l : Int) else -(gl l : Int)
theorem pf_ne (l : List Int) : pf l ≠ 0 := by
  unfold pf
  split
  · decide
  · split <;> omega
theorem prim_ex (l : List Int) (j : Nat) : pf l * co (primE l) j = co l j := by
  unfold pf primE
  by_cases c : gl l = 0
  · rw [if_pos c, if_pos c, Int.one_mul]
  · rw [if_neg c, if_neg c, co_dv]
    refine fdiv_ex ?_
    have := Int.ofNat_dvd_left.mpr (gl_dvdc l j)
    split
    · exact this
    · exact Int.neg_dvd.mpr this
theorem prim_le (l : List Int) (j : Nat) : (co (primE l) j).natAbs ≤ (co l j).natAbs := quot_le (prim_ex l j) (pf_ne l)
def Pq (w : Nat) (r r' : List Int) : Prop := r.length = w ∧ r'.length = w ∧ ∃ α β : Int, α ≠ 0 ∧ β ≠ 0 ∧ ∀ j, α * co r j = β * co r' j
theorem Pq.zero {w : Nat} {r r' : List Int} (h : Pq w r r') (j : Nat) : co r j = 0 ↔ co r' j = 0 := by
  obtain ⟨_, _, α, β, ha, hb, e⟩ := h
  have := e j
  constructor <;> intro z <;> rw [z, Int.mul_zero] at this
  · exact (Int.mul_eq_zero.mp this.symm).resolve_left hb
  · exact (Int.mul_eq_zero.mp this).resolve_left ha
theorem sq_pos {a : Int} (h : a ≠ 0) : 0 < a * a := by
  rcases Int.lt_or_gt_of_ne h with z | z
  · exact Int.mul_pos_of_neg_of_neg z z
  · exact Int.mul_pos z z
theorem prim_pq {w : Nat} {r r' : List Int} (h : Pq w r r') : primE r = primE r' := by
  have hz := h.zero
  obtain ⟨hl, hl', α, β, ha, hb, e⟩ := h
  by_cases c : gl r = 0
  · have c' : gl r' = 0 := gl0_of fun j => (hz j).mp (gl_zero c j)
    unfold primE
    rw [if_pos c, if_pos c']
    exact co_inj (hl.trans hl'.symm) fun j => by rw [gl_zero c j, gl_zero c' j]
  · have c' : gl r' ≠ 0 := fun z => c (gl0_of fun j => (hz j).mpr (gl_zero z j))
    have ex : ∀ l : List Int, gl l ≠ 0 → ∃ k, co l k ≠ 0 := fun l hl => Classical.byContradiction fun z => hl (gl0_of fun j => Classical.byContradiction fun q => z ⟨j, q⟩)
    obtain ⟨f1, f2, f3⟩ := fo_ld (ex r c)
    obtain ⟨g1, g2, g3⟩ := fo_ld (ex r' c')
    have el : ld r' = ld r := ld_char (fun z => f2 ((hz _).mpr z)) fun j hj => (hz j).mp (f3 j hj)
    have e0 : α * foE r = β * foE r' := by rw [f1, g1, el]; exact e _
    have eg : α.natAbs * gl r = β.natAbs * gl r' := by
      rw [← gl_scale, ← gl_scale]
      refine congrArg gl (co_inj (by rw [List.length_map, List.length_map, hl, hl']) fun j => ?_)
      rw [co_scale, co_scale]
      exact e j
    have s1 : 0 < pf r * foE r := by
      unfold pf
      rw [if_neg c]
      split
      · exact Int.mul_pos (by omega) ‹_›
      · exact Int.mul_pos_of_neg_of_neg (by omega) (by omega)
    have s2 : 0 < pf r' * foE r' := by
      unfold pf
      rw [if_neg c']
      split
      · exact Int.mul_pos (by omega) ‹_›
      · exact Int.mul_pos_of_neg_of_neg (by omega) (by omega)
    have n1 : (α * pf r).natAbs = (β * pf r').natAbs := by
      have q : ∀ l, gl l ≠ 0 → (pf l).natAbs = gl l := fun l hl => by
        unfold pf
        rw [if_neg hl]
        split <;> omega
      rw [Int.natAbs_mul, Int.natAbs_mul, q r c, q r' c', eg]
    have z0 : α * foE r ≠ 0 := Int.mul_ne_zero ha (by omega)
    have t1 : 0 < α * pf r * (α * foE r) := by
      have : α * pf r * (α * foE r) = α * α * (pf r * foE r) := by grind
      rw [this]
      exact Int.mul_pos (sq_pos ha) s1
    have t2 : 0 < β * pf r' * (α * foE r) := by
      rw [e0]
      have : β * pf r' * (β * foE r') = β * β * (pf r' * foE r') := by grind
      rw [this]
      exact Int.mul_pos (sq_pos hb) s2
    have key : α * pf r = β * pf r' := by
      rcases Int.natAbs_eq_natAbs_iff.mp n1 with q | q
      · exact q
      · exfalso
        rw [q, Int.neg_mul] at t1
        omega
    refine co_inj (by rw [primE_len, primE_len, hl, hl']) fun j => ?_
    have a1 := prim_ex r j
    have a2 := prim_ex r' j
    have q : α * pf r * co (primE r) j = α * pf r * co (primE r') j := by
      rw [Int.mul_assoc, a1, e j, ← a2, ← Int.mul_assoc, key]
    exact Int.eq_of_mul_eq_mul_left (Int.mul_ne_zero ha (pf_ne r)) q
def PL (w : Nat) : List (List Int) → List (List Int) → Prop
  | [], [] => True
  | a :: as, b :: bs => Pq w a b ∧ PL w as bs
  | _, _ => False
theorem PL.hix {w p : Nat} : ∀ {A B : List (List Int)}, PL w A B → hix A p = hix B p
  | [], [], _ => rfl
  | a :: as, b :: bs, h => by
    have ih := PL.hix (p := p) h.2
    unfold K83.hix at ih ⊢
    rw [List.findIdx?_cons, List.findIdx?_cons, ih]
    have : (co a p != 0) = (co b p != 0) := by
      by_cases c : co a p = 0
      · rw [c, (h.1.zero p).mp c]
      · have c2 : co b p ≠ 0 := fun z => c ((h.1.zero p).mpr z)
        rw [bne_iff_ne.mpr c, bne_iff_ne.mpr c2]
    rw [this]
theorem PL.get {w : Nat} : ∀ {A B : List (List Int)} {k : Nat}, PL w A B → k < A.length → Pq w (A.getD k []) (B.getD k [])
  | [], [], _, _, hk => absurd hk (Nat.not_lt_zero _)
  | a :: as, b :: bs, 0, h, _ => h.1
  | a :: as, b :: bs, k + 1, h, hk => PL.get (k := k) h.2 (Nat.lt_of_succ_lt_succ hk)
theorem PL.erase {w : Nat} : ∀ {A B : List (List Int)} (k : Nat), PL w A B → PL w (A.eraseIdx k) (B.eraseIdx k)
  | [], [], _, _ => True.intro
  | a :: as, b :: bs, 0, h => h.2
  | a :: as, b :: bs, k + 1, h => ⟨h.1, PL.erase k h.2⟩
theorem PL.map {w : Nat} {f g : List Int → List Int} (hf : ∀ a b, Pq w a b → Pq w (f a) (g b)) : ∀ {A B : List (List Int)}, PL w A B → PL w (A.map f) (B.map g)
  | [], [], _ => True.intro
  | a :: as, b :: bs, h => ⟨hf _ _ h.1, PL.map hf h.2⟩
theorem PL.app {w : Nat} {a b : List Int} (h : Pq w a b) : ∀ {A B : List (List Int)}, PL w A B → PL w (A ++ [a]) (B ++ [b])
  | [], [], _ => ⟨h, True.intro⟩
  | a :: as, b :: bs, g => ⟨g.1, PL.app h g.2⟩
theorem PL.rf {w : Nat} : ∀ {A : List (List Int)}, (∀ a ∈ A, a.length = w) → PL w A A
  | [], _ => True.intro
  | a :: as, h => ⟨⟨h a List.mem_cons_self, h a List.mem_cons_self, 1, 1, by decide, by decide, fun _ => rfl⟩, PL.rf fun b hb => h b (List.mem_cons_of_mem _ hb)⟩
theorem PL.primE {w : Nat} : ∀ {A B : List (List Int)}, PL w A B → A.map primE = B.map primE
  | [], [], _ => rfl
  | a :: as, b :: bs, h => by
    rw [List.map_cons, List.map_cons, prim_pq h.1, PL.primE h.2]
theorem less_pq {w p : Nat} {r r' hd hd' : List Int} (h : Pq w r r') (g : Pq w hd hd') (hp : co hd p ≠ 0) : Pq w (less r hd p) (lless r' hd' p) := by
  have hp' : co hd' p ≠ 0 := fun z => hp ((g.zero p).mpr z)
  obtain ⟨h1, h2, α, β, ha, hb, e⟩ := h
  obtain ⟨g1, g2, γ, δ, hc, hd0, f⟩ := g
  obtain ⟨c, c0, q⟩ := lePP.lin r hd p hp (h1.trans g1.symm)
  obtain ⟨c', c0', q'⟩ := lePL.lin r' hd' p hp' (h2.trans g2.symm)
  refine ⟨by rw [less_len, h1], by rw [lless_len, h2], α * γ * c, β * δ * c', Int.mul_ne_zero (Int.mul_ne_zero ha hc) c0, Int.mul_ne_zero (Int.mul_ne_zero hb hd0) c0', fun j => ?_⟩
  rw [Int.mul_assoc, q j, Int.mul_assoc (β * δ), q' j]
  have e1 := e j
  have e2 := e p
  have f1 := f j
  have f2 := f p
  have : α * γ * (co hd p * co r j - co r p * co hd j) = (γ * co hd p) * (α * co r j) - (α * co r p) * (γ * co hd j) := by grind
  rw [this, f2, e1, e2, f1]
  grind
theorem eS_pq {w : Nat} {rows : List (List Int)} (hw : ∀ r ∈ rows, r.length = w) : ∀ p, PL w (eS less rows p).1 (eS lless rows p).1 ∧ PL w (eS less rows p).2 (eS lless rows p).2
  | 0 => ⟨PL.rf hw, True.intro⟩
  | p + 1 => by
    obtain ⟨h1, h2⟩ := eS_pq hw p
    show PL w (stp less p (eS less rows p)).1 (stp lless p (eS lless rows p)).1 ∧ PL w (stp less p (eS less rows p)).2 (stp lless p (eS lless rows p)).2
    cases e : hix (eS less rows p).1 p with
    | none =>
      rw [stp_none e, stp_none (by rw [← h1.hix]; exact e)]
      exact ⟨h1, h2⟩
    | some h =>
      rw [stp_some e, stp_some (by rw [← h1.hix]; exact e)]
      obtain ⟨hh, hd⟩ := hix_some e
      have g := h1.get hh
      exact ⟨(h1.erase h).map fun a b q => less_pq q g hd, PL.app g (h2.map fun a b q => less_pq q g hd)⟩
theorem ech_eq {w : Nat} {rows : List (List Int)} (hw : ∀ r ∈ rows, r.length = w) : ech less rows w = ech lless rows w := (eS_pq hw w).2.primE
structure Told (w M : Nat) (rows T : List (List Int)) : Prop where
  len : ∀ t ∈ T, t.length = w
  lt : ∀ t ∈ T, ld t < w
  nz : ∀ t ∈ T, co t (ld t) ≠ 0
  z : ∀ i k, i < T.length → k < T.length → k ≠ i → row T k (ld (T.getD i [])) = 0
  base : Base w rows.length (row rows) T.length (row T)
  bd : ∀ t ∈ T, ∀ j, (co t j).natAbs ≤ BdE T.length M
theorem getD_map {A : List (List Int)} {f : List Int → List Int} {k : Nat} (h : k < A.length) : (A.map f).getD k [] = f (A.getD k []) := by
  rw [List.getD_eq_getElem?_getD, List.getD_eq_getElem?_getD, List.getElem?_map, List.getElem?_eq_getElem h]
  rfl
theorem told {le : List Int → List Int → Nat → List Int} (hle : LeP le) {w M : Nat} {rows : List (List Int)} (hw : ∀ r ∈ rows, r.length = w) (hM : ∀ r ∈ rows, ∀ x ∈ r, x.natAbs ≤ M) : Told w M rows (ech le rows w) := by
  obtain ⟨Hh, P, I⟩ := inv hle hw w (Nat.le_refl _)
  unfold ech
  generalize (eS le rows w).1 = left at I
  generalize (eS le rows w).2 = found at I
  have hz : ∀ (r : List Int) (j : Nat), co (primE r) j = 0 ↔ co r j = 0 := fun r j => by
    have := prim_ex r j
    constructor <;> intro z <;> rw [z] at this
    · rw [Int.mul_zero] at this
      exact this.symm
    · exact (Int.mul_eq_zero.mp this).resolve_left (pf_ne r)
  have hld : ∀ k, k < found.length → ld (primE (found.getD k [])) = P.getD k 0 := fun k hk => ld_char (fun z => I.nz k hk ((hz _ _).mp z)) fun j hj => (hz _ _).mpr (I.be k hk j hj)
  have mem : ∀ t ∈ found.map primE, ∃ k, k < found.length ∧ t = primE (found.getD k []) := fun t ht => by
    obtain ⟨r, hr, rfl⟩ := List.mem_map.mp ht
    obtain ⟨k, hk, e⟩ := List.mem_iff_getElem.mp hr
    exact ⟨k, hk, by rw [List.getD_eq_getElem?_getD, List.getElem?_eq_getElem hk, e]; rfl⟩
  have z' : ∀ i k, i < (found.map primE).length → k < (found.map primE).length → k ≠ i → row (found.map primE) k (ld ((found.map primE).getD i [])) = 0 := fun i k hi hk hne => by
    rw [List.length_map] at hi hk
    rw [row_map hk, getD_map hi, hld i hi]
    exact (hz _ _).mpr (I.z i k hi hk hne)
  have nz' : ∀ k, k < (found.map primE).length → row (found.map primE) k (ld ((found.map primE).getD k [])) ≠ 0 := fun k hk => by
    rw [List.length_map] at hk
    rw [row_map hk, getD_map hk, hld k hk]
    exact fun z => I.nz k hk ((hz _ _).mp z)
  have lt' : ∀ k, k < (found.map primE).length → ld ((found.map primE).getD k []) < w := fun k hk => by
    rw [List.length_map] at hk
    rw [getD_map hk, hld k hk]
    exact I.pp k hk
  refine ⟨fun t ht => ?_, fun t ht => ?_, fun t ht => ?_, z', ⟨?_, fun k hk => ?_, fun i hi => ?_⟩, fun t ht j => ?_⟩
  · obtain ⟨k, hk, rfl⟩ := mem t ht
    rw [primE_len]
    exact I.ll _ (.inr (mem_row hk))
  · obtain ⟨k, hk, rfl⟩ := mem t ht
    rw [hld k hk]
    exact I.pp k hk
  · obtain ⟨k, hk, rfl⟩ := mem t ht
    rw [hld k hk]
    exact fun z => I.nz k hk ((hz _ _).mp z)
  · exact Ech.ind (lead := fun k => ld ((found.map primE).getD k [])) ⟨lt', nz', z'⟩
  · rw [List.length_map] at hk
    rw [row_map hk]
    have h1 : SpM w rows (found.getD k []) := (I.ff _ (mem_row hk)).trans fun x hx => SpM.own (I.hr x hx)
    exact SpM.mul (c := pf (found.getD k [])) (α := 1) (pf_ne _) h1 fun j _ => by rw [prim_ex, Int.one_mul]
  · refine (I.rv _ (mem_row hi)).trans fun x hx => ?_
    rcases List.mem_append.mp hx with hx | hx
    · exact SpM.mul (c := 1) (α := pf x) (by decide) (SpM.own (List.mem_map.mpr ⟨x, hx, rfl⟩)) fun j _ => by rw [prim_ex, Int.one_mul]
    · exact SpM.zero (I.lz x hx)
  · obtain ⟨k, hk, rfl⟩ := mem t ht
    rw [List.length_map]
    refine Nat.le_trans (prim_le _ j) ?_
    have hr := mem_row hk
    generalize hR : found.getD k [] = r at hr
    by_cases hj : j < w
    · rcases I.rd r (.inr hr) with hv | hv
      · obtain ⟨m, hm⟩ : ∃ m, found.length = m + 1 := ⟨found.length - 1, by omega⟩
        have hI := I.ind (Nat.le_refl _)
        have hs := I.ff r hr
        unfold SpM at hs
        rw [I.hl] at hs
        have hk0 := hk
        rw [hm] at hI hs hk ⊢
        refine bd_found (B := row Hh) (P := fun k => P.getD k 0) (i0 := k) (I.ll r (.inr hr)) hv (fun i hi j => co_bd hM (I.hr _ (mem_row (by rw [I.hl, hm]; exact hi))) j) (fun k hk => I.pp k (by omega)) hI hs hk (fun i hi hne => ?_) j hj
        rw [← hR]
        exact I.z i k (by omega) hk0 (Ne.symm hne)
      · exact Nat.le_trans (co_bd hM hv j) (Bd_le (by omega))
    · rw [co_far (by rw [I.ll r (.inr hr)]; omega)]
      exact Nat.zero_le _
abbrev le0 (t : List Int) : Int := co t (ld t)
def wst (a : Int) (t : List Int) : Int := a * (le0 t).fdiv (Nat.gcd a.natAbs (le0 t).natAbs : Nat)
def whl (T : List (List Int)) : Int := T.foldl wst 1
def frees (T : List (List Int)) (w : Nat) : List Nat := (List.range w).filter fun p => !(T.map ld).contains p
def kst (W : Int) (f : Nat) (o : List Int) (t : List Int) : List Int := o.set (ld t) (-(W.fdiv (le0 t)) * co t f)
def k0 (W : Int) (w f : Nat) : List Int := (List.replicate w (0 : Int)).set f W
def kone (T : List (List Int)) (w f : Nat) : List Int := T.foldl (kst (whl T) f) (k0 (whl T) w f)
def kvs (T : List (List Int)) (w : Nat) : List (List Int) := (frees T w).map (kone T w)
structure KOk (T : List (List Int)) : Prop where
  c1 : ∀ A t B, T = A ++ t :: B → CDivQ (le0 t) (Nat.gcd (whl A).natAbs (le0 t).natAbs : Nat)
  m1 : ∀ A t B, T = A ++ t :: B → CMulW (whl A) ((le0 t).fdiv (Nat.gcd (whl A).natAbs (le0 t).natAbs : Nat))
  c2 : ∀ t ∈ T, CDivQ (whl T) (le0 t)
  m2 : ∀ t ∈ T, ∀ f, CMulW (-((whl T).fdiv (le0 t))) (co t f)
  m3 : ∀ t ∈ T, ∀ f, CMulW (whl T) (co t f)
  c3 : ∀ t ∈ T, ∀ f, CDivQ (whl T * co t f) (le0 t)
structure Kv (n : Nat) (T : List (List Int)) : Prop where
  free : ∀ f ∈ frees T n, ∀ g ∈ frees T n, co (kone T n f) g = if g = f then whl T else 0
  dot : ∀ f ∈ frees T n, ∀ t ∈ T, S n (fun j => co (kone T n f) j * co t j) = 0
  nz : whl T ≠ 0
  bd : ∀ B, (∀ t ∈ T, ∀ j, (co t j).natAbs ≤ B) → 1 ≤ B → ∀ f ∈ frees T n, ∀ j, (co (kone T n f) j).natAbs ≤ B ^ (T.length + 1)
theorem Told.nodup {w M : Nat} {rows T : List (List Int)} (h : Told w M rows T) : (T.map ld).Nodup := by
  unfold List.Nodup
  rw [List.pairwise_iff_getElem]
  intro i j hi hj hij e
  rw [List.length_map] at hi hj
  rw [List.getElem_map, List.getElem_map] at e
  have hz := h.z i j hi hj (by omega)
  have g : ∀ k, (hk : k < T.length) → T.getD k [] = T[k] := fun k hk => by rw [List.getD_eq_getElem?_getD, List.getElem?_eq_getElem hk]; rfl
  unfold row at hz
  rw [g i hi, g j hj, e] at hz
  exact h.nz _ (List.getElem_mem hj) hz
theorem Told.split {w M : Nat} {rows T : List (List Int)} (h : Told w M rows T) {t : List Int} (ht : t ∈ T) : ∃ A C, T = A ++ t :: C ∧ (∀ u ∈ C, ld u ≠ ld t) ∧ ∀ u ∈ T, u ≠ t → co t (ld u) = 0 := by
  obtain ⟨i, hi, e⟩ := List.mem_iff_getElem.mp ht
  have g : ∀ k, (hk : k < T.length) → T.getD k [] = T[k] := fun k hk => by rw [List.getD_eq_getElem?_getD, List.getElem?_eq_getElem hk]; rfl
  obtain ⟨A, C, es⟩ := List.append_of_mem ht
  refine ⟨A, C, es, fun u hu eq => ?_, fun u hu ne => ?_⟩
  · have nd := h.nodup
    rw [es, List.map_append, List.map_cons] at nd
    have := (List.nodup_append.mp nd).2.1
    exact (List.nodup_cons.mp this).1 (List.mem_map.mpr ⟨u, hu, eq⟩)
  · obtain ⟨k, hk, e2⟩ := List.mem_iff_getElem.mp hu
    have hki : i ≠ k := fun z => by
      subst z
      exact ne (e2.symm.trans e)
    have hz := h.z k i hk hi hki
    unfold row at hz
    rw [g k hk, g i hi, e, e2] at hz
    exact hz
end K83

set_option Elab.async false
set_option linter.all false
set_option maxRecDepth 100000
set_option maxHeartbeats 2000000
set_option exponentiation.threshold 10000
/-! levels: acting is a sum of products with the level entries -/
namespace K83
open PySem PySem.Spec PyProof.Rows L2 FDivQ LA
def dotn (r c : List Int) (i : Nat) : List Int := tb i fun k => co r k * co c k
def dot (r c : List Int) : Int := (dotn r c r.length).sum
def fc : Nat → Nat
  | 0 => 1
  | n + 1 => (n + 1) * fc n
theorem S_ext {f : Nat → Int} {n : Nat} : ∀ {N : Nat}, n ≤ N → (∀ i, n ≤ i → f i = 0) → S N f = S n f
  | 0, h, _ => by
    have : n = 0 := by omega
    rw [this]
  | N + 1, h, hz => by
    by_cases c : n = N + 1
    · rw [c]
    · show S N f + f N = _
      rw [hz N (by omega), Int.add_zero, S_ext (by omega) hz]
theorem S_head (f : Nat → Int) (n : Nat) : S (n + 1) f = f 0 + S n fun i => f (i + 1) := by
  rw [S_skip f 0 n (Nat.zero_le _)]
  rfl
theorem conv_aux {m : List Int} : ∀ (l : List Int) (g : Nat → Int) (N : Nat), l.length + m.length ≤ N + 1 → S N (fun c => cv l (co m) c * g c) = S l.length fun a => co l a * S m.length fun b => co m b * g (a + b)
  | [], g, N, _ => by
    rw [S_zero fun i _ => by rw [cv_nil, Int.zero_mul]]
    rfl
  | x :: xs, g, N, h => by
    have hm : m.length ≤ N := by rw [List.length_cons] at h; omega
    have e1 : S m.length (fun b => co m b * g (0 + b)) = S N fun b => co m b * g b := by
      rw [S_ext (f := fun b => co m b * g b) hm fun i hi => by rw [co_far hi, Int.zero_mul]]
      exact S_congr fun b _ => by rw [Nat.zero_add]
    rw [List.length_cons, S_head]
    show _ = x * _ + S xs.length fun i => co xs i * S m.length fun b => co m b * g (i + 1 + b)
    rw [e1, ← S_mul]
    have e2 : (S xs.length fun i => co xs i * S m.length fun b => co m b * g (i + 1 + b)) = S xs.length fun i => co xs i * S m.length fun b => co m b * (fun c => g (c + 1)) (i + b) := S_congr fun i _ => by
      congr 1
      exact S_congr fun b _ => by
        show co m b * g (i + 1 + b) = co m b * g (i + b + 1)
        congr 2
        omega
    rw [e2]
    cases N with
    | zero =>
      rw [List.length_cons] at h
      have hx : xs = [] := List.eq_nil_of_length_eq_zero (by omega)
      subst hx
      rfl
    | succ N =>
      rw [← conv_aux xs (fun c => g (c + 1)) N (by rw [List.length_cons] at h; omega), S_head, S_head, cv_zero]
      have e3 : (S N fun i => cv (x :: xs) (co m) (i + 1) * g (i + 1)) = S N (fun i => x * (co m (i + 1) * g (i + 1))) + S N fun c => cv xs (co m) c * (fun c => g (c + 1)) c := by
        rw [← S_add]
        exact S_congr fun i _ => by rw [cv_succ, Int.add_mul, Int.mul_assoc]
      rw [e3, ← Int.mul_assoc, Int.add_assoc]
theorem conv {l m : List Int} (hm : m ≠ []) (g : Nat → Int) : S (ml l m).length (fun c => co (ml l m) c * g c) = S l.length fun a => co l a * S m.length fun b => co m b * g (a + b) := by
  rw [← conv_aux l g (ml l m).length (by rw [ml_len]; omega)]
  exact S_congr fun c _ => by rw [co_ml hm]
end K83

set_option Elab.async false
set_option linter.all false
set_option maxRecDepth 100000
set_option maxHeartbeats 2000000
set_option exponentiation.threshold 10000
/-! killers: kernels of level tables -/
namespace K83
open PySem PySem.Spec PyProof.Rows L2 FDivQ LA
def kern (rows : List (List Int)) (n : Nat) : List (List Int) := ech less (kvs (ech less rows n) n) n
/-- all of a kernel -/
structure KA (rows : List (List Int)) (w : Nat) : Prop where
  e : EOk less rows w
  t : ∀ t ∈ ech less rows w, t.length = w ∧ ld t < w
  k : KOk (ech less rows w)
  e2 : EOk less (kvs (ech less rows w) w) w
  len : ∀ k ∈ kern rows w, k.length = w
  dot : ∀ k ∈ kern rows w, ∀ r ∈ rows, S w (fun j => co k j * co r j) = 0
  bd : ∀ k ∈ kern rows w, ∀ j, (co k j).natAbs < 2 ^ 1500
  cnt : (kern rows w).length ≤ w
  sh : w ≤ 4 → ∀ k ∈ kern rows w, ∀ j, (co k j).natAbs < 10 ^ 60
end K83

set_option Elab.async false
set_option linter.all false
set_option maxRecDepth 100000
set_option maxHeartbeats 4000000
set_option exponentiation.threshold 10000
namespace K83
open PySem PySem.Spec PyProof.Rows L2 StX RZ MyR SlX OwnR OwnF EnumT GxR GenNx FDivQ
section
variable {P : Program} {w : World} {K : PySem.W.Frag} {mg : Str → Option Value} {base : Heap} {Ps : List Addr}
end
end K83

set_option Elab.async false
set_option linter.all false
set_option maxRecDepth 100000
set_option maxHeartbeats 4000000
set_option exponentiation.threshold 10000
/-! walks: level entries and level rows -/
namespace K83
open PySem PySem.Spec PyProof.Rows L2 StX RZ MyR SlX OwnR OwnF EnumT GxR GenNx FDivQ LA
theorem RT.same {H H' : Hp} {as : List Addr} {rs : List (List Int)} (h : RT H as rs) (s : Same H H') : RT H' as rs := RX.imp (fun a r e => s _ _ e) h
theorem RT.updL {H : Hp} {D : Addr} {o : HO} {xs : List V} {as : List Addr} {rs : List (List Int)} (h : RT H as rs) (hD : H D = some (.lst xs)) : RT (L2.upd H D o) as rs :=
  RX.imp (fun a r e => by rw [upd_ne (fun z => by rw [z, hD] at e; cases e)]; exact e) h
/-- a comprehension over a list of rows that makes a row of each -/
theorem lc_rowsT {K : PySem.W.Frag} {a : Addr} {fs : List Addr} {R : List (List Int)} {f : List Int → List Int} {te : TE} {σ : L2.St} {k : Nat} {H1 : Hp} {D : Addr} {Qd : Hp → Prop} (hD : H1 D = none) (ha : H1 a = some (.lst (fs.map V.ref))) (hR : RR H1 fs R) (hl : R.length ≤ 100)
    (hw : ∀ x, wipe ((wipe σ [k]).set k (some x)) [k] = wipe σ [k])
    (hte : ∀ (ad : Addr) (r : List Int) (H2 : Hp) (Q : VK), r ∈ R → Same H1 H2 → H2 ad = some (ls r) → (∀ q H3, Same H2 H3 → H3 q = some (tp (f r)) → Q (.ref q) H3) → te ((wipe σ [k]).set k (some (.ref ad))) H2 Q)
    (hd : ∀ bs H6, Same H1 H6 → H6 D = some (.lst (bs.map V.ref)) → RT H6 bs (R.map f) → Qd H6) :
    ∃ W : Nat → Nat → Hp → Prop, (∃ m, W 0 m (upd H1 D (.lst []))) ∧ ∀ i m H, W i m H →
      ((Itl K a).stop i H ∧ Qd H) ∨ ((Itl K a).go i H ∧ ∃ Nx : Hp → Prop, (∀ H', Nx H' → ∃ m', m' < m ∧ W (i + 1) m' H') ∧ ∀ x H', (Itl K a).yld i H x H' → gName k x (wipe σ [k]) H' fun σ2 H2 => wipe σ2 [k] = wipe σ [k] ∧ tYes σ2 H2 fun b H3 =>
        if b = true then te σ2 H3 fun y H4 => ∃ acc, H4 D = some (.lst acc) ∧ acc.length < sizeLine ∧ Nx (upd H4 D (.lst (acc ++ [y]))) else Nx H3) := by
  refine lc_list (xs := fs.map V.ref) (fun j H' => ∃ bs, Same H1 H' ∧ H' D = some (.lst (bs.map V.ref)) ∧ bs.length = j ∧ RT H' bs ((R.take j).map f)) ⟨[], same_upd0 hD, upd_same, rfl, True.intro⟩ (fun j H' _ hP => SqL.of (hP.choose_spec.1 _ _ ha)) (fun j x H' hx hP => ?_) (fun H' hP => ?_)
  · obtain ⟨bs, s1, h1, h2, h3⟩ := hP
    rw [List.getElem?_map] at hx
    obtain ⟨ad, had, rfl⟩ := Option.map_eq_some_iff.mp hx
    obtain ⟨ad', r, e1, e2, e3⟩ := RX.get hR (by rw [← hR.len]; exact (List.getElem?_eq_some_iff.mp had).1)
    rw [had] at e1
    cases e1
    have hj : j < R.length := (List.getElem?_eq_some_iff.mp e2).1
    refine ⟨hw _, ?_⟩
    show te _ _ _
    refine hte ad r H' _ (List.mem_of_getElem? e2) s1 (s1 _ _ e3) fun q H3 s3 e4 => ⟨bs.map V.ref, s3 _ _ h1, ?_, bs ++ [q], fun b o e => ?_, ?_, ?_, ?_⟩
    · rw [List.length_map, h2]
      exact small1000 (by omega)
    · rw [upd_ne (ne_of_none e hD)]
      exact s3 _ _ (s1 _ _ e)
    · rw [upd_same, List.map_append]
      rfl
    · rw [List.length_append, h2]
      rfl
    · rw [List.take_add_one, e2, List.map_append]
      refine RX.snoc (RT.updL (RT.same h3 s3) (s3 _ _ h1)) ?_
      show upd H3 D _ q = _
      by_cases hq : q = D
      · rw [hq, s3 _ _ h1] at e4
        cases e4
      · rw [upd_ne hq]
        exact e4
  · obtain ⟨bs, s1, h1, h2, h3⟩ := hP
    rw [List.length_map, hR.len, List.take_length] at h3
    exact hd bs H' s1 h1 h3
/-- at t a tuple of tuples of ints -/
def Tl2 (H : Hp) (t : Addr) (rows : List (List Int)) : Prop := ∃ as : List Addr, H t = some (.tup (as.map V.ref)) ∧ RT H as rows
theorem Tl2.same {H H' : Hp} {t : Addr} {rows : List (List Int)} (h : Tl2 H t rows) (s : Same H H') : Tl2 H' t rows := by
  obtain ⟨as, h1, h2⟩ := h
  exact ⟨as, s _ _ h1, h2.same s⟩
theorem RT.sts {Ps : List Addr} {H H' : Hp} {as : List Addr} {rs : List (List Int)} (h : RT H as rs) (s : Sts Ps H H') (g : Tg Ps H) : RT H' as rs := RX.imp (fun a r e => s.tup g e) h
theorem Tl2.sts {Ps : List Addr} {H H' : Hp} {t : Addr} {rows : List (List Int)} (h : Tl2 H t rows) (s : Sts Ps H H') (g : Tg Ps H) : Tl2 H' t rows := by
  obtain ⟨as, h1, h2⟩ := h
  exact ⟨as, s.tup g h1, h2.sts s g⟩
theorem atI_last {xs : List Int} {n : Nat} (h : xs.length = n + 1) : atI (xs.map V.int) (-1) = some (.int (co xs n)) := by
  have e : ixN (xs.map V.int).length (-1) = some n := by
    unfold ixN
    rw [List.length_map, if_neg (by decide), if_pos (by omega)]
    congr 1
    omega
  unfold atI
  rw [e]
  exact get_int (by omega)
/-- forms that levels are asked of -/
structure Lw (l : List Int) : Prop where
  l1 : 1 ≤ l.length
  l8 : l.length ≤ 9
  sm : ∀ x ∈ l, x.natAbs < 2 ^ 3900
section
variable {P : Program} {w : World} {K : PySem.W.Frag} {mg : Str → Option Value} {base : Heap} {Ps : List Addr}
end
end K83

set_option Elab.async false
set_option linter.all false
set_option maxRecDepth 100000
set_option maxHeartbeats 4000000
set_option exponentiation.threshold 10000
namespace K83
open PySem PySem.Spec PyProof.Rows L2 StX RZ MyR SlX OwnR OwnF EnumT GxR GenNx FDivQ LA
theorem gl_cont : ∀ (l : List Int), cont l = gl l := fun l => by
  have key : ∀ n, n ≤ l.length → cont (l.take n) = gl (l.take n) := fun n => by
    induction n with
    | zero => exact fun _ => rfl
    | succ n ih =>
      intro h
      rw [take_snoc (by omega), cont_snoc, ih (by omega)]
      unfold gl
      rw [List.foldl_append]
      rfl
  have := key l.length (Nat.le_refl _)
  rw [List.take_length] at this
  exact this
section
variable {P : Program} {w : World} {K : PySem.W.Frag} {mg : Str → Option Value} {base : Heap} {Ps : List Addr}
def spLLess : Sp := fun vs H Q _ => ∃ (a b : Addr) (row head : List Int) (p : Nat), vs = [.ref a, .ref b, .int p] ∧ H a = some (ls row) ∧ H b = some (ls head) ∧ row.length = head.length ∧ row.length ≤ 100 ∧ p < row.length ∧ LessOk row head p ∧ ∀ q H', Same H H' → H' q = some (ls (lless row head p)) → Q (.ref q) H'
theorem ok_law_sharedG (T : Facts K mg) : FnOk P w K mg base CX0 2 T.f_law_shared T.fd_law_shared ["_law_numbers"] (spSharedS K) := (ok_law_sharedC T).imp fun vs H Q E h => by
  obtain ⟨t, ns, rfl, ht, q⟩ := h
  rw [← gl_cont] at q
  exact ⟨t, ns, rfl, ht, q⟩
theorem ok_law_less (T : Facts K mg) : FnOk P w K mg base CX0 3 T.f_law_less T.fd_law_less ["_law_row", "_law_head", "_law_place"] spLLess := by
  have G_law_shared : FnOk P w K mg base CX0 2 T.f_law_shared T.fd_law_shared ["_law_numbers"] (spSharedS K) := ok_law_sharedG T
  have G_law_gcd : FnOk P w K mg base CX0 1 T.f_law_gcd T.fd_law_gcd ["_law_one", "_law_other"] spLGcd := ok_law_gcd T
  refine T.F_law_less.ok sc_law_less (fun vs H Q E h => ?_) (fun cdv A outer s H vs Q E hr h => ?_)
  · obtain ⟨a, b, row, head, p, rfl, _⟩ := h
    rfl
  · obtain ⟨a, b, row, head, p, rfl, ha, hb, hl, hl1, hp, k, q⟩ := h
    refine ⟨_, (PSs.nox (pss_cons (ps_asg (pe_tup (pa_cons (pe_ix ix_list (pv 1) (pv 2) (fun _ _ => rfl)) (pa_cons (pe_ix ix_list (pv 0) (pv 2) (fun _ _ => rfl)) pa_nil))) (pg_tup (by rfl) (pgs_cons (pg_name (i := 3) sc_law_less.nd rfl (.inr rfl)) (pgs_cons (pg_name (i := 4) sc_law_less.nd rfl (.inr rfl)) pgs_nil))))
    (pss_cons (ps_set (i := 5) sc_law_less.nd rfl (.inr rfl) (pe_call G_law_gcd (hr.mono (by decide)) (by rfl) T.g_law_gcd T.F_law_gcd.kp T.b_law_gcd .nil pass0 (pa_cons (pv 3) (pa_cons (pv 4) pa_nil))))
    (pss_cons (ps_setLc (i := 6) (own := [("_law_entry", 7), ("_law_taken", 8)]) (g := (gTup K 2 (gCons (gName 7) (gCons (gName 8) gNil)))) (tt := tYes) rfl sc_law_less.nd rfl rfl (sw_true rfl rfl rfl (by decide +kernel)) (pi_zipA (by rfl) T.z_zip (pa_cons (pv 0) (pa_cons (pv 1) pa_nil))) (blkOk_by (N := N_law_less) (sc := defScope s_law_less) (by decide +kernel)) (fun _ _ _ _ _ => (pg_tup (by rfl) (pgs_cons (pg_name (i := 7) sc_law_less.nd rfl (.inl rfl)) (pgs_cons (pg_name (i := 8) sc_law_less.nd rfl (.inl rfl)) pgs_nil)))) (fun _ _ _ _ _ => pts_nil) (fun _ _ _ _ _ => (pe_op op_sub (pe_op op_mulW (pv 7) (pe_op FDivQ.op_fdivQ (pv 3) (pv 5))) (pe_op op_mulW (pe_op FDivQ.op_fdivQ (pv 4) (pv 5)) (pv 8)))))
    (pss_cons (ps_set (i := 9) sc_law_less.nd rfl (.inr rfl) (pe_call G_law_shared hr (by rfl) T.g_law_shared T.F_law_shared.kp T.b_law_shared .nil pass0 (pa_cons (pv 6) pa_nil)))
    (pss_one (ps_ret (pe_ifExp (pt_cmpR op_gt (pv 9) pe_int (nomark _)) (pe_lc (own := [("_law_entry", 7)]) (g := (gName 7)) (tt := tYes) (by rfl) sc_law_less.nd (pi_list (pv 6)) (blkOk_by (N := N_law_less) (sc := defScope s_law_less) (by decide +kernel)) (fun _ _ _ _ _ => (pg_name (i := 7) sc_law_less.nd rfl (.inl rfl))) (fun _ _ _ _ _ => pts_nil) (fun _ _ _ _ _ => (pe_op FDivQ.op_fdivQ (pv 7) (pv 9)))) (pv 6))))))))), ?_⟩
    refine ⟨_, rfl, _, rfl, b, _, p, .int (co head p), rfl, rfl, SqL.of hb, atI_nat (get_int (by omega)), _, rfl, _, rfl, a, _, p, .int (co row p), rfl, rfl, SqL.of ha, atI_nat (get_int hp), sz2, fun t1 n1 => ?_⟩
    refine ⟨t1, _, rfl, SqT.of upd_same, rfl, _, _, rfl, _, _, rfl, rfl, ?_⟩
    have s2 := same_upd0 (o := .tup [.int (co head p), .int (co row p)]) n1
    generalize upd H t1 (.tup [.int (co head p), .int (co row p)]) = H2 at s2 ⊢
    refine ⟨_, rfl, _, rfl, _, _, rfl, ?_⟩
    have m1 := k.m1
    have m2 := k.m2
    have dd := k.d
    have c1 := k.c1
    have c2 := k.c2
    have el : lless row head p = if 1 < gl (lf row head p) then dv (lf row head p) (gl (lf row head p)) else lf row head p := rfl
    have ef : lf row head p = tb row.length fun k => co row k * (co head p).fdiv (Nat.gcd (co head p).natAbs (co row p).natAbs : Nat) - (co row p).fdiv (Nat.gcd (co head p).natAbs (co row p).natAbs : Nat) * co head k := rfl
    rw [el] at q
    clear k el
    generalize lf row head p = f at ef q dd
    refine ⟨_, rfl, _, rfl, a, b, _, _, rfl, .inl ⟨SqL.of (s2 _ _ ha), SqL.of (s2 _ _ hb), fun D hD => ?_⟩⟩
    refine lc_zipL (xs := row.map V.int) (ys := head.map V.int) (by rw [List.length_map, List.length_map, hl]) (fun j H' => Same H2 H' ∧ H' D = some (.lst (tab j fun k => co row k * (co head p).fdiv (Nat.gcd (co head p).natAbs (co row p).natAbs : Nat) - (co row p).fdiv (Nat.gcd (co head p).natAbs (co row p).natAbs : Nat) * co head k))) ⟨same_upd0 hD, upd_same⟩ (fun j H' _ hP => ⟨SqL.of (hP.1 _ _ (s2 _ _ ha)), SqL.of (hP.1 _ _ (s2 _ _ hb))⟩) (fun j x y A H' hx hy hP hA => ?_) (fun H' hP => ?_)
    · obtain ⟨sH, hD'⟩ := hP
      obtain ⟨hj, rfl⟩ := int_get hx
      obtain ⟨_, rfl⟩ := int_get hy
      have sA := same_upd0 (o := .tup [.int (co row j), .int (co head j)]) hA
      refine ⟨A, _, rfl, SqT.of upd_same, rfl, _, _, rfl, _, _, rfl, rfl, rfl, _, rfl, _, rfl, _, rfl, _, _, rfl, rfl, c1, _, _, rfl, rfl, m1 j hj, _, rfl, _, rfl, _, _, rfl, rfl, c2, _, rfl, _, _, rfl, rfl, m2 j hj, _, _, rfl, rfl, _, sA _ _ hD', ?_, fun b o e => ?_, ?_⟩
      · rw [tab_len]
        exact small1000 (by omega)
      · rw [upd_ne (ne_of_none e hD)]
        exact sA _ _ (sH _ _ e)
      · rw [upd_same, ← tab_snoc]
    · obtain ⟨s3, hL⟩ := hP
      rw [List.length_map, tab_tb, ← ef] at hL
      have hfl : f.length ≤ 100 := by rw [ef, tb_len]; exact hl1
      have s4 : Same H H' := fun b o e => s3 _ _ (s2 _ _ e)
      refine ⟨_, rfl, D, f, rfl, .inr (SqL.of hL), ?_⟩
      refine ⟨_, rfl, _, _, rfl, rfl, _, rfl, ?_⟩
      by_cases d : 1 < gl f
      · rw [decide_eq_true (show (1 : Int) < ((gl f : Nat) : Int) by omega)]
        rw [if_pos d] at q
        refine iteT ⟨_, rfl, D, rfl, ⟨_, SqL.of hL⟩, fun D2 hD2 => ?_⟩
        refine lc_list (xs := f.map V.int) (fun j H3 => H3 = upd H' D2 (.lst (tab j fun k => (co f k).fdiv (gl f)))) rfl (fun j H3 _ hP => ?_) (fun j x H3 hx hP => ?_) (fun H3 hP => ?_)
        · rw [hP]
          exact SqL.of (same_upd0 hD2 _ _ hL)
        · subst hP
          obtain ⟨hj, rfl⟩ := int_get hx
          refine ⟨rfl, _, rfl, _, rfl, _, _, rfl, rfl, dd (by omega) _ (co_memE hj), _, upd_same, ?_, ?_⟩
          · rw [tab_len]
            exact small1000 (by omega)
          · rw [upd_upd, ← tab_snoc]
        · subst hP
          rw [List.length_map]
          refine q D2 _ (fun b o e => same_upd0 hD2 _ _ (s4 _ _ e)) ?_
          rw [upd_same, tab_tb, dv_tb]
      · rw [decide_eq_false (show ¬ (1 : Int) < ((gl f : Nat) : Int) by omega)]
        rw [if_neg d] at q
        exact iteF ⟨_, rfl, q D H' s4 hL⟩
end
theorem gl_all0 : ∀ (l : List Int), (∀ x ∈ l, x = 0) → gl l = 0 := fun l h => by
  unfold gl
  induction l with
  | nil => rfl
  | cons x l ih =>
    rw [List.foldl_cons, h x List.mem_cons_self]
    exact ih fun y hy => h y (List.mem_cons_of_mem _ hy)
theorem foE_filter {l : List Int} (h : gl l ≠ 0) : ∃ r, l.filter (fun x => x != 0) = foE l :: r := by
  cases e : l.filter (fun x => x != 0) with
  | nil =>
    exfalso
    refine h (gl_all0 l fun x hx => ?_)
    have := List.filter_eq_nil_iff.mp e x hx
    simpa using this
  | cons y r =>
    refine ⟨r, ?_⟩
    have q : l.find? (· != 0) = some y := by
      rw [← List.head?_filter, e]
      rfl
    unfold foE
    rw [q]
    rfl
section
variable {P : Program} {w : World} {K : PySem.W.Frag} {mg : Str → Option Value} {base : Heap} {Ps : List Addr}
def spPlain : Sp := fun vs H Q _ => ∃ (t : Addr) (l : List Int), vs = [.ref t] ∧ H t = some (tp l) ∧ l.length ≤ 100 ∧ DivOk l ∧ ∀ p H', Same H H' → H' p = some (tp (primE l)) → Q (.ref p) H'
theorem ok_law_plainE (T : Facts K mg) : FnOk P w K mg base CX0 3 T.f_law_plain T.fd_law_plain ["_law_form_here"] spPlain := by
  have G_law_shared : FnOk P w K mg base CX0 2 T.f_law_shared T.fd_law_shared ["_law_numbers"] (spSharedS K) := ok_law_sharedG T
  refine T.F_law_plain.ok sc_law_plain (fun vs H Q E h => ?_) (fun cdv A outer s H vs Q E hr h => ?_)
  · obtain ⟨t, ns, rfl, _⟩ := h
    rfl
  · obtain ⟨t, ns, rfl, ht, hl, hdo, q⟩ := h
    refine ⟨_, (PSs.nox (pss_cons (ps_set (i := 1) sc_law_plain.nd rfl (.inr rfl) (pe_call G_law_shared hr (by rfl) T.g_law_shared T.F_law_shared.kp T.b_law_shared .nil pass0 (pa_cons (pv 0) pa_nil)))
    (pss_cons (ps_if (pt_cmpR op_eq (pv 1) pe_int (nomark _))
      (pss_one (ps_ret (pv 0)))
      pss_nil)
    (pss_cons (ps_set (i := 2) sc_law_plain.nd rfl (.inr rfl) (pe_ix ix_list (pe_lc (own := [("_law_entry", 3)]) (g := (gName 3)) (by rfl) sc_law_plain.nd (pi_tup (pv 0)) (blkOk_by (N := N_law_plain) (sc := defScope s_law_plain) (by decide +kernel)) (fun _ _ _ _ _ => (pg_name (i := 3) sc_law_plain.nd rfl (.inl rfl))) (fun _ _ _ _ _ => (pts_one (pt_cmpR op_ne (pv 3) pe_int (nomark _)))) (fun _ _ _ _ _ => (pv 3))) pe_int (fun _ _ => rfl)))
    (pss_one (ps_ret (pe_tupleOf (by rfl) T.z_tuple (pe_lc (own := [("_law_entry", 3)]) (g := (gName 3)) (tt := tYes) (by rfl) sc_law_plain.nd (pi_tup (pv 0)) (blkOk_by (N := N_law_plain) (sc := defScope s_law_plain) (by decide +kernel)) (fun _ _ _ _ _ => (pg_name (i := 3) sc_law_plain.nd rfl (.inl rfl))) (fun _ _ _ _ _ => pts_nil) (fun _ _ _ _ _ => (pe_op FDivQ.op_fdivQ (pv 3) (pe_ifExp (pt_cmpR op_gt (pv 2) pe_int (nomark _)) (pv 1) (pe_op op_sub pe_int (pv 1))))))))))))), ?_⟩
    refine ⟨_, rfl, t, ns, rfl, .inl (SqT.of ht), _, rfl, rfl, _, rfl, ?_⟩
    by_cases c : gl ns = 0
    · rw [decide_eq_true (show V.int ((gl ns : Nat) : Int) = V.int 0 by rw [c]; rfl)]
      refine iteT ⟨_, rfl, q t H (fun _ _ e => e) ?_⟩
      unfold primE
      rw [if_pos c]
      exact ht
    · rw [decide_eq_false fun z => c (Int.natCast_eq_zero.mp (V.int.inj z))]
      obtain ⟨r0, e1⟩ := foE_filter c
      refine iteF ⟨_, rfl, t, rfl, ⟨_, SqT.of ht⟩, fun D hD => lc_tup (xs := ns.map V.int) (fun j H' => Same H H' ∧ H' D = some (.lst (((ns.take j).filter (fun x => x != 0)).map V.int))) ⟨same_upd0 hD, upd_same⟩ (fun j H' _ hP => SqT.of (hP.1 _ _ ht)) (fun j x H' hx hP => ?_) (fun H1 hP => ?_)⟩
      · obtain ⟨sH, hL⟩ := hP
        obtain ⟨hj, rfl⟩ := int_get hx
        refine ⟨rfl, _, rfl, rfl, _, rfl, ?_⟩
        rw [take_snoc hj, List.filter_append]
        by_cases d : co ns j = 0
        · rw [decide_eq_true (show V.int (co ns j) = V.int 0 by rw [d])]
          refine iteF ⟨sH, ?_⟩
          rw [hL, List.filter_cons_of_neg (by rw [d]; decide), List.filter_nil, List.append_nil]
        · rw [decide_eq_false fun z => d (V.int.inj z)]
          refine iteT ⟨_, rfl, _, hL, ?_, fun b o e => ?_, ?_⟩
          · have h1 := List.length_filter_le (fun x => x != 0) (ns.take j)
            rw [List.length_take] at h1
            rw [List.length_map]
            exact small1000 (by omega)
          · rw [upd_ne (ne_of_none e hD)]
            exact sH _ _ e
          · rw [upd_same, List.filter_cons_of_pos (by simpa using d), List.filter_nil, List.map_append]
            rfl
      · obtain ⟨s1, hL⟩ := hP
        rw [List.length_map, List.take_length, e1] at hL
        refine ⟨D, _, _, .int (foE ns), rfl, rfl, SqL.of hL, atI_nat (j := 0) rfl, ?_⟩
        have ht1 := s1 _ _ ht
        have en : primE ns = dv ns (if 0 < foE ns then ((gl ns : Nat) : Int) else 0 - ((gl ns : Nat) : Int)) := by
          unfold primE
          rw [if_neg c, Int.zero_sub]
        refine ⟨_, rfl, t, rfl, ⟨_, SqT.of ht1⟩, fun D2 hD2 => lc_tup (xs := ns.map V.int) (fun j H' => H' = upd H1 D2 (.lst (tab j fun k => (co ns k).fdiv (if 0 < foE ns then ((gl ns : Nat) : Int) else 0 - ((gl ns : Nat) : Int))))) rfl (fun j H' _ hP => ?_) (fun j x H' hx hP => ?_) (fun H' hP => ?_)⟩
        · rw [hP]
          exact SqT.of (same_upd0 hD2 _ _ ht1)
        · subst hP
          obtain ⟨hj, rfl⟩ := int_get hx
          refine ⟨rfl, _, rfl, _, rfl, foE ns, 0, rfl, rfl, _, rfl, ?_⟩
          by_cases d : 0 < foE ns
          · rw [decide_eq_true d]
            refine iteT ⟨_, rfl, _, _, rfl, rfl, hdo c _ (co_memE hj), _, upd_same, ?_, ?_⟩
            · rw [tab_len]
              exact small1000 (by omega)
            · rw [upd_upd, ← tab_snoc, if_pos d]
          · rw [decide_eq_false d]
            refine iteF ⟨_, rfl, _, _, rfl, rfl, _, _, rfl, rfl, by rw [Int.zero_sub]; exact cdivQ_neg (hdo c _ (co_memE hj)), _, upd_same, ?_, ?_⟩
            · rw [tab_len]
              exact small1000 (by omega)
            · rw [upd_upd, ← tab_snoc, if_neg d]
        · subst hP
          rw [List.length_map, tab_tb, dv_tb]
          refine .inl ⟨D2, _, rfl, SqL.of upd_same, fun p hp2 => ?_⟩
          refine q p _ (fun b o e => same_upd0 hp2 _ _ (same_upd0 hD2 _ _ (s1 _ _ e))) ?_
          rw [upd_same, en]
end
theorem eS_lenL {rows : List (List Int)} {n : Nat} (h : ∀ r ∈ rows, r.length = n) : ∀ p, (∀ r ∈ (eS lless rows p).1, r.length = n) ∧ ∀ r ∈ (eS lless rows p).2, r.length = n
  | 0 => ⟨h, fun r hr => absurd hr List.not_mem_nil⟩
  | p + 1 => by
    obtain ⟨h1, h2⟩ := eS_lenL h p
    show (∀ r ∈ (stp lless p (eS lless rows p)).1, r.length = n) ∧ ∀ r ∈ (stp lless p (eS lless rows p)).2, r.length = n
    cases e : hix (eS lless rows p).1 p with
    | none =>
      rw [stp_none e]
      exact ⟨h1, h2⟩
    | some k =>
      rw [stp_some e]
      refine ⟨fun r hr => ?_, fun r hr => ?_⟩
      · obtain ⟨x, hx, rfl⟩ := List.mem_map.mp hr
        rw [lless_len]
        exact h1 x (List.mem_of_mem_eraseIdx hx)
      · rcases List.mem_append.mp hr with hr | hr
        · obtain ⟨x, hx, rfl⟩ := List.mem_map.mp hr
          rw [lless_len]
          exact h2 x hx
        · rw [List.mem_singleton.mp hr]
          obtain ⟨hk, _, _⟩ := List.findIdx?_eq_some_iff_getElem.mp e
          rw [List.getD_eq_getElem?_getD, List.getElem?_eq_getElem hk]
          exact h1 _ (List.getElem_mem hk)
section
variable {P : Program} {w : World} {K : PySem.W.Frag} {mg : Str → Option Value} {base : Heap} {Ps : List Addr}
def spLEch : Sp := fun vs H Q _ => ∃ (t : Addr) (as : List Addr) (rows : List (List Int)) (n : Nat), vs = [.ref t, .int n] ∧ (H t = some (.tup (as.map V.ref)) ∨ H t = some (.lst (as.map V.ref))) ∧ RA H as rows ∧ rows.length ≤ 100 ∧ n ≤ 100 ∧ (∀ r ∈ rows, r.length = n) ∧
  EOk lless rows n ∧ ∀ p bs H', Same H H' → H' p = some (.lst (bs.map V.ref)) → RT H' bs (ech lless rows n) → Q (.ref p) H'
theorem ok_law_cleared (T : Facts K mg) : FnOk P w K mg base CX0 4 T.f_law_cleared T.fd_law_cleared ["_law_rows", "_law_width"] spLEch := by
  have G_law_less : FnOk P w K mg base CX0 3 T.f_law_less T.fd_law_less ["_law_row", "_law_head", "_law_place"] spLLess := ok_law_less T
  have G_law_plain : FnOk P w K mg base CX0 3 T.f_law_plain T.fd_law_plain ["_law_form_here"] spPlain := ok_law_plainE T
  refine T.F_law_cleared.ok sc_law_cleared (fun vs H Q E h => ?_) (fun cdv A outer s H vs Q E hr h => ?_)
  · obtain ⟨t, as, rows, n, rfl, _⟩ := h
    rfl
  · obtain ⟨t, as, rows, n, rfl, hS, hA, hl, hn, hw, ok, q⟩ := h
    refine ⟨_, (PSs.nox (pss_cons (ps_par (i := 2) (j := 3) (by rfl) sc_law_cleared.nd rfl rfl (by decide) rfl rfl (pa_cons (pe_lc (own := [("_law_row", 4)]) (g := (gName 4)) (tt := tYes) (by rfl) sc_law_cleared.nd (SeqE.PI_or (pi_tup (pv 0)) (pi_list (pv 0))) (blkOk_by (N := N_law_cleared) (sc := defScope s_law_cleared) (by decide +kernel)) (fun _ _ _ _ _ => (pg_name (i := 4) sc_law_cleared.nd rfl (.inl rfl))) (fun _ _ _ _ _ => pts_nil) (fun _ _ _ _ _ => (pe_callTy (ListOf.call_list_ofK (by rfl) : CallR _ (.type "list") (ListOf.rListOf K)) (by rfl) T.z_list (by decide +kernel) (pa_cons (pv 4) pa_nil)))) (pa_cons (pe_lst pa_nil) pa_nil)) (by rfl))
    (pss_cons (ps_for PassesOwn.never (by rfl) (pi_range1 (by rfl) T.z_range (pa_cons (pv 1) pa_nil)) (pg_name (i := 5) sc_law_cleared.nd rfl (.inr rfl))
      (pss_cons (ps_setLc (i := 6) (own := [("_law_row", 4), ("_law_at", 7)]) (g := (gTup K 2 (gCons (gName 7) (gCons (gName 4) gNil)))) rfl sc_law_cleared.nd rfl rfl (sw_true rfl rfl rfl (by decide +kernel)) (pi_enum (by rfl) T.z_enumerate (pa_cons (pv 2) pa_nil)) (blkOk_by (N := N_law_cleared) (sc := defScope s_law_cleared) (by decide +kernel)) (fun _ _ _ _ _ => (pg_tup (by rfl) (pgs_cons (pg_name (i := 7) sc_law_cleared.nd rfl (.inl rfl)) (pgs_cons (pg_name (i := 4) sc_law_cleared.nd rfl (.inl rfl)) pgs_nil)))) (fun _ _ _ _ _ => (pts_one (pt_cmpR op_ne (pe_ix (ix_list : IxR _ (rIxL K)) (pv 4) (pv 5) (fun _ _ => rfl)) pe_int (nomark _)))) (fun _ _ _ _ _ => (pv 7)))
      (pss_one (ps_if (pt_cmpR (op_neD (hu64 hr)) (pv 6) (pe_lst pa_nil) (nomark _))
        (pss_cons (ps_set (i := 8) sc_law_cleared.nd rfl (.inr rfl) (pe_bm PySem.F.plainAttrs_list PySem.F.slot_list_pop PySem.F.type_list_pop mt_popAt (pv 2) (pa_cons (pe_ix ix_list (pv 6) pe_int (fun _ _ => rfl)) pa_nil)))
        (pss_cons (ps_set (i := 3) sc_law_cleared.nd rfl (.inl rfl) (pe_op op_cat (pe_lc (own := [("_law_row", 4)]) (g := (gName 4)) (tt := tYes) (by rfl) sc_law_cleared.nd (pi_list (pv 3)) (blkOk_by (N := N_law_cleared) (sc := defScope s_law_cleared) (by decide +kernel)) (fun _ _ _ _ _ => (pg_name (i := 4) sc_law_cleared.nd rfl (.inl rfl))) (fun _ _ _ _ _ => pts_nil) (fun _ _ _ _ _ => (pe_call G_law_less hr (by rfl) T.g_law_less T.F_law_less.kp T.b_law_less .nil pass0 (pa_cons (pv 4) (pa_cons (pv 8) (pa_cons (pv 5) pa_nil)))))) (pe_lst (pa_cons (pv 8) pa_nil))))
        (pss_one (ps_setLc (i := 2) (own := [("_law_row", 4)]) (g := (gName 4)) (tt := tYes) rfl sc_law_cleared.nd rfl rfl (sw_true rfl rfl rfl (by decide +kernel)) (pi_list (pv 2)) (blkOk_by (N := N_law_cleared) (sc := defScope s_law_cleared) (by decide +kernel)) (fun _ _ _ _ _ => (pg_name (i := 4) sc_law_cleared.nd rfl (.inl rfl))) (fun _ _ _ _ _ => pts_nil) (fun _ _ _ _ _ => (pe_call G_law_less hr (by rfl) T.g_law_less T.F_law_less.kp T.b_law_less .nil pass0 (pa_cons (pv 4) (pa_cons (pv 8) (pa_cons (pv 5) pa_nil)))))))))
        pss_nil))))
    (pss_one (ps_ret (pe_lc (own := [("_law_row", 4)]) (g := (gName 4)) (tt := tYes) (by rfl) sc_law_cleared.nd (pi_list (pv 3)) (blkOk_by (N := N_law_cleared) (sc := defScope s_law_cleared) (by decide +kernel)) (fun _ _ _ _ _ => (pg_name (i := 4) sc_law_cleared.nd rfl (.inl rfl))) (fun _ _ _ _ _ => pts_nil) (fun _ _ _ _ _ => (pe_call G_law_plain hr (by rfl) T.g_law_plain T.F_law_plain.kp T.b_law_plain .nil pass0 (pa_cons (pe_tupleOf (by rfl) T.z_tuple (pv 4) : PE _ _ (tThen _ (kTup K))) pa_nil))))))))), ?_⟩
    have step : ∀ (i : Nat) (x : V) (D : Addr) (H' : Hp), H D = none → (as.map V.ref)[i]? = some x → (∃ bs, Same H H' ∧ H' D = some (.lst (bs.map V.ref)) ∧ bs.length = i ∧ RR H' bs (rows.take i)) →
        ∃ a r, x = .ref a ∧ (H' a = some (ls r) ∨ H' a = some (tp r)) ∧ ∀ l, H' l = none → ∃ acc, (upd H' l (ls r)) D = some (.lst acc) ∧ acc.length < sizeLine ∧ ∃ bs, Same H (upd (upd H' l (ls r)) D (.lst (acc ++ [.ref l]))) ∧ (upd (upd H' l (ls r)) D (.lst (acc ++ [.ref l]))) D = some (.lst (bs.map V.ref)) ∧ bs.length = i + 1 ∧ RR (upd (upd H' l (ls r)) D (.lst (acc ++ [.ref l]))) bs (rows.take (i + 1)) := fun i x D H' hD hx hP => by
      obtain ⟨bs, s1, h1, h2, h3⟩ := hP
      rw [List.getElem?_map] at hx
      obtain ⟨a, ha, rfl⟩ := Option.map_eq_some_iff.mp hx
      have hi : i < rows.length := by
        rw [← hA.len]
        exact (List.getElem?_eq_some_iff.mp ha).1
      obtain ⟨a', r, e1, e2, k⟩ := RX.get hA hi
      rw [ha] at e1
      cases e1
      refine ⟨a, r, rfl, k.symm.imp (s1 _ _) (s1 _ _), fun l hl => ⟨bs.map V.ref, ?_, ?_, bs ++ [l], ?_, ?_, ?_, ?_⟩⟩
      · exact same_upd0 hl _ _ h1
      · rw [List.length_map, h2]
        exact small1000 (by omega)
      · intro b o e
        rw [upd_ne (ne_of_none e hD)]
        exact same_upd0 hl _ _ (s1 _ _ e)
      · rw [upd_same, List.map_append]
        rfl
      · rw [List.length_append, h2]
        rfl
      · have lD : l ≠ D := fun e => by
          rw [e, h1] at hl
          cases hl
        have hr2 : RR (upd H' l (ls r)) bs (rows.take i) := h3.same (same_upd0 hl)
        have et : rows.take (i + 1) = rows.take i ++ [r] := by
          rw [List.take_add_one, e2]
          rfl
        rw [et]
        refine RX.snoc (RR.upd hr2 (same_upd0 hl _ _ h1) fun z => z) ?_
        show upd (upd H' l (ls r)) D _ l = _
        rw [upd_ne lD]
        exact upd_same
    rcases hS with hS | hS
    case' inl =>
      refine .inl ⟨_, rfl, t, rfl, ⟨_, SqT.of hS⟩, fun D hD => ?_⟩
      refine lc_tup (xs := as.map V.ref) (fun j H' => ∃ bs, Same H H' ∧ H' D = some (.lst (bs.map V.ref)) ∧ bs.length = j ∧ RR H' bs (rows.take j)) ⟨[], same_upd0 hD, upd_same, rfl, True.intro⟩ (fun j H' _ hP => SqT.of (hP.choose_spec.1 _ _ hS)) (fun j x H' hx hP => by
        obtain ⟨a, r, rfl, k, f⟩ := step j x D H' hD hx hP
        exact ⟨rfl, _, rfl, a, r.map V.int, rfl, k.imp SqL.of SqT.of, fun l hl => f l hl⟩) (fun H1 hP => ?_)
    case' inr =>
      refine .inr ⟨_, rfl, t, rfl, ⟨_, SqL.of hS⟩, fun D hD => ?_⟩
      refine lc_list (xs := as.map V.ref) (fun j H' => ∃ bs, Same H H' ∧ H' D = some (.lst (bs.map V.ref)) ∧ bs.length = j ∧ RR H' bs (rows.take j)) ⟨[], same_upd0 hD, upd_same, rfl, True.intro⟩ (fun j H' _ hP => SqL.of (hP.choose_spec.1 _ _ hS)) (fun j x H' hx hP => by
        obtain ⟨a, r, rfl, k, f⟩ := step j x D H' hD hx hP
        exact ⟨rfl, _, rfl, a, r.map V.int, rfl, k.imp SqL.of SqT.of, fun l hl => f l hl⟩) (fun H1 hP => ?_)
    all_goals
      clear step
      obtain ⟨bs, s1, h1, h2, h3⟩ := hP
      rw [show rows.take ((as.map V.ref).length) = rows by rw [List.length_map, hA.len, List.take_length]] at h3
      have hbl := h3.len
      dsimp only [tCons, tLst, tNil]
      refine ⟨by decide, fun F hF => ⟨_, _, rfl, ?_⟩⟩
      have s2 : Same H (upd H1 F (.lst [])) := fun b o e => same_upd0 hF _ _ (s1 _ _ e)
      refine ⟨_, rfl, _, rfl, by omega, by omega, for_range (n := n) (fun i σ H' => ∃ L F ls' fs y4 y5 y6 y7 y8, σ = [some (.ref t), some (.int n), some (.ref L), some (.ref F), y4, y5, y6, y7, y8] ∧ Same H H' ∧ H L = none ∧ L ≠ F ∧ H' L = some (.lst (ls'.map V.ref)) ∧ H' F = some (.lst (fs.map V.ref)) ∧ RR H' ls' (eS lless rows i).1 ∧ RR H' fs (eS lless rows i).2) ⟨D, F, bs, [], none, none, none, none, none, rfl, s2, hD, (fun e => by rw [e, hF] at h1; cases h1), same_upd0 hF _ _ h1, upd_same, h3.same (same_upd0 hF), True.intro⟩ (fun i σ H' hi hP => ?_) (fun σ H' hP => ?_)⟩
      · obtain ⟨L, F, ls', fs, y4, y5, y6, y7, y8, rfl, sH, nL, nLF, eL, eF, rL, rF⟩ := hP
        rw [Int.zero_add]
        refine ⟨_, rfl, L, _, rfl, SqL.of eL, fun D2 hD2 => ?_⟩
        refine lc_enumL (xs := ls'.map V.ref) (fun j H3 => Same H' H3 ∧ H3 D2 = some (.lst ((((List.range j).filter fun k => co ((eS lless rows i).1.getD k []) i != 0).map fun (k : Nat) => (k : Int)).map V.int))) ⟨same_upd0 hD2, upd_same⟩ (fun j H3 _ hP => SqL.of (hP.1 _ _ eL)) (fun j x A H3 hx hP hA => ?_) (fun H3 hP => ?_)
        · obtain ⟨s3, hL⟩ := hP
          rw [List.getElem?_map] at hx
          obtain ⟨a, ha, rfl⟩ := Option.map_eq_some_iff.mp hx
          obtain ⟨a', r, e1, e2, k⟩ := RX.get rL (by rw [← rL.len]; exact (List.getElem?_eq_some_iff.mp ha).1)
          rw [ha] at e1
          cases e1
          have eg : (eS lless rows i).1.getD j [] = r := by rw [List.getD_eq_getElem?_getD, e2]; rfl
          have sA := same_upd0 (o := .tup [.int (j : Nat), .ref a]) hA
          have hri : i < r.length := by rw [(eS_lenL hw i).1 r (List.mem_of_getElem? e2)]; exact hi
          refine ⟨A, _, rfl, SqT.of upd_same, rfl, _, _, rfl, _, _, rfl, rfl, rfl, _, rfl, _, rfl, a, _, _, .int (co r i), rfl, rfl, SqL.of (sA _ _ (s3 _ _ k)), atI_nat (get_int hri), rfl, _, rfl, ?_⟩
          rw [List.range_succ, List.filter_append]
          by_cases d : co r i = 0
          · rw [decide_eq_true (show V.int (co r i) = V.int 0 by rw [d])]
            refine iteF ⟨fun b o e => sA _ _ (s3 _ _ e), ?_⟩
            rw [sA _ _ hL, List.filter_cons_of_neg (by rw [eg, d]; decide), List.filter_nil, List.append_nil]
          · rw [decide_eq_false fun z => d (V.int.inj z)]
            refine iteT ⟨_, rfl, _, sA _ _ hL, ?_, fun b o e => ?_, ?_⟩
            · rw [List.length_map, List.length_map]
              have hj : j < (eS lless rows i).1.length := (List.getElem?_eq_some_iff.mp e2).1
              have h1 := List.length_filter_le (fun k => co ((eS lless rows i).1.getD k []) i != 0) (List.range j)
              rw [List.length_range] at h1
              have := eS_cnt lless rows i
              exact small1000 (by omega)
            · rw [upd_ne (ne_of_none e hD2)]
              exact sA _ _ (s3 _ _ e)
            · rw [upd_same, List.filter_cons_of_pos (by rw [eg]; simpa using d), List.filter_nil, List.map_append, List.map_append]
              rfl
        · obtain ⟨s3, hL⟩ := hP
          rw [List.length_map, rL.len] at hL
          have hL : H3 D2 = some (.lst ((hds (eS lless rows i).1 i).map V.int)) := hL
          have s4 : Same H H3 := fun b o e => s3 _ _ (sH _ _ e)
          refine ⟨_, rfl, by decide, fun N hN => ne_lintsL (xs := hds (eS lless rows i).1 i) (ys := []) (SqL.of (same_upd0 hN _ _ hL)) (SqL.of upd_same) ⟨_, rfl, ?_⟩⟩
          have s5 : Same H (upd H3 N (.lst [])) := fun b o e => same_upd0 hN _ _ (s4 _ _ e)
          have s6 : Same H' (upd H3 N (.lst [])) := fun b o e => same_upd0 hN _ _ (s3 _ _ e)
          cases eh : hix (eS lless rows i).1 i with
          | none =>
            have e0 : hds (eS lless rows i).1 i = [] := by
              have q := hds_hix (eS lless rows i).1 i
              rw [eh] at q
              cases e1 : hds (eS lless rows i).1 i with
              | nil => rfl
              | cons y ys =>
                rw [e1] at q
                cases q
            rw [e0]
            refine iteF ⟨L, F, ls', fs, y4, some (.int i), some (.ref D2), y7, y8, rfl, s5, nL, nLF, s6 _ _ eL, s6 _ _ eF, ?_, ?_⟩
            · show RR _ ls' (stp lless i (eS lless rows i)).1
              rw [stp_none eh]
              exact rL.same s6
            · show RR _ fs (stp lless i (eS lless rows i)).2
              rw [stp_none eh]
              exact rF.same s6
          | some h =>
            have q := hds_hix (eS lless rows i).1 i
            rw [eh] at q
            have en : hds (eS lless rows i).1 i ≠ [] := fun z => by
              rw [z] at q
              cases q
            rw [decide_eq_false en]
            have hL2 := same_upd0 (o := .lst []) hN _ _ hL
            generalize upd H3 N (.lst []) = H4 at s5 s6 hL2 ⊢
            refine iteT ?_
            obtain ⟨hh, _, _⟩ := List.findIdx?_eq_some_iff_getElem.mp eh
            obtain ⟨ad, r, g1, g2, g3⟩ := RX.get rL hh
            have eg : (eS lless rows i).1.getD h [] = r := by rw [List.getD_eq_getElem?_getD, g2]; rfl
            have hll : h < (ls'.map V.ref).length := by
              rw [List.length_map]
              exact (List.getElem?_eq_some_iff.mp g1).1
            have hsm : (ls'.map V.ref).length ≤ 100 := by have := eS_cnt lless rows i; rw [List.length_map, rL.len]; omega
            have hsi : seqIndex? (h : Int) (ls'.map V.ref).length = some h := by
              unfold seqIndex?
              have n1 : ¬ ((h : Int) < 0) := by omega
              simp only [if_neg n1]
              rw [if_pos (by simp; simpa using hll)]
              rfl
            have q0 : ((hds (eS lless rows i).1 i).map V.int)[0]? = some (V.int (h : Nat)) := by
              rw [List.getElem?_map, q]
              rfl
            refine ⟨_, rfl, .inl ⟨rfl, _, SqL.of (s6 _ _ eL)⟩, _, rfl, D2, _, 0, .int (h : Nat), rfl, rfl, SqL.of hL2, atI_nat (j := 0) q0, L, _, (h : Nat), h, .ref ad, rfl, rfl, s6 _ _ eL, by omega, by omega, hsi, by rw [List.getElem?_map, g1]; rfl, ?_⟩
            have s7 : Same H (upd H4 L (.lst ((ls'.map V.ref).eraseIdx h))) := fun b o e => by
              rw [upd_ne (ne_of_none e nL)]
              exact s5 _ _ e
            have eL7 : (upd H4 L (.lst ((ls'.map V.ref).eraseIdx h))) L = some (.lst ((ls'.eraseIdx h).map V.ref)) := by
              rw [upd_same]
              rw [erase_map]
            have eF7 : (upd H4 L (.lst ((ls'.map V.ref).eraseIdx h))) F = some (.lst (fs.map V.ref)) := by
              rw [upd_ne (Ne.symm nLF)]
              exact s6 _ _ eF
            have hls : ls' ≠ [] := fun z => by
              rw [z] at hll
              exact absurd hll (Nat.not_lt_zero _)
            have rL7 : RR (upd H4 L (.lst ((ls'.map V.ref).eraseIdx h))) (ls'.eraseIdx h) ((eS lless rows i).1.eraseIdx h) := RX.erase h (RR.upd (rL.same s6) (s6 _ _ eL) fun _ => hls)
            have rF7 : RR (upd H4 L (.lst ((ls'.map V.ref).eraseIdx h))) fs (eS lless rows i).2 := RR.upd (rF.same s6) (s6 _ _ eL) fun _ => hls
            have g7 : (upd H4 L (.lst ((ls'.map V.ref).eraseIdx h))) ad = some (ls r) := by
              rw [upd_ne (row_ne (s6 _ _ g3) (s6 _ _ eL) hls)]
              exact s6 _ _ g3
            generalize upd H4 L (.lst ((ls'.map V.ref).eraseIdx h)) = H7 at s7 eL7 eF7 rL7 rF7 g7 ⊢
            have hok := ok.l i hi h eh
            rw [eg] at hok
            obtain ⟨n1, n2⟩ := eS_lenL hw i
            have hrl : r.length = n := n1 r (List.mem_of_getElem? g2)
            have hFl : (eS lless rows i).2.length ≤ 100 := by have := eS_cnt lless rows i; omega
            refine ⟨_, rfl, F, rfl, ⟨_, SqL.of eF7⟩, fun N2 hN2 => lc_rows (f := fun x => lless x r i) hN2 eF7 rF7 hFl (fun _ => rfl) (fun ad2 r2 H2 Q2 hr2 s8 e8 kq => ⟨_, rfl, _, rfl, _, rfl, ad2, ad, r2, r, i, rfl, e8, s8 _ _ g7, by rw [n2 r2 hr2, hrl], by rw [n2 r2 hr2]; exact hn, by rw [n2 r2 hr2]; exact hi, hok r2 (.inr hr2), kq⟩) (fun r2 hr2 z => ?_) (fun bs8 H8 s8 e8 r8 => ?_)⟩
            · have := lless_len r2 r i
              rw [z, n2 r2 hr2] at this
              have : 0 = n := this
              omega
            · refine ⟨_, rfl, (show 1 ≤ sizeLine by decide), fun N3 hN3 => ⟨N2, N3, bs8.map V.ref, [.ref ad], rfl, rfl, same_upd0 hN3 _ _ e8, upd_same, ?_, fun F2 hF2 => ?_⟩⟩
              · rw [List.length_map, r8.len, List.length_map]
                exact Nat.le_trans (Nat.add_le_add_right hFl 1) (by decide)
              have s8' : Same H7 (upd H8 N3 (.lst [.ref ad])) := fun b o e => same_upd0 hN3 _ _ (s8 _ _ e)
              have r8' := r8.same (same_upd0 (o := .lst [.ref ad]) hN3)
              generalize upd H8 N3 (.lst [.ref ad]) = H8' at s8' r8' hF2 ⊢
              have s9 : Same H7 (upd H8' F2 (.lst (bs8.map V.ref ++ [.ref ad]))) := fun b o e => same_upd0 hF2 _ _ (s8' _ _ e)
              have eF9 : (upd H8' F2 (.lst (bs8.map V.ref ++ [.ref ad]))) F2 = some (.lst ((bs8 ++ [ad]).map V.ref)) := by
                rw [upd_same, List.map_append]
                rfl
              have r9 : RR (upd H8' F2 (.lst (bs8.map V.ref ++ [.ref ad]))) (bs8 ++ [ad]) ((eS lless rows i).2.map (fun x => lless x r i) ++ [r]) := RX.snoc (r8'.same (same_upd0 hF2)) (s9 _ _ g7)
              generalize upd H8' F2 (.lst (bs8.map V.ref ++ [.ref ad])) = H9 at s9 eF9 r9 ⊢
              have hLl : ((eS lless rows i).1.eraseIdx h).length ≤ 100 := by have := eS_cnt lless rows i; rw [List.length_eraseIdx_of_lt hh]; omega
              refine ⟨_, rfl, L, rfl, ⟨_, SqL.of (s9 _ _ eL7)⟩, fun L2 hL2 => lc_rows (f := fun x => lless x r i) hL2 (s9 _ _ eL7) (rL7.same s9) hLl (fun _ => rfl) (fun ad2 r2 H2 Q2 hr2 s8 e8 kq => ⟨_, rfl, _, rfl, _, rfl, ad2, ad, r2, r, i, rfl, e8, s8 _ _ (s9 _ _ g7), by rw [n1 r2 (List.mem_of_mem_eraseIdx hr2), hrl], by rw [n1 r2 (List.mem_of_mem_eraseIdx hr2)]; exact hn, by rw [n1 r2 (List.mem_of_mem_eraseIdx hr2)]; exact hi, hok r2 (.inl hr2), kq⟩) (fun r2 hr2 z => ?_) (fun bsA HA sA eA rA => ?_)⟩
              · have := lless_len r2 r i
                rw [z, n1 r2 (List.mem_of_mem_eraseIdx hr2)] at this
                have : 0 = n := this
                omega
              · have nL2 : H L2 = none := by
                  cases e : H L2 with
                  | none => rfl
                  | some o =>
                    rw [s9 _ _ (s7 _ _ e)] at hL2
                    cases hL2
                refine ⟨L2, F2, bsA, bs8 ++ [ad], y4, some (.int i), some (.ref D2), y7, some (.ref ad), rfl, fun b o e => sA _ _ (s9 _ _ (s7 _ _ e)), nL2, fun e => ?_, eA, sA _ _ eF9, ?_, ?_⟩
                · rw [e, eF9] at hL2
                  cases hL2
                · show RR HA bsA (stp lless i (eS lless rows i)).1
                  rw [stp_some eh, eg]
                  exact rA
                · show RR HA (bs8 ++ [ad]) (stp lless i (eS lless rows i)).2
                  rw [stp_some eh, eg]
                  exact r9.same sA
      · obtain ⟨L, F, ls', fs, y4, y5, y6, y7, y8, rfl, sH, nL, nLF, eL, eF, rL, rF⟩ := hP
        have hFl : (eS lless rows n).2.length ≤ 100 := by have := eS_cnt lless rows n; omega
        have n2 := (eS_lenL hw n).2
        refine ⟨_, rfl, F, rfl, ⟨_, SqL.of eF⟩, fun D2 hD2 => lc_rowsT (f := primE) hD2 eF rF hFl (fun _ => rfl) (fun ad r H2 Q2 hr2 s8 e8 kq => ⟨_, rfl, .inl ⟨ad, _, rfl, SqL.of e8, fun p hp => ⟨p, r, rfl, upd_same, by rw [n2 r hr2]; exact hn, ok.d r hr2, fun q3 H3 s3 e3 => kq q3 H3 (fun b o e => s3 _ _ (same_upd0 hp _ _ e)) e3⟩⟩⟩) (fun bs8 H8 s8 e8 r8 => q D2 bs8 H8 (fun b o e => s8 _ _ (sH _ _ e)) e8 r8)⟩
end
section
variable {P : Program} {w : World} {K : PySem.W.Frag} {mg : Str → Option Value} {base : Heap} {Ps : List Addr}
def spRank (Ps : List Addr) : Sp := fun vs H Q _ => ∃ (t : Addr) (as : List Addr) (rows : List (List Int)) (n : Nat), vs = [.ref t, .int n] ∧ (H t = some (.tup (as.map V.ref)) ∨ H t = some (.lst (as.map V.ref))) ∧ RA H as rows ∧ rows.length ≤ 100 ∧ n ≤ 100 ∧ (∀ r ∈ rows, r.length = n) ∧
  EOk less rows n ∧ Tg Ps H ∧ ∀ H', Sts Ps H H' → Tg Ps H' → Q (.int ((ech less rows n).length : Nat)) H'
theorem ok_rank_of (T : Facts K mg) (TB_first_of : TabB base mg T.c_first_of T.P_first_of) (hP : T.P_first_of ∈ Ps) : FnOk P w K mg base CX0 4 T.f_rank_of T.fd_rank_of ["rows", "width"] (spRank Ps) := by
  have G_echelon_rows := ok_echelon_rows (P := P) (w := w) (base := base) T TB_first_of hP
  refine T.F_rank_of.ok sc_rank_of (fun vs H Q E h => ?_) (fun cdv A outer s H vs Q E hr h => ?_)
  · obtain ⟨t, as, rows, n, rfl, _⟩ := h
    rfl
  · obtain ⟨t, as, rows, n, rfl, hS, hA, hl, hn, hw, ok, hG, q⟩ := h
    refine ⟨_, (PSs.nox (pss_one (ps_ret (pe_callB call_len_seq (by rfl) T.z_len (by decide +kernel) (pa_cons (pe_call G_echelon_rows hr (by rfl) T.g_echelon_rows T.F_echelon_rows.kp T.b_echelon_rows .nil pass0 (pa_cons (pv 0) (pa_cons (pv 1) pa_nil))) pa_nil))))), ?_⟩
    refine ⟨_, rfl, _, rfl, t, as, rows, n, rfl, hS, hA, hl, hn, hw, ok, hG, fun p bs H1 s1 t1 e1 r1 => ⟨p, bs.map V.ref, rfl, .inl (SqL.of e1), ?_⟩⟩
    rw [List.length_map, r1.len]
    exact q H1 s1 t1
def spLRank : Sp := fun vs H Q _ => ∃ (t : Addr) (as : List Addr) (rows : List (List Int)) (n : Nat), vs = [.ref t, .int n] ∧ (H t = some (.tup (as.map V.ref)) ∨ H t = some (.lst (as.map V.ref))) ∧ RA H as rows ∧ rows.length ≤ 100 ∧ n ≤ 100 ∧ (∀ r ∈ rows, r.length = n) ∧
  EOk lless rows n ∧ ∀ H', Same H H' → Q (.int ((ech lless rows n).length : Nat)) H'
theorem ok_law_rank (T : Facts K mg) : FnOk P w K mg base CX0 5 T.f_law_rank T.fd_law_rank ["_law_rows", "_law_width"] spLRank := by
  have G_law_cleared := ok_law_cleared (P := P) (w := w) (base := base) T
  refine T.F_law_rank.ok sc_law_rank (fun vs H Q E h => ?_) (fun cdv A outer s H vs Q E hr h => ?_)
  · obtain ⟨t, as, rows, n, rfl, _⟩ := h
    rfl
  · obtain ⟨t, as, rows, n, rfl, hS, hA, hl, hn, hw, ok, q⟩ := h
    refine ⟨_, (PSs.nox (pss_one (ps_ret (pe_callB call_len_seq (by rfl) T.z_len (by decide +kernel) (pa_cons (pe_call G_law_cleared hr (by rfl) T.g_law_cleared T.F_law_cleared.kp T.b_law_cleared .nil pass0 (pa_cons (pv 0) (pa_cons (pv 1) pa_nil))) pa_nil))))), ?_⟩
    refine ⟨_, rfl, _, rfl, t, as, rows, n, rfl, hS, hA, hl, hn, hw, ok, fun p bs H1 s1 e1 r1 => ⟨p, bs.map V.ref, rfl, .inl (SqL.of e1), ?_⟩⟩
    rw [List.length_map, RX.len r1]
    exact q H1 s1
end
section
variable {P : Program} {w : World} {K : PySem.W.Frag} {mg : Str → Option Value} {base : Heap} {Ps : List Addr}
end
section
variable {P : Program} {w : World} {K : PySem.W.Frag} {mg : Str → Option Value} {base : Heap} {Ps : List Addr}
end
end K83

set_option Elab.async false
set_option linter.all false
set_option maxRecDepth 100000
/-! layings: three forms, powers -/
namespace K83
def fact : Nat → Int
  | 0 => 1
  | n + 1 => fact n * (n + 1)
end K83

set_option Elab.async false
set_option linter.all false
set_option maxRecDepth 100000
set_option maxHeartbeats 4000000
namespace K83
open PySem PySem.Spec PyProof.Rows L2 StX RZ MyR SlX OwnR OwnF EnumT
/-- a loop over enumerate of a list -/
theorem for_enum {K : PySem.W.Frag} {a : Addr} {xs : List V} {g : TG} {tb : TS} {D : Ends} {σ : L2.St} {H : Hp} (Pv : Nat → L2.St → Hp → Prop) (h0 : Pv 0 σ H) (hq : ∀ i σ H, Pv i σ H → SqL K H a xs)
    (hs : ∀ (i : Nat) (x : V) (T : Addr) (σ : L2.St) (H : Hp), xs[i]? = some x → Pv i σ H → H T = none → g (.ref T) σ (upd H T (.tup [.int (i : Nat), x])) fun σ2 H2 => tb { D with nx := Pv (i + 1), ct := Pv (i + 1), bk := D.nx } σ2 H2) (hd : ∀ σ H, Pv xs.length σ H → D.nx σ H) :
    ∃ W : Nat → Nat → L2.St → Hp → Prop, (∃ m, W 0 m σ H) ∧ ∀ i m σ H, W i m σ H →
      ((Ite K a).stop i H ∧ D.nx σ H) ∨ ((Ite K a).go i H ∧ ∃ N : L2.St → Hp → Prop, (∀ σ' H', N σ' H' → ∃ m', m' < m ∧ W (i + 1) m' σ' H') ∧ ∀ v H', (Ite K a).yld i H v H' → g v σ H' fun σ2 H2 => tb { D with nx := N, ct := N, bk := D.nx } σ2 H2) := by
  refine ⟨fun i m σ H => m = xs.length - i ∧ i ≤ xs.length ∧ Pv i σ H, ⟨xs.length, rfl, Nat.zero_le _, h0⟩, ?_⟩
  rintro i m σ H ⟨rfl, hi, p⟩
  have qx := hq i σ H p
  by_cases hlt : i < xs.length
  · have hx : xs[i]? = some xs[i] := List.getElem?_eq_getElem hlt
    refine .inr ⟨⟨xs, _, qx, hx⟩, Pv (i + 1), fun σ' H' p' => ⟨xs.length - (i + 1), by omega, rfl, hlt, p'⟩, fun v H' y => ?_⟩
    obtain ⟨T, x', rfl, hT, rfl, f1⟩ := y
    exact hs i x' T σ H (f1 xs qx) p hT
  · have e : i = xs.length := by omega
    subst e
    exact .inl ⟨⟨xs, qx, Nat.le_refl _⟩, hd σ H p⟩
/-- a comprehension over enumerate of a list -/
theorem lc_enum {K : PySem.W.Frag} {a : Addr} {xs : List V} {g : TG} {tt : TT} {te : TE} {vs : List Nat} {σ : L2.St} {H1 : Hp} {D : Addr} {Qd : Hp → Prop} (Pv : Nat → Hp → Prop) (h0 : Pv 0 (upd H1 D (.lst []))) (hq : ∀ i H, i ≤ xs.length → Pv i H → SqL K H a xs)
    (hs : ∀ (i : Nat) (x : V) (T : Addr) (H : Hp), xs[i]? = some x → Pv i H → H T = none → g (.ref T) (wipe σ vs) (upd H T (.tup [.int (i : Nat), x])) fun σ2 H2 => wipe σ2 vs = wipe σ vs ∧ tt σ2 H2 fun b H3 =>
      if b = true then te σ2 H3 fun y H4 => ∃ acc, H4 D = some (.lst acc) ∧ acc.length < sizeLine ∧ Pv (i + 1) (upd H4 D (.lst (acc ++ [y]))) else Pv (i + 1) H3) (hd : ∀ H, Pv xs.length H → Qd H) :
    ∃ W : Nat → Nat → Hp → Prop, (∃ m, W 0 m (upd H1 D (.lst []))) ∧ ∀ i m H, W i m H →
      ((Ite K a).stop i H ∧ Qd H) ∨ ((Ite K a).go i H ∧ ∃ Nx : Hp → Prop, (∀ H', Nx H' → ∃ m', m' < m ∧ W (i + 1) m' H') ∧ ∀ x H', (Ite K a).yld i H x H' → g x (wipe σ vs) H' fun σ2 H2 => wipe σ2 vs = wipe σ vs ∧ tt σ2 H2 fun b H3 =>
        if b = true then te σ2 H3 fun y H4 => ∃ acc, H4 D = some (.lst acc) ∧ acc.length < sizeLine ∧ Nx (upd H4 D (.lst (acc ++ [y]))) else Nx H3) := by
  refine ⟨fun i m H => m = xs.length - i ∧ i ≤ xs.length ∧ Pv i H, ⟨xs.length, by simp, Nat.zero_le _, h0⟩, ?_⟩
  rintro i m H ⟨rfl, hi, p⟩
  have qx := hq i H hi p
  by_cases hlt : i < xs.length
  · have hx : xs[i]? = some xs[i] := List.getElem?_eq_getElem hlt
    refine .inr ⟨⟨xs, _, qx, hx⟩, Pv (i + 1), fun H' p' => ⟨xs.length - (i + 1), by omega, rfl, hlt, p'⟩, fun v H' y => ?_⟩
    obtain ⟨T, x', rfl, hT, rfl, f1⟩ := y
    exact hs i x' T H (f1 xs qx) p hT
  · have e : i = xs.length := by omega
    subst e
    exact .inl ⟨⟨xs, qx, Nat.le_refl _⟩, hd H p⟩
/-- a list of ints -/
abbrev lp (ns : List Int) : HO := .lst (ns.map V.int)
theorem lcut_init {l : List Int} (h : 1 ≤ l.length) : HO.lst (cutV (l.map V.int) none (some (-1))) = lp (l.take (l.length - 1)) := by
  rw [cut_init _ (by rw [List.length_map]; exact h), ← List.map_take, List.length_map]
theorem lcut_tail {l : List Int} (h : 1 ≤ l.length) : HO.lst (cutV (l.map V.int) (some 1) none) = lp (l.drop 1) := by
  rw [cut_tail _ (by rw [List.length_map]; exact h), ← List.map_drop]
theorem ch_le : ∀ n k : Nat, ch n k ≤ 2 ^ n
  | n, 0 => by rw [ch_zero]; exact Nat.one_le_two_pow
  | 0, k + 1 => Nat.zero_le _
  | n + 1, k + 1 => by
    show ch n k + ch n (k + 1) ≤ _
    have h1 := ch_le n k
    have h2 := ch_le n (k + 1)
    rw [Nat.pow_succ]
    omega
section
variable {P : Program} {w : World} {K : PySem.W.Frag} {mg : Str → Option Value} {base : Heap}
def spLots : Sp := fun vs H Q _ => ∃ n k : Nat, vs = [.int n, .int k] ∧ k ≤ n ∧ n ≤ 50 ∧ Q (.int (ch n k)) H
theorem sm_ch {n k : Nat} (h : n ≤ 50) : sm ((ch n k : Nat) : Int) := by
  show ((ch n k : Nat) : Int).natAbs < _
  rw [Int.natAbs_natCast]
  exact Nat.lt_of_le_of_lt (ch_le n k) (Nat.pow_lt_pow_right (by decide) (by omega))
theorem ok_lots_of (T : Facts K mg) : FnOk P w K mg base CX0 1 T.f_lots_of T.fd_lots_of ["many", "few"] spLots := by
  refine T.F_lots_of.ok sc_lots_of (fun vs H Q E h => ?_) (fun cdv A outer s H vs Q E hr h => ?_)
  · obtain ⟨n, k, rfl, _⟩ := h
    rfl
  · obtain ⟨n, k, rfl, hk, hn, q⟩ := h
    refine ⟨_, (PSs.nox (pss_cons (ps_set (i := 2) sc_lots_of.nd rfl (.inl rfl) pe_int)
    (pss_cons (ps_for PassesOwn.never (by rfl) (pi_range1 (by rfl) T.z_range (pa_cons (pv 1) pa_nil)) (pg_name (i := 3) sc_lots_of.nd rfl (.inl rfl))
      (pss_one (ps_set (i := 2) sc_lots_of.nd rfl (.inl rfl) (pe_op op_fdivZ (pe_op op_mulW (pv 2) (pe_op op_sub (pv 0) (pv 3))) (pe_op op_add (pv 3) pe_int)))))
    (pss_one (ps_ret (pv 2)))))), ?_⟩
    refine ⟨_, rfl, k, rfl, by omega, by omega, for_range (n := (k : Int).toNat) (fun i σ H' => ∃ y3, σ = [some (.int n), some (.int k), some (.int (ch n i)), y3] ∧ H' = H) ⟨none, by rw [ch_zero]; rfl, rfl⟩ (fun i σ H' hi hP => ?_) (fun σ H' hP => ?_)⟩
    · obtain ⟨y3, rfl, rfl⟩ := hP
      have e := ch_mul n i
      have hi1 : (0 : Int) + (i : Int) + 1 ≠ 0 := by omega
      refine ⟨_, rfl, _, rfl, _, rfl, _, _, rfl, rfl, _, _, rfl, rfl, sm_mul (sm_ch hn) (Nat.lt_of_le_of_lt (show ((n : Int) - (0 + (i : Int))).natAbs ≤ 50 by omega) (Nat.lt_of_lt_of_le (show 50 < 2 ^ 7 by decide) (Nat.pow_le_pow_right (by decide) (by decide)))), _, rfl, _, _, rfl, rfl, _, _, rfl, rfl, ⟨hi1, Nat.lt_trans (PySem.Flt.log2_lt_of (k := 10) (by decide) (by show ((0 : Int) + (i : Int) + 1).natAbs < 2 ^ 10; omega)) (by decide)⟩, some (.int (0 + (i : Int))), ?_, rfl⟩
      have e2 : (((ch n i : Nat) : Int) * ((n : Int) - (0 + (i : Int)))).fdiv (0 + (i : Int) + 1) = ((ch n (i + 1) : Nat) : Int) := by
        rw [Int.zero_add, ← e, Int.mul_fdiv_cancel _ (by omega)]
      show [some (V.int n), some (V.int k), some (V.int ((((ch n i : Nat) : Int) * ((n : Int) - (0 + (i : Int)))).fdiv (0 + (i : Int) + 1))), _] = _
      rw [e2]
    · obtain ⟨y3, rfl, rfl⟩ := hP
      rw [Int.toNat_natCast]
      exact ⟨_, rfl, q⟩
def spSlope : Sp := fun vs H Q _ => ∃ (a : Addr) (m : List Int) (b : Bool), vs = [.ref a, .bl b] ∧ H a = some (lp m) ∧ 1 ≤ m.length ∧ m.length ≤ 100 ∧ (∀ z ∈ m, sm z) ∧ ∀ p H', Same H H' → H p = none → H' p = some (lp (if b = true then dY m else dX m)) → Q (.ref p) H'
theorem ok_laying_slope (T : Facts K mg) : FnOk P w K mg base CX0 1 T.f_laying_slope T.fd_laying_slope ["entries", "by_y"] spSlope := by
  refine T.F_laying_slope.ok sc_laying_slope (fun vs H Q E h => ?_) (fun cdv A outer s H vs Q E hr h => ?_)
  · obtain ⟨a, m, b, rfl, _⟩ := h
    rfl
  · obtain ⟨a, m, b, rfl, ha, h1, h2, sm1, q⟩ := h
    refine ⟨_, (PSs.nox (pss_cons (ps_if (pt_val (pv 1))
      (pss_one (ps_ret (pe_lc (own := [("at", 2), ("entry", 3)]) (g := (gTup K 2 (gCons (gName 2) (gCons (gName 3) gNil)))) (tt := tYes) (by rfl) sc_laying_slope.nd (pi_enum (by rfl) T.z_enumerate (pa_cons (pe_slice sl_list (pv 0) (po_some pe_int) po_none) pa_nil)) (blkOk_by (N := N_laying_slope) (sc := defScope s_laying_slope) (by decide +kernel)) (fun _ _ _ _ _ => (pg_tup (by rfl) (pgs_cons (pg_name (i := 2) sc_laying_slope.nd rfl (.inl rfl)) (pgs_cons (pg_name (i := 3) sc_laying_slope.nd rfl (.inl rfl)) pgs_nil)))) (fun _ _ _ _ _ => pts_nil) (fun _ _ _ _ _ => (pe_op op_mulW (pv 3) (pe_op op_add (pv 2) pe_int))))))
      pss_nil)
    (pss_one (ps_ret (pe_lc (own := [("at", 2), ("entry", 3)]) (g := (gTup K 2 (gCons (gName 2) (gCons (gName 3) gNil)))) (tt := tYes) (by rfl) sc_laying_slope.nd (pi_enum (by rfl) T.z_enumerate (pa_cons (pe_slice sl_list (pv 0) po_none (po_some (pe_un un_neg pe_int))) pa_nil)) (blkOk_by (N := N_laying_slope) (sc := defScope s_laying_slope) (by decide +kernel)) (fun _ _ _ _ _ => (pg_tup (by rfl) (pgs_cons (pg_name (i := 2) sc_laying_slope.nd rfl (.inl rfl)) (pgs_cons (pg_name (i := 3) sc_laying_slope.nd rfl (.inl rfl)) pgs_nil)))) (fun _ _ _ _ _ => pts_nil) (fun _ _ _ _ _ => (pe_op op_mulW (pv 3) (pe_op op_sub (pe_op op_sub (pe_callB (call_len_seq : CallR _ _ (Evl.rLenS K)) (by rfl) T.z_len (by decide +kernel) (pa_cons (pv 0) pa_nil)) pe_int) (pv 2))))))))), ?_⟩
    cases b with
    | true =>
      refine ⟨_, rfl, true, rfl, iteT ⟨_, rfl, 1, rfl, a, _, rfl, SqL.of ha, fun p np => ?_⟩⟩
      rw [lcut_tail (by omega)]
      refine gen_upd H p _ np fun H2 s2 f2 => ⟨p, _, rfl, SqL.of f2, fun D hD => lc_enum (xs := (m.drop 1).map V.int) (fun k H' => Same H2 H' ∧ H' D = some (.lst (tab k fun k => co m (k + 1) * ((k : Int) + 1)))) ⟨same_upd0 hD, upd_same⟩ (fun k H' _ hP => SqL.of (hP.1 _ _ f2)) (fun k x B H' hx hP hB => ?_) (fun H3 hP => ?_)⟩
      · obtain ⟨sH, hL⟩ := hP
        obtain ⟨hk, rfl⟩ := int_get hx
        rw [List.length_drop] at hk
        rw [co_drop1]
        refine gen_upd H' B _ hB fun H4 s4 f4 => ⟨B, _, rfl, SqT.of f4, rfl, _, _, rfl, _, _, rfl, rfl, rfl, ?_⟩
        refine ⟨_, rfl, _, rfl, _, _, rfl, rfl, _, _, rfl, rfl, sm_mul (sm_co sm1 (by omega)) (Nat.lt_of_le_of_lt (show ((k : Int) + 1).natAbs ≤ 100 by omega) (Nat.lt_of_lt_of_le (show 100 < 2 ^ 7 by decide) (Nat.pow_le_pow_right (by decide) (by decide)))), _, s4 _ _ hL, ?_, fun b o e => ?_, ?_⟩
        · rw [tab_len]
          exact small1000 (by omega)
        · rw [upd_ne (ne_of_none e hD)]
          exact s4 _ _ (sH _ _ e)
        · rw [upd_same, ← tab_snoc]
      · obtain ⟨sH, hL⟩ := hP
        rw [List.length_map, List.length_drop, tab_tb] at hL
        exact q D H3 (s2.trans sH) (Same.free s2 hD) hL
    | false =>
      refine ⟨_, rfl, false, rfl, iteF ⟨_, rfl, _, rfl, _, rfl, a, _, rfl, SqL.of ha, fun p np => ?_⟩⟩
      rw [lcut_init (by omega)]
      refine gen_upd H p _ np fun H2 s2 f2 => ⟨p, _, rfl, SqL.of f2, fun D hD => lc_enum (xs := (m.take (m.length - 1)).map V.int) (fun k H' => Same H2 H' ∧ H' D = some (.lst (tab k fun k => co m k * ((m.length : Int) - 1 - k)))) ⟨same_upd0 hD, upd_same⟩ (fun k H' _ hP => SqL.of (hP.1 _ _ f2)) (fun k x B H' hx hP hB => ?_) (fun H3 hP => ?_)⟩
      · obtain ⟨sH, hL⟩ := hP
        obtain ⟨hk, rfl⟩ := int_get hx
        rw [List.length_take] at hk
        rw [co_take (by omega)]
        refine gen_upd H' B _ hB fun H4 s4 f4 => ⟨B, _, rfl, SqT.of f4, rfl, _, _, rfl, _, _, rfl, rfl, rfl, ?_⟩
        have hfB := (s2.trans (sH.trans s4)) _ _ ha
        refine ⟨_, rfl, _, rfl, a, _, rfl, .inl (SqL.of hfB), ?_⟩
        rw [List.length_map]
        refine ⟨_, _, rfl, rfl, _, rfl, _, _, rfl, rfl, _, _, rfl, rfl, sm_mul (sm_co sm1 (by omega)) (Nat.lt_of_le_of_lt (show ((m.length : Int) - 1 - (k : Int)).natAbs ≤ 100 by omega) (Nat.lt_of_lt_of_le (show 100 < 2 ^ 7 by decide) (Nat.pow_le_pow_right (by decide) (by decide)))), _, s4 _ _ hL, ?_, fun b o e => ?_, ?_⟩
        · rw [tab_len]
          exact small1000 (by omega)
        · rw [upd_ne (ne_of_none e hD)]
          exact s4 _ _ (sH _ _ e)
        · rw [upd_same, ← tab_snoc]
      · obtain ⟨sH, hL⟩ := hP
        rw [List.length_map, List.length_take, Nat.min_eq_left (by omega), tab_tb] at hL
        exact q D H3 (s2.trans sH) (Same.free s2 hD) hL
end
end K83

set_option Elab.async false
set_option linter.all false
set_option maxRecDepth 100000
set_option maxHeartbeats 4000000
namespace K83
open PySem PySem.Spec PyProof.Rows L2 StX RZ MyR SlX OwnR OwnF EnumT
theorem dX_itY (l : List Int) : ∀ j, dX (it dY j l) = it dY j (dX l)
  | 0 => rfl
  | j + 1 => by
    show dX (dY (it dY j l)) = dY (it dY j (dX l))
    rw [dXY, dX_itY l j]
theorem dX_dd (i j : Nat) (l : List Int) : dX (dd i j l) = dd (i + 1) j l := by
  unfold dd
  rw [dX_itY]
  rfl
theorem dY_dd (i j : Nat) (l : List Int) : dY (dd i j l) = dd i (j + 1) l := rfl
/-- lists of ints: where they stand, what they hold -/
structure Ll (H : Hp) (rs : List Addr) (n : Nat) (φ : Nat → List Int) : Prop where
  len : rs.length = n
  row : ∀ k (h : k < rs.length), H rs[k] = some (lp (φ k))
theorem Ll.same {H H' : Hp} {rs : List Addr} {n : Nat} {φ : Nat → List Int} (h : Ll H rs n φ) (s : Same H H') : Ll H' rs n φ := ⟨h.len, fun k hk => s _ _ (h.row k hk)⟩
theorem Ll.snoc {H H' : Hp} {rs : List Addr} {n : Nat} {φ : Nat → List Int} {p : Addr} {l : List Int} (h : Ll H rs n φ) (s : ∀ k (hk : k < rs.length), H' rs[k] = H rs[k]) (hp : H' p = some (lp l)) (e : l = φ n) : Ll H' (rs ++ [p]) (n + 1) φ := by
  refine ⟨by rw [List.length_append, h.len]; rfl, fun k hk => ?_⟩
  by_cases c : k < rs.length
  · rw [show (rs ++ [p])[k] = rs[k] from List.getElem_append_left _, s k c]
    exact h.row k c
  · have ek : k = rs.length := by rw [List.length_append] at hk; simp at hk; omega
    subst ek
    rw [show (rs ++ [p])[rs.length] = p by rw [List.getElem_append_right (Nat.le_refl _)]; simp, hp, e, h.len]
/-- all these addresses are free -/
def Fr (H : Hp) (rs : List Addr) : Prop := ∀ r ∈ rs, H r = none
theorem Fr.snoc {H : Hp} {rs : List Addr} {p : Addr} (h : Fr H rs) (hp : H p = none) : Fr H (rs ++ [p]) := fun r hr => by
  rcases List.mem_append.mp hr with e | e
  · exact h r e
  · rw [List.mem_singleton.mp e]
    exact hp
theorem get_ref {rs : List Addr} {i : Nat} {x : V} (h : (rs.map V.ref)[i]? = some x) : ∃ hi : i < rs.length, x = .ref rs[i] := by
  rw [List.getElem?_map] at h
  obtain ⟨b, hb, rfl⟩ := Option.map_eq_some_iff.mp h
  obtain ⟨h1, e1⟩ := List.getElem?_eq_some_iff.mp hb
  exact ⟨h1, by rw [e1]⟩
section
variable {P : Program} {w : World} {K : PySem.W.Frag} {mg : Str → Option Value} {base : Heap}
def spSlopes : Sp := fun vs H Q _ => ∃ (a : Addr) (l : List Int) (t : Nat), vs = [.ref a, .int t] ∧ H a = some (tp l) ∧ t + 1 ≤ l.length ∧ l.length ≤ 100 ∧ (∀ i j, i + j ≤ t → ∀ z ∈ dd i j l, sm z) ∧
  ∀ p rs H', Same H H' → H p = none → Fr H rs → H' p = some (.lst (rs.map V.ref)) → Ll H' rs (t + 1) (fun k => dd (t - k) k l) → Q (.ref p) H'
theorem ok_laying_slopes (T : Facts K mg) : FnOk P w K mg base CX0 2 T.f_laying_slopes T.fd_laying_slopes ["entries", "times"] spSlopes := by
  have G_laying_slope := ok_laying_slope (P := P) (w := w) (base := base) T
  refine T.F_laying_slopes.ok sc_laying_slopes (fun vs H Q E h => ?_) (fun cdv A outer s H vs Q E hr h => ?_)
  · obtain ⟨a, l, t, rfl, _⟩ := h
    rfl
  · obtain ⟨a, l, t, rfl, ha, h1, h2, hs, q⟩ := h
    refine ⟨_, (PSs.nox (pss_cons (ps_set (i := 2) sc_laying_slopes.nd rfl (.inl rfl) (pe_lst (pa_cons (pe_callTy call_list_of (by rfl) T.z_list (by decide +kernel) (pa_cons (pv 0) pa_nil)) pa_nil)))
    (pss_cons (ps_for PassesOwn.never (by rfl) (pi_range1 (by rfl) T.z_range (pa_cons (pv 1) pa_nil)) (pg_name (i := 3) sc_laying_slopes.nd rfl (.inl rfl))
      (pss_one (ps_set (i := 2) sc_laying_slopes.nd rfl (.inl rfl) (pe_lst (pa_star (pe_lc (own := [("one", 4)]) (g := (gName 4)) (tt := tYes) (by rfl) sc_laying_slopes.nd (pi_list (pv 2)) (blkOk_by (N := N_laying_slopes) (sc := defScope s_laying_slopes) (by decide +kernel)) (fun _ _ _ _ _ => (pg_name (i := 4) sc_laying_slopes.nd rfl (.inl rfl))) (fun _ _ _ _ _ => pts_nil) (fun _ _ _ _ _ => (pe_call G_laying_slope hr (by rfl) T.g_laying_slope T.F_laying_slope.kp T.b_laying_slope .nil pass0 (pa_cons (pv 4) (pa_cons pe_bl pa_nil))))) (pa_cons (pe_call G_laying_slope hr (by rfl) T.g_laying_slope T.F_laying_slope.kp T.b_laying_slope .nil pass0 (pa_cons (pe_ix ix_list (pv 2) (pe_un un_neg pe_int) (fun _ _ => rfl)) (pa_cons pe_bl pa_nil))) pa_nil))))))
    (pss_one (ps_ret (pv 2)))))), ?_⟩
    refine ⟨_, rfl, a, _, rfl, .inr (SqT.of ha), fun p0 n0 => gen_upd H p0 (lp l) n0 fun H1 s1 f1 => ⟨by show 1 ≤ sizeLine; decide, fun p1 n1 => gen_upd H1 p1 (.lst [.ref p0]) n1 fun H2 s2 f2 => ?_⟩⟩
    refine ⟨_, rfl, t, rfl, by omega, by omega, for_range (n := (t : Int).toNat) (fun u σ H' => ∃ fa rs y3, σ = [some (.ref a), some (.int t), some (.ref fa), y3, none] ∧ Same H H' ∧ H fa = none ∧ Fr H rs ∧ H' fa = some (.lst (rs.map V.ref)) ∧ Ll H' rs (u + 1) (fun k => dd (u - k) k l)) ⟨p1, [p0], none, rfl, s1.trans s2, Same.free s1 n1, fun r hr => by rw [List.mem_singleton.mp hr]; exact n0, f2, ⟨rfl, fun k hk => ?_⟩⟩ (fun u σ H' hu hP => ?_) (fun σ H' hP => ?_)⟩
    · have k0 : k = 0 := by have : k < 1 := hk; omega
      subst k0
      exact s2 _ _ f1
    · obtain ⟨fa, rs, y3, rfl, sH, nfa, fr, hfa, ll⟩ := hP
      have hu2 : u < t := by omega
      refine ⟨_, rfl, fa, rfl, ⟨_, SqL.of hfa⟩, fun D hD => lc_list (xs := rs.map V.ref) (fun j H3 => Same H' H3 ∧ ∃ ss, H3 D = some (.lst (ss.map V.ref)) ∧ Fr H ss ∧ Ll H3 ss j (fun k => dd (u + 1 - k) k l)) ⟨same_upd0 hD, [], upd_same, fun r hr => (nomatch hr), rfl, fun k hk => absurd hk (Nat.not_lt_zero k)⟩ (fun j H3 _ hP3 => SqL.of (hP3.1 _ _ hfa)) (fun j x H3 hx hP3 => ?_) (fun H3 hP3 => ?_)⟩
      · obtain ⟨s3, ss, hL, fs, l3⟩ := hP3
        obtain ⟨hj, rfl⟩ := get_ref hx
        have hj2 : j < u + 1 := by rw [← ll.len]; exact hj
        have hrow := s3 _ _ (ll.row j hj)
        have dl := dd_len (u - j) j l
        refine ⟨rfl, _, rfl, rs[j], _, false, rfl, hrow, by omega, by omega, hs (u - j) j (by omega), fun p4 H4 s4 n4 f4 => ?_⟩
        have hL4 := s4 _ _ hL
        have nD4 : ∀ q ls, H4 q = some (lp ls) → H3 q = none ∨ True → q ≠ D ∨ True := fun _ _ _ _ => .inr True.intro
        have p4D : p4 ≠ D := fun z => by rw [z, hL] at n4; cases n4
        have dH : ∀ b o, H' b = some o → b ≠ D := fun b o e => ne_of_none e hD
        refine ⟨_, hL4, by rw [List.length_map, l3.len]; exact small1000 (by omega), fun b o e => ?_, ss ++ [p4], by rw [upd_same, List.map_append]; rfl, fs.snoc (Same.free sH (Same.free s3 n4)), l3.snoc (fun k hk => ?_) (by rw [upd_ne p4D]; exact f4) ?_⟩
        · rw [upd_ne (dH b o e)]
          exact s4 _ _ (s3 _ _ e)
        · have e3 := l3.row k hk
          have nk : ss[k] ≠ D := fun z => by
            have e4 := e3
            rw [z, hL] at e4
            have hh := HO.lst.inj (Option.some.inj e4)
            have dl2 := dd_len (u + 1 - k) k l
            have hk2 : k < j := by rw [← l3.len]; exact hk
            have c0 := congrArg (fun zs => zs[0]?) hh
            have : 0 < (dd (u + 1 - k) k l).length := by omega
            have : 0 < ss.length := by omega
            simp only [List.getElem?_map] at c0
            rw [List.getElem?_eq_getElem (by omega), List.getElem?_eq_getElem (by omega)] at c0
            cases c0
          rw [upd_ne nk, s4 _ _ e3, e3]
        · rw [if_neg (by decide), dX_dd]
          rw [show u - j + 1 = u + 1 - j by omega]
      · obtain ⟨s3, ss, hL, fs, l3⟩ := hP3
        rw [List.length_map, ll.len] at l3
        refine ⟨D, _, rfl, .inr (SqL.of hL), ?_⟩
        obtain ⟨rs0, rl, ers⟩ : ∃ rs0 rl, rs = rs0 ++ [rl] := ⟨rs.dropLast, rs.getLast (fun z => by have := ll.len; rw [z] at this; cases this), (List.dropLast_concat_getLast _).symm⟩
        have lr0 : rs0.length = u := by have := ll.len; rw [ers, List.length_append] at this; simp at this; exact this
        have hrl : H' rl = some (lp (dd 0 u l)) := by
          have := ll.row u (by rw [ll.len]; omega)
          rw [Nat.sub_self] at this
          rw [← this]
          congr 1
          simp only [ers]
          rw [List.getElem_append_right (by omega)]
          simp [lr0]
        have hfa' : H' fa = some (.lst (rs0.map V.ref ++ [.ref rl])) := by rw [hfa, ers, List.map_append]; rfl
        have dl := dd_len 0 u l
        refine ⟨_, rfl, _, rfl, fa, _, _, _, rfl, rfl, SqL.of (s3 _ _ hfa'), L2.atI_last _ _, rl, _, true, rfl, s3 _ _ hrl, by omega, by omega, hs 0 u (by omega), fun p5 H5 s5 n5 f5 => ?_⟩
        refine ⟨by rw [List.length_append, List.length_map, l3.len]; exact Nat.le_of_lt (small1000 (by show u + 1 + 1 ≤ 1000; omega)), fun p6 n6 => gen_upd H5 p6 _ n6 fun H6 s6 f6 => ?_⟩
        refine ⟨p6, ss ++ [p5], _, rfl, ((sH.trans s3).trans s5).trans s6, Same.free sH (Same.free s3 (Same.free s5 n6)), fs.snoc (Same.free sH (Same.free s3 n5)), by rw [f6, List.map_append]; rfl, l3.snoc (fun k hk => ?_) (s6 _ _ f5) ?_⟩
        · have e3 := l3.row k hk
          rw [(s5.trans s6) _ _ e3, e3]
        · rw [if_pos rfl, dY_dd, Nat.sub_self]
    · obtain ⟨fa, rs, y3, rfl, sH, nfa, fr, hfa, ll⟩ := hP
      rw [Int.toNat_natCast] at ll
      exact ⟨_, rfl, q fa rs H' sH nfa fr hfa ll⟩
end
end K83

set_option Elab.async false
set_option linter.all false
set_option maxRecDepth 100000
set_option maxHeartbeats 4000000
namespace K83
open PySem PySem.Spec PyProof.Rows L2 StX RZ MyR SlX OwnR OwnF EnumT
theorem tab_inj {n : Nat} {f g : Nat → Int} (h : f = g) : tab n f = tab n g := by rw [h]
/-- the entries so far of a laying -/
def Lc (t : Nat) (f g : List Int) (i k : Nat) : Int := su i fun j => sgn j * ch t j * cv (dd (t - j) j f) (co (dd j (t - j) g)) k
theorem evF_su (N : Nat) (φ : Nat → Nat → Int) (x y : Int) : ∀ n, evF N (fun k => su n fun j => φ j k) x y = su n fun j => evF N (φ j) x y
  | 0 => evF_zero x y N
  | n + 1 => by
    show evF N (fun k => su n (fun j => φ j k) + φ n k) x y = su n (fun j => evF N (φ j) x y) + evF N (φ n) x y
    rw [evF_add, evF_su N φ x y n]
theorem L_tab {t : Nat} {f g : List Int} (hf : t + 1 ≤ f.length) (hg : t + 1 ≤ g.length) : tb (f.length + g.length - 1 - 2 * t) (Lc t f g (t + 1)) = L t f g := by
  refine ev_inj (by rw [tb_len, L_len t f g hf hg]) fun x y => ?_
  rw [ev_tb, L_sum x y t f g hf hg]
  unfold Lc
  rw [evF_su]
  refine su_congr _ fun j hj => ?_
  have l1 := dd_len (t - j) j f
  have l2 := dd_len j (t - j) g
  have n1 : dd (t - j) j f ≠ [] := ne_of2 (by omega)
  have n2 : dd j (t - j) g ≠ [] := ne_of2 (by omega)
  rw [evF_mul]
  congr 1
  rw [← ev_ml n1 n2]
  unfold ev
  rw [ml_len, show (dd (t - j) j f).length + (dd j (t - j) g).length - 1 = f.length + g.length - 1 - 2 * t by omega]
  exact evF_congr _ fun k _ => (co_ml n2 k).symm
/-- what is asked of what is laid -/
structure LdOk (t : Nat) (f g : List Int) : Prop where
  lf : t + 1 ≤ f.length
  lg : t + 1 ≤ g.length
  mf : f.length ≤ 42
  mg : g.length ≤ 42
  sf : ∀ i j, i + j ≤ t → nm (dd i j f) ≤ 2 ^ 1500
  sg : ∀ i j, i + j ≤ t → nm (dd i j g) ≤ 2 ^ 1500
theorem lt400 {x i : Nat} (h : x ≤ 2 ^ i) (hi : i < 4000) : x < 2 ^ 4000 := Nat.lt_of_le_of_lt h (Nat.pow_lt_pow_right (by decide) hi)
theorem LdOk.smf {t : Nat} {f g : List Int} (h : LdOk t f g) (i j : Nat) (hij : i + j ≤ t) : ∀ z ∈ dd i j f, sm z := fun z hz => lt400 (Nat.le_trans (nm_mem hz) (h.sf i j hij)) (by decide)
theorem LdOk.smg {t : Nat} {f g : List Int} (h : LdOk t f g) (i j : Nat) (hij : i + j ≤ t) : ∀ z ∈ dd i j g, sm z := fun z hz => lt400 (Nat.le_trans (nm_mem hz) (h.sg i j hij)) (by decide)
section
variable {P : Program} {w : World} {K : PySem.W.Frag} {mg : Str → Option Value} {base : Heap}
def spAddP : Sp := fun vs H Q _ => ∃ (R a b : Addr) (N : Nat) (g : Nat → Int) (xs ys : List Int) (c : Int), vs = [.ref R, .ref a, .ref b, .int c] ∧ H R = some (.lst (tab N g)) ∧ H a = some (lp xs) ∧ H b = some (lp ys) ∧ a ≠ R ∧ b ≠ R ∧ xs.length + ys.length ≤ N + 1 ∧ N ≤ 900 ∧
  (∀ x ∈ xs, sm x ∧ sm (c * x)) ∧ (∀ y ∈ ys, sm y) ∧ sm c ∧ ∀ H', Sx R H H' → H' R = some (.lst (tab N fun k => g k + c * cv xs (co ys) k)) → Q .non H'
theorem ok_add_product (T : Facts K mg) : FnOk P w K mg base CX0 1 T.f_add_product T.fd_add_product ["found", "one", "other", "factor"] spAddP := by
  refine T.F_add_product.ok sc_add_product (fun vs H Q E h => ?_) (fun cdv A outer s H vs Q E hr h => ?_)
  · obtain ⟨R, a, b, N, g, xs, ys, c, rfl, _⟩ := h
    rfl
  · obtain ⟨R, a, b, N, g, xs, ys, c, rfl, hR, ha, hb, naR, nbR, hN, hN9, hx, hy, hc, q⟩ := h
    refine ⟨_, (PSs.nox (pss_one (ps_for PassesOwn.never (by rfl) (pi_enum (by rfl) T.z_enumerate (pa_cons (pv 1) pa_nil)) (pg_tup (by rfl) (pgs_cons (pg_name (i := 4) sc_add_product.nd rfl (.inl rfl)) (pgs_cons (pg_name (i := 5) sc_add_product.nd rfl (.inl rfl)) pgs_nil)))
      (pss_one (ps_for PassesOwn.never (by rfl) (pi_enum (by rfl) T.z_enumerate (pa_cons (pv 2) pa_nil)) (pg_tup (by rfl) (pgs_cons (pg_name (i := 6) sc_add_product.nd rfl (.inl rfl)) (pgs_cons (pg_name (i := 7) sc_add_product.nd rfl (.inl rfl)) pgs_nil)))
        (pss_one (ps_augS (pv 0) (pe_op op_add (pv 4) (pv 6)) OwnC.get_list (pe_op op_mulW (pe_op op_mulW (pv 3) (pv 5)) (pv 7)) ip_add set_list))))))), ?_⟩
    refine ⟨_, rfl, a, _, rfl, SqL.of ha, for_enum (xs := xs.map V.int) (fun i σ H' => ∃ y4 y5 y6 y7, σ = [some (.ref R), some (.ref a), some (.ref b), some (.int c), y4, y5, y6, y7] ∧ Sx R H H' ∧ H' R = some (.lst (tab N fun k => g k + c * cv (xs.take i) (co ys) k))) ⟨none, none, none, none, rfl, Sx.refl R H, ?_⟩ (fun i σ H' hP => ?_) (fun i x B σ H' hxi hP hB => ?_) (fun σ H' hP => ?_)⟩
    · rw [hR]
      congr 2
      refine tab_inj (funext fun k => ?_)
      show g k = g k + c * 0
      omega
    · obtain ⟨y4, y5, y6, y7, _, sH, _⟩ := hP
      exact SqL.of (sH _ _ naR ha)
    · obtain ⟨y4, y5, y6, y7, rfl, sH, hL⟩ := hP
      obtain ⟨hi2, rfl⟩ := int_get hxi
      refine ⟨B, _, rfl, SqT.of upd_same, rfl, _, _, rfl, _, _, rfl, rfl, ?_⟩
      refine gen_upd H' B _ hB (fun H2 s2 _ => ?_)
      have sH2 : Sx R H H2 := sH.trans (Sx.of s2)
      have hL2 := s2 _ _ hL
      rw [tab_ext (g := fun k => g k + c * J xs (co ys) i 0 k) fun k hk => by rw [J_0]] at hL2
      refine ⟨_, rfl, b, _, rfl, SqL.of (sH2 _ _ nbR hb), for_enum (xs := ys.map V.int) (fun j σ H3 => ∃ y6 y7, σ = [some (.ref R), some (.ref a), some (.ref b), some (.int c), some (.int ((i : Nat) : Int)), some (.int (co xs i)), y6, y7] ∧ Sx R H H3 ∧ H3 R = some (.lst (tab N fun k => g k + c * J xs (co ys) i j k))) ⟨y6, y7, rfl, sH2, hL2⟩ (fun j σ H3 hP => ?_) (fun j y B2 σ H3 hyj hP hB2 => ?_) (fun σ H3 hP => ?_)⟩
      · obtain ⟨y6, y7, _, sH3, _⟩ := hP
        exact SqL.of (sH3 _ _ nbR hb)
      · obtain ⟨y6, y7, rfl, sH3, hL3⟩ := hP
        obtain ⟨hj2, rfl⟩ := int_get hyj
        refine ⟨B2, _, rfl, SqT.of upd_same, rfl, _, _, rfl, _, _, rfl, rfl, ?_⟩
        refine gen_upd H3 B2 _ hB2 (fun H4 s4 _ => ?_)
        have sH4 : Sx R H H4 := sH3.trans (Sx.of s4)
        have hL4 := s4 _ _ hL3
        have e1 : ((i : Nat) : Int) + ((j : Nat) : Int) = ((i + j : Nat) : Int) := by omega
        obtain ⟨sx, scx⟩ := hx (co xs i) (by rw [co_get hi2]; exact List.getElem_mem hi2)
        refine ⟨_, rfl, _, rfl, _, rfl, _, _, rfl, rfl, R, _, i + j, _, rfl, by rw [← e1], SqL.of hL4, tab_get (by omega), ?_⟩
        refine ⟨_, rfl, _, rfl, _, _, rfl, rfl, sm_mul hc sx, _, rfl, _, _, rfl, rfl, sm_mul scx (sm_co hy hj2), _, _, rfl, rfl, R, _, _, (i + j), rfl, rfl, hL4, ?_, ?_⟩
        · rw [tab_len]
          exact ix_at e1 (by omega)
        · refine ⟨_, _, rfl, fun d o n e => ?_, ?_⟩
          · rw [upd_ne n]
            exact sH4 _ _ n e
          · rw [upd_same]
            show some (HO.lst ((tab N fun k => g k + c * J xs (co ys) i j k).set (i + j) (.int (g (i + j) + c * J xs (co ys) i j (i + j) + c * co xs i * co ys j)))) = _
            rw [tab_set]
            congr 2
            refine tab_ext fun k hk => ?_
            rw [← J_step]
            by_cases z : k = i + j
            · subst z
              rw [if_pos rfl, if_pos rfl]
              grind
            · rw [if_neg z, if_neg z]
      · obtain ⟨y6, y7, rfl, sH3, hL3⟩ := hP
        rw [List.length_map, tab_ext (g := fun k => g k + c * cv (xs.take (i + 1)) (co ys) k) fun k hk => by rw [J_end hi2]] at hL3
        exact ⟨_, _, _, _, rfl, sH3, hL3⟩
    · obtain ⟨y4, y5, y6, y7, rfl, sH, hL⟩ := hP
      rw [List.length_map, List.take_length] at hL
      exact q H' sH hL
end
end K83

set_option Elab.async false
set_option linter.all false
set_option maxRecDepth 100000
set_option maxHeartbeats 4000000
namespace K83
open PySem PySem.Spec PyProof.Rows L2 StX RZ MyR SlX OwnR OwnF EnumT
theorem su_zero : ∀ n, su n (fun _ => 0) = 0
  | 0 => rfl
  | n + 1 => by
    show su n (fun _ => 0) + 0 = 0
    rw [su_zero n]
    rfl
theorem su_mul (c : Int) (φ : Nat → Int) : ∀ n, su n (fun k => c * φ k) = c * su n φ
  | 0 => by show (0 : Int) = c * 0; omega
  | n + 1 => by
    show su n (fun k => c * φ k) + c * φ n = c * (su n φ + φ n)
    rw [su_mul c φ n, Int.mul_add]
/-- a pair table, derived by x and v, less what is derived by y and u -/
def lst (n m : Nat) (t : Nat → Nat → Int) (i j : Nat) : Int := ((n : Int) - 1 - i) * (j + 1) * t i (j + 1) - ((i : Int) + 1) * ((m : Int) - 1 - j) * t (i + 1) j
/-- so often -/
def lsn (n m : Nat) (t : Nat → Nat → Int) : Nat → Nat → Nat → Int
  | 0 => t
  | u + 1 => lst (n - u) (m - u) (lsn n m t u)
/-- the entries if both pairs of letters are one -/
def wh (n m : Nat) (t : Nat → Nat → Int) (k : Nat) : Int := su n fun i => su m fun j => if i + j = k then t i j else 0
/-- so far -/
def whp (m : Nat) (t : Nat → Nat → Int) (i j k : Nat) : Int := wh i m t k + su j fun j' => if i + j' = k then t i j' else 0
theorem whp_0 {m : Nat} {t : Nat → Nat → Int} {i k : Nat} : whp m t i 0 k = wh i m t k := by show wh i m t k + 0 = _; omega
theorem whp_end {m : Nat} {t : Nat → Nat → Int} {i k : Nat} : whp m t i m k = wh (i + 1) m t k := rfl
theorem whp_step {m : Nat} {t : Nat → Nat → Int} {i j k : Nat} : (if k = i + j then whp m t i j (i + j) + t i j else whp m t i j k) = whp m t i (j + 1) k := by
  have e : whp m t i (j + 1) k = whp m t i j k + if i + j = k then t i j else 0 := by
    show wh i m t k + (su j _ + (if i + j = k then t i j else 0)) = wh i m t k + su j _ + _
    rw [Int.add_assoc]
  rw [e]
  by_cases h : k = i + j
  · subst h
    rw [if_pos rfl, if_pos rfl]
  · rw [if_neg h, if_neg (Ne.symm h), Int.add_zero]
/-- the parts -/
def pt (n m : Nat) (t : Nat → Nat → Int) (u : Nat) : List Int := tb (n + m - 1 - 2 * u) (wh (n - u) (m - u) (lsn n m t u))
theorem pt_len (n m : Nat) (t : Nat → Nat → Int) (u : Nat) : (pt n m t u).length = n + m - 1 - 2 * u := tb_len _ _
theorem lst_lin (n m : Nat) (c : Int) (a b : Nat → Nat → Int) : lst n m (fun i j => a i j + c * b i j) = fun i j => lst n m a i j + c * lst n m b i j := by
  funext i j
  unfold lst
  grind
theorem lsn_lin (n m : Nat) (c : Int) (a b : Nat → Nat → Int) : ∀ u, lsn n m (fun i j => a i j + c * b i j) u = fun i j => lsn n m a u i j + c * lsn n m b u i j
  | 0 => rfl
  | u + 1 => by
    show lst (n - u) (m - u) (lsn n m (fun i j => a i j + c * b i j) u) = _
    rw [lsn_lin n m c a b u, lst_lin]
    rfl
theorem wh_lin (n m : Nat) (c : Int) (a b : Nat → Nat → Int) (k : Nat) : wh n m (fun i j => a i j + c * b i j) k = wh n m a k + c * wh n m b k := by
  unfold wh
  rw [← su_mul, ← su_add]
  refine su_congr _ fun i _ => ?_
  rw [← su_mul, ← su_add]
  refine su_congr _ fun j _ => ?_
  split <;> grind
theorem tb_ext {n : Nat} {f g : Nat → Int} (h : ∀ k, k < n → f k = g k) : tb n f = tb n g := by
  unfold tb
  exact List.map_congr_left fun k hk => h k (List.mem_range.mp hk)
theorem zs_tbs (c : Int) (n : Nat) (f g : Nat → Int) : zs c (tb n f) (tb n g) = tb n fun k => f k + c * g k := by
  refine co_inj (by rw [zs_len (by rw [tb_len, tb_len]), tb_len, tb_len]) fun k => ?_
  rw [co_zs' c (by rw [tb_len, tb_len]), co_tb, co_tb, co_tb]
  split <;> grind
theorem pt_zs (n m : Nat) (c : Int) (a b : Nat → Nat → Int) (u : Nat) : pt n m (fun i j => a i j + c * b i j) u = zs c (pt n m a u) (pt n m b u) := by
  unfold pt
  rw [zs_tbs, lsn_lin]
  exact tb_ext fun k _ => wh_lin _ _ _ _ _ _
/-! ### tables of two forms -/
theorem lsn_succ (n m : Nat) (t : Nat → Nat → Int) : ∀ u, lsn n m t (u + 1) = lsn (n - 1) (m - 1) (lst n m t) u
  | 0 => rfl
  | u + 1 => by
    show lst (n - (u + 1)) (m - (u + 1)) (lsn n m t (u + 1)) = lst (n - 1 - u) (m - 1 - u) (lsn (n - 1) (m - 1) (lst n m t) u)
    rw [lsn_succ n m t u, Nat.sub_sub, Nat.sub_sub, Nat.add_comm 1 u]
theorem pt_succ (n m : Nat) (t : Nat → Nat → Int) (u : Nat) : pt n m t (u + 1) = tb (n - 1 + (m - 1) - 1 - 2 * u) (wh (n - 1 - u) (m - 1 - u) (lsn (n - 1) (m - 1) (lst n m t) u)) ∨ n = 0 ∨ m = 0 := by
  by_cases hn : n = 0
  · exact .inr (.inl hn)
  by_cases hm : m = 0
  · exact .inr (.inr hm)
  left
  unfold pt
  rw [lsn_succ, Nat.sub_sub n 1 u, Nat.sub_sub m 1 u, Nat.add_comm 1 u]
  congr 1
  omega
theorem co_dX (l : List Int) (i : Nat) : co (dX l) i = co l i * ((l.length : Int) - 1 - i) := by
  unfold dX
  rw [co_tb]
  split
  · rfl
  · by_cases h : i < l.length
    · rw [show ((l.length : Int) - 1 - i) = 0 by omega, Int.mul_zero]
    · rw [co_far (by omega), Int.zero_mul]
theorem co_dY (l : List Int) (i : Nat) : co (dY l) i = co l (i + 1) * ((i : Int) + 1) := by
  unfold dY
  rw [co_tb]
  split
  · rfl
  · rw [co_far (by omega), Int.zero_mul]
theorem lst_two (f g : List Int) : lst f.length g.length (fun i j => co f i * co g j) = fun i j => co (dX f) i * co (dY g) j + (-1) * (co (dY f) i * co (dX g) j) := by
  funext i j
  unfold lst
  rw [co_dX, co_dY, co_dX, co_dY]
  grind
theorem whp_J (f g : List Int) (k : Nat) : ∀ i, i ≤ f.length → wh i g.length (fun i j => co f i * co g j) k = cv (f.take i) (co g) k
  | 0, _ => by rw [List.take_zero]; rfl
  | i + 1, h => by
    have hJ : ∀ j, whp g.length (fun i j => co f i * co g j) i j k = J f (co g) i j k := fun j => by
      induction j with
      | zero => rw [whp_0, J_0, whp_J f g k i (by omega)]
      | succ j ih =>
        rw [← whp_step, ← J_step]
        by_cases z : k = i + j
        · rw [if_pos z, if_pos z, ← z, ih]
        · rw [if_neg z, if_neg z, ih]
    rw [← whp_end, hJ, J_end h]
theorem pt_two : ∀ (u : Nat) (f g : List Int), u + 1 ≤ f.length → u + 1 ≤ g.length → pt f.length g.length (fun i j => co f i * co g j) u = L u f g
  | 0, f, g, hf, hg => by
    show tb (f.length + g.length - 1 - 2 * 0) (wh f.length g.length fun i j => co f i * co g j) = tb (f.length + g.length - 1) (cv f (co g))
    refine tb_ext fun k _ => ?_
    rw [whp_J f g k _ (Nat.le_refl _), List.take_length]
  | u + 1, f, g, hf, hg => by
    rcases pt_succ f.length g.length (fun i j => co f i * co g j) u with e | e | e
    · rw [e, lst_two]
      have l1 := dX_len f
      have l2 := dY_len f
      have l3 := dX_len g
      have l4 := dY_len g
      have p := pt_zs (f.length - 1) (g.length - 1) (-1) (fun i j => co (dX f) i * co (dY g) j) (fun i j => co (dY f) i * co (dX g) j) u
      have p1 := pt_two u (dX f) (dY g) (by omega) (by omega)
      have p2 := pt_two u (dY f) (dX g) (by omega) (by omega)
      rw [l1, l4] at p1
      rw [l2, l3] at p2
      rw [p1, p2] at p
      exact p
    · omega
    · omega
end K83

set_option Elab.async false
set_option linter.all false
set_option maxRecDepth 100000
set_option maxHeartbeats 2000000
/-! plain: pair tables: crossing against the step of the parts; a table is told by its parts; polars -/
namespace K83
open PySem PySem.Spec PyProof.Rows L2 StX RZ MyR SlX OwnR OwnF EnumT
/-- equal in the first n rows and m columns -/
def Eqt (n m : Nat) (a b : Nat → Nat → Int) : Prop := ∀ i j, i < n → j < m → a i j = b i j
theorem Eqt.trans {n m : Nat} {a b c : Nat → Nat → Int} (h : Eqt n m a b) (g : Eqt n m b c) : Eqt n m a c := fun i j hi hj => (h i j hi hj).trans (g i j hi hj)
theorem Eqt.symm {n m : Nat} {a b : Nat → Nat → Int} (h : Eqt n m a b) : Eqt n m b a := fun i j hi hj => (h i j hi hj).symm
theorem lst_congr {n m : Nat} {a b : Nat → Nat → Int} (h : Eqt n m a b) : Eqt (n - 1) (m - 1) (lst n m a) (lst n m b) := fun i j hi hj => by
  unfold lst
  rw [h i (j + 1) (by omega) (by omega), h (i + 1) j (by omega) (by omega)]
theorem lsn_congr {n m : Nat} {a b : Nat → Nat → Int} (h : Eqt n m a b) : ∀ u, Eqt (n - u) (m - u) (lsn n m a u) (lsn n m b u)
  | 0 => h
  | u + 1 => by
    rw [show n - (u + 1) = n - u - 1 by omega, show m - (u + 1) = m - u - 1 by omega]
    exact lst_congr (lsn_congr h u)
theorem wh_congr {n m : Nat} {a b : Nat → Nat → Int} (h : Eqt n m a b) (k : Nat) : wh n m a k = wh n m b k := by
  unfold wh
  refine su_congr n fun i hi => su_congr m fun j hj => ?_
  by_cases c : i + j = k
  · rw [if_pos c, if_pos c, h i j hi hj]
  · rw [if_neg c, if_neg c]
/-- the table times x v - y u -/
def crs (n m : Nat) (t : Nat → Nat → Int) (i j : Nat) : Int := (if 1 ≤ j ∧ i < n then t i (j - 1) else 0) - (if 1 ≤ i ∧ j < m then t (i - 1) j else 0)
theorem crs_congr {n m : Nat} {a b : Nat → Nat → Int} (h : Eqt n m a b) : Eqt (n + 1) (m + 1) (crs n m a) (crs n m b) := fun i j hi hj => by
  unfold crs
  congr 1
  · by_cases c : 1 ≤ j ∧ i < n
    · rw [if_pos c, if_pos c, h i (j - 1) c.2 (by omega)]
    · rw [if_neg c, if_neg c]
  · by_cases c : 1 ≤ i ∧ j < m
    · rw [if_pos c, if_pos c, h (i - 1) j (by omega) c.2]
    · rw [if_neg c, if_neg c]
/-- the step of a crossed table -/
theorem lst_crs {n m : Nat} (hn : 1 ≤ n) (hm : 1 ≤ m) (t : Nat → Nat → Int) : Eqt n m (lst (n + 1) (m + 1) (crs n m t)) (fun i j => crs (n - 1) (m - 1) (lst n m t) i j + ((n : Int) + m) * t i j) := fun i j hi hj => by
  obtain ⟨a, rfl⟩ : ∃ a, n = a + 1 := ⟨n - 1, by omega⟩
  obtain ⟨b, rfl⟩ : ∃ b, m = b + 1 := ⟨m - 1, by omega⟩
  have e1 : crs (a + 1) (b + 1) t i (j + 1) = t i j - (if 1 ≤ i ∧ j < b then t (i - 1) (j + 1) else 0) := by
    unfold crs
    rw [if_pos ⟨by omega, hi⟩, Nat.add_sub_cancel]
    congr 1
    by_cases c : 1 ≤ i ∧ j < b
    · rw [if_pos c, if_pos ⟨c.1, by omega⟩]
    · rw [if_neg c, if_neg (fun z => c ⟨z.1, by omega⟩)]
  have e2 : crs (a + 1) (b + 1) t (i + 1) j = (if 1 ≤ j ∧ i < a then t (i + 1) (j - 1) else 0) - t i j := by
    unfold crs
    rw [if_pos (show 1 ≤ i + 1 ∧ j < b + 1 from ⟨by omega, hj⟩), Nat.add_sub_cancel]
    congr 1
    by_cases c : 1 ≤ j ∧ i < a
    · rw [if_pos c, if_pos ⟨c.1, by omega⟩]
    · rw [if_neg c, if_neg (fun z => c ⟨z.1, by omega⟩)]
  have e3 : crs a b (lst (a + 1) (b + 1) t) i j = ((a : Int) - i) * j * t i j - (if 1 ≤ j ∧ i < a then ((i : Int) + 1) * ((b : Int) - j + 1) * t (i + 1) (j - 1) else 0) - ((if 1 ≤ i ∧ j < b then ((a : Int) - i + 1) * ((j : Int) + 1) * t (i - 1) (j + 1) else 0) - (i : Int) * ((b : Int) - j) * t i j) := by
    unfold crs
    congr 1
    · by_cases c : 1 ≤ j ∧ i < a
      · rw [if_pos c, if_pos c]
        unfold lst
        obtain ⟨j', rfl⟩ : ∃ j', j = j' + 1 := ⟨j - 1, by omega⟩
        rw [Nat.add_sub_cancel]
        push_cast
        grind
      · rw [if_neg c, if_neg c]
        have : ((a : Int) - i) * j = 0 := by
          by_cases c1 : 1 ≤ j
          · have : (a : Int) - i = 0 := by omega
            rw [this, Int.zero_mul]
          · have : (j : Int) = 0 := by omega
            rw [this, Int.mul_zero]
        rw [this]
        omega
    · by_cases c : 1 ≤ i ∧ j < b
      · rw [if_pos c, if_pos c]
        unfold lst
        obtain ⟨i', rfl⟩ : ∃ i', i = i' + 1 := ⟨i - 1, by omega⟩
        rw [Nat.add_sub_cancel]
        push_cast
        grind
      · rw [if_neg c, if_neg c]
        have : (i : Int) * ((b : Int) - j) = 0 := by
          by_cases c1 : 1 ≤ i
          · have : (b : Int) - j = 0 := by omega
            rw [this, Int.mul_zero]
          · have : (i : Int) = 0 := by omega
            rw [this, Int.zero_mul]
        rw [this]
        omega
  show lst (a + 1 + 1) (b + 1 + 1) (crs (a + 1) (b + 1) t) i j = crs a b (lst (a + 1) (b + 1) t) i j + _
  rw [e3]
  show ((a + 1 + 1 : Nat) - 1 - (i : Int)) * (j + 1) * crs (a + 1) (b + 1) t i (j + 1) - ((i : Int) + 1) * ((b + 1 + 1 : Nat) - 1 - (j : Int)) * crs (a + 1) (b + 1) t (i + 1) j = _
  rw [e1, e2]
  push_cast
  split <;> split <;> grind
theorem su_ext {φ : Nat → Int} : ∀ n, (∀ k, n ≤ k → φ k = 0) → ∀ d, su (n + d) φ = su n φ
  | n, h, 0 => rfl
  | n, h, d + 1 => by
    show su (n + d) φ + φ (n + d) = _
    rw [su_ext n h d, h (n + d) (by omega), Int.add_zero]
theorem su_first (φ : Nat → Int) : ∀ n, su (n + 1) φ = φ 0 + su n fun k => φ (k + 1)
  | 0 => by show (0 : Int) + φ 0 = φ 0 + 0; omega
  | n + 1 => by
    show su (n + 1) φ + φ (n + 1) = φ 0 + (su n _ + φ (n + 1))
    rw [su_first φ n, Int.add_assoc]
theorem su_nil {φ : Nat → Int} {n : Nat} (h : ∀ k, k < n → φ k = 0) : su n φ = 0 := (su_congr n h).trans (su_zero n)
theorem su_sub (φ ψ : Nat → Int) (n : Nat) : su n (fun k => φ k - ψ k) = su n φ - su n ψ := by
  have : su n (fun k => φ k - ψ k) = su n (fun k => φ k + (-1) * ψ k) := su_congr n fun k _ => by omega
  rw [this, su_add, su_mul]
  omega
/-- the whole of a crossed table is 0 -/
theorem wh_crs (n m : Nat) (t : Nat → Nat → Int) (k : Nat) : wh (n + 1) (m + 1) (crs n m t) k = 0 := by
  have eA : (su (n + 1) fun i => su (m + 1) fun j => if i + j = k then (if 1 ≤ j ∧ i < n then t i (j - 1) else 0) else 0) = su n fun i => su m fun j => if i + j + 1 = k then t i j else 0 := by
    show su n _ + su (m + 1) _ = _
    rw [show (su (m + 1) fun j => if n + j = k then (if 1 ≤ j ∧ n < n then t n (j - 1) else 0) else 0) = 0 from
      su_nil fun j _ => by rw [if_neg (show ¬ (1 ≤ j ∧ n < n) from fun z => by omega)]; split <;> rfl, Int.add_zero]
    refine su_congr n fun i hi => ?_
    rw [su_first, if_neg (show ¬ (1 ≤ 0 ∧ i < n) from fun z => by omega)]
    rw [show (if i + 0 = k then (0 : Int) else 0) = 0 by split <;> rfl, Int.zero_add]
    refine su_congr m fun j hj => ?_
    rw [if_pos (show 1 ≤ j + 1 ∧ i < n from ⟨by omega, hi⟩), Nat.add_sub_cancel, Nat.add_assoc]
  have eB : (su (n + 1) fun i => su (m + 1) fun j => if i + j = k then (if 1 ≤ i ∧ j < m then t (i - 1) j else 0) else 0) = su n fun i => su m fun j => if i + j + 1 = k then t i j else 0 := by
    rw [su_first]
    rw [show (su (m + 1) fun j => if 0 + j = k then (if 1 ≤ 0 ∧ j < m then t (0 - 1) j else 0) else 0) = 0 from
      su_nil fun j _ => by rw [if_neg (show ¬ (1 ≤ 0 ∧ j < m) from fun z => by omega)]; split <;> rfl, Int.zero_add]
    refine su_congr n fun i hi => ?_
    show su m _ + (if i + 1 + m = k then (if 1 ≤ i + 1 ∧ m < m then t (i + 1 - 1) m else 0) else 0) = _
    rw [if_neg (show ¬ (1 ≤ i + 1 ∧ m < m) from fun z => by omega), show (if i + 1 + m = k then (0 : Int) else 0) = 0 by split <;> rfl, Int.add_zero]
    refine su_congr m fun j hj => ?_
    rw [if_pos (show 1 ≤ i + 1 ∧ j < m from ⟨by omega, hj⟩), Nat.add_sub_cancel, show i + 1 + j = i + j + 1 by omega]
  have e : wh (n + 1) (m + 1) (crs n m t) k = (su (n + 1) fun i => su (m + 1) fun j => if i + j = k then (if 1 ≤ j ∧ i < n then t i (j - 1) else 0) else 0) - (su (n + 1) fun i => su (m + 1) fun j => if i + j = k then (if 1 ≤ i ∧ j < m then t (i - 1) j else 0) else 0) := by
    rw [← su_sub]
    refine su_congr _ fun i _ => ?_
    rw [← su_sub]
    refine su_congr _ fun j _ => ?_
    unfold crs
    split
    · rfl
    · rfl
  rw [e, eA, eB, Int.sub_self]
/-- all steps of a crossed table -/
def kap (n m u : Nat) : Int := (u : Int) * ((n : Int) + m - u + 1)
theorem lsn_crs {n m : Nat} (t : Nat → Nat → Int) : ∀ u, u ≤ n → u ≤ m → Eqt (n + 1 - u) (m + 1 - u) (lsn (n + 1) (m + 1) (crs n m t) u) (fun i j => crs (n - u) (m - u) (lsn n m t u) i j + (if u = 0 then 0 else kap n m u * lsn n m t (u - 1) i j))
  | 0, _, _ => fun i j _ _ => by
    show crs n m t i j = crs n m t i j + (if (0 : Nat) = 0 then 0 else kap n m 0 * lsn n m t (0 - 1) i j)
    rw [if_pos rfl, Int.add_zero]
  | u + 1, hn, hm => by
    have ih := lsn_crs (n := n) (m := m) t u (by omega) (by omega)
    intro i j hi hj
    have h1 := lst_congr ih i j (by omega) (by omega)
    show lst (n + 1 - u) (m + 1 - u) (lsn (n + 1) (m + 1) (crs n m t) u) i j = _
    rw [h1]
    have e0 : lst (n + 1 - u) (m + 1 - u) (fun i j => crs (n - u) (m - u) (lsn n m t u) i j + (if u = 0 then 0 else kap n m u * lsn n m t (u - 1) i j)) i j
        = lst (n + 1 - u) (m + 1 - u) (crs (n - u) (m - u) (lsn n m t u)) i j + (if u = 0 then 0 else kap n m u * lst (n + 1 - u) (m + 1 - u) (lsn n m t (u - 1)) i j) := by
      by_cases c : u = 0
      · simp only [c, if_true, Int.add_zero]
      · simp only [if_neg c]
        exact congrFun (congrFun (lst_lin (n + 1 - u) (m + 1 - u) (kap n m u) (crs (n - u) (m - u) (lsn n m t u)) (lsn n m t (u - 1))) i) j
    rw [e0]
    have h2 := lst_crs (n := n - u) (m := m - u) (by omega) (by omega) (lsn n m t u) i j (by omega) (by omega)
    rw [show n - u + 1 = n + 1 - u by omega, show m - u + 1 = m + 1 - u by omega] at h2
    rw [h2]
    dsimp only
    rw [if_neg (Nat.succ_ne_zero u), Nat.add_sub_cancel, show n - (u + 1) = n - u - 1 by omega, show m - (u + 1) = m - u - 1 by omega]
    show crs (n - u - 1) (m - u - 1) (lst (n - u) (m - u) (lsn n m t u)) i j + _ + _ = crs (n - u - 1) (m - u - 1) (lst (n - u) (m - u) (lsn n m t u)) i j + _
    by_cases c : u = 0
    · subst c
      rw [if_pos rfl, Int.add_zero]
      congr 1
      unfold kap
      show ((n - 0 : Nat) + ((m - 0 : Nat) : Int)) * t i j = ((0 + 1 : Nat) : Int) * _ * t i j
      rw [Nat.sub_zero, Nat.sub_zero]
      congr 1
      omega
    · rw [if_neg c]
      have e3 : lst (n + 1 - u) (m + 1 - u) (lsn n m t (u - 1)) = lsn n m t u := by
        obtain ⟨v, rfl⟩ : ∃ v, u = v + 1 := ⟨u - 1, by omega⟩
        rw [show n + 1 - (v + 1) = n - v by omega, show m + 1 - (v + 1) = m - v by omega]
        rfl
      rw [e3, Int.add_assoc]
      congr 1
      have a1 : ((n - u : Nat) : Int) = n - u := by omega
      have a2 : ((m - u : Nat) : Int) = m - u := by omega
      rw [a1, a2, ← Int.add_mul]
      congr 1
      unfold kap
      push_cast
      grind
theorem wh_lsn_crs {n m : Nat} (t : Nat → Nat → Int) {u : Nat} (hn : u ≤ n) (hm : u ≤ m) (h0 : 1 ≤ u) (k : Nat) : wh (n + 1 - u) (m + 1 - u) (lsn (n + 1) (m + 1) (crs n m t) u) k = kap n m u * wh (n + 1 - u) (m + 1 - u) (lsn n m t (u - 1)) k := by
  rw [wh_congr (lsn_crs t u hn hm), wh_congr (b := fun i j => crs (n - u) (m - u) (lsn n m t u) i j + kap n m u * lsn n m t (u - 1) i j) (fun i j _ _ => by rw [if_neg (by omega)]), wh_lin, show n + 1 - u = n - u + 1 by omega, show m + 1 - u = m - u + 1 by omega, wh_crs, Int.zero_add]
theorem su_pick (φ : Nat → Int) (i k : Nat) : ∀ m, su m (fun j => if i + j = k then φ j else 0) = if i ≤ k ∧ k - i < m then φ (k - i) else 0
  | 0 => by rw [if_neg (fun z => by omega)]; rfl
  | m + 1 => by
    show su m _ + (if i + m = k then φ m else 0) = _
    rw [su_pick φ i k m]
    by_cases c : i + m = k
    · rw [if_neg (fun z => by omega), if_pos c, if_pos (show i ≤ k ∧ k - i < m + 1 from ⟨by omega, by omega⟩), Int.zero_add, show k - i = m by omega]
    · rw [if_neg c, Int.add_zero]
      by_cases d : i ≤ k ∧ k - i < m
      · rw [if_pos d, if_pos ⟨d.1, by omega⟩]
      · rw [if_neg d, if_neg (fun z => d ⟨z.1, by omega⟩)]
def tcut (n m : Nat) (t : Nat → Nat → Int) (i j : Nat) : Int := if i < n ∧ j < m then t i j else 0
def pk (n m : Nat) (t : Nat → Nat → Int) (i k : Nat) : Int := su i fun i' => if i' ≤ k then tcut n m t i' (k - i') else 0
theorem wh_pk (n m : Nat) (t : Nat → Nat → Int) (k : Nat) : wh n m t k = pk n m t n k := by
  unfold wh pk
  refine su_congr n fun i hi => ?_
  rw [su_pick]
  unfold tcut
  by_cases c : i ≤ k
  · rw [if_pos c]
    by_cases d : k - i < m
    · rw [if_pos ⟨c, d⟩, if_pos ⟨hi, d⟩]
    · rw [if_neg (fun z => d z.2), if_neg (fun z => d z.2)]
  · rw [if_neg c, if_neg fun z => c z.1]
theorem crossed_of {a b : Nat} {t : Nat → Nat → Int} (h : ∀ k, wh (a + 1) (b + 1) t k = 0) : Eqt (a + 1) (b + 1) t (crs a b fun i j => pk (a + 1) (b + 1) t (i + 1) (i + j + 1)) := fun i j hi hj => by
  have hz : ∀ k, pk (a + 1) (b + 1) t (a + 1) k = 0 := fun k => by rw [← wh_pk]; exact h k
  have st : pk (a + 1) (b + 1) t (i + 1) (i + j) = pk (a + 1) (b + 1) t i (i + j) + t i j := by
    show pk (a + 1) (b + 1) t i (i + j) + (if i ≤ i + j then tcut (a + 1) (b + 1) t i (i + j - i) else 0) = _
    rw [if_pos (Nat.le_add_right i j), Nat.add_sub_cancel_left]
    unfold tcut
    rw [if_pos ⟨hi, hj⟩]
  have t1 : (if 1 ≤ j ∧ i < a then pk (a + 1) (b + 1) t (i + 1) (i + (j - 1) + 1) else 0) = pk (a + 1) (b + 1) t (i + 1) (i + j) := by
    by_cases c : 1 ≤ j ∧ i < a
    · rw [if_pos c, show i + (j - 1) + 1 = i + j by omega]
    · rw [if_neg c]
      by_cases e : i = a
      · subst e
        exact (hz _).symm
      · have ej : j = 0 := by omega
        subst ej
        rw [← hz (i + 0)]
        obtain ⟨d, ed⟩ : ∃ d, a + 1 = i + 1 + d := ⟨a - i, by omega⟩
        rw [ed]
        unfold pk
        exact su_ext (i + 1) (fun k hk => by rw [if_neg (by omega)]) d
  have t2 : (if 1 ≤ i ∧ j < b then pk (a + 1) (b + 1) t (i - 1 + 1) (i - 1 + j + 1) else 0) = pk (a + 1) (b + 1) t i (i + j) := by
    by_cases c : 1 ≤ i ∧ j < b
    · rw [if_pos c, show i - 1 + 1 = i by omega, show i - 1 + j + 1 = i + j by omega]
    · rw [if_neg c]
      by_cases e : i = 0
      · subst e
        rfl
      · have ej : j = b := by omega
        subst ej
        refine Eq.symm ?_
        unfold pk
        refine su_nil fun k hk => ?_
        rw [if_pos (by omega)]
        unfold tcut
        rw [if_neg (fun z => by omega)]
  show t i j = (if 1 ≤ j ∧ i < a then pk (a + 1) (b + 1) t (i + 1) (i + (j - 1) + 1) else 0) - (if 1 ≤ i ∧ j < b then pk (a + 1) (b + 1) t (i - 1 + 1) (i - 1 + j + 1) else 0)
  rw [t1, t2, st]
  omega
theorem kap_ne {n m u : Nat} (h : 1 ≤ u) (hn : u ≤ n) : kap n m u ≠ 0 := by
  unfold kap
  intro z
  rcases Int.mul_eq_zero.mp z with z | z <;> omega
/-- a table all of whose parts are 0 is 0 -/
theorem told_zero : ∀ (n m : Nat) (t : Nat → Nat → Int), (∀ u, u < n → u < m → ∀ k, wh (n - u) (m - u) (lsn n m t u) k = 0) → Eqt n m t fun _ _ => 0
  | 0, _, _, _ => fun i _ hi _ => absurd hi (Nat.not_lt_zero i)
  | _ + 1, 0, _, _ => fun _ j _ hj => absurd hj (Nat.not_lt_zero j)
  | a + 1, b + 1, t, h => by
    have c := crossed_of (a := a) (b := b) (t := t) fun k => h 0 (by omega) (by omega) k
    generalize (fun i j => pk (a + 1) (b + 1) t (i + 1) (i + j + 1)) = g at c
    have ih := told_zero a b g fun v hv hw k => by
      have h1 := h (v + 1) (by omega) (by omega) k
      rw [wh_congr (lsn_congr c (v + 1)), wh_lsn_crs g (by omega) (by omega) (by omega), Nat.add_sub_cancel, show a + 1 - (v + 1) = a - v by omega, show b + 1 - (v + 1) = b - v by omega] at h1
      exact (Int.mul_eq_zero.mp h1).resolve_left (kap_ne (by omega) (by omega))
    refine c.trans ((crs_congr ih).trans fun i j _ _ => ?_)
    unfold crs
    split <;> split <;> rfl
theorem wh_far {n m k : Nat} {t : Nat → Nat → Int} (h : n + m - 1 ≤ k) : wh n m t k = 0 := by
  unfold wh
  exact su_nil fun i hi => su_nil fun j hj => by rw [if_neg (by omega)]
theorem pt_wh {n m u k : Nat} {t : Nat → Nat → Int} (hn : u < n) (hm : u < m) : co (pt n m t u) k = wh (n - u) (m - u) (lsn n m t u) k := by
  unfold pt
  rw [co_tb]
  by_cases c : k < n + m - 1 - 2 * u
  · rw [if_pos c]
  · rw [if_neg c, wh_far (by omega)]
/-- a table is told by its parts -/
theorem told_uniq {n m : Nat} {a b : Nat → Nat → Int} (h : ∀ u, u < n → u < m → pt n m a u = pt n m b u) : Eqt n m a b := fun i j hi hj => by
  have := told_zero n m (fun i j => a i j + (-1) * b i j) (fun u hn hm k => by
    rw [lsn_lin, wh_lin, ← pt_wh hn hm, ← pt_wh hn hm, h u hn hm]
    omega) i j hi hj
  dsimp only at this
  omega
theorem wh_zero (n m k : Nat) : wh n m (fun _ _ => 0) k = 0 := by
  unfold wh
  exact su_nil fun i _ => su_nil fun j _ => by split <;> rfl
theorem lst_zero (n m : Nat) : lst n m (fun _ _ => 0) = fun _ _ => 0 := by
  funext i j
  unfold lst
  rw [Int.mul_zero, Int.mul_zero]
  rfl
theorem lsn_zero (n m : Nat) (t : Nat → Nat → Int) (h : lst n m t = fun _ _ => 0) : ∀ u, lsn n m t (u + 1) = fun _ _ => 0
  | 0 => by
    show lst (n - 0) (m - 0) t = _
    exact h
  | u + 1 => by
    show lst (n - (u + 1)) (m - (u + 1)) (lsn n m t (u + 1)) = _
    rw [lsn_zero n m t h u, lst_zero]
end K83

set_option Elab.async false
set_option linter.all false
set_option maxRecDepth 100000
set_option maxHeartbeats 2000000
/-! kernels without bounds; the ranks of level tables -/
namespace K83
open PySem PySem.Spec PyProof.Rows L2 FDivQ LA
structure KS (rows : List (List Int)) (w : Nat) : Prop where
  len : ∀ k ∈ kern rows w, k.length = w
  dot : ∀ k ∈ kern rows w, ∀ r ∈ rows, S w (fun j => co k j * co r j) = 0
  ind : Ind w (kern rows w).length (row (kern rows w))
  all : ∀ y : Nat → Int, (∀ r ∈ rows, S w (fun j => y j * co r j) = 0) → Sp w (kern rows w).length (row (kern rows w)) y
  cnt : (ech less rows w).length + (kern rows w).length = w
  nz : ∀ k ∈ kern rows w, co k (ld k) ≠ 0
  lt : ∀ k ∈ kern rows w, ld k < w
  gl : ∀ k ∈ kern rows w, gl k ≤ 1
  base : ∃ n E, Base w rows.length (row rows) (ech less rows w).length E ∧ n = (ech less rows w).length
/-- times x, times y -/
def tx (d : Nat) (f : Nat → Int) : Nat → Int := fun j => if j < d + 1 then f j else 0
def ty (f : Nat → Int) : Nat → Int
  | 0 => 0
  | j + 1 => f j
end K83

set_option Elab.async false
set_option linter.all false
set_option maxRecDepth 100000
set_option maxHeartbeats 2000000
/-! the ranks of all level tables -/
namespace K83
open PySem PySem.Spec PyProof.Rows L2 FDivQ LA
end K83

set_option Elab.async false
set_option linter.all false
set_option maxRecDepth 100000
set_option maxHeartbeats 2000000
set_option exponentiation.threshold 10000
/-! a span has one echelon only; sizes of the rows of a kernel -/
namespace K83
open PySem PySem.Spec PyProof.Rows L2 FDivQ LA
theorem inv2 {le : List Int → List Int → Nat → List Int} (hle : LeP le) {w : Nat} {rows : List (List Int)} (hw : ∀ r ∈ rows, r.length = w) : ∀ p, p ≤ w → ∃ Hh P, Inv w rows p (eS le rows p).1 (eS le rows p).2 Hh P ∧ P.Pairwise (· < ·)
  | 0, _ => ⟨[], [], Inv.init hw, List.Pairwise.nil⟩
  | p + 1, hp => by
    obtain ⟨Hh, P, I, sP⟩ := inv2 hle hw p (by omega)
    show ∃ Hh P, Inv w rows (p + 1) (stp le p (eS le rows p)).1 (stp le p (eS le rows p)).2 Hh P ∧ _
    cases e : hix (eS le rows p).1 p with
    | none =>
      rw [stp_none e]
      exact ⟨Hh, P, I.none e, sP⟩
    | some h =>
      rw [stp_some e]
      obtain ⟨x, J⟩ := I.some hle (by omega) e
      refine ⟨_, _, J, List.pairwise_append.mpr ⟨sP, List.pairwise_singleton _ _, fun a ha b hb => ?_⟩⟩
      obtain ⟨k, hk, rfl⟩ := List.mem_iff_getElem.mp ha
      rw [List.mem_singleton.mp hb]
      have := I.pp k (by rw [← I.pl]; exact hk)
      rwa [List.getD_eq_getElem?_getD, List.getElem?_eq_getElem hk] at this
/-- an echelon as it is told: leads go up, each is alone in its column, no row has a common divisor -/
structure RE (w : Nat) (T : List (List Int)) : Prop where
  len : ∀ t ∈ T, t.length = w
  lt : ∀ t ∈ T, ld t < w
  nz : ∀ t ∈ T, co t (ld t) ≠ 0
  be : ∀ t ∈ T, ∀ j, j < ld t → co t j = 0
  z : ∀ i k, i < T.length → k < T.length → k ≠ i → row T k (ld (T.getD i [])) = 0
  so : (T.map ld).Pairwise (· < ·)
  pr : ∀ t ∈ T, primE t = t
theorem primE_idem (z : List Int) : primE (primE z) = primE z := by
  refine prim_pq (w := (primE z).length) ⟨rfl, (primE_len z).symm, pf z, 1, pf_ne z, by decide, fun j => ?_⟩
  rw [prim_ex, Int.one_mul]
theorem re_ech {le : List Int → List Int → Nat → List Int} (hle : LeP le) {w : Nat} {rows : List (List Int)} (hw : ∀ r ∈ rows, r.length = w) : RE w (ech le rows w) := by
  have hT := told hle (M := nm rows.flatten) hw fun r hr x hx => nm_mem (List.mem_flatten.mpr ⟨r, hr, hx⟩)
  refine ⟨hT.len, hT.lt, hT.nz, fun t ht j hj => (fo_ld ⟨_, hT.nz t ht⟩).2.2 j hj, hT.z, ?_, fun t ht => ?_⟩
  · obtain ⟨Hh, P, I, sP⟩ := inv2 hle hw w (Nat.le_refl _)
    unfold ech
    generalize (eS le rows w).1 = left at I
    generalize (eS le rows w).2 = found at I
    have hz : ∀ (r : List Int) (j : Nat), co (primE r) j = 0 ↔ co r j = 0 := fun r j => by
      have := prim_ex r j
      constructor <;> intro z <;> rw [z] at this
      · rw [Int.mul_zero] at this
        exact this.symm
      · exact (Int.mul_eq_zero.mp this).resolve_left (pf_ne r)
    have e : (found.map primE).map ld = P := by
      refine List.ext_getElem (by rw [List.length_map, List.length_map, I.pl]) fun k h1 h2 => ?_
      rw [List.length_map, List.length_map] at h1
      rw [List.getElem_map, List.getElem_map]
      have a1 := I.nz k h1
      have a2 := I.be k h1
      have e1 : found.getD k [] = found[k] := by rw [List.getD_eq_getElem?_getD, List.getElem?_eq_getElem h1]; rfl
      have e2 : P.getD k 0 = P[k] := by rw [List.getD_eq_getElem?_getD, List.getElem?_eq_getElem h2]; rfl
      unfold row at a1 a2
      rw [e1, e2] at a1
      rw [e1, e2] at a2
      exact ld_char (fun z => a1 ((hz _ _).mp z)) fun j hj => (hz _ _).mpr (a2 j hj)
    rw [e]
    exact sP
  · obtain ⟨z, _, rfl⟩ := List.mem_map.mp ht
    exact primE_idem z
theorem sorted_ext : ∀ {A B : List Nat}, A.Pairwise (· < ·) → B.Pairwise (· < ·) → (∀ x, x ∈ A ↔ x ∈ B) → A = B
  | [], [], _, _, _ => rfl
  | [], b :: bs, _, _, h => absurd ((h b).mpr List.mem_cons_self) List.not_mem_nil
  | a :: as, [], _, _, h => absurd ((h a).mp List.mem_cons_self) List.not_mem_nil
  | a :: as, b :: bs, hA, hB, h => by
    obtain ⟨a1, a2⟩ := List.pairwise_cons.mp hA
    obtain ⟨b1, b2⟩ := List.pairwise_cons.mp hB
    have e : a = b := by
      rcases List.mem_cons.mp ((h a).mp List.mem_cons_self) with q | q
      · exact q
      · rcases List.mem_cons.mp ((h b).mpr List.mem_cons_self) with r | r
        · exact r.symm
        · have := a1 b r
          have := b1 a q
          omega
    subst e
    rw [sorted_ext a2 b2 fun x => ⟨fun hx => ?_, fun hx => ?_⟩]
    · rcases List.mem_cons.mp ((h x).mp (List.mem_cons_of_mem _ hx)) with q | q
      · have := a1 x hx
        omega
      · exact q
    · rcases List.mem_cons.mp ((h x).mpr (List.mem_cons_of_mem _ hx)) with q | q
      · have := b1 x hx
        omega
      · exact q
theorem RE.at_lead {w : Nat} {T : List (List Int)} (h : RE w T) {c : Int} {v a : Nat → Int} (e : ∀ j, j < w → c * v j = S T.length (fun k => a k * row T k j)) {i : Nat} (hi : i < T.length) : c * v (ld (T.getD i [])) = a i * row T i (ld (T.getD i [])) := by
  rw [e _ (h.lt _ (mem_row hi)), S_one hi fun k hk hne => by rw [h.z i k hi hk hne, Int.mul_zero]]
theorem RE.lead {w : Nat} {T : List (List Int)} (h : RE w T) {t : List Int} (hl : ld t < w) (nz : co t (ld t) ≠ 0) (be : ∀ j, j < ld t → co t j = 0) (s : SpM w T t) : ld t ∈ T.map ld := by
  obtain ⟨c, hc, a, ha⟩ := s
  refine Classical.byContradiction fun no => ?_
  have e := ha (ld t) hl
  rw [S_zero fun k hk => ?_] at e
  · exact (Int.mul_eq_zero.mp e).elim hc nz
  · have ne : ld (T.getD k []) ≠ ld t := fun z => no (List.mem_map.mpr ⟨_, mem_row hk, z⟩)
    by_cases q : ld t < ld (T.getD k [])
    · rw [show row T k (ld t) = 0 from h.be _ (mem_row hk) _ q, Int.mul_zero]
    · have e1 := h.at_lead ha hk
      rw [be _ (by omega), Int.mul_zero] at e1
      rw [(Int.mul_eq_zero.mp e1.symm).resolve_right (h.nz _ (mem_row hk)), Int.zero_mul]
theorem re_uniq {w : Nat} {A B : List (List Int)} (hA : RE w A) (hB : RE w B) (s1 : ∀ t ∈ A, SpM w B t) (s2 : ∀ t ∈ B, SpM w A t) : A = B := by
  have el : A.map ld = B.map ld := sorted_ext hA.so hB.so fun x => ⟨fun hx => by
    obtain ⟨t, ht, rfl⟩ := List.mem_map.mp hx
    exact hB.lead (hA.lt t ht) (hA.nz t ht) (hA.be t ht) (s1 t ht), fun hx => by
    obtain ⟨t, ht, rfl⟩ := List.mem_map.mp hx
    exact hA.lead (hB.lt t ht) (hB.nz t ht) (hB.be t ht) (s2 t ht)⟩
  have ll : A.length = B.length := by
    have := congrArg List.length el
    rwa [List.length_map, List.length_map] at this
  have lk : ∀ k, k < A.length → ld (A.getD k []) = ld (B.getD k []) := fun k hk => by
    have e : (A.map ld)[k]'(by rw [List.length_map]; exact hk) = (B.map ld)[k]'(by rw [List.length_map]; omega) := by
      congr 1
    rw [List.getElem_map, List.getElem_map] at e
    rw [List.getD_eq_getElem?_getD, List.getElem?_eq_getElem hk, List.getD_eq_getElem?_getD, List.getElem?_eq_getElem (show k < B.length by omega)]
    exact e
  refine List.ext_getElem ll fun i h1 h2 => ?_
  have eA : A.getD i [] = A[i] := by rw [List.getD_eq_getElem?_getD, List.getElem?_eq_getElem h1]; rfl
  have eB : B.getD i [] = B[i] := by rw [List.getD_eq_getElem?_getD, List.getElem?_eq_getElem h2]; rfl
  have mA := mem_row h1
  have mB := mem_row h2
  obtain ⟨c, hc, a, ha⟩ := s2 _ mB
  have az : ∀ k, k < A.length → k ≠ i → a k = 0 := fun k hk hne => by
    have e1 := hA.at_lead ha hk
    rw [lk k hk, show co (B.getD i []) (ld (B.getD k [])) = 0 from hB.z k i (by omega) h2 (Ne.symm hne), Int.mul_zero, ← lk k hk] at e1
    exact (Int.mul_eq_zero.mp e1.symm).resolve_right (hA.nz _ (mem_row hk))
  have e2 : ∀ j, c * co (B.getD i []) j = a i * co (A.getD i []) j := fun j => by
    by_cases hj : j < w
    · rw [ha j hj, S_one h1 fun k hk hne => by rw [az k hk hne, Int.zero_mul]]
    · rw [co_far (by rw [hB.len _ mB]; omega), co_far (by rw [hA.len _ mA]; omega), Int.mul_zero, Int.mul_zero]
  have ai : a i ≠ 0 := fun z => by
    have := e2 (ld (B.getD i []))
    rw [z, Int.zero_mul] at this
    exact (Int.mul_eq_zero.mp this).elim hc (hB.nz _ mB)
  have p := prim_pq (w := w) ⟨hB.len _ mB, hA.len _ mA, c, a i, hc, ai, e2⟩
  rw [hA.pr _ mA, hB.pr _ mB, eA, eB] at p
  exact p.symm
/-- rows with one span have one echelon -/
theorem ech_same {le le' : List Int → List Int → Nat → List Int} (hle : LeP le) (hle' : LeP le') {w : Nat} {A B : List (List Int)} (hA : ∀ r ∈ A, r.length = w) (hB : ∀ r ∈ B, r.length = w) (s1 : ∀ t ∈ A, SpM w B t) (s2 : ∀ t ∈ B, SpM w A t) : ech le A w = ech le' B w := by
  have tA := told hle (M := nm A.flatten) hA fun r hr x hx => nm_mem (List.mem_flatten.mpr ⟨r, hr, hx⟩)
  have tB := told hle' (M := nm B.flatten) hB fun r hr x hx => nm_mem (List.mem_flatten.mpr ⟨r, hr, hx⟩)
  have to : ∀ {C D : List (List Int)}, Base w C.length (row C) D.length (row D) → ∀ t ∈ C, SpM w D t := fun {C D} b t ht => by
    obtain ⟨k, hk, e⟩ := row_mem ht
    have := b.to k hk
    rw [e] at this
    exact this
  have of : ∀ {C D : List (List Int)}, Base w C.length (row C) D.length (row D) → ∀ t ∈ D, SpM w C t := fun {C D} b t ht => by
    obtain ⟨k, hk, e⟩ := row_mem ht
    have := b.of k hk
    rw [e] at this
    exact this
  exact re_uniq (re_ech hle hA) (re_ech hle' hB) (fun t ht => ((of tA.base t ht).trans s1).trans (to tB.base)) fun t ht => ((of tB.base t ht).trans s2).trans (to tA.base)
end K83

set_option Elab.async false
set_option linter.all false
set_option maxRecDepth 100000
set_option maxHeartbeats 2000000
set_option exponentiation.threshold 10000
/-! plain: pencils: two rows, their span, their minors, their layings of odd times -/
namespace K83
open PySem PySem.Spec PyProof.Rows L2 StX RZ MyR SlX OwnR OwnF EnumT FDivQ LA
theorem ind_snoc2 {w n : Nat} {A : Nat → Nat → Int} {v : Nat → Int} (hI : Ind w n A) (ns : ¬ Sp w n A v) : Ind w (n + 1) (fun i => if i < n then A i else v) := fun a ha => by
  have e : ∀ j, j < w → S n (fun i => a i * A i j) + a n * v j = 0 := fun j hj => by
    have := ha j hj
    have e2 : S n (fun i => a i * (if i < n then A i else v) j) + a n * (if n < n then A n else v) j = 0 := this
    rw [if_neg (Nat.lt_irrefl _), S_congr (g := fun i => a i * A i j) fun i hi => by rw [if_pos hi]] at e2
    exact e2
  have last : a n = 0 := Classical.byContradiction fun q => ns ⟨a n, q, fun i => - a i, fun j hj => by
    have := e j hj
    rw [S_congr (g := fun i => (-1) * (a i * A i j)) fun i _ => by rw [Int.neg_mul, Int.neg_mul, Int.one_mul], S_mul]
    omega⟩
  have rest := hI a fun j hj => by
    have := e j hj
    rw [last, Int.zero_mul, Int.add_zero] at this
    exact this
  intro i hi
  by_cases c : i < n
  · exact rest i c
  · rw [show i = n by omega, last]
/-- as many independent ones as span, span -/
theorem full_span2 {w n m : Nat} {A B : Nat → Nat → Int} {v : Nat → Int} (hI : Ind w n A) (hA : ∀ i, i < n → Sp w m B (A i)) (hv : Sp w m B v) (hm : m ≤ n := by omega) : Sp w n A v := Classical.byContradiction fun ns => by
  have := steinitz (ind_snoc2 hI ns) (m := m) (B := B) fun i hi => by
    by_cases c : i < n
    · rw [if_pos c]
      exact hA i c
    · rw [if_neg c]
      exact hv
  omega
section
variable {w : Nat} {F G H K : List Int}
def mi (F G : List Int) (i j : Nat) : Int := co F i * co G j - co G i * co F j
/-- no multiples -/
def Rk2 (w : Nat) (F G : List Int) : Prop := ∃ i j, i < w ∧ j < w ∧ mi F G i j ≠ 0
theorem sp_two {v : List Int} : SpM w [F, G] v ↔ ∃ c : Int, c ≠ 0 ∧ ∃ α β : Int, ∀ j, j < w → c * co v j = α * co F j + β * co G j := by
  constructor
  · rintro ⟨c, hc, a, h⟩
    refine ⟨c, hc, a 0, a 1, fun j hj => ?_⟩
    rw [h j hj]
    show (0 : Int) + a 0 * co F j + a 1 * co G j = _
    rw [Int.zero_add]
  · rintro ⟨c, hc, α, β, h⟩
    refine ⟨c, hc, fun k => if k = 0 then α else β, fun j hj => ?_⟩
    rw [h j hj]
    show _ = (0 : Int) + α * co F j + β * co G j
    rw [Int.zero_add]
theorem ind_two (h : Rk2 w F G) : Ind w 2 (row [F, G]) := fun a ha => by
  obtain ⟨i, j, hi, hj, m⟩ := h
  have e : ∀ j, j < w → a 0 * co F j + a 1 * co G j = 0 := fun j hj => by
    have := ha j hj
    have e2 : (0 : Int) + a 0 * co F j + a 1 * co G j = 0 := this
    rwa [Int.zero_add] at e2
  have ei := e i hi
  have ej := e j hj
  unfold mi at m
  have z0 : a 0 * (co F i * co G j - co G i * co F j) = 0 := by grind
  have z1 : a 1 * (co F i * co G j - co G i * co F j) = 0 := by grind
  intro k hk
  rcases Nat.lt_or_ge k 1 with c | c
  · rw [show k = 0 by omega]
    exact (Int.mul_eq_zero.mp z0).resolve_right m
  · rw [show k = 1 by omega]
    exact (Int.mul_eq_zero.mp z1).resolve_right m
theorem two_w (hF : F.length = w) (hG : G.length = w) : ∀ r ∈ [F, G], r.length = w := fun r hr => by
  simp only [List.mem_cons, List.not_mem_nil, or_false] at hr
  rcases hr with e | e <;> rw [e] <;> assumption
theorem told_of {le : List Int → List Int → Nat → List Int} (hle : LeP le) {A : List (List Int)} (hA : ∀ r ∈ A, r.length = w) : Base w A.length (row A) (ech le A w).length (row (ech le A w)) :=
  (told hle (M := nm A.flatten) hA fun r hr x hx => nm_mem (List.mem_flatten.mpr ⟨r, hr, hx⟩)).base
theorem no_rk2 (h : ¬ Rk2 w F G) : ∃ v : List Int, SpM w [v] F ∧ SpM w [v] G := by
  have z : ∀ i j, i < w → j < w → co F i * co G j = co G i * co F j := fun i j hi hj => by
    refine Classical.byContradiction fun ne => h ⟨i, j, hi, hj, fun q => ne ?_⟩
    unfold mi at q
    omega
  by_cases c : ∀ j, j < w → co F j = 0
  · exact ⟨G, SpM.zero c, SpM.own (List.mem_singleton.mpr rfl)⟩
  · obtain ⟨i, hi⟩ := Classical.not_forall.mp c
    obtain ⟨hi, nz⟩ := Classical.not_imp.mp hi
    exact ⟨F, SpM.own (List.mem_singleton.mpr rfl), SpM.mul (c := co F i) (α := co G i) nz (SpM.own (List.mem_singleton.mpr rfl)) fun j hj => z i j hi hj⟩
theorem rk2_iff {le : List Int → List Int → Nat → List Int} (hle : LeP le) (hF : F.length = w) (hG : G.length = w) : (ech le [F, G] w).length = 2 ↔ Rk2 w F G := by
  have b := told_of hle (two_w hF hG)
  constructor
  · intro h
    refine Classical.byContradiction fun ne => ?_
    obtain ⟨v, s1, s2⟩ := no_rk2 ne
    have : (ech le [F, G] w).length ≤ 1 := steinitz b.ind (B := row [v]) fun i hi => (b.of i hi).trans fun k hk => by
      rcases Nat.lt_or_ge k 1 with c | c
      · rw [show k = 0 by omega]
        exact s1
      · rw [show k = 1 by have : k < 2 := hk; omega]
        exact s2
    omega
  · exact fun h => b.ind_all (ind_two h)
theorem rk2_le {le : List Int → List Int → Nat → List Int} (hle : LeP le) (hF : F.length = w) (hG : G.length = w) : (ech le [F, G] w).length ≤ 2 := by
  have b := told_of hle (two_w hF hG)
  exact steinitz b.ind fun i hi => b.of i hi
/-- minors that are multiples tell one span -/
theorem wedge_sp (h : Rk2 w F G) {p q : Int} (hp : p ≠ 0) (hq : q ≠ 0) (e : ∀ i j, i < w → j < w → p * mi F G i j = q * mi H K i j) : SpM w [F, G] H ∧ SpM w [F, G] K := by
  obtain ⟨a, b, ha, hb, nz⟩ := h
  constructor
  · refine sp_two.mpr ⟨p * mi F G a b, fun z => (Int.mul_eq_zero.mp z).elim hp nz, p * (co H a * co G b - co H b * co G a), p * (co H b * co F a - co H a * co F b), fun j hj => ?_⟩
    have e1 := e a b ha hb
    have e2 := e a j ha hj
    have e3 := e b j hb hj
    unfold mi at e1 e2 e3 ⊢
    grind
  · refine sp_two.mpr ⟨p * mi F G a b, fun z => (Int.mul_eq_zero.mp z).elim hp nz, p * (co K a * co G b - co K b * co G a), p * (co K b * co F a - co K a * co F b), fun j hj => ?_⟩
    have e1 := e a b ha hb
    have e2 := e a j ha hj
    have e3 := e b j hb hj
    unfold mi at e1 e2 e3 ⊢
    grind
def OneP (w : Nat) (F G H K : List Int) : Prop := SpM w [F, G] H ∧ SpM w [F, G] K
theorem OneP.mem (h : OneP w F G H K) : ∀ t ∈ [H, K], SpM w [F, G] t := fun t ht => by
  simp only [List.mem_cons, List.not_mem_nil, or_false] at ht
  rcases ht with e | e
  · rw [e]; exact h.1
  · rw [e]; exact h.2
theorem OneP.back (h : OneP w F G H K) (r2 : Rk2 w H K) : OneP w H K F G := by
  have f : ∀ v, SpM w [F, G] v → SpM w [H, K] v := fun v hv => full_span2 (n := 2) (m := 2) (A := row [H, K]) (B := row [F, G]) (ind_two r2) (fun i hi => by
    rcases Nat.lt_or_ge i 1 with c | c
    · rw [show i = 0 by omega]; exact h.1
    · rw [show i = 1 by omega]; exact h.2) hv
  exact ⟨f F (SpM.own (by simp)), f G (SpM.own (by simp))⟩
theorem OneP.eche {le le' : List Int → List Int → Nat → List Int} (hle : LeP le) (hle' : LeP le') (h : OneP w F G H K) (r2 : Rk2 w H K) (hF : F.length = w) (hG : G.length = w) (hH : H.length = w) (hK : K.length = w) : ech le [F, G] w = ech le' [H, K] w :=
  ech_same hle hle' (two_w hF hG) (two_w hH hK) (h.back r2).mem h.mem
theorem OneP.of_ech {le le' : List Int → List Int → Nat → List Int} (hle : LeP le) (hle' : LeP le') (hF : F.length = w) (hG : G.length = w) (hH : H.length = w) (hK : K.length = w) (e : ech le [F, G] w = ech le' [H, K] w) : OneP w F G H K := by
  have b1 := told_of hle (two_w hF hG)
  have b2 := told_of hle' (two_w hH hK)
  rw [← e] at b2
  exact ⟨(b2.to 0 (Nat.lt_of_lt_of_le Nat.zero_lt_two (Nat.le_refl 2))).trans fun k hk => b1.of k hk, (b2.to 1 (Nat.lt_succ_self 1)).trans fun k hk => b1.of k hk⟩
/-- all four -/
theorem OneP.four {le : List Int → List Int → Nat → List Int} (hle : LeP le) (r1 : Rk2 w F G) (hF : F.length = w) (hG : G.length = w) (hH : H.length = w) (hK : K.length = w) : (ech le [F, G, H, K] w).length = 2 ↔ OneP w F G H K := by
  have h4 : ∀ r ∈ [F, G, H, K], r.length = w := fun r hr => by
    simp only [List.mem_cons, List.not_mem_nil, or_false] at hr
    rcases hr with e | e | e | e <;> rw [e] <;> assumption
  have b := told_of hle h4
  constructor
  · intro e
    rw [e] at b
    have g : ∀ i, i < 2 → Sp w 2 (row (ech le [F, G, H, K] w)) (row [F, G] i) := fun i hi => match i, hi with
      | 0, _ => b.to 0 (show 0 < 4 by decide)
      | 1, _ => b.to 1 (show 1 < 4 by decide)
    have f : ∀ k, k < 4 → Sp w 2 (row [F, G]) (row [F, G, H, K] k) := fun k hk => full_span2 (ind_two r1) g (b.to k hk)
    exact ⟨f 2 (by decide), f 3 (by decide)⟩
  · intro h
    have u : (ech le [F, G, H, K] w).length ≤ 2 := steinitz b.ind (B := row [F, G]) fun i hi => (b.of i hi).trans fun k hk => by
      have hk : k < 4 := hk
      match k, hk with
      | 0, _ => exact SpM.own (B := [F, G]) (x := F) (by simp)
      | 1, _ => exact SpM.own (B := [F, G]) (x := G) (by simp)
      | 2, _ => exact h.1
      | 3, _ => exact h.2
    have l : 2 ≤ (ech le [F, G, H, K] w).length := steinitz (ind_two r1) (B := row (ech le [F, G, H, K] w)) fun i hi => match i, hi with
      | 0, _ => b.to 0 (show 0 < 4 by decide)
      | 1, _ => b.to 1 (show 1 < 4 by decide)
    omega
end
end K83

set_option Elab.async false
set_option linter.all false
set_option maxRecDepth 100000
set_option maxHeartbeats 4000000
namespace K83
open PySem PySem.Spec PyProof.Rows L2 StX RZ MyR SlX OwnR OwnF EnumT
section
variable {P : Program} {w : World} {K : PySem.W.Frag} {mg : Str → Option Value} {base : Heap}
theorem sgn_abs (k : Nat) : (sgn k).natAbs = 1 := by
  unfold sgn
  split <;> rfl
theorem tab_rep0 (n : Nat) : (List.replicate n [V.int 0]).flatten = tab n fun _ => 0 := by
  rw [← tab_rep]
  induction n with
  | zero => rfl
  | succ n ih => rw [List.replicate_succ, List.flatten_cons, ih, List.replicate_succ]; rfl
def spLaidIn : Sp := fun vs H Q _ => ∃ (a b : Addr) (f g : List Int) (t : Nat), vs = [.ref a, .ref b, .int t] ∧ H a = some (tp f) ∧ H b = some (tp g) ∧ LdOk t f g ∧ ∀ p H', Same H H' → H' p = some (tp (L t f g)) → Q (.ref p) H'
theorem ok_laid_in (T : Facts K mg) : FnOk P w K mg base CX0 3 T.f_laid_in T.fd_laid_in ["one", "other", "times"] spLaidIn := by
  have G_laying_slopes := ok_laying_slopes (P := P) (w := w) (base := base) T
  have G_add_product := ok_add_product (P := P) (w := w) (base := base) T
  have G_lots_of := ok_lots_of (P := P) (w := w) (base := base) T
  refine T.F_laid_in.ok sc_laid_in (fun vs H Q E h => ?_) (fun cdv A outer s H vs Q E hr h => ?_)
  · obtain ⟨a, b, f, g, t, rfl, _⟩ := h
    rfl
  · obtain ⟨a, b, f, g, t, rfl, ha, hb, ok, q⟩ := h
    have lf := ok.lf
    have lg := ok.lg
    have mf := ok.mf
    have mg' := ok.mg
    refine ⟨_, (PSs.nox (pss_cons (ps_set (i := 3) sc_laid_in.nd rfl (.inl rfl) (pe_op op_rep (pe_lst (pa_cons pe_int pa_nil)) (pe_op op_sub (pe_op op_sub (pe_op op_add (pe_callB call_len_seq (by rfl) T.z_len (by decide +kernel) (pa_cons (pv 0) pa_nil)) (pe_callB call_len_seq (by rfl) T.z_len (by decide +kernel) (pa_cons (pv 1) pa_nil))) pe_int) (pe_op op_mulW pe_int (pv 2)))))
    (pss_cons (ps_par (i := 4) (j := 5) (by rfl) sc_laid_in.nd rfl rfl (by decide) rfl rfl (pa_cons (pe_call G_laying_slopes hr (by rfl) T.g_laying_slopes T.F_laying_slopes.kp T.b_laying_slopes .nil pass0 (pa_cons (pv 0) (pa_cons (pv 2) pa_nil))) (pa_cons (pe_call G_laying_slopes hr (by rfl) T.g_laying_slopes T.F_laying_slopes.kp T.b_laying_slopes .nil pass0 (pa_cons (pv 1) (pa_cons (pv 2) pa_nil))) pa_nil)) (by rfl))
    (pss_cons (ps_for PassesOwn.never (by rfl) (pi_range1 (by rfl) T.z_range (pa_cons (pe_op op_add (pv 2) pe_int) pa_nil)) (pg_name (i := 6) sc_laid_in.nd rfl (.inl rfl))
      (pss_one (ps_expr (pe_call G_add_product (hr.mono (by decide)) (by rfl) T.g_add_product T.F_add_product.kp T.b_add_product .nil pass0 (pa_cons (pv 3) (pa_cons (pe_ix ix_list (pv 4) (pv 6) (fun _ _ => rfl)) (pa_cons (pe_ix ix_list (pv 5) (pe_op op_sub (pv 2) (pv 6)) (fun _ _ => rfl)) (pa_cons (pe_op op_mulW (pe_call G_lots_of (hr.mono (by decide)) (by rfl) T.g_lots_of T.F_lots_of.kp T.b_lots_of .nil pass0 (pa_cons (pv 2) (pa_cons (pv 6) pa_nil))) (pe_ifExp (pt_cmpR op_eq (pe_op op_mod (pv 6) pe_int) pe_int (nomark _)) pe_int (pe_un un_neg pe_int))) pa_nil))))))))
    (pss_one (ps_ret (pe_tupleOf (by rfl) T.z_tuple (pv 3)))))))), ?_⟩
    refine ⟨by show 1 ≤ sizeLine; decide, fun p0 n0 => gen_upd H p0 (.lst [.int 0]) n0 fun H0 s0 f0 => ⟨_, rfl, a, _, rfl, .inr (SqT.of (s0 _ _ ha)), _, rfl, b, _, rfl, .inr (SqT.of (s0 _ _ hb)), ?_⟩⟩
    rw [List.length_map, List.length_map]
    refine ⟨_, _, rfl, rfl, _, _, rfl, rfl, _, rfl, _, _, rfl, rfl, sm_mul (show sm 2 by show (2 : Nat) < 2 ^ 4000; exact lt400 (i := 1) (by decide) (by decide)) (sm_le (n := 100) (show ((t : Nat) : Int).natAbs ≤ 100 by omega) (by decide)), _, _, rfl, rfl, ?_⟩
    obtain ⟨N, hN⟩ : ∃ N, N = f.length + g.length - 1 - 2 * t := ⟨_, rfl⟩
    have eN : ((f.length : Int) + (g.length : Int) - 1 - 2 * (t : Int)) = (N : Int) := by omega
    dsimp only []
    rw [eN]
    have hz1 : [V.int 0].length * (N : Int).toNat ≤ sizeLine := by
      have hz : (1000 : Nat) ≤ sizeLine := by decide
      show 1 * (N : Int).toNat ≤ sizeLine
      omega
    refine ⟨p0, N, _, rfl, rfl, f0, by omega, by omega, hz1, fun R nR => ?_⟩
    rw [Int.toNat_natCast, tab_rep0]
    refine gen_upd H0 R _ nR fun H1 s1 f1 => ?_
    have s01 := s0.trans s1
    refine ⟨_, rfl, _, rfl, a, f, t, rfl, s01 _ _ ha, by omega, by omega, ok.smf, fun p2 rs H2 s2 n2 fr2 h2 l2 => ?_⟩
    refine ⟨_, rfl, _, rfl, b, g, t, rfl, (s01.trans s2) _ _ hb, by omega, by omega, ok.smg, fun p3 rs' H3 s3 n3 fr3 h3 l3 => ⟨_, _, rfl, ?_⟩⟩
    have f3 := (s2.trans s3) _ _ f1
    have h2' := s3 _ _ h2
    have l2' := l2.same s3
    have ne2 : ∀ r ∈ rs, r ≠ R := fun r hr z => by have := fr2 r hr; rw [z, f1] at this; cases this
    have ne3 : ∀ r ∈ rs', r ≠ R := fun r hr z => by have := fr3 r hr; rw [z, s2 _ _ f1] at this; cases this
    have nR2 : p2 ≠ R := fun z => by rw [z, f1] at n2; cases n2
    have nR3 : p3 ≠ R := fun z => by rw [z, s2 _ _ f1] at n3; cases n3
    have nHR : ∀ d o, H d = some o → d ≠ R := fun d o e => ne_of_none (s0 _ _ e) nR
    refine ⟨_, rfl, _, _, rfl, rfl, _, rfl, by omega, by omega, for_range (n := ((t : Int) + 1).toNat) (fun i σ H' => ∃ y6, σ = [some (.ref a), some (.ref b), some (.int t), some (.ref R), some (.ref p2), some (.ref p3), y6] ∧ Sx R H3 H' ∧ H' R = some (.lst (tab N (Lc t f g i)))) ⟨none, rfl, Sx.refl R H3, f3⟩ (fun i σ H' hi hP => ?_) (fun σ H' hP => ?_)⟩
    · obtain ⟨y6, rfl, sH, hL⟩ := hP
      have hi2 : i ≤ t := by omega
      have ei : (0 : Int) + (i : Int) = ((i : Nat) : Int) := by omega
      have et : (t : Int) - (0 + (i : Int)) = ((t - i : Nat) : Int) := by omega
      have hr1 : i < rs.length := by rw [l2'.len]; omega
      have hr2 : t - i < rs'.length := by rw [l3.len]; omega
      have q1 := sH _ _ (ne2 _ (List.getElem_mem hr1)) (l2'.row i hr1)
      have q2 := sH _ _ (ne3 _ (List.getElem_mem hr2)) (l3.row (t - i) hr2)
      rw [show t - (t - i) = i by omega] at q2
      refine ⟨_, rfl, _, rfl, _, rfl, p2, _, _, _, rfl, rfl, SqL.of (sH _ _ nR2 h2'), at_of ei (by rw [List.getElem?_map, List.getElem?_eq_getElem hr1]; rfl), ?_⟩
      refine ⟨_, rfl, _, rfl, _, rfl, _, _, rfl, rfl, p3, _, _, _, rfl, rfl, SqL.of (sH _ _ nR3 h3), at_of et (by rw [List.getElem?_map, List.getElem?_eq_getElem hr2]; rfl), ?_⟩
      have lotE : [V.int (t : Int), V.int (0 + (i : Int))] = [V.int (t : Int), V.int (i : Int)] := by rw [ei]
      have l1 := dd_len (t - i) i f
      have l2 := dd_len i (t - i) g
      refine ⟨_, rfl, _, rfl, t, i, lotE, hi2, by omega, ?_⟩
      refine ⟨_, rfl, _, _, rfl, rfl, (by show (0 : Int) < 2; decide), rfl, _, rfl, iteI (fun e => ?_) (fun e => ⟨_, rfl, ?_⟩)⟩
      · have es : sgn i = 1 := by
          unfold sgn
          rw [if_pos (by have : ((0 : Int) + (i : Int)) % 2 = 0 := e; omega)]
        have hc : ((ch t i : Nat) : Int) * 1 = sgn i * ch t i := by rw [es]; omega
        have cab : (((ch t i : Nat) : Int) * 1).natAbs ≤ 2 ^ 50 := by
          rw [hc, Int.natAbs_mul, sgn_abs, Nat.one_mul, Int.natAbs_natCast]
          exact Nat.le_trans (ch_le t i) (Nat.pow_le_pow_right (by decide) (by omega))
        refine ⟨_, _, rfl, rfl, sm_mul (sm_ch (by omega)) (show (1 : Int).natAbs < 2 ^ 4000 from lt400 (i := 1) (by decide) (by decide)), R, rs[i], rs'[t - i], N, Lc t f g i, dd (t - i) i f, dd i (t - i) g, ((ch t i : Nat) : Int) * 1, rfl, hL, q1, q2, ne2 _ (List.getElem_mem hr1), ne3 _ (List.getElem_mem hr2), by omega, by omega, fun z hz => ⟨ok.smf _ _ (by omega) z hz, ?_⟩, ok.smg _ _ (by omega), lt400 cab (by decide), fun H4 s4 f4 => ⟨_, rfl, sH.trans s4, ?_⟩⟩
        · show (_ * z).natAbs < _
          rw [Int.natAbs_mul]
          exact lt400 (Nat.le_trans (Nat.mul_le_mul cab (Nat.le_trans (nm_mem hz) (ok.sf (t - i) i (by omega)))) (Nat.le_of_eq (Nat.pow_add 2 50 1500).symm)) (by decide)
        · rw [f4, hc]
          rfl
      · have es : sgn i = -1 := by
          unfold sgn
          rw [if_neg (by have : ¬ ((0 : Int) + (i : Int)) % 2 = 0 := e; omega)]
        have hc : ((ch t i : Nat) : Int) * -1 = sgn i * ch t i := by rw [es]; omega
        have cab : (((ch t i : Nat) : Int) * -1).natAbs ≤ 2 ^ 50 := by
          rw [hc, Int.natAbs_mul, sgn_abs, Nat.one_mul, Int.natAbs_natCast]
          exact Nat.le_trans (ch_le t i) (Nat.pow_le_pow_right (by decide) (by omega))
        refine ⟨_, _, rfl, rfl, sm_mul (sm_ch (by omega)) (show (-1 : Int).natAbs < 2 ^ 4000 from lt400 (i := 1) (by decide) (by decide)), R, rs[i], rs'[t - i], N, Lc t f g i, dd (t - i) i f, dd i (t - i) g, ((ch t i : Nat) : Int) * -1, rfl, hL, q1, q2, ne2 _ (List.getElem_mem hr1), ne3 _ (List.getElem_mem hr2), by omega, by omega, fun z hz => ⟨ok.smf _ _ (by omega) z hz, ?_⟩, ok.smg _ _ (by omega), lt400 cab (by decide), fun H4 s4 f4 => ⟨_, rfl, sH.trans s4, ?_⟩⟩
        · show (_ * z).natAbs < _
          rw [Int.natAbs_mul]
          exact lt400 (Nat.le_trans (Nat.mul_le_mul cab (Nat.le_trans (nm_mem hz) (ok.sf (t - i) i (by omega)))) (Nat.le_of_eq (Nat.pow_add 2 50 1500).symm)) (by decide)
        · rw [f4, hc]
          rfl
    · obtain ⟨y6, rfl, sH, hL⟩ := hP
      rw [show ((t : Int) + 1).toNat = t + 1 by omega] at hL
      refine ⟨_, rfl, .inl ⟨R, _, rfl, SqL.of hL, fun p np => q p _ (fun d o e => ?_) ?_⟩⟩
      · exact same_upd0 np _ _ (sH _ _ (nHR d o e) ((s01.trans (s2.trans s3)) _ _ e))
      · rw [upd_same, tab_tb, hN, L_tab ok.lf ok.lg]
end
end K83

set_option Elab.async false
set_option linter.all false
set_option maxRecDepth 100000
set_option maxHeartbeats 4000000
namespace K83
open PySem PySem.Spec PyProof.Rows L2 StX RZ MyR SlX OwnR OwnF EnumT
theorem L_swap_list {t : Nat} {f g : List Int} (hf : t + 1 ≤ f.length) (hg : t + 1 ≤ g.length) : L t g f = (L t f g).map (sgn t * ·) :=
  ev_inj (by rw [map_len, L_len t g f hg hf, L_len t f g hf hg, Nat.add_comm g.length]) fun x y => by rw [ev_map, L_swap x y t f g hf hg, sgn_pow]
theorem L_changed_list {a b c e : Int} {t : Nat} {f g : List Int} (hf : t + 1 ≤ f.length) (hg : t + 1 ≤ g.length) :
    L t (changed [a, b] [c, e] f) (changed [a, b] [c, e] g) = (changed [a, b] [c, e] (L t f g)).map fun x => x * (a * e - b * c) ^ t := by
  have l1 := changed_len (X := [a, b]) (Y := [c, e]) rfl rfl (ne_of2 (show 1 ≤ f.length by omega))
  have l2 := changed_len (X := [a, b]) (Y := [c, e]) rfl rfl (ne_of2 (show 1 ≤ g.length by omega))
  have l3 := L_len t f g hf hg
  have n3 : L t f g ≠ [] := ne_of2 (by omega)
  have l4 := changed_len (X := [a, b]) (Y := [c, e]) rfl rfl n3
  rw [map_mul_comm]
  refine ev_inj (by rw [map_len, L_len t _ _ (by omega) (by omega), l1, l2, l4, l3]) fun x y => ?_
  rw [L_changed x y t f g hf hg, ev_map, ev_changed rfl rfl n3, ev2, ev2]
theorem L_bd : ∀ (t : Nat) {f g : List Int} {n m A B : Nat}, Bd f n A → Bd g m B → n ≤ 7 → m ≤ 7 → t ≤ n → t ≤ m → Bd (L t f g) (n + m - 2 * t) (2 ^ (7 * t) * (A * B))
  | 0, f, g, n, m, A, B, hf, hg, _, _, _, _ => by
    have := bd_ml hf hg
    rw [Nat.mul_zero, Nat.pow_zero, Nat.one_mul]
    exact this
  | t + 1, f, g, n, m, A, B, hf, hg, hn, hm, h1, h2 => by
    have lf := hf.len
    have lg := hg.len
    have bx : ∀ {l : List Int} {k C : Nat}, Bd l k C → k ≤ 7 → 1 ≤ k → Bd (dX l) (k - 1) (8 * C) := fun h hk h0 => ⟨by rw [dX_len, h.len]; omega, Nat.le_trans (nm_dX _) (Nat.mul_le_mul (by rw [h.len]; omega) h.nm)⟩
    have by_ : ∀ {l : List Int} {k C : Nat}, Bd l k C → k ≤ 7 → 1 ≤ k → Bd (dY l) (k - 1) (8 * C) := fun h hk h0 => ⟨by rw [dY_len, h.len]; omega, Nat.le_trans (nm_dY _) (Nat.mul_le_mul (by rw [h.len]; omega) h.nm)⟩
    have r1 := L_bd t (bx hf hn (by omega)) (by_ hg hm (by omega)) (by omega) (by omega) (by omega) (by omega)
    have r2 := L_bd t (by_ hf hn (by omega)) (bx hg hm (by omega)) (by omega) (by omega) (by omega) (by omega)
    have r3 := bd_zs' (-1) r1 r2
    rw [show n - 1 + (m - 1) - 2 * t = n + m - 2 * (t + 1) by omega] at r3
    refine r3.mono (Nat.le_of_eq ?_)
    rw [show 7 * (t + 1) = 7 * t + 7 by omega, Nat.pow_add]
    show _ + 1 * _ = _
    generalize 2 ^ (7 * t) = Z
    rw [show (2 : Nat) ^ 7 = 128 by decide]
    grind
theorem dd_nm {l : List Int} {n A i j : Nat} (h : Bd l n A) (hn : n ≤ 7) (hij : i + j ≤ n) : nm (dd i j l) ≤ 2 ^ 21 * A := by
  have hl := h.len
  refine Nat.le_trans (nm_dd i j l (by omega)) (Nat.mul_le_mul ?_ h.nm)
  exact Nat.le_trans (Nat.pow_le_pow_left (show l.length ≤ 8 by omega) _) (Nat.le_trans (Nat.pow_le_pow_right (by decide) (show i + j ≤ 7 by omega)) (by decide))
theorem ldOk_of {f g : List Int} {n m t : Nat} (hf : Bd f n (2 ^ 100)) (hg : Bd g m (2 ^ 100)) (hn : n ≤ 7) (hm : m ≤ 7) (h1 : t ≤ n) (h2 : t ≤ m) : LdOk t f g :=
  ⟨by rw [hf.len]; omega, by rw [hg.len]; omega, by rw [hf.len]; omega, by rw [hg.len]; omega, fun i j hij => Nat.le_trans (dd_nm hf hn (by omega)) (by decide), fun i j hij => Nat.le_trans (dd_nm hg hm (by omega)) (by decide)⟩
section
variable {P : Program} {w : World} {K : PySem.W.Frag} {mg : Str → Option Value} {base : Heap}
theorem ok_law_choose (T : Facts K mg) : FnOk P w K mg base CX0 1 T.f_law_choose T.fd_law_choose ["_law_many", "_law_few"] spLots := by
  refine T.F_law_choose.ok sc_law_choose (fun vs H Q E h => ?_) (fun cdv A outer s H vs Q E hr h => ?_)
  · obtain ⟨n, k, rfl, _⟩ := h
    rfl
  · obtain ⟨n, k, rfl, hk, hn, q⟩ := h
    refine ⟨_, (PSs.nox (pss_cons (ps_set (i := 2) sc_law_choose.nd rfl (.inl rfl) pe_int)
    (pss_cons (ps_for PassesOwn.never (by rfl) (pi_range1 (by rfl) T.z_range (pa_cons (pv 1) pa_nil)) (pg_name (i := 3) sc_law_choose.nd rfl (.inl rfl))
      (pss_one (ps_set (i := 2) sc_law_choose.nd rfl (.inl rfl) (pe_op op_fdivZ (pe_op op_mulW (pv 2) (pe_op op_sub (pv 0) (pv 3))) (pe_op op_add (pv 3) pe_int)))))
    (pss_one (ps_ret (pv 2)))))), ?_⟩
    refine ⟨_, rfl, k, rfl, by omega, by omega, for_range (n := (k : Int).toNat) (fun i σ H' => ∃ y3, σ = [some (.int n), some (.int k), some (.int (ch n i)), y3] ∧ H' = H) ⟨none, by rw [ch_zero]; rfl, rfl⟩ (fun i σ H' hi hP => ?_) (fun σ H' hP => ?_)⟩
    · obtain ⟨y3, rfl, rfl⟩ := hP
      have e := ch_mul n i
      have hi1 : (0 : Int) + (i : Int) + 1 ≠ 0 := by omega
      refine ⟨_, rfl, _, rfl, _, rfl, _, _, rfl, rfl, _, _, rfl, rfl, sm_mul (sm_ch hn) (Nat.lt_of_le_of_lt (show ((n : Int) - (0 + (i : Int))).natAbs ≤ 50 by omega) (Nat.lt_of_lt_of_le (show 50 < 2 ^ 7 by decide) (Nat.pow_le_pow_right (by decide) (by decide)))), _, rfl, _, _, rfl, rfl, _, _, rfl, rfl, ⟨hi1, Nat.lt_trans (PySem.Flt.log2_lt_of (k := 10) (by decide) (by show ((0 : Int) + (i : Int) + 1).natAbs < 2 ^ 10; omega)) (by decide)⟩, some (.int (0 + (i : Int))), ?_, rfl⟩
      have e2 : (((ch n i : Nat) : Int) * ((n : Int) - (0 + (i : Int)))).fdiv (0 + (i : Int) + 1) = ((ch n (i + 1) : Nat) : Int) := by
        rw [Int.zero_add, ← e, Int.mul_fdiv_cancel _ (by omega)]
      show [some (V.int n), some (V.int k), some (V.int ((((ch n i : Nat) : Int) * ((n : Int) - (0 + (i : Int)))).fdiv (0 + (i : Int) + 1))), _] = _
      rw [e2]
    · obtain ⟨y3, rfl, rfl⟩ := hP
      rw [Int.toNat_natCast]
      exact ⟨_, rfl, q⟩
def spRaised : Sp := fun vs H Q _ => ∃ (c : Int) (n : Nat), vs = [.int c, .int n] ∧ (∀ i, i ≤ n → sm (c ^ i)) ∧ sm c ∧ n ≤ 100 ∧ Q (.int (c ^ n)) H
theorem ok_law_raised (T : Facts K mg) : FnOk P w K mg base CX0 1 T.f_law_raised T.fd_law_raised ["_law_number", "_law_times"] spRaised := by
  refine T.F_law_raised.ok sc_law_raised (fun vs H Q E h => ?_) (fun cdv A outer s H vs Q E hr h => ?_)
  · obtain ⟨c, n, rfl, _⟩ := h
    rfl
  · obtain ⟨c, n, rfl, hs, hc, hn, q⟩ := h
    refine ⟨_, (PSs.nox (pss_cons (ps_set (i := 2) sc_law_raised.nd rfl (.inl rfl) pe_int)
    (pss_cons (ps_for PassesOwn.never (by rfl) (pi_range1 (by rfl) T.z_range (pa_cons (pv 1) pa_nil)) (pg_name (i := 3) sc_law_raised.nd rfl (.inl rfl))
      (pss_one (ps_set (i := 2) sc_law_raised.nd rfl (.inl rfl) (pe_op op_mulW (pv 2) (pv 0)))))
    (pss_one (ps_ret (pv 2)))))), ?_⟩
    refine ⟨_, rfl, n, rfl, by omega, by omega, for_range (n := (n : Int).toNat) (fun i σ H' => ∃ y3, σ = [some (.int c), some (.int n), some (.int (c ^ i)), y3] ∧ H' = H) ⟨none, by rw [Int.pow_zero]; rfl, rfl⟩ (fun i σ H' hi hP => ?_) (fun σ H' hP => ?_)⟩
    · obtain ⟨y3, rfl, rfl⟩ := hP
      refine ⟨_, rfl, _, rfl, _, _, rfl, rfl, sm_mul (hs i (by omega)) hc, some (.int (0 + (i : Int))), ?_, rfl⟩
      rw [Int.pow_succ]
      rfl
    · obtain ⟨y3, rfl, rfl⟩ := hP
      rw [Int.toNat_natCast]
      exact ⟨_, rfl, q⟩
theorem ok_law_laid (T : Facts K mg) : FnOk P w K mg base CX0 3 T.f_law_laid T.fd_law_laid ["_law_one", "_law_other", "_law_times"] spLaidIn := by
  have G_law_choose := ok_law_choose (P := P) (w := w) (base := base) T
  have G_law_derived := ok_law_derived (P := P) (w := w) (base := base) T
  have G_law_product := ok_law_product (P := P) (w := w) (base := base) T
  have G_law_plus := ok_law_plus (P := P) (w := w) (base := base) T
  have G_law_scaled := ok_law_scaled (P := P) (w := w) (base := base) T
  refine T.F_law_laid.ok sc_law_laid (fun vs H Q E h => ?_) (fun cdv A outer s H vs Q E hr h => ?_)
  · obtain ⟨a, b, f, g, t, rfl, _⟩ := h
    rfl
  · obtain ⟨a, b, f, g, t, rfl, ha, hb, ok, q⟩ := h
    have lf := ok.lf
    have lg := ok.lg
    have mf := ok.mf
    have mg' := ok.mg
    refine ⟨_, (PSs.nox (pss_cons (ps_set (i := 3) sc_law_laid.nd rfl (.inl rfl) (pe_tupleOf (by rfl) T.z_tuple (pe_lc (own := [("_law_place", 4)]) (g := (gName 4)) (tt := tYes) (by rfl) sc_law_laid.nd (pi_range1 (by rfl) T.z_range (pa_cons (pe_op op_sub (pe_op op_sub (pe_op op_add (pe_callB call_len_seq (by rfl) T.z_len (by decide +kernel) (pa_cons (pv 0) pa_nil)) (pe_callB call_len_seq (by rfl) T.z_len (by decide +kernel) (pa_cons (pv 1) pa_nil))) pe_int) (pe_op op_mulW pe_int (pv 2))) pa_nil)) (blkOk_by (N := N_law_laid) (sc := defScope s_law_laid) (by decide +kernel)) (fun _ _ _ _ _ => (pg_name (i := 4) sc_law_laid.nd rfl (.inl rfl))) (fun _ _ _ _ _ => pts_nil) (fun _ _ _ _ _ => pe_int))))
    (pss_cons (ps_for PassesOwn.never (by rfl) (pi_range1 (by rfl) T.z_range (pa_cons (pe_op op_add (pv 2) pe_int) pa_nil)) (pg_name (i := 5) sc_law_laid.nd rfl (.inl rfl))
      (pss_cons (ps_set (i := 6) sc_law_laid.nd rfl (.inl rfl) (pe_call G_law_product (hr.mono (by decide)) (by rfl) T.g_law_product T.F_law_product.kp T.b_law_product .nil pass0 (pa_cons (pe_call G_law_derived hr (by rfl) T.g_law_derived T.F_law_derived.kp T.b_law_derived .nil pass0 (pa_cons (pv 0) (pa_cons (pe_op op_sub (pv 2) (pv 5)) (pa_cons (pv 5) pa_nil)))) (pa_cons (pe_call G_law_derived hr (by rfl) T.g_law_derived T.F_law_derived.kp T.b_law_derived .nil pass0 (pa_cons (pv 1) (pa_cons (pv 5) (pa_cons (pe_op op_sub (pv 2) (pv 5)) pa_nil)))) pa_nil))))
      (pss_cons (ps_set (i := 7) sc_law_laid.nd rfl (.inl rfl) (pe_call G_law_choose (hr.mono (by decide)) (by rfl) T.g_law_choose T.F_law_choose.kp T.b_law_choose .nil pass0 (pa_cons (pv 2) (pa_cons (pv 5) pa_nil))))
      (pss_one (ps_set (i := 3) sc_law_laid.nd rfl (.inl rfl) (pe_call G_law_plus (hr.mono (by decide)) (by rfl) T.g_law_plus T.F_law_plus.kp T.b_law_plus .nil pass0 (pa_cons (pv 3) (pa_cons (pe_call G_law_scaled (hr.mono (by decide)) (by rfl) T.g_law_scaled T.F_law_scaled.kp T.b_law_scaled .nil pass0 (pa_cons (pv 6) (pa_cons (pe_ifExp (pt_cmpR op_eq (pe_op op_mod (pv 5) pe_int) pe_int (nomark _)) (pv 7) (pe_op op_sub pe_int (pv 7))) pa_nil))) pa_nil))))))))
    (pss_one (ps_ret (pv 3)))))), ?_⟩
    refine ⟨_, rfl, a, _, rfl, .inr (SqT.of ha), _, rfl, b, _, rfl, .inr (SqT.of hb), ?_⟩
    rw [List.length_map, List.length_map]
    refine ⟨_, _, rfl, rfl, _, _, rfl, rfl, _, rfl, _, _, rfl, rfl, sm_mul (show sm 2 by show (2 : Nat) < 2 ^ 4000; exact lt400 (i := 1) (by decide) (by decide)) (sm_le (n := 100) (show ((t : Nat) : Int).natAbs ≤ 100 by omega) (by decide)), _, _, rfl, rfl, ?_⟩
    obtain ⟨N, hN⟩ : ∃ N, N = f.length + g.length - 1 - 2 * t := ⟨_, rfl⟩
    have eN : ((f.length : Int) + (g.length : Int) - 1 - 2 * (t : Int)) = (N : Int) := by omega
    dsimp only []
    rw [eN]
    refine ⟨N, rfl, by omega, by omega, fun D hD => lc_range (n := (N : Int).toNat) (fun j H' => H' = upd H D (.lst (tab j fun _ => 0))) rfl (fun j H' hj hP => ?_) (fun H' hP => ?_)⟩
    · subst hP
      refine ⟨rfl, _, upd_same, by rw [tab_len]; exact small1000 (by omega), ?_⟩
      rw [upd_upd, ← tab_snoc]
    · subst hP
      rw [Int.toNat_natCast, tab_tb]
      refine .inl ⟨D, _, rfl, SqL.of upd_same, fun p0 n0 => ?_⟩
      have sD := same_upd0 (o := .lst ((tb N fun _ => (0 : Int)).map V.int)) hD
      refine gen_upd _ p0 (tp (tb N fun _ => 0)) n0 fun H1 s1 f1 => ?_
      have s01 := sD.trans s1
      refine ⟨_, rfl, _, _, rfl, rfl, _, rfl, by omega, by omega, for_range (n := ((t : Int) + 1).toNat) (fun i σ H' => ∃ r y4 y5 y6 y7, σ = [some (.ref a), some (.ref b), some (.int t), some (.ref r), y4, y5, y6, y7] ∧ Same H H' ∧ H' r = some (tp (tb N (Lc t f g i)))) ⟨p0, none, none, none, none, rfl, s01, f1⟩ (fun i σ H' hi hP => ?_) (fun σ H' hP => ?_)⟩
      · obtain ⟨r, y4, y5, y6, y7, rfl, sH, hr2⟩ := hP
        have hi2 : i ≤ t := by omega
        have ei : (0 : Int) + (i : Int) = ((i : Nat) : Int) := by omega
        have et : (t : Int) - (0 + (i : Int)) = ((t - i : Nat) : Int) := by omega
        have l1 := dd_len (t - i) i f
        have l2 := dd_len i (t - i) g
        have of_ : DdOk (t - i) i f := ⟨by omega, by omega, fun u hu z hz => ok.smf u 0 (by omega) z hz, fun u hu z hz => ok.smf (t - i) u (by omega) z hz⟩
        have og : DdOk i (t - i) g := ⟨by omega, by omega, fun u hu z hz => ok.smg u 0 (by omega) z hz, fun u hu z hz => ok.smg i u (by omega) z hz⟩
        have n1 : dd (t - i) i f ≠ [] := ne_of2 (by omega)
        have n2 : dd i (t - i) g ≠ [] := ne_of2 (by omega)
        refine ⟨_, rfl, _, rfl, _, rfl, _, _, rfl, rfl, _, rfl, a, f, t - i, i, ?_, sH _ _ ha, of_, fun p3 H3 s3 f3 => ?_⟩
        · show [V.ref a, V.int ((t : Int) - (0 + (i : Int))), V.int (0 + (i : Int))] = _
          rw [et, ei]
        refine ⟨_, rfl, _, rfl, _, rfl, _, rfl, _, _, rfl, rfl, b, g, i, t - i, ?_, (sH.trans s3) _ _ hb, og, fun p4 H4 s4 f4 => ?_⟩
        · show [V.ref b, V.int (0 + (i : Int)), V.int ((t : Int) - (0 + (i : Int)))] = _
          rw [et, ei]
        refine ⟨p3, p4, _, _, rfl, s4 _ _ f3, f4, n1, n2, by omega, by omega, ok.smf _ _ (by omega), ok.smg _ _ (by omega), fun p5 H5 s5 _ f5 => ?_⟩
        refine ⟨_, rfl, _, rfl, t, i, by rw [ei]; rfl, hi2, by omega, ?_⟩
        have lm : (ml (dd (t - i) i f) (dd i (t - i) g)).length = N := by rw [ml_len]; omega
        have sm5 : ∀ z ∈ ml (dd (t - i) i f) (dd i (t - i) g), sm z := fun z hz => lt400 (Nat.le_trans (nm_mem hz) (Nat.le_trans (nm_ml _ _) (Nat.le_trans (Nat.mul_le_mul (ok.sf (t - i) i (by omega)) (ok.sg i (t - i) (by omega))) (Nat.le_of_eq (Nat.pow_add 2 1500 1500).symm)))) (by decide)
        have t5 := (s3.trans s4).trans s5
        have fin : ∀ c : Int, c = sgn i * ch t i → ∀ p6 H6, Same H5 H6 → H6 p6 = some (tp ((ml (dd (t - i) i f) (dd i (t - i) g)).map (c * ·))) → H6 r = some (tp (tb N (Lc t f g i))) ∧ (tb N (Lc t f g i)).length = ((ml (dd (t - i) i f) (dd i (t - i) g)).map (c * ·)).length ∧ zs 1 (tb N (Lc t f g i)) ((ml (dd (t - i) i f) (dd i (t - i) g)).map (c * ·)) = tb N (Lc t f g (i + 1)) := fun c hc p6 H6 s6 f6 => by
          have hlen : (tb N (Lc t f g i)).length = ((ml (dd (t - i) i f) (dd i (t - i) g)).map (c * ·)).length := by rw [tb_len, List.length_map, lm]
          refine ⟨(t5.trans s6) _ _ hr2, hlen, co_inj (by rw [zs_len hlen, tb_len, tb_len]) fun k => ?_⟩
          rw [co_zs' 1 hlen, co_map, co_tb, co_tb, hc]
          by_cases hk : k < N
          · rw [if_pos hk, if_pos hk, co_ml n2]
            show _ = Lc t f g i k + sgn i * ch t i * cv (dd (t - i) i f) (co (dd i (t - i) g)) k
            omega
          · rw [if_neg hk, if_neg hk, co_far (by rw [lm]; omega)]
            omega
        have bc : sm ((ch t i : Nat) : Int) := sm_ch (by omega)
        have bc' : sm (0 - ((ch t i : Nat) : Int)) := by
          show (0 - ((ch t i : Nat) : Int)).natAbs < _
          rw [Int.zero_sub, Int.natAbs_neg]
          exact bc
        refine ⟨_, rfl, _, rfl, _, rfl, _, _, rfl, rfl, (by show (0 : Int) < 2; decide), rfl, _, rfl, iteI (fun e => ?_) (fun e => ?_)⟩
        · have es : ((ch t i : Nat) : Int) = sgn i * ch t i := by
            unfold sgn
            rw [if_pos (by have : ((0 : Int) + (i : Int)) % 2 = 0 := e; omega), Int.one_mul]
          refine ⟨_, rfl, p5, _, _, rfl, f5, by rw [lm]; omega, sm5, bc, fun p6 H6 s6 _ f6 => ?_⟩
          obtain ⟨g1, g2, g3⟩ := fin _ es p6 H6 s6 f6
          exact ⟨r, p6, _, _, rfl, g1, f6, g2, by rw [tb_len]; omega, fun p7 H7 s7 _ f7 => ⟨p7, _, _, _, _, rfl, sH.trans ((t5.trans s6).trans s7), by rw [f7, g3]⟩⟩
        · have es : 0 - ((ch t i : Nat) : Int) = sgn i * ch t i := by
            unfold sgn
            rw [if_neg (by have : ¬ ((0 : Int) + (i : Int)) % 2 = 0 := e; omega)]
            omega
          refine ⟨_, rfl, _, _, rfl, rfl, p5, _, _, rfl, f5, by rw [lm]; omega, sm5, bc', fun p6 H6 s6 _ f6 => ?_⟩
          obtain ⟨g1, g2, g3⟩ := fin _ es p6 H6 s6 f6
          exact ⟨r, p6, _, _, rfl, g1, f6, g2, by rw [tb_len]; omega, fun p7 H7 s7 _ f7 => ⟨p7, _, _, _, _, rfl, sH.trans ((t5.trans s6).trans s7), by rw [f7, g3]⟩⟩
      · obtain ⟨r, y4, y5, y6, y7, rfl, sH, hr2⟩ := hP
        rw [show ((t : Int) + 1).toNat = t + 1 by omega, hN, L_tab ok.lf ok.lg] at hr2
        exact ⟨_, rfl, q r H' sH hr2⟩
end
end K83

set_option Elab.async false
set_option linter.all false
set_option maxRecDepth 100000
set_option maxHeartbeats 2000000
set_option exponentiation.threshold 10000
/-! plain: layings of odd times of two forms of one degree, of their sums and changes; they tell the span -/
namespace K83
open PySem PySem.Spec PyProof.Rows L2 StX RZ MyR SlX OwnR OwnF EnumT FDivQ LA
def cb (α β : Int) (F G : List Int) : List Int := zs 1 (F.map (α * ·)) (G.map (β * ·))
section
variable {F G H K : List Int} {n t : Nat}
theorem cb_len {α β : Int} (h : F.length = G.length) : (cb α β F G).length = F.length := by
  unfold cb
  rw [zs_len (by rw [List.length_map, List.length_map, h]), List.length_map]
theorem co_cb {α β : Int} (h : F.length = G.length) (j : Nat) : co (cb α β F G) j = α * co F j + β * co G j := by
  unfold cb
  rw [co_zs' 1 (by rw [List.length_map, List.length_map, h]), co_scale, co_scale, Int.one_mul]
theorem odd_pow (ht : t % 2 = 1) : (-1 : Int) ^ t = -1 := by
  rw [sgn_pow]
  unfold sgn
  rw [if_neg (by omega)]
theorem L_self (hF : t + 1 ≤ F.length) (ht : t % 2 = 1) (x y : Int) : ev (L t F F) x y = 0 := by
  have := L_swap x y t F F hF hF
  rw [odd_pow ht] at this
  omega
theorem L_cb {α β γ δ : Int} (h : F.length = G.length) (hF : t + 1 ≤ F.length) (ht : t % 2 = 1) (x y : Int) : ev (L t (cb α β F G) (cb γ δ F G)) x y = (α * δ - β * γ) * ev (L t F G) x y := by
  have hG : t + 1 ≤ G.length := by omega
  have mF : ∀ c : Int, (F.map (c * ·)).length = F.length := fun c => List.length_map ..
  have mG : ∀ c : Int, (G.map (c * ·)).length = G.length := fun c => List.length_map ..
  have lc : t + 1 ≤ (cb γ δ F G).length := by rw [cb_len h]; exact hF
  have e1 := L_zsl 1 x y t (F.map (α * ·)) (G.map (β * ·)) (cb γ δ F G) (by rw [mF, mG, h]) (by rw [mF]; exact hF) lc
  have e2 := L_mapl α x y t F (cb γ δ F G) hF lc
  have e3 := L_mapl β x y t G (cb γ δ F G) hG lc
  have r : ∀ Z : List Int, t + 1 ≤ Z.length → ev (L t Z (cb γ δ F G)) x y = γ * ev (L t Z F) x y + δ * ev (L t Z G) x y := fun Z hZ => by
    have f1 := L_zsr 1 x y t Z (F.map (γ * ·)) (G.map (δ * ·)) (by rw [mF, mG, h]) hZ (by rw [mF]; exact hF)
    have f2 := L_mapr γ x y t Z F hZ hF
    have f3 := L_mapr δ x y t Z G hZ hG
    show ev (L t Z (zs 1 (F.map (γ * ·)) (G.map (δ * ·)))) x y = _
    rw [f1, f2, f3, Int.one_mul]
  have s1 := L_self hF ht x y
  have s2 := L_self hG ht x y
  have s3 := L_swap x y t F G hF hG
  rw [odd_pow ht] at s3
  show ev (L t (zs 1 (F.map (α * ·)) (G.map (β * ·))) (cb γ δ F G)) x y = _
  rw [e1, e2, e3, r F hF, r G hG, s1, s2, s3]
  grind
theorem Lo_len (h : F.length = G.length) (hF : t + 1 ≤ F.length) : (L t F G).length = F.length + F.length - 1 - 2 * t := by
  rw [L_len t F G hF (by omega), h]
theorem L_cb_list {α β γ δ : Int} (h : F.length = G.length) (hF : t + 1 ≤ F.length) (ht : t % 2 = 1) : L t (cb α β F G) (cb γ δ F G) = (L t F G).map ((α * δ - β * γ) * ·) := by
  have l1 := cb_len (α := α) (β := β) h
  have l2 := cb_len (α := γ) (β := δ) h
  refine ev_inj (by rw [List.length_map, Lo_len (by rw [l1, l2]) (by rw [l1]; exact hF), Lo_len h hF, l1]) fun x y => ?_
  rw [L_cb h hF ht, ev_map]
theorem cb_of {c α β : Int} (hH : H.length = F.length) (h : F.length = G.length) (e : ∀ j, j < F.length → c * co H j = α * co F j + β * co G j) : H.map (c * ·) = cb α β F G := by
  refine co_inj (by rw [List.length_map, cb_len h, hH]) fun j => ?_
  rw [co_scale, co_cb h]
  by_cases q : j < F.length
  · exact e j q
  · rw [co_far (by omega), co_far (l := F) (by omega), co_far (l := G) (by omega)]
    omega
/-- two sums, up to numbers -/
theorem L_comb {c d α β γ δ : Int} (h : F.length = G.length) (hH : H.length = F.length) (hK : K.length = F.length) (hF : t + 1 ≤ F.length) (ht : t % 2 = 1) (e1 : ∀ j, j < F.length → c * co H j = α * co F j + β * co G j) (e2 : ∀ j, j < F.length → d * co K j = γ * co F j + δ * co G j) (k : Nat) :
    (c * d) * co (L t H K) k = (α * δ - β * γ) * co (L t F G) k := by
  have q : (L t H K).map ((c * d) * ·) = (L t F G).map ((α * δ - β * γ) * ·) := by
    refine ev_inj (by rw [List.length_map, List.length_map, Lo_len (by omega) (by omega), Lo_len h hF, hH]) fun x y => ?_
    rw [ev_map, ev_map, ← L_cb (α := α) (β := β) (γ := γ) (δ := δ) h hF ht, ← cb_of hH h e1, ← cb_of hK h e2, L_mapl c x y t H _ (by omega) (by rw [List.length_map]; omega), L_mapr d x y t H K (by omega) (by omega), Int.mul_assoc]
  have := congrArg (fun l => co l k) q
  rwa [co_scale, co_scale] at this
theorem mi_comb {c d α β γ δ : Int} {i j : Nat} (hi : i < F.length) (hj : j < F.length) (e1 : ∀ j, j < F.length → c * co H j = α * co F j + β * co G j) (e2 : ∀ j, j < F.length → d * co K j = γ * co F j + δ * co G j) : (c * d) * mi H K i j = (α * δ - β * γ) * mi F G i j := by
  have a1 := e1 i hi
  have a2 := e1 j hj
  have b1 := e2 i hi
  have b2 := e2 j hj
  unfold mi
  have : (c * d) * (co H i * co K j - co K i * co H j) = (c * co H i) * (d * co K j) - (d * co K i) * (c * co H j) := by grind
  rw [this, a1, a2, b1, b2]
  grind
/-- one span: rows that are multiples -/
theorem span_rows (h : F.length = G.length) (hH : H.length = F.length) (hK : K.length = F.length) (o : OneP F.length F G H K) (r2 : Rk2 F.length H K) : ∃ p q : Int, p ≠ 0 ∧ q ≠ 0 ∧ ∀ t, t + 1 ≤ F.length → t % 2 = 1 → ∀ k, p * co (L t F G) k = q * co (L t H K) k := by
  obtain ⟨c, hc, α, β, e1⟩ := sp_two.mp o.1
  obtain ⟨d, hd, γ, δ, e2⟩ := sp_two.mp o.2
  refine ⟨α * δ - β * γ, c * d, fun z => ?_, fun z => (Int.mul_eq_zero.mp z).elim hc hd, fun t ht ho k => (L_comb h hH hK ht ho e1 e2 k).symm⟩
  obtain ⟨i, j, hi, hj, m⟩ := r2
  have := mi_comb (H := H) (K := K) hi hj e1 e2
  rw [z, Int.zero_mul] at this
  rcases Int.mul_eq_zero.mp this with z | z
  · exact (Int.mul_eq_zero.mp z).elim hc hd
  · exact m z
theorem pt_mulB {n m : Nat} (c : Int) (s : Nat → Nat → Int) (u k : Nat) (hn : u < n) (hm : u < m) : co (pt n m (fun i j => c * s i j) u) k = c * co (pt n m s u) k := by
  have l := lsn_lin n m c (fun _ _ => 0) s u
  have e0 : (fun i j => (0 : Int) + c * s i j) = fun i j => c * s i j := by
    funext i j
    rw [Int.zero_add]
  rw [e0] at l
  rw [pt_wh hn hm, pt_wh hn hm, l, wh_lin]
  have z : ∀ u, lsn n m (fun _ _ => (0 : Int)) u = fun _ _ => 0 := fun u => by
    cases u with
    | zero => rfl
    | succ u => exact lsn_zero n m _ (lst_zero n m) u
  rw [z, wh_zero, Int.zero_add]
/-- the parts of the table of minors -/
theorem pt_mi (hF : F.length = n + 1) (hG : G.length = n + 1) {u : Nat} (hu : u < n + 1) (k : Nat) : co (pt (n + 1) (n + 1) (mi F G) u) k = (1 - sgn u) * co (L u F G) k := by
  have e : mi F G = fun i j => co F i * co G j + (-1) * (co G i * co F j) := by
    funext i j
    unfold mi
    omega
  have p1 := pt_two u F G (by omega) (by omega)
  have p2 := pt_two u G F (by omega) (by omega)
  rw [hF, hG] at p1 p2
  rw [e, pt_zs, p1, p2, L_swap_list (t := u) (f := F) (g := G) (by omega) (by omega), co_zs' (-1) (by rw [List.length_map]), co_scale]
  grind
/-- rows that are multiples: one span -/
theorem rows_wedge (hF : F.length = n + 1) (hG : G.length = n + 1) (hH : H.length = n + 1) (hK : K.length = n + 1) {p q : Int} (e : ∀ t, t ≤ n → t % 2 = 1 → ∀ k, p * co (L t F G) k = q * co (L t H K) k) : ∀ i j, i < n + 1 → j < n + 1 → p * mi F G i j = q * mi H K i j := by
  refine told_uniq (a := fun i j => p * mi F G i j) (b := fun i j => q * mi H K i j) fun u hu _ => ?_
  refine co_inj (by rw [pt_len, pt_len]) fun k => ?_
  rw [pt_mulB _ _ _ _ hu hu, pt_mulB _ _ _ _ hu hu, pt_mi hF hG hu, pt_mi hH hK hu]
  by_cases c : u % 2 = 1
  · have := e u (by omega) c k
    grind
  · have : sgn u = 1 := by unfold sgn; rw [if_pos (by omega)]
    rw [this]
    simp
/-! ### the first laying is not 0 -/
theorem su_one {φ : Nat → Int} {p : Nat} : ∀ {n : Nat}, p < n → (∀ i, i < n → i ≠ p → φ i = 0) → su n φ = φ p
  | n + 1, hp, h => by
    show su n φ + φ n = φ p
    by_cases c : p = n
    · subst c
      rw [su_nil (n := p) fun k hk => h k (by omega) (by omega), Int.zero_add]
    · rw [su_one (by omega) fun i hi => h i (by omega), h n (Nat.lt_succ_self n) (Ne.symm c), Int.add_zero]
theorem wh_one {n m p q : Nat} {t : Nat → Nat → Int} (hp : p < n) (hq : q < m) (h : ∀ i j, i < n → j < m → i + j = p + q → i ≠ p → t i j = 0) : wh n m t (p + q) = t p q := by
  unfold wh
  rw [su_one hp fun i hi ne => su_nil fun j hj => ?_, su_one hq fun j hj ne => by rw [if_neg (by omega)], if_pos rfl]
  split
  · exact h i j hi hj (by assumption) ne
  · rfl
theorem co_mlwh {l m : List Int} (nm : m ≠ []) (k : Nat) : co (ml l m) k = wh l.length m.length (fun i j => co l i * co m j) k := by
  rw [co_ml nm, whp_J l m k _ (Nat.le_refl _), List.take_length]
/-- rows whose leads are p and q -/
theorem L1_lead {p q : Nat} (hF : F.length = n + 1) (hG : G.length = n + 1) (hn : 1 ≤ n) (pq : p < q) (hq : q ≤ n) (bF : ∀ i, i < p → co F i = 0) (bG : ∀ j, j < q → co G j = 0) : co (L 1 F G) (p + q - 1) = (n : Int) * ((q : Int) - p) * (co F p * co G q) := by
  have a1 := dX_len F
  have a2 := dY_len F
  have b1 := dX_len G
  have b2 := dY_len G
  have nX : dX G ≠ [] := fun z => by rw [z] at b1; simp at b1; omega
  have nY : dY G ≠ [] := fun z => by rw [z] at b2; simp at b2; omega
  show co (zs (-1) (ml (dX F) (dY G)) (ml (dY F) (dX G))) (p + q - 1) = _
  rw [co_zs' (-1) (by rw [ml_len, ml_len, a1, a2, b1, b2]), co_mlwh nY, co_mlwh nX]
  have e1 : wh (dX F).length (dY G).length (fun i j => co (dX F) i * co (dY G) j) (p + q - 1) = ((n : Int) - p) * q * (co F p * co G q) := by
    rw [show p + q - 1 = p + (q - 1) by omega, wh_one (by omega) (by omega) fun i j hi hj e ne => ?_]
    · rw [co_dX, co_dY, show q - 1 + 1 = q by omega, hF]
      have : ((q - 1 : Nat) : Int) + 1 = q := by omega
      rw [this]
      push_cast
      grind
    · rw [co_dX, co_dY]
      by_cases c : i < p
      · rw [bF i c, Int.zero_mul, Int.zero_mul]
      · rw [bG (j + 1) (by omega), Int.zero_mul, Int.mul_zero]
  have e2 : wh (dY F).length (dX G).length (fun i j => co (dY F) i * co (dX G) j) (p + q - 1) = (p : Int) * ((n : Int) - q) * (co F p * co G q) := by
    by_cases c0 : p = 0
    · subst c0
      have z : wh (dY F).length (dX G).length (fun i j => co (dY F) i * co (dX G) j) (0 + q - 1) = 0 := by
        unfold wh
        refine su_nil fun i hi => su_nil fun j hj => ?_
        split
        · show co (dY F) i * co (dX G) j = 0
          rw [co_dX, bG j (by omega), Int.zero_mul, Int.mul_zero]
        · rfl
      rw [z]
      simp
    · by_cases cq : q = n
      · have z : wh (dY F).length (dX G).length (fun i j => co (dY F) i * co (dX G) j) (p + q - 1) = 0 := by
          unfold wh
          refine su_nil fun i hi => su_nil fun j hj => ?_
          split
          · show co (dY F) i * co (dX G) j = 0
            rw [co_dX, bG j (by omega), Int.zero_mul, Int.mul_zero]
          · rfl
        rw [z, cq]
        simp
      · rw [show p + q - 1 = (p - 1) + q by omega, wh_one (by omega) (by omega) fun i j hi hj e ne => ?_]
        · rw [co_dX, co_dY, show p - 1 + 1 = p by omega, hG]
          have : ((p - 1 : Nat) : Int) + 1 = p := by omega
          rw [this]
          push_cast
          grind
        · rw [co_dX, co_dY]
          by_cases c : i + 1 < p
          · rw [bF (i + 1) c, Int.zero_mul, Int.zero_mul]
          · rw [bG j (by omega), Int.zero_mul, Int.mul_zero]
  rw [e1, e2]
  grind
theorem L1_ne (hF : F.length = n + 1) (hG : G.length = n + 1) (hn : 1 ≤ n) (r : Rk2 (n + 1) F G) : ∃ k, co (L 1 F G) k ≠ 0 := by
  have l2 := (rk2_iff lePP hF hG).mpr r
  have R := re_ech lePP (two_w hF hG)
  have b := told_of lePP (two_w hF hG)
  generalize ech less [F, G] (n + 1) = T at l2 R b
  match T, l2 with
  | [A, B], _ =>
    have lA := R.len A (by simp)
    have lB := R.len B (by simp)
    have so := R.so
    have pq : ld A < ld B := (List.pairwise_cons.mp so).1 _ (by simp)
    obtain ⟨c, hc, α, β, e1⟩ := sp_two.mp (b.of 0 (by simp) : SpM (n + 1) [F, G] A)
    obtain ⟨d, hd, γ, δ, e2⟩ := sp_two.mp (b.of 1 (by simp) : SpM (n + 1) [F, G] B)
    have e := L_comb (t := 1) (F := F) (G := G) (H := A) (K := B) (by omega) (by omega) (by omega) (by omega) rfl (by rw [hF]; exact e1) (by rw [hF]; exact e2) (ld A + ld B - 1)
    have tl := L1_lead lA lB hn pq (by have := R.lt B (by simp); omega) (R.be A (by simp)) (R.be B (by simp))
    refine ⟨ld A + ld B - 1, fun z => ?_⟩
    rw [z, Int.mul_zero, tl] at e
    have nA := R.nz A (by simp)
    have nB := R.nz B (by simp)
    rcases Int.mul_eq_zero.mp e with z | z
    · exact (Int.mul_eq_zero.mp z).elim hc hd
    · rcases Int.mul_eq_zero.mp z with z | z
      · rcases Int.mul_eq_zero.mp z with z | z <;> omega
      · exact (Int.mul_eq_zero.mp z).elim nA nB
/-- multiples have no layings of odd times -/
theorem L_dep (hF : F.length = n + 1) (hG : G.length = n + 1) (r : ¬ Rk2 (n + 1) F G) (ht : t ≤ n) (ho : t % 2 = 1) (k : Nat) : co (L t F G) k = 0 := by
  obtain ⟨v, s1, s2⟩ := no_rk2 r
  obtain ⟨c, hc, a, e1⟩ := s1
  obtain ⟨d, hd, b, e2⟩ := s2
  have s : ∀ (a : Nat → Int) j, S [v].length (fun k => a k * row [v] k j) = a 0 * co v j := fun a j => by
    show (0 : Int) + a 0 * co v j = _
    rw [Int.zero_add]
  have tv : ∀ j, co (tb (n + 1) (co v)) j = if j < n + 1 then co v j else 0 := fun j => by rw [co_tb]
  have q := L_comb (t := t) (F := tb (n + 1) (co v)) (G := tb (n + 1) (co v)) (H := F) (K := G) (c := c) (d := d) (α := a 0) (β := 0) (γ := b 0) (δ := 0) rfl (by rw [tb_len, hF]) (by rw [tb_len, hG]) (by rw [tb_len]; omega) ho
    (fun j hj => by rw [tb_len] at hj; rw [e1 j hj, s, tv, if_pos hj, Int.zero_mul, Int.add_zero]) (fun j hj => by rw [tb_len] at hj; rw [e2 j hj, s, tv, if_pos hj, Int.zero_mul, Int.add_zero]) k
  have z : a 0 * 0 - 0 * b 0 = 0 := by simp
  rw [z, Int.zero_mul] at q
  rcases Int.mul_eq_zero.mp q with z | z
  · exact absurd z fun z => (Int.mul_eq_zero.mp z).elim hc hd
  · exact z
end
end K83

set_option Elab.async false
set_option linter.all false
set_option maxRecDepth 100000
set_option maxHeartbeats 4000000
namespace K83
open PySem PySem.Spec PyProof.Rows L2 StX RZ MyR SlX OwnR OwnF EnumT GxR
/-! ### dividing rows -/
/-- what is left behind i turns -/
def rmd (xs ys : List Int) : Nat → Nat → Int
  | 0 => co xs
  | i + 1 => fun k => rmd xs ys i k - (if i ≤ k then (rmd xs ys i (i + fi ys)).fdiv (co ys (fi ys)) * co ys (k - i) else 0)
def quo (xs ys : List Int) (i : Nat) : Int := (rmd xs ys i (i + fi ys)).fdiv (co ys (fi ys))
theorem rmd_succ (xs ys : List Int) (i k : Nat) : rmd xs ys (i + 1) k = rmd xs ys i k - (if i ≤ k then quo xs ys i * co ys (k - i) else 0) := rfl
/-- how many turns there are -/
def mny (xs ys : List Int) : Nat := xs.length + 1 - ys.length
def GoodTo (xs ys : List Int) (i : Nat) : Prop := ∀ j, j < i → rmd xs ys (j + 1) (j + fi ys) = 0
instance (xs ys : List Int) (i : Nat) : Decidable (GoodTo xs ys i) := by unfold GoodTo; infer_instance
/-- the quotient of rows -/
def qd (xs ys : List Int) : Option (List Int) :=
  if xs.length < ys.length ∨ nzr (xs.take (fi ys)) = true then none
  else if GoodTo xs ys (mny xs ys) ∧ nzr (tb xs.length (rmd xs ys (mny xs ys))) = false then some (tb (mny xs ys) (quo xs ys)) else none
theorem qd_of {xs ys q : List Int} (h : qd xs ys = some q) : ys.length ≤ xs.length ∧ GoodTo xs ys (mny xs ys) ∧ nzr (tb xs.length (rmd xs ys (mny xs ys))) = false ∧ q = tb (mny xs ys) (quo xs ys) := by
  unfold qd at h
  by_cases h1 : xs.length < ys.length ∨ nzr (xs.take (fi ys)) = true
  · rw [if_pos h1] at h
    cases h
  · rw [if_neg h1] at h
    by_cases h2 : GoodTo xs ys (mny xs ys) ∧ nzr (tb xs.length (rmd xs ys (mny xs ys))) = false
    · rw [if_pos h2] at h
      exact ⟨Nat.le_of_not_lt fun z => h1 (.inl z), h2.1, h2.2, (Option.some.inj h).symm⟩
    · rw [if_neg h2] at h
      cases h
theorem qd_len {xs ys q : List Int} (h : qd xs ys = some q) : q.length = mny xs ys := by rw [(qd_of h).2.2.2, tb_len]
theorem rmd_bd {xs ys : List Int} {M B : Nat} (hx : ∀ z ∈ xs, z.natAbs ≤ M) (hy : ∀ z ∈ ys, z.natAbs ≤ B) : ∀ i k, (rmd xs ys i k).natAbs ≤ M * (1 + B) ^ i
  | 0, k => by
    rw [Nat.pow_zero, Nat.mul_one]
    show (co xs k).natAbs ≤ M
    rcases co_mem (l := xs) (k := k) with e | e
    · rw [e]; exact Nat.zero_le _
    · exact hx _ e
  | i + 1, k => by
    have h1 := rmd_bd hx hy i k
    have h2 := Nat.le_trans (Int.natAbs_fdiv_le_natAbs (rmd xs ys i (i + fi ys)) (co ys (fi ys))) (rmd_bd hx hy i (i + fi ys))
    have h3 : (co ys (k - i)).natAbs ≤ B := by
      rcases co_mem (l := ys) (k := k - i) with e | e
      · rw [e]; exact Nat.zero_le _
      · exact hy _ e
    rw [rmd_succ, Nat.pow_succ, ← Nat.mul_assoc, Nat.mul_add, Nat.mul_one]
    refine Nat.le_trans (Int.natAbs_sub_le _ _) (Nat.add_le_add h1 ?_)
    split
    · rw [Int.natAbs_mul]
      exact Nat.mul_le_mul h2 h3
    · exact Nat.zero_le _
theorem quo_bd {xs ys : List Int} {M B : Nat} (hx : ∀ z ∈ xs, z.natAbs ≤ M) (hy : ∀ z ∈ ys, z.natAbs ≤ B) (i : Nat) : (quo xs ys i).natAbs ≤ M * (1 + B) ^ i :=
  Nat.le_trans (Int.natAbs_fdiv_le_natAbs _ _) (rmd_bd hx hy i _)
/-- what is asked for dividing -/
structure QdOk (xs ys : List Int) : Prop where
  nz : nzr ys = true
  nx : xs ≠ []
  lx : xs.length ≤ 100
  ly : ys.length ≤ 100
  ex : ∃ M B : Nat, (∀ z ∈ xs, z.natAbs ≤ M) ∧ (∀ z ∈ ys, z.natAbs ≤ B) ∧ B < 2 ^ 4000 ∧ M * (1 + B) ^ (mny xs ys) < 2 ^ 4000
theorem QdOk.sy {xs ys : List Int} (h : QdOk xs ys) : ∀ z ∈ ys, sm z := by
  obtain ⟨M, B, h1, h2, h3, h4⟩ := h.ex
  exact fun z hz => Nat.lt_of_le_of_lt (h2 z hz) h3
theorem QdOk.ny {xs ys : List Int} (h : QdOk xs ys) : ys ≠ [] := fun e => by
  have := h.nz
  rw [e] at this
  cases this
theorem QdOk.lead {xs ys : List Int} (h : QdOk xs ys) : co ys (fi ys) ≠ 0 := fi_ne h.nz
end K83

set_option Elab.async false
set_option linter.all false
set_option maxRecDepth 100000
set_option maxHeartbeats 4000000
namespace K83
open PySem PySem.Spec PyProof.Rows L2 StX RZ MyR SlX OwnR OwnF EnumT GxR
/-- the first entry other than 0, or 0 -/
def fo (l : List Int) : Int := if nzr l = true then co l (fi l) else 0
/-- a row, or none -/
def OV (H : Hp) (v : V) : Option (List Int) → Prop
  | none => v = .non
  | some q => ∃ t, v = .ref t ∧ H t = some (tp q)
theorem OV.same {H H' : Hp} {v : V} {r : Option (List Int)} (h : OV H v r) (s : Same H H') : OV H' v r := by
  cases r with
  | none => exact h
  | some q =>
    obtain ⟨t, e, k⟩ := h
    exact ⟨t, e, s _ _ k⟩
theorem OV.sts {Ps : List Addr} {H H' : Hp} {v : V} {r : Option (List Int)} (h : OV H v r) (s : Sts Ps H H') (g : Tg Ps H) : OV H' v r := by
  cases r with
  | none => exact h
  | some q =>
    obtain ⟨t, e, k⟩ := h
    exact ⟨t, e, s.tup g k⟩
/-- points -/
structure Pt (u v : Int) : Prop where
  cop : Nat.gcd u.natAbs v.natAbs = 1
  pos : 0 < fo [u, v]
theorem Pt.ne {u v : Int} (h : Pt u v) : [u, v] ≠ [0, 0] := fun e => by
  have h1 := h.cop
  cases e
  cases h1
section
variable {P : Program} {w : World} {K : PySem.W.Frag} {mg : Str → Option Value} {base : Heap} {Ps : List Addr}
end
end K83

set_option Elab.async false
set_option linter.all false
set_option maxRecDepth 100000
set_option maxHeartbeats 4000000
namespace K83
open PySem PySem.Spec PyProof.Rows L2 StX RZ MyR SlX OwnR OwnF EnumT GxR
structure TmOk (xs ys : List Int) : Prop where
  nz : nzr ys = true
  nx : xs ≠ []
  ly : ys.length = 2
  ex : ∃ n M B : Nat, n ≤ 100 ∧ xs.length ≤ n ∧ (∀ z ∈ xs, z.natAbs ≤ M) ∧ (∀ z ∈ ys, z.natAbs ≤ B) ∧ B < 2 ^ 4000 ∧ M * ((1 + B) ^ n) ^ xs.length < 2 ^ 4000
theorem TmOk.next {xs ys q : List Int} (h : TmOk xs ys) (e : qd xs ys = some q) : TmOk q ys := by
  obtain ⟨n, M, B, h1, h2, h3, h4, h5, h6⟩ := h.ex
  have ly := h.ly
  obtain ⟨g1, _, _, g4⟩ := qd_of e
  have g2 : q.length = xs.length + 1 - ys.length := qd_len e
  have e1 : xs.length = q.length + 1 := by omega
  refine ⟨h.nz, fun z => ?_, ly, n, M * (1 + B) ^ n, B, h1, by omega, fun z hz => ?_, h4, h5, ?_⟩
  · rw [z] at g2
    have : 0 = xs.length + 1 - ys.length := g2
    omega
  · rw [g4] at hz
    obtain ⟨i, hi, rfl⟩ := List.mem_map.mp hz
    have hi := List.mem_range.mp hi
    have hi2 : i < xs.length + 1 - ys.length := hi
    exact Nat.le_trans (quo_bd h3 h4 i) (Nat.mul_le_mul_left M (Nat.pow_le_pow_right (by omega) (by omega)))
  · rw [Nat.mul_assoc, Nat.mul_comm ((1 + B) ^ n), ← Nat.pow_succ, Nat.succ_eq_add_one, ← e1]
    exact h6
section
variable {P : Program} {w : World} {K : PySem.W.Frag} {mg : Str → Option Value} {base : Heap} {Ps : List Addr}
end
end K83

set_option Elab.async false
set_option linter.all false
set_option maxRecDepth 100000
set_option maxHeartbeats 4000000
namespace K83
open PySem PySem.Spec PyProof.Rows L2 StX RZ MyR SlX OwnR OwnF EnumT GxR
theorem nzr_ml {l m : List Int} (nl : nzr l = true) (nm : nzr m = true) : nzr (ml l m) = true := by
  have hl : l ≠ [] := fun e => by rw [e] at nl; cases nl
  have hm : m ≠ [] := fun e => by rw [e] at nm; cases nm
  cases e : nzr (ml l m) with
  | true => rfl
  | false =>
    have h := (cont_nzr _).mpr e
    rw [cont_ml hl hm] at h
    rcases Nat.mul_eq_zero.mp h with z | z
    · rw [(cont_nzr _).mp z] at nl
      cases nl
    · rw [(cont_nzr _).mp z] at nm
      cases nm
section
variable {P : Program} {w : World} {K : PySem.W.Frag} {mg : Str → Option Value} {base : Heap}
end
end K83

set_option Elab.async false
set_option linter.all false
set_option maxRecDepth 100000
set_option maxHeartbeats 4000000
namespace K83
open PySem PySem.Spec PyProof.Rows L2 StX RZ MyR SlX OwnR OwnF EnumT GxR
theorem bd_small_pow {n : Nat} (h : n ≤ 8) : Bd (pow [1, 1] n) n (100000000000000) := (bd_pow (l := [1, 1]) (b := 2) ⟨rfl, by decide⟩ n).mono (Nat.le_trans (Nat.pow_le_pow_right (n := 2) (by decide) h) (by decide))
theorem nzr_pow {l : List Int} (h : nzr l = true) : ∀ n, nzr (pow l n) = true
  | 0 => rfl
  | n + 1 => nzr_ml (nzr_pow h n) h
section
variable {P : Program} {w : World} {K : PySem.W.Frag} {mg : Str → Option Value} {base : Heap} {Ps : List Addr}
def spLive : Sp := fun vs H Q _ => ∃ (d : Addr) (n : Nat), vs = [.ref d, .int n] ∧ Dc H d ∧ n ≤ 8 ∧ ∀ p H' l, Sx d H H' → Dc H' d → H' p = some (tp l) → Bd l n (100000000000000) → nzr l = true → Q (.ref p) H'
theorem ok_law_live_form (T : Facts K mg) : FnOk P w K mg base CX0 6 T.f_law_live_form T.fd_law_live_form ["_law_dice_here", "_law_degree"] spLive := by
  have G_law_form := ok_law_form (P := P) (w := w) (base := base) T
  have G_law_shared := ok_law_shared (P := P) (w := w) (base := base) T
  have G_law_power := ok_law_power (P := P) (w := w) (base := base) T
  refine T.F_law_live_form.ok sc_law_live_form (fun vs H Q E h => ?_) (fun cdv A outer s H vs Q E hr h => ?_)
  · obtain ⟨d, n, rfl, _⟩ := h
    rfl
  · obtain ⟨d, n, rfl, hd, hn, q⟩ := h
    refine ⟨_, (PSs.nox (pss_cons (ps_set (i := 2) sc_law_live_form.nd rfl (.inl rfl) (pe_call G_law_form hr (by rfl) T.g_law_form T.F_law_form.kp T.b_law_form .nil pass0 (pa_cons (pv 0) (pa_cons (pv 1) pa_nil))))
    (pss_one (ps_ret (pe_ifExp (pt_cmpR op_gt (pe_call G_law_shared (hr.mono (by decide)) (by rfl) T.g_law_shared T.F_law_shared.kp T.b_law_shared .nil pass0 (pa_cons (pv 2) pa_nil)) pe_int (nomark _)) (pv 2) (pe_call G_law_power (hr.mono (by decide)) (by rfl) T.g_law_power T.F_law_power.kp T.b_law_power .nil pass0 (pa_cons (pe_tup (pa_cons pe_int (pa_cons pe_int pa_nil))) (pa_cons (pv 1) pa_nil)))))))), ?_⟩
    refine ⟨_, rfl, _, rfl, d, n, rfl, hd, by omega, fun p H1 l s1 d1 hp bl => ⟨_, rfl, p, l, rfl, hp, _, _, rfl, rfl, _, rfl, ?_⟩⟩
    cases hz : nzr l with
    | true =>
      rw [decide_eq_true (show (0 : Int) < (cont l : Nat) from by
        have : cont l ≠ 0 := fun e => by
          have := (cont_nzr l).mp e
          rw [hz] at this
          cases this
        omega)]
      exact iteT ⟨_, rfl, q p H1 l s1 d1 hp (bl.mono (by decide)) hz⟩
    | false =>
      rw [decide_eq_false (show ¬ (0 : Int) < (cont l : Nat) from by
        rw [(cont_nzr l).mpr hz]
        omega)]
      have b11 : ∀ i, i ≤ 8 → Bd (pow [1, 1] i) i (100000000000000) := fun i hi => bd_small_pow hi
      refine iteF ⟨by show 2 ≤ sizeLine; decide, fun p2 n2 => gen_upd H1 p2 (tp [1, 1]) n2 fun H2 s2 k2 => ⟨_, rfl, p2, [1, 1], n, rfl, k2, by simp, by show 2 ≤ 100; decide, fun x hx => ?_, fun i hi => ⟨((b11 i (by omega)).rw (by omega) (by decide +kernel)).ne, ((b11 i (by omega)).rw (by omega) (by decide +kernel)).len, ((b11 i (by omega)).rw (by omega) (by decide +kernel)).sm⟩, by omega, fun p3 H3 s3 k3 => ?_⟩⟩
      · simp only [List.mem_cons, List.not_mem_nil, or_false] at hx
        rcases hx with e | e <;> rw [e] <;> (show (1 : Int).natAbs < 2 ^ 4000; decide +kernel)
      · exact q p3 H3 _ (s1.trans (Sx.of (s2.trans s3))) (d1.same (s2.trans s3)) k3 (b11 n hn) (nzr_pow rfl n)
end
theorem Fo.sl {C a : Addr} {H : Hp} {ns : List Int} (h : Fo C H a ns) : Slt H a C h.slt.choose [some (.ref h.slt.choose_spec.choose)] := h.slt.choose_spec.choose_spec.1
end K83

set_option Elab.async false
set_option linter.all false
set_option maxRecDepth 100000
/-! turns of a comprehension of two clauses over lists -/
namespace LcTwo
open PySem PySem.Spec PyProof.Rows L2
/-- the outer source -/
theorem out_list {K : PySem.W.Frag} {a D : Addr} {xs : List V} {B : V → Hp → (Hp → Prop) → Prop} {H1 : Hp} {Qd : Hp → Prop} (Pv : Nat → Hp → Prop) (h0 : Pv 0 (upd H1 D (.lst []))) (hl : ∀ i H, i ≤ xs.length → Pv i H → SqL K H a xs)
    (hs : ∀ (i : Nat) (x : V) (H : Hp), xs[i]? = some x → Pv i H → B x H (Pv (i + 1))) (hd : ∀ H, Pv xs.length H → Qd H) :
    ∃ W : Nat → Nat → Hp → Prop, (∃ m, W 0 m (upd H1 D (.lst []))) ∧ ∀ i m H, W i m H →
      ((Itl K a).stop i H ∧ Qd H) ∨ ((Itl K a).go i H ∧ ∃ Nx : Hp → Prop, (∀ H', Nx H' → ∃ m', m' < m ∧ W (i + 1) m' H') ∧ ∀ x H', (Itl K a).yld i H x H' → B x H' Nx) := by
  refine ⟨fun i m H => m = xs.length - i ∧ i ≤ xs.length ∧ Pv i H, ⟨xs.length, by simp, Nat.zero_le _, h0⟩, ?_⟩
  rintro i m H ⟨rfl, hi, p⟩
  have q := hl i H hi p
  by_cases hlt : i < xs.length
  · refine .inr ⟨⟨xs, xs[i], q, by simp [hlt]⟩, Pv (i + 1), fun H' p' => ⟨xs.length - (i + 1), by omega, rfl, hlt, p'⟩, fun x H' y => ?_⟩
    obtain ⟨e, y⟩ := y
    subst e
    exact hs i x _ (y xs q) p
  · have e : i = xs.length := by omega
    subst e
    exact .inl ⟨⟨xs, q, Nat.le_refl _⟩, hd H p⟩
/-- the inner source, a tuple -/
theorem in_tup {K : PySem.W.Frag} {a D : Addr} {xs : List V} {g : TG} {tt : TT} {te : TE} {vs : List Nat} {σ : L2.St} {H1 : Hp} {Nx : Hp → Prop} (Pv : Nat → Hp → Prop) (h0 : Pv 0 H1) (hl : ∀ i H, i ≤ xs.length → Pv i H → SqT K H a xs)
    (hs : ∀ (i : Nat) (x : V) (H : Hp), xs[i]? = some x → Pv i H → g x (wipe σ vs) H fun σ2 H2 => wipe σ2 vs = wipe σ vs ∧ tt σ2 H2 fun b H3 =>
      if b = true then te σ2 H3 fun y H4 => ∃ acc, H4 D = some (.lst acc) ∧ acc.length < sizeLine ∧ Pv (i + 1) (upd H4 D (.lst (acc ++ [y]))) else Pv (i + 1) H3) (hd : ∀ H, Pv xs.length H → Nx H) :
    ∃ W : Nat → Nat → Hp → Prop, (∃ m, W 0 m H1) ∧ ∀ i m H, W i m H →
      ((Itt K a).stop i H ∧ Nx H) ∨ ((Itt K a).go i H ∧ ∃ Nx1 : Hp → Prop, (∀ H', Nx1 H' → ∃ m', m' < m ∧ W (i + 1) m' H') ∧ ∀ x H', (Itt K a).yld i H x H' → g x (wipe σ vs) H' fun σ2 H2 => wipe σ2 vs = wipe σ vs ∧ tt σ2 H2 fun b H3 =>
        if b = true then te σ2 H3 fun y H4 => ∃ acc, H4 D = some (.lst acc) ∧ acc.length < sizeLine ∧ Nx1 (upd H4 D (.lst (acc ++ [y]))) else Nx1 H3) := by
  refine ⟨fun i m H => m = xs.length - i ∧ i ≤ xs.length ∧ Pv i H, ⟨xs.length, by simp, Nat.zero_le _, h0⟩, ?_⟩
  rintro i m H ⟨rfl, hi, p⟩
  have q := hl i H hi p
  by_cases hlt : i < xs.length
  · refine .inr ⟨⟨xs, xs[i], q, by simp [hlt]⟩, Pv (i + 1), fun H' p' => ⟨xs.length - (i + 1), by omega, rfl, hlt, p'⟩, fun x H' y => ?_⟩
    obtain ⟨e, y⟩ := y
    subst e
    exact hs i x _ (y xs q) p
  · have e : i = xs.length := by omega
    subst e
    exact .inl ⟨⟨xs, q, Nat.le_refl _⟩, hd H p⟩
/-- the outer source, a tuple -/
theorem out_tup {K : PySem.W.Frag} {a D : Addr} {xs : List V} {B : V → Hp → (Hp → Prop) → Prop} {H1 : Hp} {Qd : Hp → Prop} (Pv : Nat → Hp → Prop) (h0 : Pv 0 (upd H1 D (.lst []))) (hl : ∀ i H, i ≤ xs.length → Pv i H → SqT K H a xs)
    (hs : ∀ (i : Nat) (x : V) (H : Hp), xs[i]? = some x → Pv i H → B x H (Pv (i + 1))) (hd : ∀ H, Pv xs.length H → Qd H) :
    ∃ W : Nat → Nat → Hp → Prop, (∃ m, W 0 m (upd H1 D (.lst []))) ∧ ∀ i m H, W i m H →
      ((Itt K a).stop i H ∧ Qd H) ∨ ((Itt K a).go i H ∧ ∃ Nx : Hp → Prop, (∀ H', Nx H' → ∃ m', m' < m ∧ W (i + 1) m' H') ∧ ∀ x H', (Itt K a).yld i H x H' → B x H' Nx) := by
  refine ⟨fun i m H => m = xs.length - i ∧ i ≤ xs.length ∧ Pv i H, ⟨xs.length, by simp, Nat.zero_le _, h0⟩, ?_⟩
  rintro i m H ⟨rfl, hi, p⟩
  have q := hl i H hi p
  by_cases hlt : i < xs.length
  · refine .inr ⟨⟨xs, xs[i], q, by simp [hlt]⟩, Pv (i + 1), fun H' p' => ⟨xs.length - (i + 1), by omega, rfl, hlt, p'⟩, fun x H' y => ?_⟩
    obtain ⟨e, y⟩ := y
    subst e
    exact hs i x _ (y xs q) p
  · have e : i = xs.length := by omega
    subst e
    exact .inl ⟨⟨xs, q, Nat.le_refl _⟩, hd H p⟩
end LcTwo

set_option Elab.async false
set_option linter.all false
set_option maxRecDepth 100000
set_option maxHeartbeats 4000000
set_option exponentiation.threshold 10000
/-! rows of layings of odd times -/
namespace K83
open PySem PySem.Spec PyProof.Rows L2 StX RZ MyR SlX OwnR OwnF EnumT SeqE GxR GenNx FDivQ
theorem lc_rangeC {lo c : Int} {n : Nat} {g : TG} {tt : TT} {te : TE} {vs : List Nat} {σ : L2.St} {H1 : Hp} {D : Addr} {Qd : Hp → Prop} (Pv : Nat → Hp → Prop) (h0 : Pv 0 (upd H1 D (.lst [])))
    (hs : ∀ (i : Nat) (H : Hp), i < n → Pv i H → g (.int (lo + (i : Nat) * c)) (wipe σ vs) H fun σ2 H2 => wipe σ2 vs = wipe σ vs ∧ tt σ2 H2 fun b H3 =>
      if b = true then te σ2 H3 fun y H4 => ∃ acc, H4 D = some (.lst acc) ∧ acc.length < sizeLine ∧ Pv (i + 1) (upd H4 D (.lst (acc ++ [y]))) else Pv (i + 1) H3) (hd : ∀ H, Pv n H → Qd H) :
    ∃ W : Nat → Nat → Hp → Prop, (∃ m, W 0 m (upd H1 D (.lst []))) ∧ ∀ i m H, W i m H →
      ((Itc lo c n).stop i H ∧ Qd H) ∨ ((Itc lo c n).go i H ∧ ∃ Nx : Hp → Prop, (∀ H', Nx H' → ∃ m', m' < m ∧ W (i + 1) m' H') ∧ ∀ x H', (Itc lo c n).yld i H x H' → g x (wipe σ vs) H' fun σ2 H2 => wipe σ2 vs = wipe σ vs ∧ tt σ2 H2 fun b H3 =>
        if b = true then te σ2 H3 fun y H4 => ∃ acc, H4 D = some (.lst acc) ∧ acc.length < sizeLine ∧ Nx (upd H4 D (.lst (acc ++ [y]))) else Nx H3) := by
  refine ⟨fun i m H => m = n - i ∧ i ≤ n ∧ Pv i H, ⟨n, rfl, Nat.zero_le _, h0⟩, ?_⟩
  rintro i m H ⟨rfl, hi, p⟩
  by_cases hlt : i < n
  · refine .inr ⟨hlt, Pv (i + 1), fun H' p' => ⟨n - (i + 1), by omega, rfl, hlt, p'⟩, fun x H' y => ?_⟩
    obtain ⟨e1, e2⟩ := y
    subst e1 e2
    exact hs i _ hlt p
  · have e : i = n := by omega
    subst e
    exact .inl ⟨Nat.le_refl _, hd H p⟩
theorem rgc {n : Nat} (h1 : 1 ≤ n) (h7 : n ≤ 7) : RgC 1 ((n : Int) + 1) 2 ((n + 1) / 2) := by
  match n, h1, h7 with
  | 1, _, _ => exact ⟨by decide, by decide, by decide, by decide⟩
  | 2, _, _ => exact ⟨by decide, by decide, by decide, by decide⟩
  | 3, _, _ => exact ⟨by decide, by decide, by decide, by decide⟩
  | 4, _, _ => exact ⟨by decide, by decide, by decide, by decide⟩
  | 5, _, _ => exact ⟨by decide, by decide, by decide, by decide⟩
  | 6, _, _ => exact ⟨by decide, by decide, by decide, by decide⟩
  | 7, _, _ => exact ⟨by decide, by decide, by decide, by decide⟩
/-- the row of two forms -/
def orow (F G : List Int) (i : Nat) : List Int := L (2 * i + 1) F G
/-- tuples so far in the list at D -/
def Bl (H : Hp) (D : Addr) (φ : Nat → List Int) (i : Nat) : Prop := ∃ rs : List Addr, H D = some (.lst (rs.map V.ref)) ∧ rs.length = i ∧ ∀ k (hk : k < rs.length), H rs[k] = some (tp (φ k))
theorem Bl.nil {H : Hp} {D : Addr} {φ : Nat → List Int} : Bl (upd H D (.lst [])) D φ 0 := ⟨[], upd_same, rfl, fun k hk => absurd hk (Nat.not_lt_zero k)⟩
theorem Bl.same {H H' : Hp} {D : Addr} {φ : Nat → List Int} {i : Nat} (h : Bl H D φ i) (s : Same H H') : Bl H' D φ i := by
  obtain ⟨rs, h1, h2, h3⟩ := h
  exact ⟨rs, s _ _ h1, h2, fun k hk => s _ _ (h3 k hk)⟩
theorem Bl.step {Hs H H2 : Hp} {D p : Addr} {φ : Nat → List Int} {i : Nat} (hP : Same Hs H ∧ Bl H D φ i) (hD : Hs D = none) (s : Same H H2) (hp : H2 p = some (tp (φ i))) (hi : i + 1 ≤ 1000) :
    ∃ acc, H2 D = some (.lst acc) ∧ acc.length < sizeLine ∧ (Same Hs (upd H2 D (.lst (acc ++ [.ref p]))) ∧ Bl (upd H2 D (.lst (acc ++ [.ref p]))) D φ (i + 1)) := by
  obtain ⟨sH, rs, hL, lr, hrow⟩ := hP
  have hL2 := s _ _ hL
  refine ⟨_, hL2, by rw [List.length_map, lr]; exact small1000 (by omega), fun d o e => ?_, rs ++ [p], by rw [upd_same, List.map_append]; rfl, by rw [List.length_append, lr]; rfl, fun k hk => ?_⟩
  · rw [upd_ne (ne_of_none e hD)]
    exact s _ _ (sH _ _ e)
  · by_cases c : k < rs.length
    · rw [show (rs ++ [p])[k] = rs[k] from List.getElem_append_left _]
      have e0 := s _ _ (hrow k c)
      rw [upd_ne (fun z => by rw [z, hL2] at e0; cases e0)]
      exact e0
    · have ek : k = rs.length := by rw [List.length_append] at hk; simp at hk; omega
      subst ek
      rw [show (rs ++ [p])[rs.length] = p by rw [List.getElem_append_right (Nat.le_refl _)]; simp, upd_ne (fun z => by rw [z, hL2] at hp; cases hp), hp, lr]
theorem Fo.lst {C a F : Addr} {H : Hp} {o : HO} {xs : List V} {ns : List Int} (h : Fo C H a ns) (hF : H F = some (.lst xs)) : Fo C (upd H F o) a ns := by
  obtain ⟨dx, t, h1, h2, h3⟩ := h
  refine ⟨dx, t, ?_, ?_, ?_⟩
  · rw [upd_ne (fun q => ?_)]
    · exact h1
    · rw [q, hF] at h1
      cases h1
  · rw [upd_ne (fun q => ?_)]
    · exact h2
    · rw [q, hF] at h2
      cases h2
  · rw [upd_ne (fun q => ?_)]
    · exact h3
    · rw [q, hF] at h3
      cases h3
/-- forms so far in the list at D -/
def Bf (C : Addr) (H : Hp) (D : Addr) (φ : Nat → List Int) (i : Nat) : Prop := ∃ rs : List Addr, H D = some (.lst (rs.map V.ref)) ∧ rs.length = i ∧ ∀ k (hk : k < rs.length), Fo C H rs[k] (φ k)
theorem Bf.nil {C : Addr} {H : Hp} {D : Addr} {φ : Nat → List Int} : Bf C (upd H D (.lst [])) D φ 0 := ⟨[], upd_same, rfl, fun k hk => absurd hk (Nat.not_lt_zero k)⟩
theorem Bf.step {C : Addr} {Hs H H2 : Hp} {D p : Addr} {φ : Nat → List Int} {i : Nat} (hP : Same Hs H ∧ Bf C H D φ i) (hD : Hs D = none) (s : Same H H2) (hp : Fo C H2 p (φ i)) (hi : i + 1 ≤ 1000) :
    ∃ acc, H2 D = some (.lst acc) ∧ acc.length < sizeLine ∧ (Same Hs (upd H2 D (.lst (acc ++ [.ref p]))) ∧ Bf C (upd H2 D (.lst (acc ++ [.ref p]))) D φ (i + 1)) := by
  obtain ⟨sH, rs, hL, lr, hrow⟩ := hP
  have hL2 := s _ _ hL
  refine ⟨_, hL2, by rw [List.length_map, lr]; exact small1000 (by omega), fun d o e => ?_, rs ++ [p], by rw [upd_same, List.map_append]; rfl, by rw [List.length_append, lr]; rfl, fun k hk => ?_⟩
  · rw [upd_ne (ne_of_none e hD)]
    exact s _ _ (sH _ _ e)
  · refine Fo.lst ?_ hL2
    by_cases c : k < rs.length
    · rw [show (rs ++ [p])[k] = rs[k] from List.getElem_append_left _]
      exact (hrow k c).same s
    · have ek : k = rs.length := by rw [List.length_append] at hk; simp at hk; omega
      subst ek
      rw [show (rs ++ [p])[rs.length] = p by rw [List.getElem_append_right (Nat.le_refl _)]; simp, lr]
      exact hp
section
variable {P : Program} {w : World} {K : PySem.W.Frag} {mg : Str → Option Value} {base : Heap} {Ps : List Addr}
def spReqFs (C : Addr) : Sp := fun vs H Q _ => ∃ (p : Addr) (as : List Addr), vs = [.ref p] ∧ H p = some (.tup (as.map V.ref)) ∧ (∀ a ∈ as, ∃ l, Fo C H a l) ∧ ∀ H', Same H H' → Q .non H'
theorem ok_require_forms (T : Facts K mg) : FnR P w K mg base CX0 1 T.f_require_forms (fun vs H Q E => vs.length ≤ sizeLine ∧ ∀ p, H p = Option.none → spReqFs T.C_Form [V.ref p] (upd H p (.tup vs)) Q E) := by
  refine StarD.ok T.F_require_forms sc_require_forms (fun kV doc pm an cdv ct rest => by cases rest <;> rfl) (fun cdv A outer s H vs Q E hr h => ?_)
  obtain ⟨p, as, rfl, hp, hf, q⟩ := h
  refine ⟨_, (PSs.nox (pss_one (ps_for PassesOwn.never (by rfl) (pi_tup (pv 0)) (pg_name (i := 1) sc_require_forms.nd rfl (.inl rfl))
      (pss_one (ps_if (pt_not (pt_val (pe_callB (call_isiF T.C_Form) (by rfl) T.z_isinstance (by decide +kernel) (pa_cons (pv 1) (pa_cons (pe_glob (v := .ref T.C_Form) (by rfl) T.g_Form rfl) pa_nil)))))
        (pss_one ps_never)
        pss_nil))))), ?_⟩
  refine ⟨_, rfl, p, rfl, ⟨_, SqT.of hp⟩, for_tup (xs := as.map V.ref) (fun i σ H' => ∃ y, σ = [some (.ref p), y] ∧ H' = H) ⟨none, rfl, rfl⟩ (fun i σ H' _ hP => by rw [hP.choose_spec.2]; exact SqT.of hp) (fun i x σ H' hx hP => ?_) (fun σ H' hP => ?_)⟩
  · obtain ⟨y, rfl, rfl⟩ := hP
    obtain ⟨hi, rfl⟩ := get_ref hx
    obtain ⟨l, fo⟩ := hf _ (List.getElem_mem hi)
    obtain ⟨dx, t, hsl, _⟩ := fo.slt
    exact ⟨_, rfl, isi_form (X := (cxOf CX0 P w K mg base N_require_forms (Str.ofString "require_forms") (defScope s_require_forms) T.f_require_forms cdv A outer s H' E).nox) T.oc_Form hsl ⟨true, rfl, iteF ⟨_, rfl, rfl⟩⟩⟩
  · obtain ⟨y, rfl, rfl⟩ := hP
    exact q _ fun _ _ z => z
/-- what two forms are asked -/
structure PrP (n : Nat) (F G : List Int) : Prop where
  n1 : 1 ≤ n
  n7 : n ≤ 7
  bF : Bd F n (2 ^ 100)
  bG : Bd G n (2 ^ 100)
theorem PrP.ld {n : Nat} {F G : List Int} (p : PrP n F G) {t : Nat} (h : t ≤ n) : LdOk t F G := ldOk_of p.bF p.bG p.n7 p.n7 h h
def spOdd (C : Addr) : Sp := fun vs H Q _ => ∃ (a b : Addr) (n : Nat) (F G : List Int), vs = [.ref a, .ref b] ∧ Fo C H a F ∧ Fo C H b G ∧ PrP n F G ∧ ∀ D H', Same H H' → Bl H' D (orow F G) ((n + 1) / 2) → Q (.ref D) H'
theorem ok_odd_layings (T : Facts K mg) : FnOk P w K mg base CX0 4 T.f_odd_layings T.fd_odd_layings ["one", "other"] (spOdd T.C_Form) := by
  have G_laid_in := ok_laid_in (P := P) (w := w) (base := base) T
  have G_Form_entries := ok_Form_entries (P := P) (w := w) (base := base) T
  have G_Form_degree : FnOk P w K mg base CX0 1 T.f_Form_degree T.fd_Form_degree ["self"] (spDeg T.C_Form) := ok_Form_degree T
  refine T.F_odd_layings.ok sc_odd_layings (fun vs H Q E h => ?_) (fun cdv A outer s H vs Q E hr h => ?_)
  · obtain ⟨a, b, n, F, G, rfl, _⟩ := h
    rfl
  · obtain ⟨a, b, n, F, G, rfl, fa, fb, pr, q⟩ := h
    refine ⟨_, (PSs.nox (pss_one (ps_ret (pe_lc (own := [("times", 2)]) (g := (gName 2)) (tt := tYes) (by rfl) sc_odd_layings.nd (pi_range3 (by rfl) T.z_range (pa_cons pe_int (pa_cons (pe_op op_add (pe_prp (pv 0) T.oc_Form T.pr_Form_degree G_Form_degree T.b_Form_degree (hr.mono (by decide))) pe_int) (pa_cons pe_int pa_nil)))) (blkOk_by (N := N_odd_layings) (sc := defScope s_odd_layings) (by decide +kernel)) (fun _ _ _ _ _ => (pg_name (i := 2) sc_odd_layings.nd rfl (.inl rfl))) (fun _ _ _ _ _ => pts_nil) (fun _ _ _ _ _ => (pe_call G_laid_in hr (by rfl) T.g_laid_in T.F_laid_in.kp T.b_laid_in .nil pass0 (pa_cons (pe_prp (pv 0) T.oc_Form T.pr_Form_entries G_Form_entries T.b_Form_entries (hr.mono (by decide))) (pa_cons (pe_prp (pv 1) T.oc_Form T.pr_Form_entries G_Form_entries T.b_Form_entries (hr.mono (by decide))) (pa_cons (pv 2) pa_nil))))))))), ?_⟩
    have lF := pr.bF.len
    refine ⟨_, rfl, prop_deg fa ⟨_, _, rfl, rfl, 1, (n : Int) + 1, 2, (n + 1) / 2, ?_, rgc pr.n1 pr.n7, fun D hD => lc_rangeC (fun i H' => Same H H' ∧ Bl H' D (orow F G) i) ⟨same_upd0 hD, Bl.nil⟩ (fun i H' hi hP => ?_) (fun H' hP => ?_)⟩⟩
    · show [V.int 1, V.int ((F.length : Int) - 1 + 1), V.int 2] = _
      rw [lF]
      show [V.int 1, V.int (((n + 1 : Nat) : Int) - 1 + 1), V.int 2] = _
      rw [show ((n + 1 : Nat) : Int) - 1 + 1 = (n : Int) + 1 by omega]
    · have n7 := pr.n7
      refine ⟨rfl, _, rfl, prop_ent (fa.same hP.1) fun u hu => ⟨_, rfl, prop_ent (fb.same hP.1) fun v hv => ⟨_, rfl, u, v, F, G, 2 * i + 1, ?_, hu, hv, pr.ld (by omega), fun p H3 s3 hp => Bl.step hP hD s3 hp (by omega)⟩⟩⟩
      show [V.ref u, V.ref v, V.int (1 + (i : Int) * 2)] = _
      rw [show 1 + (i : Int) * 2 = ((2 * i + 1 : Nat) : Int) by omega]
    · exact q D _ hP.1 hP.2
def spOddL : Sp := fun vs H Q _ => ∃ (a b : Addr) (n : Nat) (F G : List Int), vs = [.ref a, .ref b] ∧ H a = some (tp F) ∧ H b = some (tp G) ∧ PrP n F G ∧ ∀ D H', Same H H' → Bl H' D (orow F G) ((n + 1) / 2) → Q (.ref D) H'
theorem ok_law_odd_row (T : Facts K mg) : FnOk P w K mg base CX0 4 T.f_law_odd_row T.fd_law_odd_row ["_law_one", "_law_other"] spOddL := by
  have G_law_laid := ok_law_laid (P := P) (w := w) (base := base) T
  refine T.F_law_odd_row.ok sc_law_odd_row (fun vs H Q E h => ?_) (fun cdv A outer s H vs Q E hr h => ?_)
  · obtain ⟨a, b, n, F, G, rfl, _⟩ := h
    rfl
  · obtain ⟨a, b, n, F, G, rfl, fa, fb, pr, q⟩ := h
    refine ⟨_, (PSs.nox (pss_one (ps_ret (pe_lc (own := [("_law_times", 2)]) (g := (gName 2)) (tt := tYes) (by rfl) sc_law_odd_row.nd (pi_range3 (by rfl) T.z_range (pa_cons pe_int (pa_cons (pe_callB call_len_seq (by rfl) T.z_len (by decide +kernel) (pa_cons (pv 0) pa_nil)) (pa_cons pe_int pa_nil)))) (blkOk_by (N := N_law_odd_row) (sc := defScope s_law_odd_row) (by decide +kernel)) (fun _ _ _ _ _ => (pg_name (i := 2) sc_law_odd_row.nd rfl (.inl rfl))) (fun _ _ _ _ _ => pts_nil) (fun _ _ _ _ _ => (pe_call G_law_laid hr (by rfl) T.g_law_laid T.F_law_laid.kp T.b_law_laid .nil pass0 (pa_cons (pv 0) (pa_cons (pv 1) (pa_cons (pv 2) pa_nil))))))))), ?_⟩
    have lF := pr.bF.len
    refine ⟨_, rfl, a, _, rfl, .inr (SqT.of fa), 1, (n : Int) + 1, 2, (n + 1) / 2, ?_, rgc pr.n1 pr.n7, fun D hD => lc_rangeC (fun i H' => Same H H' ∧ Bl H' D (orow F G) i) ⟨same_upd0 hD, Bl.nil⟩ (fun i H' hi hP => ?_) (fun H' hP => ?_)⟩
    · rw [List.length_map, lF]
      rfl
    · have n7 := pr.n7
      refine ⟨rfl, _, rfl, _, rfl, _, rfl, a, b, F, G, 2 * i + 1, ?_, hP.1 _ _ fa, hP.1 _ _ fb, pr.ld (by omega), fun p H3 s3 hp => Bl.step hP hD s3 hp (by omega)⟩
      show [V.ref a, V.ref b, V.int (1 + (i : Int) * 2)] = _
      rw [show 1 + (i : Int) * 2 = ((2 * i + 1 : Nat) : Int) by omega]
    · exact q D _ hP.1 hP.2
/-- a tuple of forms -/
structure Ft (C : Addr) (H : Hp) (p : Addr) (as : List Addr) (m : Nat) (φ : Nat → List Int) : Prop where
  tup : H p = some (.tup (as.map V.ref))
  len : as.length = m
  fo : ∀ k (hk : k < as.length), Fo C H as[k] (φ k)
theorem Ft.same {C : Addr} {H H' : Hp} {p : Addr} {as : List Addr} {m : Nat} {φ : Nat → List Int} (h : Ft C H p as m φ) (s : Same H H') : Ft C H' p as m φ :=
  ⟨s _ _ h.tup, h.len, fun k hk => (h.fo k hk).same s⟩
def spShown (C : Addr) : Sp := fun vs H Q _ => ∃ (p : Addr) (as : List Addr) (m : Nat) (φ : Nat → List Int), vs = [.ref p] ∧ Ft C H p as m φ ∧ m ≤ 100 ∧ ∀ D H', Same H H' → Bl H' D φ m → Q (.ref D) H'
theorem ok_law_shown (T : Facts K mg) : FnOk P w K mg base CX0 3 T.f_law_shown T.fd_law_shown ["_law_forms"] (spShown T.C_Form) := by
  have G_Form_entries := ok_Form_entries (P := P) (w := w) (base := base) T
  refine T.F_law_shown.ok sc_law_shown (fun vs H Q E h => ?_) (fun cdv A outer s H vs Q E hr h => ?_)
  · obtain ⟨p, as, m, φ, rfl, _⟩ := h
    rfl
  · obtain ⟨p, as, m, φ, rfl, ft, hm, q⟩ := h
    refine ⟨_, (PSs.nox (pss_one (ps_ret (pe_lc (own := [("_law_form_here", 1)]) (g := (gName 1)) (tt := tYes) (by rfl) sc_law_shown.nd (pi_tup (pv 0)) (blkOk_by (N := N_law_shown) (sc := defScope s_law_shown) (by decide +kernel)) (fun _ _ _ _ _ => (pg_name (i := 1) sc_law_shown.nd rfl (.inl rfl))) (fun _ _ _ _ _ => pts_nil) (fun _ _ _ _ _ => (pe_prp (pv 1) T.oc_Form T.pr_Form_entries G_Form_entries T.b_Form_entries (hr.mono (by decide)))))))), ?_⟩
    have la := ft.len
    refine ⟨_, rfl, p, rfl, ⟨_, SqT.of ft.tup⟩, fun D hD => lc_tup (xs := as.map V.ref) (fun i H' => Same H H' ∧ Bl H' D φ i) ⟨same_upd0 hD, Bl.nil⟩ (fun i H' _ hP => SqT.of (hP.1 _ _ ft.tup)) (fun i x H' hx hP => ?_) (fun H' hP => ?_)⟩
    · obtain ⟨hi, rfl⟩ := get_ref hx
      exact ⟨rfl, _, rfl, prop_ent ((ft.fo i hi).same hP.1) fun u hu => Bl.step hP hD (fun _ _ z => z) hu (by omega)⟩
    · rw [List.length_map, la] at hP
      exact q D _ hP.1 hP.2
end
end K83

set_option Elab.async false
set_option linter.all false
set_option maxRecDepth 100000
set_option maxHeartbeats 4000000
set_option exponentiation.threshold 10000
/-! pencils: spans, rows, bases -/
namespace K83
open PySem PySem.Spec PyProof.Rows L2 StX RZ MyR SlX OwnR OwnF EnumT SeqE GxR GenNx FDivQ
theorem PrP.two {n : Nat} {F G : List Int} (p : PrP n F G) : ∀ r ∈ [F, G], r.length = n + 1 := two_w p.bF.len p.bG.len
theorem PrP.bd {n : Nat} {F G : List Int} (p : PrP n F G) : ∀ r ∈ [F, G], ∀ x ∈ r, x.natAbs ≤ 2 ^ 100 := fun r hr x hx => by
  simp only [List.mem_cons, List.not_mem_nil, or_false] at hr
  rcases hr with e | e
  · rw [e] at hx; exact Nat.le_trans (nm_mem hx) p.bF.nm
  · rw [e] at hx; exact Nat.le_trans (nm_mem hx) p.bG.nm
theorem PrP.eok {n : Nat} {F G : List Int} (p : PrP n F G) : EOk less [F, G] (n + 1) := eokP p.two p.bd (show BdE 2 (2 ^ 100) < 2 ^ 4470 by decide +kernel)
theorem PrP.eokl {n : Nat} {F G : List Int} (p : PrP n F G) : EOk lless [F, G] (n + 1) := eokL p.two p.bd (show BdE 2 (2 ^ 100) < 2 ^ 4470 by decide +kernel)
def EqB2 (C a b : Addr) (H : Hp) (r : Bool) : Prop := ∃ f g : List Int, Fo C H a f ∧ Fo C H b g ∧ r = decide (f = g) ∧ (a = b → f = g)
theorem eqB2_imp {C : Addr} : ∀ vs H Q E, OwnTB.spEqB (EqB2 C) vs H Q E → spEqF C vs H Q E := fun vs H Q E h => by
  obtain ⟨a, b, r, rfl, ⟨f, g, ff, fg, rfl, _⟩, q⟩ := h
  exact ⟨a, f, b, rfl, ff, .inl ⟨g, fg, q H Ext.rfl'⟩⟩
theorem eqB2_mon {C : Addr} : ∀ a b H H' r, Ext H H' → EqB2 C a b H r → EqB2 C a b H' r := fun a b H H' r e h => by
  obtain ⟨f, g, ff, fg, hr, hd⟩ := h
  exact ⟨f, g, ff.same e, fg.same e, hr, hd⟩
theorem eqB2_refl {C : Addr} : ∀ a H r, EqB2 C a a H r → r = true := fun a H r h => by
  obtain ⟨f, g, _, _, hr, hd⟩ := h
  rw [hr, decide_eq_true (hd rfl)]
theorem Sts.free {Ps : List Addr} {H H' : Hp} {p : Addr} (s : Sts Ps H H') (g : Tg Ps H') (n : H' p = none) : H p = none := by
  cases e : H p with
  | none => rfl
  | some o =>
    exfalso
    by_cases m : p ∈ Ps
    · obtain ⟨ps, e2, _⟩ := g p m
      rw [n] at e2
      cases e2
    · rw [s p o m e] at n
      cases n
theorem Fo.some {C a : Addr} {H : Hp} {l : List Int} (h : Fo C H a l) : H a ≠ none := by
  obtain ⟨dx, t, h1, _⟩ := h
  rw [h1]
  exact fun z => by cases z
section
variable {P : Program} {w : World} {K : PySem.W.Frag} {mg : Str → Option Value} {base : Heap} {Ps : List Addr}
def spIsPen (C : Addr) (Ps : List Addr) : Sp := fun vs H Q _ => ∃ (a b : Addr) (n : Nat) (F G : List Int), vs = [.ref a, .ref b] ∧ Fo C H a F ∧ Fo C H b G ∧ PrP n F G ∧ Rk2 (n + 1) F G ∧ Tg Ps H ∧ ∀ H', Sts Ps H H' → Tg Ps H' → Q (.bl true) H'
theorem ok_is_pencil (T : Facts K mg) (TB_first_of : TabB base mg T.c_first_of T.P_first_of) (hP : T.P_first_of ∈ Ps) : FnOk P w K mg base CX0 5 T.f_is_pencil T.fd_is_pencil ["one", "other"] (spIsPen T.C_Form Ps) := by
  have G_rank_of := ok_rank_of (P := P) (w := w) (base := base) T TB_first_of hP
  have G_Form_entries := ok_Form_entries (P := P) (w := w) (base := base) T
  have G_Form_degree : FnOk P w K mg base CX0 1 T.f_Form_degree T.fd_Form_degree ["self"] (spDeg T.C_Form) := ok_Form_degree T
  refine T.F_is_pencil.ok sc_is_pencil (fun vs H Q E h => ?_) (fun cdv A outer s H vs Q E hr h => ?_)
  · obtain ⟨a, b, n, F, G, rfl, _⟩ := h
    rfl
  · obtain ⟨a, b, n, F, G, rfl, fa, fb, pr, r2, tg, q⟩ := h
    refine ⟨_, (PSs.nox (pss_cons (ps_if (pw_or (pt_cmpR op_ne (pe_prp (pv 0) T.oc_Form T.pr_Form_degree G_Form_degree T.b_Form_degree (hr.mono (by decide))) (pe_prp (pv 1) T.oc_Form T.pr_Form_degree G_Form_degree T.b_Form_degree (hr.mono (by decide))) (nomark _)) (pw_or1 (pt_not (pt_chain op_le op_le pe_int (pe_prp (pv 0) T.oc_Form T.pr_Form_degree G_Form_degree T.b_Form_degree (hr.mono (by decide))) (pe_glob (v := .int 21) (by rfl) T.c_MOST_PENCIL.choose_spec ⟨_, rfl⟩))))).pt
      (pss_one (ps_ret pe_bl))
      pss_nil)
    (pss_one (ps_ret (pe_cmpR op_eq (pe_call G_rank_of hr (by rfl) T.g_rank_of T.F_rank_of.kp T.b_rank_of .nil pass0 (pa_cons (pe_lst (pa_cons (pe_prp (pv 0) T.oc_Form T.pr_Form_entries G_Form_entries T.b_Form_entries (hr.mono (by decide))) (pa_cons (pe_prp (pv 1) T.oc_Form T.pr_Form_entries G_Form_entries T.b_Form_entries (hr.mono (by decide))) pa_nil))) (pa_cons (pe_op op_add (pe_prp (pv 0) T.oc_Form T.pr_Form_degree G_Form_degree T.b_Form_degree (hr.mono (by decide))) pe_int) pa_nil))) pe_int (nomark _)))))), ?_⟩
    have lF := pr.bF.len
    have lG := pr.bG.len
    have n1 := pr.n1
    have n7 := pr.n7
    refine ⟨_, rfl, prop_deg fa ⟨_, rfl, prop_deg fb ⟨rfl, _, rfl, ?_⟩⟩⟩
    rw [decide_eq_true (show V.int ((F.length : Int) - 1) = V.int ((G.length : Int) - 1) by rw [lF, lG])]
    refine iteF ?_
    refine ⟨_, rfl, prop_deg fa ⟨1, _, rfl, rfl, true, ?_, iteT ⟨_, _, rfl, rfl, ?_⟩⟩⟩
    · show V.bl (decide ((1 : Int) ≤ (F.length : Int) - 1)) = V.bl true
      rw [decide_eq_true (by omega)]
    refine ⟨_, rfl, ?_⟩
    rw [decide_eq_true (show (F.length : Int) - 1 ≤ 21 by omega)]
    refine iteF ?_
    dsimp only [tNext]
    refine ⟨_, rfl, prop_ent fa fun u hu => ⟨_, rfl, prop_ent fb fun v hv => ⟨by show 2 ≤ sizeLine; decide, fun L nL => gen_upd H L (.lst [.ref u, .ref v]) nL fun H1 s1 f1 => ⟨_, rfl, prop_deg (fa.same s1) ⟨_, _, rfl, rfl, L, [u, v], [F, G], n + 1, ?_, .inr f1, ⟨.inl (s1 _ _ hu), .inl (s1 _ _ hv), True.intro⟩, (show 2 ≤ 100 by decide), by omega, pr.two, pr.eok, tg.same s1, fun H' s t => ⟨rfl, ?_⟩⟩⟩⟩⟩⟩
    · show [V.ref L, V.int ((F.length : Int) - 1 + 1)] = _
      rw [lF, show ((n + 1 : Nat) : Int) - 1 + 1 = ((n + 1 : Nat) : Int) by omega]
    · rw [(rk2_iff lePP lF lG).mpr r2]
      exact q H' ((Sts.of s1).trans s) t
theorem ok_require_span (T : Facts K mg) (TB_first_of : TabB base mg T.c_first_of T.P_first_of) (hP : T.P_first_of ∈ Ps) : FnOk P w K mg base CX0 6 T.f_require_span T.fd_require_span ["one", "other"] (fun vs H Q _ => ∃ (a b : Addr) (n : Nat) (F G : List Int), vs = [.ref a, .ref b] ∧ Fo T.C_Form H a F ∧ Fo T.C_Form H b G ∧ PrP n F G ∧ Rk2 (n + 1) F G ∧ Tg Ps H ∧ ∀ H', Sts Ps H H' → Tg Ps H' → Q .non H') := by
  have G_is_pencil := ok_is_pencil (P := P) (w := w) (base := base) T TB_first_of hP
  refine T.F_require_span.ok sc_require_span (fun vs H Q E h => ?_) (fun cdv A outer s H vs Q E hr h => ?_)
  · obtain ⟨a, b, n, F, G, rfl, _⟩ := h
    rfl
  · obtain ⟨a, b, n, F, G, rfl, fa, fb, pr, r2, tg, q⟩ := h
    refine ⟨_, (PSs.nox (pss_one (ps_if (pt_not (pt_val (pe_call G_is_pencil hr (by rfl) T.g_is_pencil T.F_is_pencil.kp T.b_is_pencil .nil pass0 (pa_cons (pv 0) (pa_cons (pv 1) pa_nil)))))
      (pss_one ps_never)
      pss_nil))), ?_⟩
    exact ⟨_, rfl, _, rfl, a, b, n, F, G, rfl, fa, fb, pr, r2, tg, fun H' s t => ⟨true, rfl, iteF (q H' s t)⟩⟩
theorem ok_require_pencil (T : Facts K mg) (TB_first_of : TabB base mg T.c_first_of T.P_first_of) (hP : T.P_first_of ∈ Ps) : FnOk P w K mg base CX0 7 T.f_require_pencil T.fd_require_pencil ["one", "other"] (fun vs H Q _ => ∃ (a b : Addr) (n : Nat) (F G : List Int), vs = [.ref a, .ref b] ∧ Fo T.C_Form H a F ∧ Fo T.C_Form H b G ∧ PrP n F G ∧ Rk2 (n + 1) F G ∧ Tg Ps H ∧ ∀ H', Sts Ps H H' → Tg Ps H' → Q .non H') := by
  have G_require_forms := ok_require_forms (P := P) (w := w) (base := base) T
  have G_require_span := ok_require_span (P := P) (w := w) (base := base) T TB_first_of hP
  refine T.F_require_pencil.ok sc_require_pencil (fun vs H Q E h => ?_) (fun cdv A outer s H vs Q E hr h => ?_)
  · obtain ⟨a, b, n, F, G, rfl, _⟩ := h
    rfl
  · obtain ⟨a, b, n, F, G, rfl, fa, fb, pr, r2, tg, q⟩ := h
    refine ⟨_, (PSs.nox (pss_cons (ps_expr (StarD.pe_callR G_require_forms (hr.mono (by decide)) (by rfl) T.g_require_forms T.F_require_forms.kp pass0 (pa_cons (pv 0) (pa_cons (pv 1) pa_nil))))
    (pss_one (ps_expr (pe_call G_require_span hr (by rfl) T.g_require_span T.F_require_span.kp T.b_require_span .nil pass0 (pa_cons (pv 0) (pa_cons (pv 1) pa_nil))))))), ?_⟩
    refine ⟨_, rfl, _, rfl, by show 2 ≤ sizeLine; decide, fun p np => ⟨p, [a, b], rfl, upd_same, fun x hx => ?_, fun H1 s1 => ?_⟩⟩
    · simp only [List.mem_cons, List.not_mem_nil, or_false] at hx
      rcases hx with e | e
      · rw [e]; exact ⟨F, fa.same (same_upd0 np)⟩
      · rw [e]; exact ⟨G, fb.same (same_upd0 np)⟩
    · have s01 := (same_upd0 (o := .tup [.ref a, .ref b]) np).trans s1
      exact ⟨_, rfl, _, rfl, a, b, n, F, G, rfl, fa.same s01, fb.same s01, pr, r2, tg.same s01, fun H' s t => q H' ((Sts.of s01).trans s) t⟩
def spRowOf (C : Addr) (Ps : List Addr) : Sp := fun vs H Q _ => ∃ (a b : Addr) (n : Nat) (F G : List Int), vs = [.ref a, .ref b] ∧ Fo C H a F ∧ Fo C H b G ∧ PrP n F G ∧ Rk2 (n + 1) F G ∧ Tg Ps H ∧ ∀ p as H', Sts Ps H H' → Tg Ps H' → Ft C H' p as ((n + 1) / 2) (orow F G) → Q (.ref p) H'
theorem ok_pencil_row (T : Facts K mg) (TB_first_of : TabB base mg T.c_first_of T.P_first_of) (hP : T.P_first_of ∈ Ps) : FnOk P w K mg base CX0 8 T.f_pencil_row T.fd_pencil_row ["one", "other"] (spRowOf T.C_Form Ps) := by
  have G_require_pencil := ok_require_pencil (P := P) (w := w) (base := base) T TB_first_of hP
  have G_odd_layings := ok_odd_layings (P := P) (w := w) (base := base) T
  have G_form_of : FnOk P w K mg base CX0 7 T.f_form_of T.fd_form_of ["entries"] (spMake T.C_Form) := ok_form_of T
  refine T.F_pencil_row.ok sc_pencil_row (fun vs H Q E h => ?_) (fun cdv A outer s H vs Q E hr h => ?_)
  · obtain ⟨a, b, n, F, G, rfl, _⟩ := h
    rfl
  · obtain ⟨a, b, n, F, G, rfl, fa, fb, pr, r2, tg, q⟩ := h
    refine ⟨_, (PSs.nox (pss_cons (ps_expr (pe_call G_require_pencil hr (by rfl) T.g_require_pencil T.F_require_pencil.kp T.b_require_pencil .nil pass0 (pa_cons (pv 0) (pa_cons (pv 1) pa_nil))))
    (pss_one (ps_ret (pe_tupleOf (by rfl) T.z_tuple (pe_lc (own := [("entries", 2)]) (g := (gName 2)) (tt := tYes) (by rfl) sc_pencil_row.nd (pi_list (pe_call G_odd_layings (hr.mono (by decide)) (by rfl) T.g_odd_layings T.F_odd_layings.kp T.b_odd_layings .nil pass0 (pa_cons (pv 0) (pa_cons (pv 1) pa_nil)))) (blkOk_by (N := N_pencil_row) (sc := defScope s_pencil_row) (by decide +kernel)) (fun _ _ _ _ _ => (pg_name (i := 2) sc_pencil_row.nd rfl (.inl rfl))) (fun _ _ _ _ _ => pts_nil) (fun _ _ _ _ _ => (pe_call G_form_of hr (by rfl) T.g_form_of T.F_form_of.kp T.b_form_of .nil pass0 (pa_cons (pv 2) pa_nil))))))))), ?_⟩
    have n7 := pr.n7
    refine ⟨_, rfl, _, rfl, a, b, n, F, G, rfl, fa, fb, pr, r2, tg, fun H1 s1 t1 => ?_⟩
    have fa1 := s1.fo tg fa
    have fb1 := s1.fo tg fb
    refine ⟨_, rfl, _, rfl, a, b, n, F, G, rfl, fa1, fb1, pr, fun D H2 s2 hB => ?_⟩
    obtain ⟨rs, hD, lr, hrow⟩ := hB
    refine ⟨D, rfl, ⟨_, SqL.of hD⟩, fun E1 nE => lc_list (xs := rs.map V.ref) (fun i H3 => Same H2 H3 ∧ Bf T.C_Form H3 E1 (orow F G) i) ⟨same_upd0 nE, Bf.nil⟩ (fun i H3 _ hP => SqL.of (hP.1 _ _ hD)) (fun i x H3 hx hP => ?_) (fun H3 hP => ?_)⟩
    · obtain ⟨hi, rfl⟩ := get_ref hx
      exact ⟨rfl, _, rfl, rs[i], _, rfl, hP.1 _ _ (hrow i hi), fun p H4 s4 n4 f4 => Bf.step hP nE s4 f4 (by omega)⟩
    · obtain ⟨s3, gs, hG, lg, hg⟩ := hP
      rw [List.length_map, lr] at lg
      refine .inl ⟨E1, _, rfl, SqL.of hG, fun p np => q p gs _ (s1.trans (Sts.of ((s2.trans s3).trans (same_upd0 np)))) (t1.same ((s2.trans s3).trans (same_upd0 np))) ⟨upd_same, lg, fun k hk => (hg k hk).same (same_upd0 np)⟩⟩
/-- two rows are told as forms -/
def spBasR (C : Addr) (Ps : List Addr) : Sp := fun vs H Q _ => ∃ (t : Addr) (as : List Addr) (rows : List (List Int)) (w : Nat), vs = [.ref t, .int w] ∧ (H t = some (.tup (as.map V.ref)) ∨ H t = some (.lst (as.map V.ref))) ∧ RA H as rows ∧ rows.length ≤ 100 ∧ w ≤ 100 ∧ (∀ r ∈ rows, r.length = w) ∧ EOk less rows w ∧ (ech less rows w).length = 2 ∧ Tg Ps H ∧
  ∀ p x y H', Sts Ps H H' → Tg Ps H' → Ft C H' p [x, y] 2 (fun k => (ech less rows w).getD k []) → H x = none → H y = none → Q (.ref p) H'
theorem ok_basis_of_rows (T : Facts K mg) (TB_first_of : TabB base mg T.c_first_of T.P_first_of) (hP : T.P_first_of ∈ Ps) : FnOk P w K mg base CX0 8 T.f_basis_of_rows T.fd_basis_of_rows ["rows", "width"] (spBasR T.C_Form Ps) := by
  have G_echelon_rows := ok_echelon_rows (P := P) (w := w) (base := base) T TB_first_of hP
  have G_form_of : FnOk P w K mg base CX0 7 T.f_form_of T.fd_form_of ["entries"] (spMake T.C_Form) := ok_form_of T
  refine T.F_basis_of_rows.ok sc_basis_of_rows (fun vs H Q E h => ?_) (fun cdv A outer s H vs Q E hr h => ?_)
  · obtain ⟨t, as, rows, n, rfl, _⟩ := h
    rfl
  · obtain ⟨t, as, rows, n, rfl, hS, hA, hl, hn, hw, ok, l2, tg, q⟩ := h
    refine ⟨_, (PSs.nox (pss_cons (ps_asg (pe_call G_echelon_rows (hr.mono (by decide)) (by rfl) T.g_echelon_rows T.F_echelon_rows.kp T.b_echelon_rows .nil pass0 (pa_cons (pv 0) (pa_cons (pv 1) pa_nil))) (pg_lst (by rfl) (pgs_cons (pg_name (i := 2) sc_basis_of_rows.nd rfl (.inl rfl)) (pgs_cons (pg_name (i := 3) sc_basis_of_rows.nd rfl (.inl rfl)) pgs_nil))))
    (pss_one (ps_ret (pe_tup (pa_cons (pe_call G_form_of hr (by rfl) T.g_form_of T.F_form_of.kp T.b_form_of .nil pass0 (pa_cons (pe_tupleOf (by rfl) T.z_tuple (pv 2)) pa_nil)) (pa_cons (pe_call G_form_of hr (by rfl) T.g_form_of T.F_form_of.kp T.b_form_of .nil pass0 (pa_cons (pe_tupleOf (by rfl) T.z_tuple (pv 3)) pa_nil)) pa_nil))))))), ?_⟩
    refine ⟨_, rfl, _, rfl, t, as, rows, n, rfl, hS, hA, hl, hn, hw, ok, tg, fun p bs H1 s1 t1 e1 r1 => ?_⟩
    have lb := RX.len r1
    generalize ech less rows n = T2 at l2 r1 lb q
    match T2, l2, bs, lb, r1, e1 with
    | [A0, B0], _, [x, y], _, r1, e1 =>
      obtain ⟨hx, hy, _⟩ := r1
      refine ⟨p, _, rfl, SqL.of e1, rfl, _, _, rfl, _, _, rfl, rfl, ?_⟩
      refine ⟨_, rfl, .inl ⟨x, _, rfl, SqL.of hx, fun p2 n2 => ⟨p2, A0, rfl, upd_same, fun a H2 s2 m2 f2 => ⟨_, rfl, .inl ⟨y, _, rfl, SqL.of (s2 _ _ (same_upd0 n2 _ _ hy)), fun p3 n3 => ⟨p3, B0, rfl, upd_same, fun b H3 s3 m3 f3 => ⟨by show 2 ≤ sizeLine; decide, fun r nr => ?_⟩⟩⟩⟩⟩⟩⟩
      have s12 := (same_upd0 (o := .tup (A0.map V.int)) n2).trans s2
      have s13 := s12.trans ((same_upd0 (o := .tup (B0.map V.int)) n3).trans s3)
      have s14 := s13.trans (same_upd0 (o := .tup [.ref a, .ref b]) nr)
      refine q r a b _ (s1.trans (Sts.of s14)) (t1.same s14) ⟨upd_same, rfl, fun k hk => ?_⟩ (Sts.free s1 t1 (Same.free (same_upd0 n2) m2)) (Sts.free s1 t1 (Same.free (s12.trans (same_upd0 n3)) m3))
      match k, hk with
      | 0, _ => exact f2.same (((same_upd0 n3).trans s3).trans (same_upd0 nr))
      | 1, _ => exact f3.same (same_upd0 nr)
def spBas (C : Addr) (Ps : List Addr) : Sp := fun vs H Q _ => ∃ (a b : Addr) (n : Nat) (F G : List Int), vs = [.ref a, .ref b] ∧ Fo C H a F ∧ Fo C H b G ∧ PrP n F G ∧ Rk2 (n + 1) F G ∧ Tg Ps H ∧
  ∀ p x y H', Sts Ps H H' → Tg Ps H' → Ft C H' p [x, y] 2 (fun k => (ech less [F, G] (n + 1)).getD k []) → H x = none → H y = none → Q (.ref p) H'
theorem ok_basis_in (T : Facts K mg) (TB_first_of : TabB base mg T.c_first_of T.P_first_of) (hP : T.P_first_of ∈ Ps) : FnOk P w K mg base CX0 9 T.f_basis_in T.fd_basis_in ["one", "other"] (spBas T.C_Form Ps) := by
  have G_basis_of_rows := ok_basis_of_rows (P := P) (w := w) (base := base) T TB_first_of hP
  have G_Form_entries := ok_Form_entries (P := P) (w := w) (base := base) T
  have G_Form_degree : FnOk P w K mg base CX0 1 T.f_Form_degree T.fd_Form_degree ["self"] (spDeg T.C_Form) := ok_Form_degree T
  refine T.F_basis_in.ok sc_basis_in (fun vs H Q E h => ?_) (fun cdv A outer s H vs Q E hr h => ?_)
  · obtain ⟨a, b, n, F, G, rfl, _⟩ := h
    rfl
  · obtain ⟨a, b, n, F, G, rfl, fa, fb, pr, r2, tg, q⟩ := h
    refine ⟨_, (PSs.nox (pss_one (ps_ret (pe_call G_basis_of_rows hr (by rfl) T.g_basis_of_rows T.F_basis_of_rows.kp T.b_basis_of_rows .nil pass0 (pa_cons (pe_lst (pa_cons (pe_prp (pv 0) T.oc_Form T.pr_Form_entries G_Form_entries T.b_Form_entries (hr.mono (by decide))) (pa_cons (pe_prp (pv 1) T.oc_Form T.pr_Form_entries G_Form_entries T.b_Form_entries (hr.mono (by decide))) pa_nil))) (pa_cons (pe_op op_add (pe_prp (pv 0) T.oc_Form T.pr_Form_degree G_Form_degree T.b_Form_degree (hr.mono (by decide))) pe_int) pa_nil)))))), ?_⟩
    have lF := pr.bF.len
    have lG := pr.bG.len
    have n7 := pr.n7
    refine ⟨_, rfl, prop_ent fa fun u hu => ⟨_, rfl, prop_ent fb fun v hv => ⟨by show 2 ≤ sizeLine; decide, fun L nL => gen_upd H L (.lst [.ref u, .ref v]) nL fun H1 s1 f1 => ⟨_, rfl, prop_deg (fa.same s1) ⟨_, _, rfl, rfl, L, [u, v], [F, G], n + 1, ?_, .inr f1, ⟨.inl (s1 _ _ hu), .inl (s1 _ _ hv), True.intro⟩, (show 2 ≤ 100 by decide), by omega, pr.two, pr.eok, (rk2_iff lePP lF lG).mpr r2, tg.same s1, fun p x y H' s t ft nx ny => q p x y H' ((Sts.of s1).trans s) t ft (Same.free s1 nx) (Same.free s1 ny)⟩⟩⟩⟩⟩
    show [V.ref L, V.int ((F.length : Int) - 1 + 1)] = _
    rw [lF, show ((n + 1 : Nat) : Int) - 1 + 1 = ((n + 1 : Nat) : Int) by omega]
theorem ok_pencil_basis (T : Facts K mg) (TB_first_of : TabB base mg T.c_first_of T.P_first_of) (hP : T.P_first_of ∈ Ps) : FnOk P w K mg base CX0 10 T.f_pencil_basis T.fd_pencil_basis ["one", "other"] (spBas T.C_Form Ps) := by
  have G_require_pencil := ok_require_pencil (P := P) (w := w) (base := base) T TB_first_of hP
  have G_basis_in := ok_basis_in (P := P) (w := w) (base := base) T TB_first_of hP
  refine T.F_pencil_basis.ok sc_pencil_basis (fun vs H Q E h => ?_) (fun cdv A outer s H vs Q E hr h => ?_)
  · obtain ⟨a, b, n, F, G, rfl, _⟩ := h
    rfl
  · obtain ⟨a, b, n, F, G, rfl, fa, fb, pr, r2, tg, q⟩ := h
    refine ⟨_, (PSs.nox (pss_cons (ps_expr (pe_call G_require_pencil (hr.mono (by decide)) (by rfl) T.g_require_pencil T.F_require_pencil.kp T.b_require_pencil .nil pass0 (pa_cons (pv 0) (pa_cons (pv 1) pa_nil))))
    (pss_one (ps_ret (pe_call G_basis_in hr (by rfl) T.g_basis_in T.F_basis_in.kp T.b_basis_in .nil pass0 (pa_cons (pv 0) (pa_cons (pv 1) pa_nil))))))), ?_⟩
    exact ⟨_, rfl, _, rfl, a, b, n, F, G, rfl, fa, fb, pr, r2, tg, fun H1 s1 t1 => ⟨_, rfl, _, rfl, a, b, n, F, G, rfl, s1.fo tg fa, s1.fo tg fb, pr, r2, t1, fun p x y H' s t ft nx ny => q p x y H' (s1.trans s) t ft (Sts.free s1 t1 nx) (Sts.free s1 t1 ny)⟩⟩
/-- two pairs compared -/
theorem pairs_eq {C : Addr} {H : Hp} {p p' x y x' y' : Addr} {K : PySem.W.Frag} {φ ψ : Nat → List Int} (h : Ft C H p [x, y] 2 φ) (h' : Ft C H p' [x', y'] 2 ψ) (d1 : x ≠ x') (d2 : y ≠ y') : OwnTB.DTupB K (OwnTB.DSlB C (EqB2 C)) (.ref p) (.ref p') H (decide (φ 0 = ψ 0) && decide (φ 1 = ψ 1)) := by
  refine ⟨p, p', _, _, fun i => decide (φ i = ψ i), rfl, rfl, SqT.of h.tup, SqT.of h'.tup, rfl, fun i a b ha hb => ?_, ?_⟩
  · have mk : ∀ {u v : Addr} {i : Nat}, Fo C H u (φ i) → Fo C H v (ψ i) → u ≠ v → OwnTB.DSlB C (EqB2 C) (.ref u) (.ref v) H (decide (φ i = ψ i)) := fun {u v i} fu fv ne => by
      obtain ⟨dx, _, s1, _⟩ := fu.slt
      obtain ⟨dy, _, s2, _⟩ := fv.slt
      exact ⟨u, v, dx, dy, _, _, rfl, rfl, s1, s2, φ i, ψ i, fu, fv, rfl, fun z => absurd z ne⟩
    match i, ha, hb with
    | 0, ha, hb =>
      cases ha
      cases hb
      exact mk (h.fo 0 (Nat.zero_lt_succ 1)) (h'.fo 0 (Nat.zero_lt_succ 1)) d1
    | 1, ha, hb =>
      cases ha
      cases hb
      exact mk (h.fo 1 (Nat.lt_succ_self 1)) (h'.fo 1 (Nat.lt_succ_self 1)) d2
  · show _ = (List.range 2).all _
    rw [show List.range 2 = [0, 1] from rfl]
    simp
theorem two_lists {A B : List (List Int)} (hA : A.length = 2) (hB : B.length = 2) : (decide (A.getD 0 [] = B.getD 0 []) && decide (A.getD 1 [] = B.getD 1 [])) = decide (A = B) := by
  match A, hA, B, hB with
  | [a, b], _, [c, d], _ =>
    show (decide (a = c) && decide (b = d)) = _
    by_cases h1 : a = c <;> by_cases h2 : b = d <;> simp [h1, h2]
def spOneP (C : Addr) (Ps : List Addr) : Sp := fun vs H Q _ => ∃ (a b c d : Addr) (n : Nat) (F G I J : List Int), vs = [.ref a, .ref b, .ref c, .ref d] ∧ Fo C H a F ∧ Fo C H b G ∧ Fo C H c I ∧ Fo C H d J ∧ PrP n F G ∧ Rk2 (n + 1) F G ∧ PrP n I J ∧ Rk2 (n + 1) I J ∧ Tg Ps H ∧
  ∀ H', Sts Ps H H' → Tg Ps H' → Q (.bl (decide (ech less [F, G] (n + 1) = ech less [I, J] (n + 1)))) H'
theorem ok_are_one_pencil (T : Facts K mg) (TB_first_of : TabB base mg T.c_first_of T.P_first_of) (hP : T.P_first_of ∈ Ps) : FnOk P w K mg base CX0 10 T.f_are_one_pencil T.fd_are_one_pencil ["one", "other", "third", "last"] (spOneP T.C_Form Ps) := by
  have G_require_forms := ok_require_forms (P := P) (w := w) (base := base) T
  have G_require_span := ok_require_span (P := P) (w := w) (base := base) T TB_first_of hP
  have G_basis_in := ok_basis_in (P := P) (w := w) (base := base) T TB_first_of hP
  have G_Form_eq : FnOk P w K mg base CX0 1 T.f_Form_eq T.fd_Form_eq ["self", "other"] (spEqF T.C_Form) := ok_Form_eq T
  have G_Form_degree : FnOk P w K mg base CX0 1 T.f_Form_degree T.fd_Form_degree ["self"] (spDeg T.C_Form) := ok_Form_degree T
  refine T.F_are_one_pencil.ok sc_are_one_pencil (fun vs H Q E h => ?_) (fun cdv A outer s H vs Q E hr h => ?_)
  · obtain ⟨a, b, c, d, n, F, G, I, J, rfl, _⟩ := h
    rfl
  · obtain ⟨a, b, c, d, n, F, G, I, J, rfl, fa, fb, fc, fd, p1, r1, p2, r2, tg, q⟩ := h
    refine ⟨_, (PSs.nox (pss_cons (ps_expr (StarD.pe_callR G_require_forms (hr.mono (by decide)) (by rfl) T.g_require_forms T.F_require_forms.kp pass0 (pa_cons (pv 0) (pa_cons (pv 1) (pa_cons (pv 2) (pa_cons (pv 3) pa_nil))))))
    (pss_cons (ps_expr (pe_call G_require_span (hr.mono (by decide)) (by rfl) T.g_require_span T.F_require_span.kp T.b_require_span .nil pass0 (pa_cons (pv 0) (pa_cons (pv 1) pa_nil))))
    (pss_cons (ps_expr (pe_call G_require_span (hr.mono (by decide)) (by rfl) T.g_require_span T.F_require_span.kp T.b_require_span .nil pass0 (pa_cons (pv 2) (pa_cons (pv 3) pa_nil))))
    (pss_one (ps_ret (pe_and (pe_cmpR op_eq (pe_prp (pv 0) T.oc_Form T.pr_Form_degree G_Form_degree T.b_Form_degree (hr.mono (by decide))) (pe_prp (pv 2) T.oc_Form T.pr_Form_degree G_Form_degree T.b_Form_degree (hr.mono (by decide))) (nomark _)) (pe_one (pe_cmpR (OwnTB.op_eqTB (R := EqB2 T.C_Form) T.mt_Form_eq G_Form_eq eqB2_imp eqB2_mon eqB2_refl T.b_Form_eq (hr.mono (by decide))) (pe_call G_basis_in hr (by rfl) T.g_basis_in T.F_basis_in.kp T.b_basis_in .nil pass0 (pa_cons (pv 0) (pa_cons (pv 1) pa_nil))) (pe_call G_basis_in hr (by rfl) T.g_basis_in T.F_basis_in.kp T.b_basis_in .nil pass0 (pa_cons (pv 2) (pa_cons (pv 3) pa_nil))) (nomark _)))))))))), ?_⟩
    refine ⟨_, rfl, _, rfl, _, rfl, _, rfl, by show 4 ≤ sizeLine; decide, fun p np => ⟨p, [a, b, c, d], rfl, upd_same, fun x hx => ?_, fun H1 s1 => ?_⟩⟩
    · simp only [List.mem_cons, List.not_mem_nil, or_false] at hx
      have s0 := same_upd0 (o := .tup [.ref a, .ref b, .ref c, .ref d]) np
      rcases hx with e | e | e | e
      · rw [e]; exact ⟨F, fa.same s0⟩
      · rw [e]; exact ⟨G, fb.same s0⟩
      · rw [e]; exact ⟨I, fc.same s0⟩
      · rw [e]; exact ⟨J, fd.same s0⟩
    · have s01 := (same_upd0 (o := .tup [.ref a, .ref b, .ref c, .ref d]) np).trans s1
      have t1 := tg.same s01
      refine ⟨_, rfl, _, rfl, a, b, n, F, G, rfl, fa.same s01, fb.same s01, p1, r1, t1, fun H2 s2 t2 => ?_⟩
      refine ⟨_, rfl, _, rfl, c, d, n, I, J, rfl, s2.fo t1 (fc.same s01), s2.fo t1 (fd.same s01), p2, r2, t2, fun H3 s3 t3 => ?_⟩
      have s13 := s2.trans s3
      have fa3 := s13.fo t1 (fa.same s01)
      have fb3 := s13.fo t1 (fb.same s01)
      have fc3 := s13.fo t1 (fc.same s01)
      have fd3 := s13.fo t1 (fd.same s01)
      refine ⟨_, rfl, prop_deg fa3 ⟨_, rfl, prop_deg fc3 ⟨rfl, true, ?_, iteT ?_⟩⟩⟩
      · rw [decide_eq_true (show V.int ((F.length : Int) - 1) = V.int ((I.length : Int) - 1) by rw [p1.bF.len, p2.bF.len])]
      refine ⟨_, rfl, _, rfl, a, b, n, F, G, rfl, fa3, fb3, p1, r1, t3, fun q1 x1 y1 H4 s4 t4 ft4 _ _ => ⟨_, rfl, _, rfl, c, d, n, I, J, rfl, s4.fo t3 fc3, s4.fo t3 fd3, p2, r2, t4, fun q2 x2 y2 H5 s5 t5 ft5 nx ny => ?_⟩⟩
      have f0 := s5.fo t4 (ft4.fo 0 (Nat.zero_lt_succ 1))
      have f1 := s5.fo t4 (ft4.fo 1 (Nat.lt_succ_self 1))
      have ft45 : Ft T.C_Form H5 q1 [x1, y1] 2 (fun k => (ech less [F, G] (n + 1)).getD k []) := ⟨s5.tup t4 ft4.tup, rfl, fun k hk => match k, hk with
        | 0, _ => f0
        | 1, _ => f1⟩
      have d1 : x1 ≠ x2 := fun z => (ft4.fo 0 (Nat.zero_lt_succ 1)).some (z ▸ nx)
      have d2 : y1 ≠ y2 := fun z => (ft4.fo 1 (Nat.lt_succ_self 1)).some (z ▸ ny)
      refine ⟨_, pairs_eq ft45 ft5 d1 d2, fun H6 e6 => ?_⟩
      rw [two_lists ((rk2_iff lePP p1.bF.len p1.bG.len).mpr r1) ((rk2_iff lePP p2.bF.len p2.bG.len).mpr r2)]
      exact q H6 ((Sts.of s01).trans (s13.trans ((s4.trans s5).trans (Sts.of e6)))) (t5.same e6)
end
end K83

set_option Elab.async false
set_option linter.all false
set_option maxRecDepth 100000
set_option maxHeartbeats 2000000
/-! zip of a tuple and a list -/
namespace ZipW
open PySem PySem.Spec PyProof.Rows L2 RZ
/-- the list at a, the tuple at b as they stand at each turn, the items in new pairs -/
def ItzW (K : PySem.W.Frag) (a b : Addr) : It :=
  ⟨fun i H => ∃ (xs ys : List V) (x y : V), SqT K H a xs ∧ SqL K H b ys ∧ xs[i]? = some x ∧ ys[i]? = some y,
    fun i H v H' => ∃ T x y, v = .ref T ∧ H T = none ∧ H' = upd H T (.tup [x, y]) ∧ (∀ xs, SqT K H a xs → xs[i]? = some x) ∧ ∀ ys, SqL K H b ys → ys[i]? = some y,
    fun i H => ∃ xs ys : List V, SqT K H a xs ∧ SqL K H b ys ∧ xs.length = ys.length ∧ xs.length = i⟩
def StW (a b z TI TO i1 i2 : Addr) (i : Nat) (h : Heap) : Prop := IsZip h z TI TO .none ∧ IsPair h TI (.ref i1) (.ref i2) ∧ (∃ x y, IsPair h TO x y) ∧ h.IsTupleIter i1 a i ∧ h.IsListIter i2 b i
theorem turn_zipW {P : Program} {w : World} {K : PySem.W.Frag} {elts : List Expr} {kk : Nat} {tpos : Pos} {a b z TI TO i1 i2 : Addr} (D : ZipApart z TI TO i1 i2 a b) :
    Turn P w K (.Tuple elts kk tpos) (ItzW K a b) [z, TI, TO, i1, i2] z (StW a b z TI TO i1 i2) where
  mem := by simp
  obj := fun i h st c hc => by
    obtain ⟨hz, hTI, ⟨x, y, hTO⟩, ⟨o1, e1, _, d1⟩, ⟨o2, e2, _, d2⟩⟩ := st
    have e' : c = z ∨ c = TI ∨ c = TO ∨ c = i1 ∨ c = i2 := by simpa using hc
    rcases e' with q | q | q | q | q
    · rw [q]
      exact ⟨_, hz, fun v q => nomatch q⟩
    · rw [q]
      exact ⟨_, hTI, fun v q => nomatch q⟩
    · rw [q]
      exact ⟨_, hTO, fun v q => nomatch q⟩
    · rw [q]
      exact ⟨o1, e1, fun v q => by rw [d1] at q; cases q⟩
    · rw [q]
      exact ⟨o2, e2, fun v q => by rw [d2] at q; cases q⟩
  keep := fun i h h' st k => by
    obtain ⟨hz, hTI, ⟨x, y, hTO⟩, h1, h2⟩ := st
    exact ⟨k z (by simp) _ hz, k TI (by simp) _ hTI, ⟨x, y, k TO (by simp) _ hTO⟩, h1.at fun o q => k i1 (by simp) o q, h2.at fun o q => k i2 (by simp) o q⟩
  item := by
    intro X hP hw hK hc i pins s σ H E I hf st hg
    subst hP hw hK
    obtain ⟨hz, hTI, ⟨x0, y0, hTO⟩, h1, h2⟩ := st
    obtain ⟨xs, ys, x, y, hqx, hqy, hx, hy⟩ := hg
    obtain ⟨its, rv, p, _⟩ := I.tuple hqx
    obtain ⟨its2, rv2, p2, _⟩ := I.list hqy
    obtain ⟨u, hu, ru⟩ := rv.get hx
    obtain ⟨u2, hu2, ru2⟩ := rv2.get hy
    have hzl : z < s.heap.objs.size := Heap.lt_size hz
    have S : ZipSep2 z TI TO i1 i2 [i1, a] [i2, b] := ⟨D.TIz, D.TOz, D.TITO, D.TIi1, by simp, by simp [Ne.symm D.i1z, Ne.symm D.l1z], by simp [D.TOi1, Ne.symm D.l1TO], D.TIi2, by simp, by simp [Ne.symm D.i2z, Ne.symm D.l2z], by simp [D.TOi2, Ne.symm D.l2TO], by simp [D.i12, Ne.symm D.l2i1], by simp [Ne.symm D.i12, Ne.symm D.l1i2]⟩
    have l1 := (List.getElem?_eq_some_iff.mp hu).1
    have l2 := (List.getElem?_eq_some_iff.mp hu2).1
    refine wpAny_pyNext_zipD2_item S (Draws.tuple (A := X.A.in1) (I.ok.hd hc) i1 a D.l1i1 its.toArray) (Draws.list (A := X.A.in1) (I.ok.hd hc) i2 b D.l2i2 its2.toArray) hz hTI hTO ⟨h1, p⟩ ⟨h2, p2.isList⟩ (by simpa using l1) (by simpa using l2) fun x1 x2 h' tk e1 e2 z' TO' st1 st2 hT hsz hk => ?_
    obtain rfl : u = x1 := by
      have e1 : its[i]? = some x1 := by simpa using e1
      exact Option.some.inj (hu.symm.trans e1)
    obtain rfl : u2 = x2 := by
      have e2 : its2[i]? = some x2 := by simpa using e2
      exact Option.some.inj (hu2.symm.trans e2)
    refine ⟨_, rfl, wpAny_letOwnedTupleGo_zip (s := { s with heap := h', toks := tk }) z' fun h3 z3 sb => ?_⟩
    have hT2 : IsPair h3 s.heap.objs.size u u2 := (sb.2 _ (Nat.ne_of_gt hzl)).trans hT
    have new : ObjOk X.prog X.w (upd H s.heap.objs.size (.tup [x, y])) h3 s.heap.objs.size (.tup [x, y]) := ⟨(show 2 ≤ sizeLine by decide), [u, u2], .cons ru (.cons ru2 .nil), ⟨_, hT2, rfl, _, rfl⟩⟩
    have I1 : Inv X pins σ (upd H s.heap.objs.size (.tup [x, y])) { s with heap := h3, toks := tk } :=
      I.turnedNew (t' := tk) (ch := [z, TI, TO, i1, i2]) (fun c o hb q => by
        simp only [List.mem_cons, List.not_mem_nil, or_false, not_or] at hb
        exact (sb.2 c hb.1).trans (hk c o hb.1 hb.2.2.1 hb.2.2.2.1 hb.2.2.2.2 q)) hf (Nat.le_refl _) new
    refine ⟨.ref s.heap.objs.size, _, I1, rfl, ⟨_, x, y, rfl, I.hok.fresh (Nat.le_refl _), rfl, fun l hl => by rw [I.tuple_inj hl hqx]; exact hx, fun l hl => by rw [I.list_inj hl hqy]; exact hy⟩, ⟨z3, ?_, ⟨u, u2, ?_⟩, ?_, ?_⟩, fun c hcm => ?_⟩
    · exact (sb.2 _ D.TIz).trans (hk _ _ D.TIz D.TITO D.TIi1 D.TIi2 hTI)
    · exact (sb.2 _ D.TOz).trans TO'
    · exact st1.1.at fun o q => (sb.2 _ D.i1z).trans q
    · exact st2.1.at fun o q => (sb.2 _ D.i2z).trans q
    · have hlt : c < s.heap.objs.size := by
        have e' : c = z ∨ c = TI ∨ c = TO ∨ c = i1 ∨ c = i2 := by simpa using hcm
        rcases e' with q | q | q | q | q
        · rw [q]
          exact hzl
        · rw [q]
          exact Heap.lt_size hTI
        · rw [q]
          exact Heap.lt_size hTO
        · rw [q]
          obtain ⟨_, e1, _⟩ := h1
          exact Heap.lt_size e1
        · rw [q]
          obtain ⟨_, e2, _⟩ := h2
          exact Heap.lt_size e2
      rw [upd_ne (Nat.ne_of_lt hlt)]
      exact (hf c hcm).1
  done := by
    intro X hP hw hK hc i pins s σ H E I hf st hg
    subst hP hw hK
    obtain ⟨hz, hTI, ⟨x0, y0, hTO⟩, h1, h2⟩ := st
    obtain ⟨xs, ys, hqx, hqy, hl, hi⟩ := hg
    obtain ⟨its, rv, p, _⟩ := I.tuple hqx
    obtain ⟨its2, rv2, p2, _⟩ := I.list hqy
    have l1 := rv.length
    have l2 := rv2.length
    have S : ZipSep2 z TI TO i1 i2 [i1, a] [i2, b] := ⟨D.TIz, D.TOz, D.TITO, D.TIi1, by simp, by simp [Ne.symm D.i1z, Ne.symm D.l1z], by simp [D.TOi1, Ne.symm D.l1TO], D.TIi2, by simp, by simp [Ne.symm D.i2z, Ne.symm D.l2z], by simp [D.TOi2, Ne.symm D.l2TO], by simp [D.i12, Ne.symm D.l2i1], by simp [Ne.symm D.i12, Ne.symm D.l1i2]⟩
    refine wpAny_pyNext_zipD2_end S (Draws.tuple (A := X.A.in1) (I.ok.hd hc) i1 a D.l1i1 its.toArray) (Draws.list (A := X.A.in1) (I.ok.hd hc) i2 b D.l2i2 its2.toArray) hz hTI hTO ⟨h1, p⟩ ⟨h2, p2.isList⟩ (by simp; omega) (by simp; omega) (.inl (by simp; omega)) fun h' tk hk => ⟨rfl, I.turnedL (t' := tk) (ch := [z, TI, TO, i1, i2]) (fun c o hb q => ?_) hf⟩
    simp only [List.mem_cons, List.not_mem_nil, or_false, not_or] at hb
    exact hk c o hb.1 hb.2.2.1 hb.2.2.2.1 hb.2.2.2.2 q
  self := fun A i s Q E st h => wpAny_pyIter_zip st.1 h
abbrev yH1 (h : Heap) (l1 : Addr) : Heap := h.push { cls := .type "tuple_iterator", data := .fields #[.ref l1, .int 0 0] }
abbrev yH2 (h : Heap) (l1 l2 : Addr) : Heap := (yH1 h l1).push { cls := .type "list_iterator", data := .fields #[.ref l2, .int 0 0] }
abbrev yH3 (h : Heap) (l1 l2 : Addr) : Heap := (yH2 h l1 l2).push { cls := .type "tuple", data := .seq #[.ref h.objs.size, .ref (yH1 h l1).objs.size] }
abbrev yH4 (h : Heap) (l1 l2 : Addr) : Heap := (yH3 h l1 l2).push { cls := .type "tuple", data := .seq #[.none, .none] }
abbrev yH5 (h : Heap) (l1 l2 : Addr) : Heap := (yH4 h l1 l2).push { cls := .type "zip", data := .fields #[.none, .bool false, .bool false, .ref (yH2 h l1 l2).objs.size, .ref (yH3 h l1 l2).objs.size] }
theorem meets_zipW_new (l1 l2 : Addr) (xs ys : Array Value) :
    Meets (Builtin.«zip.__new__» ⟨[.type "zip", .ref l1, .ref l2], []⟩) (fun _ R s => s.heap.IsTuple l1 xs ∧ s.heap.IsList l2 ys ∧ R (.ok (.ret (.ref (yH4 s.heap l1 l2).objs.size))) { s with heap := yH5 s.heap l1 l2 }) :=
  .of_wp fun prog w A R s h => by
    obtain ⟨hp, g, d, tk, os⟩ := s
    obtain ⟨hl1, hl2, h⟩ := h
    have hsub := sub_zip
    have hL1 : Heap.IsTuple (Shared.heap ⟨hp, g, d, tk, os⟩) l1 xs := hl1
    have hL2 : Heap.IsList (Shared.heap ⟨hp.push { cls := .type "tuple_iterator", data := .fields #[.ref l1, .int 0 0] }, g, d, tk, os⟩) l2 ys := Heap.IsList.push hl2 _
    wp_walk using wpAny_pyIter_tuple hL1, wpAny_pyIter_list hL2
    exact ⟨_, rfl, h⟩
section
variable {prog : Program} {w : World} {A : Around} {E : Value → Shared → Prop} {s : Shared}
theorem call_zipW {l1 l2 : Addr} {xs ys : Array Value} {Q : Value → Shared → Prop} (hl1 : s.heap.IsTuple l1 xs) (hl2 : s.heap.IsList l2 ys)
    (h : ∀ h', StW l1 l2 (s.heap.objs.size + 4) (s.heap.objs.size + 2) (s.heap.objs.size + 3) s.heap.objs.size (s.heap.objs.size + 1) 0 h' → (∀ c o, s.heap.get? c = some o → h'.get? c = some o) → Q (.ref (s.heap.objs.size + 4)) { s with heap := h' }) :
    wpAny (model prog w) A (call (.type "zip") [.ref l1, .ref l2]) Q E s := by
  refine callType_new F.called_zip (by decide) (F.typeCall_zip_2 _ _) (F.newCall_zip_2 _ _) (fun obj => F.args_object_init_3 obj _ _) F.entry_zip_new (meets_zipW_new l1 l2 xs ys) ⟨hl1, hl2, ?_⟩
  have z1 : (yH1 s.heap l1).objs.size = s.heap.objs.size + 1 := Heap.size_push ..
  have z2 : (yH2 s.heap l1 l2).objs.size = s.heap.objs.size + 2 := by rw [Heap.size_push, z1]
  have z3 : (yH3 s.heap l1 l2).objs.size = s.heap.objs.size + 3 := by rw [Heap.size_push, z2]
  have z4 : (yH4 s.heap l1 l2).objs.size = s.heap.objs.size + 4 := by rw [Heap.size_push, z3]
  have g5 : (yH5 s.heap l1 l2).get? (yH4 s.heap l1 l2).objs.size = some _ := Heap.get?_push_size _ rfl
  have g4 : (yH5 s.heap l1 l2).get? (yH3 s.heap l1 l2).objs.size = some _ := Heap.get?_push_of_some _ (Heap.get?_push_size _ rfl)
  have g3 : (yH5 s.heap l1 l2).get? (yH2 s.heap l1 l2).objs.size = some _ := Heap.get?_push_of_some _ (Heap.get?_push_of_some _ (Heap.get?_push_size _ rfl))
  have g2 : (yH5 s.heap l1 l2).get? (yH1 s.heap l1).objs.size = some _ := Heap.get?_push_of_some _ (Heap.get?_push_of_some _ (Heap.get?_push_of_some _ (Heap.get?_push_size _ rfl)))
  have g1 : (yH5 s.heap l1 l2).get? s.heap.objs.size = some _ := Heap.get?_push_of_some _ (Heap.get?_push_of_some _ (Heap.get?_push_of_some _ (Heap.get?_push_of_some _ (Heap.get?_push_size _ rfl))))
  show _ ∧ _
  rw [z2, z3, z4] at g5
  rw [z1, z2] at g3
  rw [z3] at g4
  rw [z1] at g2
  rw [z4]
  exact ⟨⟨_, g5, rfl⟩, h _ ⟨g5, g3, ⟨_, _, g4⟩, ⟨_, g1, rfl, rfl⟩, ⟨_, g2, rfl, rfl⟩⟩ fun c o x => Heap.get?_push_of_some _ (Heap.get?_push_of_some _ (Heap.get?_push_of_some _ (Heap.get?_push_of_some _ (Heap.get?_push_of_some _ x))))⟩
end
def iZipW (K : PySem.W.Frag) (ta : TA) : TI := fun σ H R => ta σ H fun vs H1 => ∃ a b xs ys, vs = [.ref a, .ref b] ∧ SqT K H1 a xs ∧ SqL K H1 b ys ∧ R (ItzW K a b) H1
theorem pi_zipW {X : Cx} {e e2 : Expr} {ta : TA} {p pos tpos : Pos} {elts : List Expr} {kk : Nat} (hg : Gl X "zip") (hm : X.mg "zip" = none) (ha : PA X [e, e2] ta)
    (hs : starEach [e, e2] X.env = (false, eval e X.env) :: starEach [e2] X.env := by rfl) (hpl : (backTo pos (starEach [e2] X.env)).any (·.1) = false := by rfl) :
    PI X (.Tuple elts kk tpos) (.Call (.Name "zip" p) [e, e2] [] pos) (iZipW X.K ta) := by
  refine ⟨fun pins s σ H R I h => ?_⟩
  refine Call_ (ld_blt I hg hm PyProof.Rows.boot_zip (PyProof.Rows.callWith_type1 (thn (ha.run pos pins s σ H _ I h) fun us s1 ⟨vs, H1, I1, r1, q1⟩ => ?_) hs hpl))
  obtain ⟨a, b, xs, ys, ex, hqx, hqy, q⟩ := q1
  subst ex
  cases r1 with
  | cons r rr =>
    cases rr with
    | cons r' rr =>
      cases rr
      cases r
      cases r'
      have fresh5 : ∀ c, c ∈ [s1.heap.objs.size + 4, s1.heap.objs.size + 2, s1.heap.objs.size + 3, s1.heap.objs.size, s1.heap.objs.size + 1] → FpOk X pins H1 c := fun c hcm => by
        have e' : c = s1.heap.objs.size + 4 ∨ c = s1.heap.objs.size + 2 ∨ c = s1.heap.objs.size + 3 ∨ c = s1.heap.objs.size ∨ c = s1.heap.objs.size + 1 := by simpa using hcm
        have hle : s1.heap.objs.size ≤ c := by
          rcases e' with z | z | z | z | z <;> rw [z]
          · exact Nat.le_add_right _ _
          · exact Nat.le_add_right _ _
          · exact Nat.le_add_right _ _
          · exact Nat.le_refl _
          · exact Nat.le_add_right _ _
        exact I1.fpOk hle (I1.hok.fresh hle)
      obtain ⟨its, rv, p1, _⟩ := I1.tuple hqx
      obtain ⟨its2, rv2, p2, _⟩ := I1.list hqy
      obtain ⟨o1, ho1, _⟩ := id p1
      refine call_zipW (show s1.heap.IsTuple a its.toArray from p1) p2.isList fun h' st hk => wpAny_pyIter_zip st.1 ?_
      exact ⟨s1.heap.objs.size + 4, [s1.heap.objs.size + 4, s1.heap.objs.size + 2, s1.heap.objs.size + 3, s1.heap.objs.size, s1.heap.objs.size + 1], _, _, H1, rfl, I1.kept (t' := s1.toks) hk, turn_zipW (PySem.W.ktu_apart s1.heap.objs.size a b (Heap.lt_size ho1) p2.lt), st, fresh5, q⟩
/-- a comprehension over zip of a list and a tuple of one length -/
theorem lc_zipW {K : PySem.W.Frag} {a b : Addr} {xs ys : List V} {g : TG} {tt : TT} {te : TE} {vs : List Nat} {σ : L2.St} {H1 : Hp} {D : Addr} {Qd : Hp → Prop} (hl : xs.length = ys.length) (Pv : Nat → Hp → Prop) (h0 : Pv 0 (upd H1 D (.lst []))) (hq : ∀ i H, i ≤ xs.length → Pv i H → SqT K H a xs ∧ SqL K H b ys)
    (hs : ∀ (i : Nat) (x y : V) (T : Addr) (H : Hp), xs[i]? = some x → ys[i]? = some y → Pv i H → H T = none → g (.ref T) (wipe σ vs) (upd H T (.tup [x, y])) fun σ2 H2 => wipe σ2 vs = wipe σ vs ∧ tt σ2 H2 fun b H3 =>
      if b = true then te σ2 H3 fun y H4 => ∃ acc, H4 D = some (.lst acc) ∧ acc.length < sizeLine ∧ Pv (i + 1) (upd H4 D (.lst (acc ++ [y]))) else Pv (i + 1) H3) (hd : ∀ H, Pv xs.length H → Qd H) :
    ∃ W : Nat → Nat → Hp → Prop, (∃ m, W 0 m (upd H1 D (.lst []))) ∧ ∀ i m H, W i m H →
      ((ItzW K a b).stop i H ∧ Qd H) ∨ ((ItzW K a b).go i H ∧ ∃ Nx : Hp → Prop, (∀ H', Nx H' → ∃ m', m' < m ∧ W (i + 1) m' H') ∧ ∀ x H', (ItzW K a b).yld i H x H' → g x (wipe σ vs) H' fun σ2 H2 => wipe σ2 vs = wipe σ vs ∧ tt σ2 H2 fun b H3 =>
        if b = true then te σ2 H3 fun y H4 => ∃ acc, H4 D = some (.lst acc) ∧ acc.length < sizeLine ∧ Nx (upd H4 D (.lst (acc ++ [y]))) else Nx H3) := by
  refine ⟨fun i m H => m = xs.length - i ∧ i ≤ xs.length ∧ Pv i H, ⟨xs.length, by simp, Nat.zero_le _, h0⟩, ?_⟩
  rintro i m H ⟨rfl, hi, p⟩
  obtain ⟨qx, qy⟩ := hq i H hi p
  by_cases hlt : i < xs.length
  · have hx : xs[i]? = some xs[i] := List.getElem?_eq_getElem hlt
    have hy : ys[i]? = some ys[i] := List.getElem?_eq_getElem (by omega)
    refine .inr ⟨⟨xs, ys, _, _, qx, qy, hx, hy⟩, Pv (i + 1), fun H' p' => ⟨xs.length - (i + 1), by omega, rfl, hlt, p'⟩, fun v H' y => ?_⟩
    obtain ⟨T, x', y', rfl, hT, rfl, f1, f2⟩ := y
    exact hs i x' y' T H (f1 xs qx) (f2 ys qy) p hT
  · have e : i = xs.length := by omega
    subst e
    exact .inl ⟨⟨xs, ys, qx, qy, hl, rfl⟩, hd H p⟩
end ZipW

set_option Elab.async false
set_option linter.all false
set_option maxRecDepth 100000
set_option maxHeartbeats 4000000
set_option exponentiation.threshold 10000
/-! rows that are multiples -/
namespace K83
open PySem PySem.Spec PyProof.Rows L2 StX RZ MyR SlX OwnR OwnF EnumT SeqE GxR GenNx FDivQ
/-- the entries of all -/
def fl (φ : Nat → List Int) : Nat → List Int
  | 0 => []
  | m + 1 => fl φ m ++ φ m
theorem fl_mem {φ : Nat → List Int} {x : Int} : ∀ {m : Nat}, x ∈ fl φ m → ∃ k, k < m ∧ x ∈ φ k
  | m + 1, h => by
    rcases List.mem_append.mp h with e | e
    · obtain ⟨k, hk, e⟩ := fl_mem e
      exact ⟨k, by omega, e⟩
    · exact ⟨m, Nat.lt_succ_self m, e⟩
theorem fl_len {φ : Nat → List Int} {L : Nat} : ∀ {m : Nat}, (∀ k, k < m → (φ k).length ≤ L) → (fl φ m).length ≤ m * L
  | 0, _ => Nat.zero_le _
  | m + 1, h => by
    show (fl φ m ++ φ m).length ≤ _
    rw [List.length_append, Nat.succ_mul]
    exact Nat.add_le_add (fl_len fun k hk => h k (by omega)) (h m (Nat.lt_succ_self m))
theorem fl_len2 {φ ψ : Nat → List Int} : ∀ {m : Nat}, (∀ k, k < m → (φ k).length = (ψ k).length) → (fl φ m).length = (fl ψ m).length
  | 0, _ => rfl
  | m + 1, h => by
    show (fl φ m ++ φ m).length = (fl ψ m ++ ψ m).length
    rw [List.length_append, List.length_append, fl_len2 fun k hk => h k (by omega), h m (Nat.lt_succ_self m)]
theorem fl_map {φ ψ : Nat → List Int} {p q : Int} : ∀ {m : Nat}, (∀ k, k < m → (φ k).length = (ψ k).length) → ((fl φ m).map (p * ·) = (fl ψ m).map (q * ·) ↔ ∀ k, k < m → (φ k).map (p * ·) = (ψ k).map (q * ·))
  | 0, _ => ⟨fun _ k hk => absurd hk (Nat.not_lt_zero k), fun _ => rfl⟩
  | m + 1, h => by
    show (fl φ m ++ φ m).map (p * ·) = (fl ψ m ++ ψ m).map (q * ·) ↔ _
    rw [List.map_append, List.map_append]
    have hl : ((fl φ m).map (p * ·)).length = ((fl ψ m).map (q * ·)).length := by
      rw [List.length_map, List.length_map]
      exact fl_len2 fun k hk => h k (by omega)
    have ih := fl_map (φ := φ) (ψ := ψ) (p := p) (q := q) (m := m) fun k hk => h k (by omega)
    constructor
    · intro e k hk
      obtain ⟨e1, e2⟩ := List.append_inj e hl
      by_cases c : k = m
      · rw [c]; exact e2
      · exact ih.mp e1 k (by omega)
    · intro e
      rw [ih.mpr fun k hk => e k (by omega), e m (Nat.lt_succ_self m)]
def amul (A B : List Int) : Bool := co B (fi A) != 0 && (List.range A.length).all fun i => decide (co A i * co B (fi A) = co B i * co A (fi A))
theorem amul_iff {A B : List Int} (hl : A.length = B.length) (hA : nzr A = true) : amul A B = true ↔ ∃ p q : Int, p ≠ 0 ∧ q ≠ 0 ∧ A.map (p * ·) = B.map (q * ·) := by
  have nA := fi_ne hA
  unfold amul
  rw [Bool.and_eq_true, List.all_eq_true]
  constructor
  · rintro ⟨h1, h2⟩
    have h1 : co B (fi A) ≠ 0 := by simpa using h1
    refine ⟨co B (fi A), co A (fi A), h1, nA, co_inj (by rw [List.length_map, List.length_map, hl]) fun k => ?_⟩
    rw [co_scale, co_scale]
    by_cases c : k < A.length
    · have := of_decide_eq_true (h2 k (List.mem_range.mpr c))
      rw [Int.mul_comm, this, Int.mul_comm]
    · rw [co_far (l := A) (show A.length ≤ k by omega), co_far (l := B) (show B.length ≤ k by omega), Int.mul_zero, Int.mul_zero]
  · rintro ⟨p, q, hp, hq, e⟩
    have ek : ∀ k, p * co A k = q * co B k := fun k => by
      have := congrArg (fun l => co l k) e
      rwa [co_scale, co_scale] at this
    have nB : co B (fi A) ≠ 0 := fun z => by
      have := ek (fi A)
      rw [z, Int.mul_zero] at this
      exact (Int.mul_eq_zero.mp this).elim hp nA
    refine ⟨by simpa using nB, fun i hi => decide_eq_true ?_⟩
    have e1 := ek i
    have e2 := ek (fi A)
    refine Int.eq_of_mul_eq_mul_left hq ?_
    have : q * (co A i * co B (fi A)) = co A i * (q * co B (fi A)) := by grind
    rw [this, ← e2]
    have : q * (co B i * co A (fi A)) = (q * co B i) * co A (fi A) := by grind
    rw [this, ← e1]
    grind
section
variable {P : Program} {w : World} {K : PySem.W.Frag} {mg : Str → Option Value} {base : Heap} {Ps : List Addr}
def spMuls (C : Addr) : Sp := fun vs H Q _ => ∃ (t p : Addr) (as : List Addr) (m : Nat) (φ ψ : Nat → List Int), vs = [.ref t, .ref p] ∧ Bl H t φ m ∧ Ft C H p as m ψ ∧ m ≤ 4 ∧ (∀ k, k < m → (φ k).length = (ψ k).length) ∧ (∀ k, k < m → (φ k).length ≤ 13) ∧ nzr (fl φ m) = true ∧ (∀ k, k < m → ∀ x ∈ φ k, sm x) ∧ (∀ k, k < m → ∀ x ∈ ψ k, sm x) ∧
  ∀ H', Same H H' → Q (.bl (amul (fl φ m) (fl ψ m))) H'
theorem ok_are_multiples (T : Facts K mg) : FnOk P w K mg base CX0 3 T.f_are_multiples T.fd_are_multiples ["rows", "forms"] (spMuls T.C_Form) := by
  have G_Form_entries := ok_Form_entries (P := P) (w := w) (base := base) T
  refine T.F_are_multiples.ok sc_are_multiples (fun vs H Q E h => ?_) (fun cdv A outer s H vs Q E hr h => ?_)
  · obtain ⟨t, p, as, m, φ, ψ, rfl, _⟩ := h
    rfl
  · obtain ⟨t, p, as, m, φ, ψ, rfl, ⟨rs, ht, lr, hrow⟩, ft, hm, hl, h13, nz, sφ, sψ, q⟩ := h
    refine ⟨_, (PSs.nox (pss_cons (ps_set (i := 2) sc_are_multiples.nd rfl (.inr rfl) (pe_lc2 (own := [("row", 3), ("entry", 4)]) (vs1 := [4]) (g := (gName 3)) (g1 := (gName 4)) (tt := tYes) (tt1 := tYes) (by rfl) sc_are_multiples.nd (pi_list (pv 0)) (blkOk_by (N := N_are_multiples) (sc := defScope s_are_multiples) (by decide +kernel)) (by decide) (fun _ _ _ _ _ => (pg_name (i := 3) sc_are_multiples.nd rfl (.inl rfl))) (fun _ _ _ _ _ => pts_nil) (fun _ _ _ _ _ => (pi_tup (pv 3) : PI _ _ _ (iTup K _))) (fun _ _ _ _ _ => (pg_name (i := 4) sc_are_multiples.nd rfl (.inl rfl))) (fun _ _ _ _ _ => pts_nil) (fun _ _ _ _ _ => (pv 4))))
    (pss_cons (ps_set (i := 5) sc_are_multiples.nd rfl (.inr rfl) (pe_lc2 (own := [("form", 6), ("entry", 4)]) (vs1 := [4]) (g := (gName 6)) (g1 := (gName 4)) (tt := tYes) (tt1 := tYes) (by rfl) sc_are_multiples.nd (pi_tup (pv 1)) (blkOk_by (N := N_are_multiples) (sc := defScope s_are_multiples) (by decide +kernel)) (by decide) (fun _ _ _ _ _ => (pg_name (i := 6) sc_are_multiples.nd rfl (.inl rfl))) (fun _ _ _ _ _ => pts_nil) (fun _ _ _ _ _ => (pi_tup (pe_prp (pv 6) T.oc_Form T.pr_Form_entries G_Form_entries T.b_Form_entries (hr.mono (by decide))) : PI _ _ _ (iTup K _))) (fun _ _ _ _ _ => (pg_name (i := 4) sc_are_multiples.nd rfl (.inl rfl))) (fun _ _ _ _ _ => pts_nil) (fun _ _ _ _ _ => (pv 4))))
    (pss_cons (ps_set (i := 7) sc_are_multiples.nd rfl (.inr rfl) (pe_ix ix_list (pe_lc (own := [("entry", 4), ("place", 8)]) (g := (gTup K 2 (gCons (gName 8) (gCons (gName 4) gNil)))) (by rfl) sc_are_multiples.nd (pi_enum (by rfl) T.z_enumerate (pa_cons (pv 2) pa_nil)) (blkOk_by (N := N_are_multiples) (sc := defScope s_are_multiples) (by decide +kernel)) (fun _ _ _ _ _ => (pg_tup (by rfl) (pgs_cons (pg_name (i := 8) sc_are_multiples.nd rfl (.inl rfl)) (pgs_cons (pg_name (i := 4) sc_are_multiples.nd rfl (.inl rfl)) pgs_nil)))) (fun _ _ _ _ _ => (pts_one (pt_cmpR op_ne (pv 4) pe_int (nomark _)))) (fun _ _ _ _ _ => (pv 8))) pe_int (fun _ _ => rfl)))
    (pss_cons (ps_if (pt_cmpR op_eq (pe_ix ix_list (pv 5) (pv 7) (fun _ _ => rfl)) pe_int (nomark _))
      (pss_one (ps_ret pe_bl))
      pss_nil)
    (pss_one (ps_ret (pe_callB (cr_all (by rfl)) (by rfl) T.z_all (by decide +kernel) (pa_cons (pe_lc (own := [("here", 9), ("there", 10)]) (g := (gTup K 2 (gCons (gName 9) (gCons (gName 10) gNil)))) (tt := tYes) (by rfl) sc_are_multiples.nd (pi_zipA (by rfl) T.z_zip (pa_cons (pv 2) (pa_cons (pv 5) pa_nil))) (blkOk_by (N := N_are_multiples) (sc := defScope s_are_multiples) (by decide +kernel)) (fun _ _ _ _ _ => (pg_tup (by rfl) (pgs_cons (pg_name (i := 9) sc_are_multiples.nd rfl (.inl rfl)) (pgs_cons (pg_name (i := 10) sc_are_multiples.nd rfl (.inl rfl)) pgs_nil)))) (fun _ _ _ _ _ => pts_nil) (fun _ _ _ _ _ => (pe_cmpR op_eq (pe_op op_mulW (pv 9) (pe_ix (ix_list : IxR _ (rIxL K)) (pv 5) (pv 7) (fun _ _ => rfl))) (pe_op op_mulW (pv 10) (pe_ix (ix_list : IxR _ (rIxL K)) (pv 2) (pv 7) (fun _ _ => rfl))) (nomark _)))) pa_nil))))))))), ?_⟩
    have bound : ∀ {χ : Nat → List Int} {i : Nat}, i ≤ m → (∀ k, k < m → (χ k).length ≤ 13) → (fl χ i).length ≤ 52 := fun {χ i} hi h => Nat.le_trans (fl_len (L := 13) fun k hk => h k (by omega)) (by omega)
    have h13' : ∀ k, k < m → (ψ k).length ≤ 13 := fun k hk => hl k hk ▸ h13 k hk
    refine ⟨_, rfl, t, rfl, ⟨_, SqL.of ht⟩, fun D hD => LcTwo.out_list (xs := rs.map V.ref) (fun i H3 => Same H H3 ∧ H3 D = some (.lst ((fl φ i).map V.int))) ⟨same_upd0 hD, upd_same⟩ (fun i H3 _ hP => SqL.of (hP.1 _ _ ht)) (fun i x H3 hx hP => ?_) (fun H3 hP => ?_)⟩
    · obtain ⟨s3, hL3⟩ := hP
      obtain ⟨hi, rfl⟩ := get_ref hx
      have r3 := s3 _ _ (hrow i hi)
      refine ⟨rfl, _, rfl, rs[i], rfl, ⟨_, SqT.of r3⟩, LcTwo.in_tup (xs := (φ i).map V.int) (fun j H4 => Same H H4 ∧ H4 D = some (.lst ((fl φ i ++ (φ i).take j).map V.int))) ⟨s3, by rw [List.take_zero, List.append_nil]; exact hL3⟩ (fun j H4 _ hP => SqT.of (hP.1 _ _ (hrow i hi))) (fun j y H4 hy hP => ?_) (fun H4 hP => ?_)⟩
      · obtain ⟨s4, hL4⟩ := hP
        obtain ⟨hj, rfl⟩ := int_get hy
        refine ⟨rfl, _, rfl, _, hL4, ?_, fun d o e => ?_, ?_⟩
        · have b1 := bound (χ := φ) (i := i) (by omega) h13
          have b2 := h13 i (by omega)
          rw [List.length_map, List.length_append, List.length_take]
          exact small1000 (by omega)
        · rw [upd_ne (ne_of_none e hD)]
          exact s4 _ _ e
        · rw [upd_same, take_snoc hj]
          simp only [List.map_append, List.append_assoc, List.map_cons, List.map_nil]
      · obtain ⟨s4, hL4⟩ := hP
        rw [List.length_map, List.take_length] at hL4
        exact ⟨s4, hL4⟩
    · obtain ⟨s3, hA⟩ := hP
      rw [List.length_map, lr] at hA
      have ft3 := ft.same s3
      have la := ft.len
      refine ⟨_, rfl, p, rfl, ⟨_, SqT.of ft3.tup⟩, fun D2 hD2 => LcTwo.out_tup (xs := as.map V.ref) (fun i H4 => Same H3 H4 ∧ H4 D2 = some (.lst ((fl ψ i).map V.int))) ⟨same_upd0 hD2, upd_same⟩ (fun i H4 _ hP => SqT.of (hP.1 _ _ ft3.tup)) (fun i x H4 hx hP => ?_) (fun H4 hP => ?_)⟩
      · obtain ⟨s4, hL4⟩ := hP
        obtain ⟨hi, rfl⟩ := get_ref hx
        refine ⟨rfl, _, rfl, prop_ent ((ft3.fo i hi).same s4) fun u hu => ⟨u, rfl, ⟨_, SqT.of hu⟩, LcTwo.in_tup (xs := (ψ i).map V.int) (fun j H5 => Same H3 H5 ∧ H5 u = some (tp (ψ i)) ∧ H5 D2 = some (.lst ((fl ψ i ++ (ψ i).take j).map V.int))) ⟨s4, hu, by rw [List.take_zero, List.append_nil]; exact hL4⟩ (fun j H5 _ hP => SqT.of hP.2.1) (fun j y H5 hy hP => ?_) (fun H5 hP => ?_)⟩⟩
        · obtain ⟨s5, hu5, hL5⟩ := hP
          obtain ⟨hj, rfl⟩ := int_get hy
          refine ⟨rfl, _, rfl, _, hL5, ?_, fun d o e => ?_, by rw [upd_ne (fun z => by rw [z, hL5] at hu5; cases hu5)]; exact hu5, ?_⟩
          · have b1 := bound (χ := ψ) (i := i) (by omega) h13'
            have b2 := h13' i (by omega)
            rw [List.length_map, List.length_append, List.length_take]
            exact small1000 (by omega)
          · rw [upd_ne (ne_of_none e hD2)]
            exact s5 _ _ e
          · rw [upd_same, take_snoc hj]
            simp only [List.map_append, List.append_assoc, List.map_cons, List.map_nil]
        · obtain ⟨s5, hu5, hL5⟩ := hP
          rw [List.length_map, List.take_length] at hL5
          exact ⟨s5, hL5⟩
      · obtain ⟨s4, hB⟩ := hP
        rw [List.length_map, la] at hB
        have hA4 := s4 _ _ hA
        have s04 := s3.trans s4
        obtain ⟨A, eA⟩ : ∃ A, A = fl φ m := ⟨_, rfl⟩
        obtain ⟨B, eB⟩ : ∃ B, B = fl ψ m := ⟨_, rfl⟩
        have lA : A.length ≤ 52 := eA ▸ bound (Nat.le_refl m) h13
        have lAB : A.length = B.length := by rw [eA, eB]; exact fl_len2 hl
        have sA : ∀ x ∈ A, sm x := fun x hx => by
          rw [eA] at hx
          obtain ⟨k, hk, e⟩ := fl_mem hx
          exact sφ k hk x e
        have sB : ∀ x ∈ B, sm x := fun x hx => by
          rw [eB] at hx
          obtain ⟨k, hk, e⟩ := fl_mem hx
          exact sψ k hk x e
        rw [← eA] at hA4 nz q
        rw [← eB] at hB q
        have at1 := fi_lt nz
        clear hA eA eB sφ sψ
        refine ⟨_, rfl, D, _, rfl, SqL.of hA4, fun E1 nE => lc_enumL (xs := A.map V.int) (fun j H5 => Same H4 H5 ∧ H5 E1 = some (.lst ((((List.range j).filter fun k => co A k != 0).map fun (k : Nat) => (k : Int)).map V.int))) ⟨same_upd0 nE, upd_same⟩ (fun j H5 _ hP => SqL.of (hP.1 _ _ hA4)) (fun j x T2 H5 hx hP hT => ?_) (fun H5 hP => ?_)⟩
        · obtain ⟨s5, hL5⟩ := hP
          obtain ⟨hj, rfl⟩ := int_get hx
          have sT := same_upd0 (o := .tup [.int (j : Nat), .int (co A j)]) hT
          refine ⟨T2, _, rfl, SqT.of upd_same, rfl, _, _, rfl, _, _, rfl, rfl, rfl, _, rfl, rfl, _, rfl, ?_⟩
          rw [List.range_succ, List.filter_append]
          by_cases d : co A j = 0
          · rw [decide_eq_true (show V.int (co A j) = V.int 0 by rw [d])]
            refine iteF ⟨fun b o e => sT _ _ (s5 _ _ e), ?_⟩
            rw [sT _ _ hL5, List.filter_cons_of_neg (by rw [d]; decide), List.filter_nil, List.append_nil]
          · rw [decide_eq_false fun z => d (V.int.inj z)]
            refine iteT ⟨_, rfl, _, sT _ _ hL5, ?_, fun b o e => ?_, ?_⟩
            · rw [List.length_map, List.length_map]
              have h1 := List.length_filter_le (fun k => co A k != 0) (List.range j)
              rw [List.length_range] at h1
              exact small1000 (by omega)
            · rw [upd_ne (ne_of_none e nE)]
              exact sT _ _ (s5 _ _ e)
            · rw [upd_same, List.filter_cons_of_pos (by simpa using d), List.filter_nil, List.map_append, List.map_append]
              rfl
        · obtain ⟨s5, hE⟩ := hP
          rw [List.length_map] at hE
          have hA5 := s5 _ _ hA4
          have hB5 := s5 _ _ hB
          refine ⟨E1, _, 0, .int (fi A : Nat), rfl, rfl, SqL.of hE, atI_nat (j := 0) ?_, ?_⟩
          · rw [List.map_map, List.getElem?_map, filt_head nz]
            rfl
          have gB : (B.map V.int)[fi A]? = some (V.int (co B (fi A))) := get_int (by omega)
          have gA : (A.map V.int)[fi A]? = some (V.int (co A (fi A))) := get_int at1
          refine ⟨_, rfl, _, rfl, D2, _, fi A, _, rfl, rfl, SqL.of hB5, atI_nat (j := fi A) gB, rfl, _, rfl, ?_⟩
          have s05 := s04.trans s5
          by_cases c : co B (fi A) = 0
          · rw [decide_eq_true (show V.int (co B (fi A)) = V.int 0 by rw [c])]
            refine iteT ?_
            have e : amul A B = false := by
              unfold amul
              rw [c]
              rfl
            rw [e] at q
            exact q H5 s05
          · rw [decide_eq_false fun z => c (V.int.inj z)]
            refine iteF ?_
            dsimp only [tNext]
            have smA := sm_co sA at1
            have smB := sm_co sB (show fi A < B.length by omega)
            refine ⟨_, rfl, _, rfl, D, D2, _, _, rfl, .inl ⟨SqL.of hA5, SqL.of hB5, fun E2 nE2 => lc_zipL (xs := A.map V.int) (ys := B.map V.int) (by rw [List.length_map, List.length_map, lAB]) (fun i H6 => Same H5 H6 ∧ H6 E2 = some (.lst (((List.range i).map fun i => decide (co A i * co B (fi A) = co B i * co A (fi A))).map V.bl))) ⟨same_upd0 nE2, upd_same⟩ (fun i H6 _ hP => ⟨SqL.of (hP.1 _ _ hA5), SqL.of (hP.1 _ _ hB5)⟩) (fun i x y T3 H6 hx hy hP hT3 => ?_) (fun H6 hP => ?_)⟩⟩
            · obtain ⟨s6, hL6⟩ := hP
              obtain ⟨hi, rfl⟩ := int_get hx
              obtain ⟨hi2, rfl⟩ := int_get hy
              have sT := same_upd0 (o := .tup [.int (co A i), .int (co B i)]) hT3
              refine ⟨T3, _, rfl, SqT.of upd_same, rfl, _, _, rfl, _, _, rfl, rfl, rfl, _, rfl, _, rfl, _, rfl, D2, _, fi A, _, rfl, rfl, SqL.of (sT _ _ (s6 _ _ hB5)), atI_nat (j := fi A) gB, _, _, rfl, rfl, sm_mul (sm_co sA hi) smB, _, rfl, _, rfl, _, rfl, D, _, fi A, _, rfl, rfl, SqL.of (sT _ _ (s6 _ _ hA5)), atI_nat (j := fi A) gA, _, _, rfl, rfl, sm_mul (sm_co sB hi2) smA, rfl, _, sT _ _ hL6, by rw [List.length_map, List.length_map, List.length_range]; exact small1000 (by omega), fun b o e => ?_, ?_⟩
              · rw [upd_ne (ne_of_none e nE2)]
                exact sT _ _ (s6 _ _ e)
              · rw [upd_same, List.range_succ, List.map_append, List.map_append]
                congr 3
                show [V.bl (decide (V.int _ = V.int _))] = [V.bl (decide _)]
                congr 2
                exact decide_eq_decide.mpr ⟨fun z => V.int.inj z, fun z => congrArg V.int z⟩
            · obtain ⟨s6, hL6⟩ := hP
              rw [List.length_map] at hL6
              refine ⟨E2, (List.range A.length).map fun i => decide (co A i * co B (fi A) = co B i * co A (fi A)), rfl, SqL.of hL6, ?_⟩
              have e : amul A B = ((List.range A.length).map fun i => decide (co A i * co B (fi A) = co B i * co A (fi A))).all id := by
                unfold amul
                rw [show (co B (fi A) != 0) = true by simpa using c, Bool.true_and, List.all_map]
                rfl
              rw [← e]
              exact q H6 (s05.trans s6)
end
end K83

set_option Elab.async false
set_option linter.all false
set_option maxRecDepth 100000
set_option maxHeartbeats 4000000
set_option exponentiation.threshold 10000
/-! rows of a pencil told -/
namespace K83
open PySem PySem.Spec PyProof.Rows L2 StX RZ MyR SlX OwnR OwnF EnumT SeqE GxR GenNx FDivQ
theorem orow_bd {n : Nat} {F G : List Int} (p : PrP n F G) {k : Nat} (hk : k < (n + 1) / 2) : Bd (orow F G k) (n + n - 2 * (2 * k + 1)) (2 ^ (7 * (2 * k + 1)) * (2 ^ 100 * 2 ^ 100)) := L_bd _ p.bF p.bG p.n7 p.n7 (by omega) (by omega)
theorem bd_sm {f : List Int} {n A : Nat} (h : Bd f n A) (hA : A < 2 ^ 4000) : ∀ x ∈ f, sm x := fun x hx => Nat.lt_of_le_of_lt (nm_mem hx) (Nat.lt_of_le_of_lt h.nm hA)
theorem orow_sm {n : Nat} {F G : List Int} (p : PrP n F G) {k : Nat} (hk : k < (n + 1) / 2) : ∀ x ∈ orow F G k, sm x := bd_sm (orow_bd p hk) (by
  have n7 := p.n7
  refine Nat.lt_of_le_of_lt (Nat.mul_le_mul_right _ (Nat.pow_le_pow_right (by decide) (show 7 * (2 * k + 1) ≤ 49 by omega))) (show 2 ^ 49 * (2 ^ 100 * 2 ^ 100) < 2 ^ 4000 by decide +kernel))
theorem orow_len {n : Nat} {F G : List Int} (p : PrP n F G) {k : Nat} (hk : k < (n + 1) / 2) : (orow F G k).length = n + n - 2 * (2 * k + 1) + 1 := (orow_bd p hk).len
theorem orow_nz {n : Nat} {F G : List Int} (p : PrP n F G) (r : Rk2 (n + 1) F G) : nzr (fl (orow F G) ((n + 1) / 2)) = true := by
  obtain ⟨k, hk⟩ := L1_ne p.bF.len p.bG.len p.n1 r
  have n1 := p.n1
  have hc : k < (orow F G 0).length := Nat.lt_of_not_le fun z => hk (co_far z)
  have hm : ∀ m, 1 ≤ m → ∀ x ∈ orow F G 0, x ∈ fl (orow F G) m := fun m h1 x hx => by
    induction m with
    | zero => omega
    | succ m ih =>
      by_cases c : m = 0
      · rw [c]; exact List.mem_append_right _ hx
      · exact List.mem_append_left _ (ih (by omega))
  refine List.any_eq_true.mpr ⟨co (orow F G 0) k, hm _ (by omega) _ ?_, by simpa [orow] using hk⟩
  have e : (orow F G 0)[k]? = some (orow F G 0)[k] := List.getElem?_eq_getElem hc
  have : co (orow F G 0) k = (orow F G 0)[k] := by unfold co; simp [hc]
  rw [this]
  exact List.getElem_mem hc
section
variable {P : Program} {w : World} {K : PySem.W.Frag} {mg : Str → Option Value} {base : Heap} {Ps : List Addr}
def spIsRow (C : Addr) (Ps : List Addr) : Sp := fun vs H Q _ => ∃ (a b p : Addr) (n : Nat) (F G : List Int) (as : List Addr) (ψ : Nat → List Int), vs = [.ref a, .ref b, .ref p] ∧ Fo C H a F ∧ Fo C H b G ∧ PrP n F G ∧ Rk2 (n + 1) F G ∧ Tg Ps H ∧ Ft C H p as ((n + 1) / 2) ψ ∧ (∀ k, k < (n + 1) / 2 → (orow F G k).length = (ψ k).length) ∧ (∀ k, k < (n + 1) / 2 → ∀ x ∈ ψ k, sm x) ∧
  ∀ H', Sts Ps H H' → Tg Ps H' → Q (.bl (amul (fl (orow F G) ((n + 1) / 2)) (fl ψ ((n + 1) / 2)))) H'
theorem ok_is_pencil_row (T : Facts K mg) (TB_first_of : TabB base mg T.c_first_of T.P_first_of) (hP : T.P_first_of ∈ Ps) : FnOk P w K mg base CX0 8 T.f_is_pencil_row T.fd_is_pencil_row ["one", "other", "value"] (spIsRow T.C_Form Ps) := by
  have G_require_pencil := ok_require_pencil (P := P) (w := w) (base := base) T TB_first_of hP
  have G_odd_layings := ok_odd_layings (P := P) (w := w) (base := base) T
  have G_are_multiples := ok_are_multiples (P := P) (w := w) (base := base) T
  have G_Form_entries := ok_Form_entries (P := P) (w := w) (base := base) T
  refine T.F_is_pencil_row.ok sc_is_pencil_row (fun vs H Q E h => ?_) (fun cdv A outer s H vs Q E hr h => ?_)
  · obtain ⟨a, b, p, n, F, G, as, ψ, rfl, _⟩ := h
    rfl
  · obtain ⟨a, b, p, n, F, G, as, ψ, rfl, fa, fb, pr, r2, tg, ft, hl, sψ, q⟩ := h
    refine ⟨_, (PSs.nox (pss_cons (ps_expr (pe_call G_require_pencil hr (by rfl) T.g_require_pencil T.F_require_pencil.kp T.b_require_pencil .nil pass0 (pa_cons (pv 0) (pa_cons (pv 1) pa_nil))))
    (pss_cons (ps_set (i := 3) sc_is_pencil_row.nd rfl (.inl rfl) (pe_call G_odd_layings (hr.mono (by decide)) (by rfl) T.g_odd_layings T.F_odd_layings.kp T.b_odd_layings .nil pass0 (pa_cons (pv 0) (pa_cons (pv 1) pa_nil))))
    (pss_cons (ps_if (pw_or (pt_not (pt_val (pe_callB call_isi (by rfl) T.z_isinstance (by decide +kernel) (pa_cons (pv 2) (pa_cons (pe_bltn (v := .ty "tuple") (by rfl) T.z_tuple (by decide +kernel) rfl) pa_nil))))) (pw_or1 (pt_cmpR op_ne (pe_callB call_len_seq (by rfl) T.z_len (by decide +kernel) (pa_cons (pv 2) pa_nil)) (pe_callB call_len_seq (by rfl) T.z_len (by decide +kernel) (pa_cons (pv 3) pa_nil)) (nomark _)))).pt
      (pss_one (ps_ret pe_bl))
      pss_nil)
    (pss_cons (ps_if (pt_not (pt_val (pe_callB (cr_all (by rfl)) (by rfl) T.z_all (by decide +kernel) (pa_cons (pe_lc (own := [("form", 4), ("row", 5)]) (g := (gTup K 2 (gCons (gName 4) (gCons (gName 5) gNil)))) (tt := tYes) (by rfl) sc_is_pencil_row.nd (ZipW.pi_zipW (by rfl) T.z_zip (pa_cons (pv 2) (pa_cons (pv 3) pa_nil))) (blkOk_by (N := N_is_pencil_row) (sc := defScope s_is_pencil_row) (by decide +kernel)) (fun _ _ _ _ _ => (pg_tup (by rfl) (pgs_cons (pg_name (i := 4) sc_is_pencil_row.nd rfl (.inl rfl)) (pgs_cons (pg_name (i := 5) sc_is_pencil_row.nd rfl (.inl rfl)) pgs_nil)))) (fun _ _ _ _ _ => pts_nil) (fun _ _ _ _ _ => (pe_and (pe_callB (call_isiF T.C_Form : CallR _ _ (fun xs H Q => rIsi K xs H Q ∨ rIsiSl K (.ref T.C_Form) xs H Q)) (by rfl) T.z_isinstance (by decide +kernel) (pa_cons (pv 4) (pa_cons (pe_glob (v := .ref T.C_Form) (by rfl) T.g_Form rfl) pa_nil))) (pe_one (pe_cmpR op_eq (pe_callB (call_len_seq : CallR _ _ (Evl.rLenS K)) (by rfl) T.z_len (by decide +kernel) (pa_cons (pe_prp (pv 4) T.oc_Form T.pr_Form_entries G_Form_entries T.b_Form_entries (hr.mono (by decide))) pa_nil)) (pe_callB (call_len_seq : CallR _ _ (Evl.rLenS K)) (by rfl) T.z_len (by decide +kernel) (pa_cons (pv 5) pa_nil)) (nomark _)))))) pa_nil))))
      (pss_one (ps_ret pe_bl))
      pss_nil)
    (pss_one (ps_ret (pe_call G_are_multiples (hr.mono (by decide)) (by rfl) T.g_are_multiples T.F_are_multiples.kp T.b_are_multiples .nil pass0 (pa_cons (pv 3) (pa_cons (pv 2) pa_nil)))))))))), ?_⟩
    refine ⟨_, rfl, _, rfl, a, b, n, F, G, rfl, fa, fb, pr, r2, tg, fun H1 s1 t1 => ?_⟩
    have ft1 : Ft T.C_Form H1 p as ((n + 1) / 2) ψ := ⟨s1.tup tg ft.tup, ft.len, fun k hk => s1.fo tg (ft.fo k hk)⟩
    refine ⟨_, rfl, _, rfl, a, b, n, F, G, rfl, s1.fo tg fa, s1.fo tg fb, pr, fun D H2 s2 hB => ?_⟩
    have ft2 := ft1.same s2
    obtain ⟨rs, hD, lr, hrow⟩ := id hB
    dsimp only [tNext]
    refine ⟨_, rfl, ?_⟩
    refine ⟨.ref p, .ty "tuple", .type "tuple", .type "tuple", true, rfl, .ty "tuple", .base (.tup ft2.tup), kit_ty (show kitB "tuple" "tuple" = some true by decide +kernel), true, rfl, iteF ?_⟩
    have lP := ft2.len
    have n1 := pr.n1
    have n7 := pr.n7
    refine ⟨_, rfl, p, _, rfl, .inr (SqT.of ft2.tup), _, rfl, D, _, rfl, .inl (SqL.of hD), rfl, _, rfl, ?_⟩
    rw [List.length_map, List.length_map, lP, lr, decide_eq_true rfl]
    refine iteF ?_
    dsimp only [tNext]
    refine ⟨_, rfl, _, rfl, p, D, _, _, rfl, SqT.of ft2.tup, SqL.of hD, fun E1 nE => ZipW.lc_zipW (xs := as.map V.ref) (ys := rs.map V.ref) (by rw [List.length_map, List.length_map, lP, lr]) (fun i H3 => Same H2 H3 ∧ H3 E1 = some (.lst (List.replicate i (V.bl true)))) ⟨same_upd0 nE, upd_same⟩ (fun i H3 _ hP => ⟨SqT.of (hP.1 _ _ ft2.tup), SqL.of (hP.1 _ _ hD)⟩) (fun i x y T3 H3 hx hy hP hT3 => ?_) (fun H3 hP => ?_)⟩
    · obtain ⟨s3, hL3⟩ := hP
      obtain ⟨hi, rfl⟩ := get_ref hx
      obtain ⟨hi2, rfl⟩ := get_ref hy
      have sT := same_upd0 (o := .tup [.ref as[i], .ref rs[i]]) hT3
      have fo := ((ft2.fo i hi).same s3).same sT
      have r3 := sT _ _ (s3 _ _ (hrow i hi2))
      obtain ⟨dx, t, hsl, _⟩ := fo.slt
      refine ⟨T3, _, rfl, SqT.of upd_same, rfl, _, _, rfl, _, _, rfl, rfl, rfl, _, rfl, ?_⟩
      refine isi_form (X := (cxOf CX0 P w K mg base N_is_pencil_row (Str.ofString "is_pencil_row") (defScope s_is_pencil_row) T.f_is_pencil_row cdv A outer s H E).nox) T.oc_Form hsl ⟨true, rfl, iteT ⟨_, rfl, prop_ent fo fun u hu => ⟨u, _, rfl, .inr (SqT.of hu), _, rfl, rs[i], _, rfl, .inr (SqT.of r3), ?_⟩⟩⟩
      have ei : decide (V.int (((ψ i).map V.int).length : Nat) = V.int (((orow F G i).map V.int).length : Nat)) = true := by
        rw [List.length_map, List.length_map, hl i (by omega), decide_eq_true rfl]
      refine ⟨rfl, _, sT _ _ hL3, by rw [List.length_replicate]; exact small1000 (by omega), fun d o e => ?_, ?_⟩
      · rw [upd_ne (ne_of_none e nE)]
        exact sT _ _ (s3 _ _ e)
      · rw [upd_same, List.replicate_succ']
        congr 3
        exact congrArg (fun z => [V.bl z]) ei
    · obtain ⟨s3, hL3⟩ := hP
      rw [List.length_map, lP] at hL3
      refine ⟨E1, List.replicate ((n + 1) / 2) true, rfl, SqL.of (by rw [List.map_replicate]; exact hL3), true, ?_, iteF ?_⟩
      · rw [List.all_replicate]; simp
      · have fa3 := ft2.same s3
        refine ⟨_, rfl, _, rfl, D, p, as, (n + 1) / 2, orow F G, ψ, rfl, hB.same s3, fa3, by omega, hl, fun k hk => ?_, orow_nz pr r2, fun k hk => orow_sm pr hk, sψ, fun H' s => q H' ((s1.trans (Sts.of (s2.trans s3))).trans (Sts.of s)) ((t1.same (s2.trans s3)).same s)⟩
        rw [orow_len pr hk]
        omega
end
end K83

set_option Elab.async false
set_option linter.all false
set_option maxRecDepth 100000
set_option maxHeartbeats 4000000
set_option exponentiation.threshold 10000
/-! drawn pairs of forms -/
namespace K83
open PySem PySem.Spec PyProof.Rows L2 StX RZ MyR SlX OwnR OwnF EnumT SeqE GxR GenNx FDivQ
/-- a drawn pair -/
structure PrQ (n : Nat) (F G : List Int) : Prop where
  n1 : 1 ≤ n
  n7 : n ≤ 7
  bF : Bd F n (2 ^ 47)
  bG : Bd G n (2 ^ 47)
  r2 : Rk2 (n + 1) F G
theorem PrQ.pr {n : Nat} {F G : List Int} (p : PrQ n F G) : PrP n F G := ⟨p.n1, p.n7, p.bF.mono (by decide), p.bG.mono (by decide)⟩
def fb2 (n : Nat) : List Int := ml [0, 1] (pow [1, 1] (n - 1))
theorem fb_bd1 {n : Nat} : Bd (pow [1, 0] n) n 1 := by
  have := bd_pow (l := [1, 0]) (b := 1) ⟨rfl, Nat.le_refl 1⟩ n
  rwa [Nat.one_pow] at this
theorem bd_le {l : List Int} {n m b : Nat} (h : Bd l n b) (e : n = m) : Bd l m b := e ▸ h
theorem fb_p11 (i : Nat) (hi : i ≤ 8) : Bd (pow [1, 1] i) i 256 := (bd_pow (l := [1, 1]) (b := 2) ⟨rfl, Nat.le_refl 2⟩ i).mono (Nat.le_trans (Nat.pow_le_pow_right (by decide) hi) (by decide))
theorem fb_bd2 {n : Nat} (h1 : 1 ≤ n) (h7 : n ≤ 7) : Bd (fb2 n) n 256 := bd_le ((bd_ml (l := [0, 1]) (b := 1) (n := 1) ⟨rfl, Nat.le_refl 1⟩ (fb_p11 (n - 1) (by omega))).mono (by decide)) (by omega)
theorem fb_rk {n : Nat} (h1 : 1 ≤ n) (h7 : n ≤ 7) : Rk2 (n + 1) (pow [1, 0] n) (fb2 n) := by
  refine ⟨0, 1, by omega, by omega, ?_⟩
  match n, h1, h7 with
  | 1, _, _ => decide
  | 2, _, _ => decide
  | 3, _, _ => decide
  | 4, _, _ => decide
  | 5, _, _ => decide
  | 6, _, _ => decide
  | 7, _, _ => decide
theorem ra2 {H : Hp} {p q : Addr} {F G : List Int} (h1 : H p = some (tp F)) (h2 : H q = some (tp G)) : RA H [p, q] [F, G] := ⟨.inl h1, .inl h2, True.intro⟩
section
variable {P : Program} {w : World} {K : PySem.W.Frag} {mg : Str → Option Value} {base : Heap} {Ps : List Addr}
def spTwo : Sp := fun vs H Q _ => ∃ (d : Addr) (n : Nat), vs = [.ref d, .int n] ∧ Dc H d ∧ 1 ≤ n ∧ n ≤ 7 ∧ ∀ r p q H' F G, Sx d H H' → Dc H' d → H' r = some (.tup [.ref p, .ref q]) → H' p = some (tp F) → H' q = some (tp G) → PrQ n F G → Q (.ref r) H'
theorem ok_law_two_forms (T : Facts K mg) : FnOk P w K mg base CX0 7 T.f_law_two_forms T.fd_law_two_forms ["_law_dice_here", "_law_degree"] spTwo := by
  have G_law_live_form := ok_law_live_form (P := P) (w := w) (base := base) T
  have G_law_rank := ok_law_rank (P := P) (w := w) (base := base) T
  have G_law_power := ok_law_power (P := P) (w := w) (base := base) T
  have G_law_product := ok_law_product (P := P) (w := w) (base := base) T
  refine T.F_law_two_forms.ok sc_law_two_forms (fun vs H Q E h => ?_) (fun cdv A outer s H vs Q E hr h => ?_)
  · obtain ⟨d, n, rfl, _⟩ := h
    rfl
  · obtain ⟨d, n, rfl, hd, h1, h7, q⟩ := h
    refine ⟨_, (PSs.nox (pss_cons (ps_par (i := 2) (j := 3) (by rfl) sc_law_two_forms.nd rfl rfl (by decide) rfl rfl (pa_cons (pe_call G_law_live_form hr (by rfl) T.g_law_live_form T.F_law_live_form.kp T.b_law_live_form .nil pass0 (pa_cons (pv 0) (pa_cons (pv 1) pa_nil))) (pa_cons (pe_call G_law_live_form hr (by rfl) T.g_law_live_form T.F_law_live_form.kp T.b_law_live_form .nil pass0 (pa_cons (pv 0) (pa_cons (pv 1) pa_nil))) pa_nil)) (by rfl))
    (pss_cons (ps_if (pt_cmpR op_eq (pe_call G_law_rank (hr.mono (by decide)) (by rfl) T.g_law_rank T.F_law_rank.kp T.b_law_rank .nil pass0 (pa_cons (pe_lst (pa_cons (pv 2) (pa_cons (pv 3) pa_nil))) (pa_cons (pe_op op_add (pv 1) pe_int) pa_nil))) pe_int (nomark _))
      (pss_one (ps_ret (pe_tup (pa_cons (pv 2) (pa_cons (pv 3) pa_nil)))))
      pss_nil)
    (pss_one (ps_ret (pe_tup (pa_cons (pe_call G_law_power (hr.mono (by decide)) (by rfl) T.g_law_power T.F_law_power.kp T.b_law_power .nil pass0 (pa_cons (pe_tup (pa_cons pe_int (pa_cons pe_int pa_nil))) (pa_cons (pv 1) pa_nil))) (pa_cons (pe_call G_law_product (hr.mono (by decide)) (by rfl) T.g_law_product T.F_law_product.kp T.b_law_product .nil pass0 (pa_cons (pe_tup (pa_cons pe_int (pa_cons pe_int pa_nil))) (pa_cons (pe_call G_law_power (hr.mono (by decide)) (by rfl) T.g_law_power T.F_law_power.kp T.b_law_power .nil pass0 (pa_cons (pe_tup (pa_cons pe_int (pa_cons pe_int pa_nil))) (pa_cons (pe_op op_sub (pv 1) pe_int) pa_nil))) pa_nil))) pa_nil)))))))), ?_⟩
    refine ⟨_, rfl, _, rfl, d, n, rfl, hd, by omega, fun p H1 F s1 d1 hp bF _ => ?_⟩
    refine ⟨_, rfl, _, rfl, d, n, rfl, d1, by omega, fun q2 H2 G s2 d2 hq bG _ => ?_⟩
    have hp2 := s2 _ _ (dc_ne d1 hp) hp
    have bF := bF.mono (c := 2 ^ 47) (by decide)
    have bG := bG.mono (c := 2 ^ 47) (by decide)
    have pk : ∀ {F G : List Int}, Bd F n (2 ^ 47) → Bd G n (2 ^ 47) → PrP n F G := fun a b => ⟨h1, h7, a.mono (by decide), b.mono (by decide)⟩
    have pr := pk bF bG
    refine ⟨_, _, rfl, _, rfl, _, rfl, by show 2 ≤ sizeLine; decide, fun L nL => gen_upd H2 L (.lst [.ref p, .ref q2]) nL fun H3 s3 f3 => ⟨_, rfl, _, _, rfl, rfl, L, [p, q2], [F, G], n + 1, rfl, .inr f3, ra2 (s3 _ _ hp2) (s3 _ _ hq), (show 2 ≤ 100 by decide), by omega, pr.two, pr.eokl, fun H4 s4 => ⟨rfl, _, rfl, ?_⟩⟩⟩
    have d4 := (d2.same s3).same s4
    have s04 := (s1.trans s2).trans (Sx.of (s3.trans s4))
    by_cases c : Rk2 (n + 1) F G
    · rw [decide_eq_true (show V.int ((ech lless [F, G] (n + 1)).length : Nat) = V.int 2 by rw [(rk2_iff lePL pr.bF.len pr.bG.len).mpr c]; rfl)]
      refine iteT ⟨_, rfl, _, rfl, by show 2 ≤ sizeLine; decide, fun r nr => ?_⟩
      have s5 := same_upd0 (o := .tup [.ref p, .ref q2]) nr
      exact q r p q2 _ F G (s04.trans (Sx.of s5)) (d4.same s5) upd_same (s5 _ _ (s4 _ _ (s3 _ _ hp2))) (s5 _ _ (s4 _ _ (s3 _ _ hq))) ⟨h1, h7, bF, bG, c⟩
    · rw [decide_eq_false (show ¬ V.int ((ech lless [F, G] (n + 1)).length : Nat) = V.int 2 from fun z => c ((rk2_iff lePL pr.bF.len pr.bG.len).mp (by have := V.int.inj z; omega)))]
      have smp : ∀ {l : List Int} {i b : Nat}, Bd l i b → b ≤ 256 → ∀ x ∈ l, sm x := fun h hb => bd_sm h (Nat.lt_of_le_of_lt hb (by decide +kernel))
      refine iteF ⟨by show 2 ≤ sizeLine; decide, fun p1 n1 => gen_upd H4 p1 (tp [1, 0]) n1 fun H5 s5 k5 => ⟨_, rfl, p1, [1, 0], n, rfl, k5, by simp, by show 2 ≤ 100; decide, smp (i := 1) (b := 1) ⟨rfl, Nat.le_refl 1⟩ (by decide), fun i hi => ⟨(fb_bd1 (n := i)).ne, by rw [(fb_bd1 (n := i)).len]; omega, smp (fb_bd1 (n := i)) (by decide)⟩, by omega, fun p2 H6 s6 k6 => ?_⟩⟩
      refine ⟨by show 2 ≤ sizeLine; decide, fun p3 n3 => gen_upd H6 p3 (tp [0, 1]) n3 fun H7 s7 k7 => ⟨by show 2 ≤ sizeLine; decide, fun p4 n4 => gen_upd H7 p4 (tp [1, 1]) n4 fun H8 s8 k8 => ⟨_, rfl, _, _, rfl, rfl, p4, [1, 1], n - 1, ?_, k8, by simp, by show 2 ≤ 100; decide, smp (b := 2) (i := 1) ⟨rfl, Nat.le_refl 2⟩ (by decide), fun i hi => ⟨(fb_p11 i (by omega)).ne, by rw [(fb_p11 i (by omega)).len]; omega, smp (fb_p11 i (by omega)) (Nat.le_refl _)⟩, by omega, fun p5 H9 s9 k9 => ?_⟩⟩⟩
      · show [V.ref p4, V.int ((n : Int) - 1)] = _
        rw [show (n : Int) - 1 = ((n - 1 : Nat) : Int) by omega]
      · have b9 := fb_p11 (n - 1) (by omega)
        refine ⟨p3, p5, [0, 1], _, rfl, s9 _ _ (s8 _ _ k7), k9, by simp, b9.ne, by show 2 ≤ 100; decide, by rw [b9.len]; omega, smp (i := 1) (b := 1) ⟨rfl, Nat.le_refl 1⟩ (by decide), smp b9 (Nat.le_refl _), fun p6 H10 s10 n10 k10 => ?_⟩
        refine ⟨by show 2 ≤ sizeLine; decide, fun r nr => ?_⟩
        have s11 := same_upd0 (o := .tup [.ref p2, .ref p6]) nr
        have s610 := ((s7.trans s8).trans s9).trans s10
        exact q r p2 p6 _ _ (fb2 n) (s04.trans (Sx.of ((s5.trans s6).trans (s610.trans s11)))) (d4.same ((s5.trans s6).trans (s610.trans s11))) upd_same ((s610.trans s11) _ _ k6) (s11 _ _ k10) ⟨h1, h7, fb_bd1.mono (by decide), (fb_bd2 h1 h7).mono (by decide), fb_rk h1 h7⟩
/-- the sums -/
def spMix : Sp := fun vs H Q _ => ∃ (p q t : Addr) (F G : List Int) (a b c e : Int), vs = [.ref p, .ref q, .ref t] ∧ H p = some (tp F) ∧ H q = some (tp G) ∧ F.length = G.length ∧ F.length ≤ 100 ∧ (∀ x ∈ F, sm x) ∧ (∀ x ∈ G, sm x) ∧ Tb H t [a, b] [c, e] ∧ sm a ∧ sm b ∧ sm c ∧ sm e ∧
  ∀ L x y H', Same H H' → H' L = some (.lst [.ref x, .ref y]) → H' x = some (tp (cb a b F G)) → H' y = some (tp (cb c e F G)) → Q (.ref L) H'
theorem ok_law_mixed_pair (T : Facts K mg) : FnOk P w K mg base CX0 2 T.f_law_mixed_pair T.fd_law_mixed_pair ["_law_one", "_law_other", "_law_numbers"] spMix := by
  have G_law_plus := ok_law_plus (P := P) (w := w) (base := base) T
  have G_law_scaled := ok_law_scaled (P := P) (w := w) (base := base) T
  refine T.F_law_mixed_pair.ok sc_law_mixed_pair (fun vs H Q E h => ?_) (fun cdv A outer s H vs Q E hr h => ?_)
  · obtain ⟨p, q, t, F, G, a, b, c, e, rfl, _⟩ := h
    rfl
  · obtain ⟨p, q, t, F, G, a, b, c, e, rfl, hp, hq, hl, h100, sF, sG, ⟨r0, r1, ht, h0, h1⟩, sa, sb, sc, se, fin⟩ := h
    refine ⟨_, (PSs.nox (pss_one (ps_ret (pe_lc (own := [("_law_row", 3)]) (g := (gName 3)) (tt := tYes) (by rfl) sc_law_mixed_pair.nd (pi_tup (pv 2)) (blkOk_by (N := N_law_mixed_pair) (sc := defScope s_law_mixed_pair) (by decide +kernel)) (fun _ _ _ _ _ => (pg_name (i := 3) sc_law_mixed_pair.nd rfl (.inl rfl))) (fun _ _ _ _ _ => pts_nil) (fun _ _ _ _ _ => (pe_call G_law_plus hr (by rfl) T.g_law_plus T.F_law_plus.kp T.b_law_plus .nil pass0 (pa_cons (pe_call G_law_scaled hr (by rfl) T.g_law_scaled T.F_law_scaled.kp T.b_law_scaled .nil pass0 (pa_cons (pv 0) (pa_cons (pe_ix (ix_tup : IxR _ (rIxT K)) (pv 3) pe_int (fun _ _ => rfl)) pa_nil))) (pa_cons (pe_call G_law_scaled hr (by rfl) T.g_law_scaled T.F_law_scaled.kp T.b_law_scaled .nil pass0 (pa_cons (pv 1) (pa_cons (pe_ix (ix_tup : IxR _ (rIxT K)) (pv 3) pe_int (fun _ _ => rfl)) pa_nil))) pa_nil)))))))), ?_⟩
    let φ : Nat → List Int := fun i => if i = 0 then cb a b F G else cb c e F G
    refine ⟨_, rfl, t, rfl, ⟨_, SqT.of ht⟩, fun D hD => lc_tup (xs := [V.ref r0, V.ref r1]) (fun i H3 => Same H H3 ∧ Bl H3 D φ i) ⟨same_upd0 hD, Bl.nil⟩ (fun i H3 _ hP => SqT.of (hP.1 _ _ ht)) (fun i x H3 hx hP => ?_) (fun H3 hP => ?_)⟩
    · obtain ⟨r, u, v, rfl, hr, su, sv, eφ, hi⟩ : ∃ (r : Addr) (u v : Int), x = .ref r ∧ H r = some (tp [u, v]) ∧ sm u ∧ sm v ∧ φ i = cb u v F G ∧ i ≤ 1 := by
        match i, hx with
        | 0, hx => exact ⟨r0, a, b, by cases hx; rfl, h0, sa, sb, rfl, by omega⟩
        | 1, hx => exact ⟨r1, c, e, by cases hx; rfl, h1, sc, se, rfl, by omega⟩
      have hr3 := hP.1 _ _ hr
      refine ⟨rfl, _, rfl, _, rfl, r, _, 0, _, rfl, rfl, SqT.of hr3, atI_nat (j := 0) rfl, ?_⟩
      refine ⟨p, F, u, rfl, hP.1 _ _ hp, h100, sF, su, fun p1 H4 s4 n4 k4 => ⟨_, rfl, _, rfl, r, _, 1, _, rfl, rfl, SqT.of (s4 _ _ hr3), atI_nat (j := 1) rfl, q, G, v, rfl, s4 _ _ (hP.1 _ _ hq), by omega, sG, sv, fun p2 H5 s5 n5 k5 => ⟨p1, p2, _, _, rfl, s5 _ _ k4, k5, by rw [List.length_map, List.length_map, hl], by rw [List.length_map]; exact h100, fun p3 H6 s6 n6 k6 => Bl.step hP hD ((s4.trans s5).trans s6) (by rw [eφ]; exact k6) (by omega)⟩⟩⟩
    · obtain ⟨s3, rs, hL, lr, hrow⟩ := hP
      match rs, lr, hrow with
      | [x, y], _, hrow => exact fin D x y H3 s3 hL (hrow 0 (Nat.zero_lt_succ 1)) (hrow 1 (Nat.lt_succ_self 1))
end
end K83

set_option Elab.async false
set_option linter.all false
set_option maxRecDepth 100000
set_option maxHeartbeats 4000000
set_option exponentiation.threshold 10000
/-! two pairs: one pencil or two -/
namespace K83
open PySem PySem.Spec PyProof.Rows L2 StX RZ MyR SlX OwnR OwnF EnumT SeqE GxR GenNx FDivQ
theorem one_ech {n : Nat} {F G I J : List Int} (p1 : PrP n F G) (p2 : PrP n I J) (r2 : Rk2 (n + 1) I J) : ech less [F, G] (n + 1) = ech less [I, J] (n + 1) ↔ OneP (n + 1) F G I J :=
  ⟨fun e => OneP.of_ech lePP lePP p1.bF.len p1.bG.len p2.bF.len p2.bG.len e, fun o => o.eche lePP lePP r2 p1.bF.len p1.bG.len p2.bF.len p2.bG.len⟩
theorem one_four {n : Nat} {F G I J : List Int} (p1 : PrP n F G) (r1 : Rk2 (n + 1) F G) (p2 : PrP n I J) : (ech lless [F, G, I, J] (n + 1)).length = 2 ↔ OneP (n + 1) F G I J := OneP.four lePL r1 p1.bF.len p1.bG.len p2.bF.len p2.bG.len
theorem orow_len2 {n : Nat} {F G I J : List Int} (p1 : PrP n F G) (p2 : PrP n I J) : ∀ k, k < (n + 1) / 2 → (orow F G k).length = (orow I J k).length := fun k hk => by rw [orow_len p1 hk, orow_len p2 hk]
theorem one_mul {n : Nat} {F G I J : List Int} (p1 : PrP n F G) (r1 : Rk2 (n + 1) F G) (p2 : PrP n I J) (r2 : Rk2 (n + 1) I J) : amul (fl (orow F G) ((n + 1) / 2)) (fl (orow I J) ((n + 1) / 2)) = true ↔ OneP (n + 1) F G I J := by
  have lF := p1.bF.len
  have lG := p1.bG.len
  have lI := p2.bF.len
  have lJ := p2.bG.len
  rw [amul_iff (fl_len2 (orow_len2 p1 p2)) (orow_nz p1 r1)]
  constructor
  · rintro ⟨p, q, hp, hq, e⟩
    have e := (fl_map (orow_len2 p1 p2)).mp e
    refine wedge_sp r1 hp hq (rows_wedge lF lG lI lJ fun t ht ho k => ?_)
    have := congrArg (fun l => co l k) (e (t / 2) (by omega))
    rw [co_scale, co_scale] at this
    unfold orow at this
    rwa [show 2 * (t / 2) + 1 = t by omega] at this
  · intro o
    obtain ⟨p, q, hp, hq, e⟩ := span_rows (F := F) (G := G) (H := I) (K := J) (by omega) (by omega) (by omega) (by rw [lF]; exact o) (by rw [lF]; exact r2)
    refine ⟨p, q, hp, hq, (fl_map (orow_len2 p1 p2)).mpr fun k hk => co_inj (by rw [List.length_map, List.length_map, orow_len2 p1 p2 k hk]) fun j => ?_⟩
    rw [co_scale, co_scale]
    exact e (2 * k + 1) (by omega) (by omega) j
theorem PrP.four {n : Nat} {F G I J : List Int} (p1 : PrP n F G) (p2 : PrP n I J) : ∀ r ∈ [F, G, I, J], r.length = n + 1 := fun r hr => by
  simp only [List.mem_cons, List.not_mem_nil, or_false] at hr
  rcases hr with e | e | e | e <;> rw [e]
  · exact p1.bF.len
  · exact p1.bG.len
  · exact p2.bF.len
  · exact p2.bG.len
theorem PrP.eok4 {n : Nat} {F G I J : List Int} (p1 : PrP n F G) (p2 : PrP n I J) : EOk lless [F, G, I, J] (n + 1) := eokL (p1.four p2) (M := 2 ^ 100) (fun r hr x hx => by
  simp only [List.mem_cons, List.not_mem_nil, or_false] at hr
  rcases hr with e | e | e | e <;> rw [e] at hx
  · exact p1.bF.mem x hx
  · exact p1.bG.mem x hx
  · exact p2.bF.mem x hx
  · exact p2.bG.mem x hx) (show BdE 4 (2 ^ 100) < 2 ^ 4470 by decide +kernel)
/-- two ways that meet -/
theorem joinR {G : Prop} {R : Addr → Addr → Hp → Prop} (C : Addr → Addr → Hp → Prop) (main : (∀ c e H, C c e H → R c e H) → G) (rest : ∀ c e H, C c e H → R c e H) : G := main rest
section
variable {P : Program} {w : World} {K : PySem.W.Frag} {mg : Str → Option Value} {base : Heap} {Ps : List Addr}
def spPairR (Ps : List Addr) : Sp := fun vs H Q _ => ∃ (d p q : Addr) (n : Nat) (F G : List Int), vs = [.ref d, .ref p, .ref q] ∧ Dp d Ps H ∧ H p = some (tp F) ∧ H q = some (tp G) ∧ PrQ n F G ∧ ∀ H', Sy d Ps H H' → Dp d Ps H' → Q (.bl true) H'
theorem ok_law_two_right (T : Facts K mg) (TB_first_of : TabB base mg T.c_first_of T.P_first_of) (hP : T.P_first_of ∈ Ps) : FnOk P w K mg base CX0 11 T.f_law_two_right T.fd_law_two_right ["_law_dice_here", "_law_one", "_law_other"] (spPairR Ps) := by
  have G_law_two_forms := ok_law_two_forms (P := P) (w := w) (base := base) T
  have G_law_roll : FnOk P w K mg base CX0 1 T.f_law_roll T.fd_law_roll ["_law_dice_here", "_law_total"] spRoll2 := (ok_law_roll T).imp roll2
  have G_law_plus := ok_law_plus (P := P) (w := w) (base := base) T
  have G_law_scaled := ok_law_scaled (P := P) (w := w) (base := base) T
  have G_law_power := ok_law_power (P := P) (w := w) (base := base) T
  have G_law_rank := ok_law_rank (P := P) (w := w) (base := base) T
  have G_Form_init : FnOk P w K mg base CX0 5 T.f_Form_init T.fd_Form_init ["self", "entries"] (spForm T.C_Told T.C_Form) := ok_Form_init T
  have G_Form_eq : FnOk P w K mg base CX0 1 T.f_Form_eq T.fd_Form_eq ["self", "other"] (spEqF T.C_Form) := ok_Form_eq T
  have G_are_one_pencil := ok_are_one_pencil (P := P) (w := w) (base := base) T TB_first_of hP
  have G_is_pencil_row := ok_is_pencil_row (P := P) (w := w) (base := base) T TB_first_of hP
  have G_pencil_row := ok_pencil_row (P := P) (w := w) (base := base) T TB_first_of hP
  have G_pencil_basis := ok_pencil_basis (P := P) (w := w) (base := base) T TB_first_of hP
  refine T.F_law_two_right.ok sc_law_two_right (fun vs H Q E h => ?_) (fun cdv A outer s H vs Q E hr h => ?_)
  · obtain ⟨d, p, q, n, F, G, rfl, _⟩ := h
    rfl
  · obtain ⟨d, p, q, n, F, G, rfl, D0, hp, hq, pq, fin⟩ := h
    refine ⟨_, (PSs.nox (pss_cons (ps_asg (pe_call G_law_two_forms (hr.mono (by decide)) (by rfl) T.g_law_two_forms T.F_law_two_forms.kp T.b_law_two_forms .nil pass0 (pa_cons (pv 0) (pa_cons (pe_op op_sub (pe_callB call_len_seq (by rfl) T.z_len (by decide +kernel) (pa_cons (pv 1) pa_nil)) pe_int) pa_nil))) (pg_tup (by rfl) (pgs_cons (pg_name (i := 3) sc_law_two_right.nd rfl (.inl rfl)) (pgs_cons (pg_name (i := 4) sc_law_two_right.nd rfl (.inl rfl)) pgs_nil))))
    (pss_cons (ps_if (pt_cmpR op_eq (pe_call G_law_roll (hr.mono (by decide)) (by rfl) T.g_law_roll T.F_law_roll.kp T.b_law_roll .nil pass0 (pa_cons (pv 0) (pa_cons pe_int pa_nil))) pe_int (nomark _))
      (pss_one (ps_par (i := 3) (j := 4) (by rfl) sc_law_two_right.nd rfl rfl (by decide) rfl rfl (pa_cons (pv 1) (pa_cons (pe_call G_law_plus (hr.mono (by decide)) (by rfl) T.g_law_plus T.F_law_plus.kp T.b_law_plus .nil pass0 (pa_cons (pv 2) (pa_cons (pe_call G_law_scaled (hr.mono (by decide)) (by rfl) T.g_law_scaled T.F_law_scaled.kp T.b_law_scaled .nil pass0 (pa_cons (pe_call G_law_power (hr.mono (by decide)) (by rfl) T.g_law_power T.F_law_power.kp T.b_law_power .nil pass0 (pa_cons (pe_tup (pa_cons pe_int (pa_cons pe_int pa_nil))) (pa_cons (pe_op op_sub (pe_callB call_len_seq (by rfl) T.z_len (by decide +kernel) (pa_cons (pv 1) pa_nil)) pe_int) pa_nil))) (pa_cons (pe_call G_law_roll (hr.mono (by decide)) (by rfl) T.g_law_roll T.F_law_roll.kp T.b_law_roll .nil pass0 (pa_cons (pv 0) (pa_cons pe_int pa_nil))) pa_nil))) pa_nil))) pa_nil)) (by rfl)))
      pss_nil)
    (pss_cons (ps_if (pt_cmpR op_lt (pe_call G_law_rank (hr.mono (by decide)) (by rfl) T.g_law_rank T.F_law_rank.kp T.b_law_rank .nil pass0 (pa_cons (pe_lst (pa_cons (pv 3) (pa_cons (pv 4) pa_nil))) (pa_cons (pe_callB call_len_seq (by rfl) T.z_len (by decide +kernel) (pa_cons (pv 1) pa_nil)) pa_nil))) pe_int (nomark _))
      (pss_one (ps_ret pe_bl))
      pss_nil)
    (pss_cons (ps_set (i := 5) sc_law_two_right.nd rfl (.inl rfl) (pe_cmpR op_eq (pe_call G_law_rank (hr.mono (by decide)) (by rfl) T.g_law_rank T.F_law_rank.kp T.b_law_rank .nil pass0 (pa_cons (pe_lst (pa_cons (pv 1) (pa_cons (pv 2) (pa_cons (pv 3) (pa_cons (pv 4) pa_nil))))) (pa_cons (pe_callB call_len_seq (by rfl) T.z_len (by decide +kernel) (pa_cons (pv 1) pa_nil)) pa_nil))) pe_int (nomark _)))
    (pss_cons (ps_setLc (i := 6) (own := [("_law_entries", 7)]) (g := (gName 7)) (tt := tYes) rfl sc_law_two_right.nd rfl rfl (sw_true rfl rfl rfl (by decide +kernel)) (pi_tup (pe_tup (pa_cons (pv 1) (pa_cons (pv 2) (pa_cons (pv 3) (pa_cons (pv 4) pa_nil)))))) (blkOk_by (N := N_law_two_right) (sc := defScope s_law_two_right) (by decide +kernel)) (fun _ _ _ _ _ => (pg_name (i := 7) sc_law_two_right.nd rfl (.inl rfl))) (fun _ _ _ _ _ => pts_nil) (fun _ _ _ _ _ => (pe_make T.mk_Form G_Form_init (hr.mono (by decide)) (by rfl) T.g_Form T.b_Form_init .nil pass0 (pa_cons (pv 7) pa_nil))))
    (pss_cons (ps_if (pt_cmpR op_ne (pe_call G_are_one_pencil hr (by rfl) T.g_are_one_pencil T.F_are_one_pencil.kp T.b_are_one_pencil .nil pass0 (pa_cons (pe_ix ix_list (pv 6) pe_int (fun _ _ => rfl)) (pa_cons (pe_ix ix_list (pv 6) pe_int (fun _ _ => rfl)) (pa_cons (pe_ix ix_list (pv 6) pe_int (fun _ _ => rfl)) (pa_cons (pe_ix ix_list (pv 6) pe_int (fun _ _ => rfl)) pa_nil))))) (pv 5) (nomark _))
      (pss_one (ps_ret pe_bl))
      pss_nil)
    (pss_cons (ps_if (pt_cmpR op_ne (pe_call G_is_pencil_row (hr.mono (by decide)) (by rfl) T.g_is_pencil_row T.F_is_pencil_row.kp T.b_is_pencil_row .nil pass0 (pa_cons (pe_ix ix_list (pv 6) pe_int (fun _ _ => rfl)) (pa_cons (pe_ix ix_list (pv 6) pe_int (fun _ _ => rfl)) (pa_cons (pe_call G_pencil_row (hr.mono (by decide)) (by rfl) T.g_pencil_row T.F_pencil_row.kp T.b_pencil_row .nil pass0 (pa_cons (pe_ix ix_list (pv 6) pe_int (fun _ _ => rfl)) (pa_cons (pe_ix ix_list (pv 6) pe_int (fun _ _ => rfl)) pa_nil))) pa_nil)))) (pv 5) (nomark _))
      (pss_one (ps_ret pe_bl))
      pss_nil)
    (pss_one (ps_ret (pe_cmpR op_eq (pe_cmpR (OwnTB.op_eqTB (R := EqB2 T.C_Form) T.mt_Form_eq G_Form_eq eqB2_imp eqB2_mon eqB2_refl T.b_Form_eq (hr.mono (by decide))) (pe_call G_pencil_basis hr (by rfl) T.g_pencil_basis T.F_pencil_basis.kp T.b_pencil_basis .nil pass0 (pa_cons (pe_ix ix_list (pv 6) pe_int (fun _ _ => rfl)) (pa_cons (pe_ix ix_list (pv 6) pe_int (fun _ _ => rfl)) pa_nil))) (pe_call G_pencil_basis hr (by rfl) T.g_pencil_basis T.F_pencil_basis.kp T.b_pencil_basis .nil pass0 (pa_cons (pe_ix ix_list (pv 6) pe_int (fun _ _ => rfl)) (pa_cons (pe_ix ix_list (pv 6) pe_int (fun _ _ => rfl)) pa_nil))) (nomark _)) (pv 5) (nomark _)))))))))))), ?_⟩
    have p1 := pq.pr
    have lF := pq.bF.len
    have n1 := pq.n1
    have n7 := pq.n7
    apply joinR fun c e H' => ∃ I J, Sx d H H' ∧ Dc H' d ∧ H' c = some (tp I) ∧ H' e = some (tp J) ∧ PrP n I J
    · intro rest
      refine ⟨_, rfl, _, rfl, p, _, rfl, .inr (SqT.of hp), _, _, rfl, rfl, d, n, ?_, D0.dd, n1, n7, fun r c e H1 I J s1 d1 hr1 hc he pq2 => ?_⟩
      · rw [List.length_map, lF]
        show [V.ref d, V.int (((n + 1 : Nat) : Int) - 1)] = _
        rw [show ((n + 1 : Nat) : Int) - 1 = (n : Int) by omega]
      refine ⟨r, _, rfl, SqT.of hr1, rfl, _, _, rfl, _, _, rfl, rfl, ?_⟩
      refine ⟨_, rfl, d, 2, rfl, d1, by decide, by decide, fun rr H2 hk2 s2 d2 => ⟨rfl, _, rfl, ite2 (fun _ => ?_) (fun _ => ?_)⟩⟩
      rotate_left
      · exact rest c e H2 ⟨I, J, s1.trans s2, d2, s2 _ _ (dc_ne d1 hc) hc, s2 _ _ (dc_ne d1 he) he, pq2.pr⟩
      · have smp : ∀ {l : List Int} {i b : Nat}, Bd l i b → b ≤ 256 → ∀ x ∈ l, sm x := fun h hb => bd_sm h (Nat.lt_of_le_of_lt hb (by decide +kernel))
        have hp2 := (s1.trans s2) _ _ (dc_ne D0.dd hp) hp
        have hq2 := (s1.trans s2) _ _ (dc_ne D0.dd hq) hq
        refine ⟨_, rfl, _, rfl, by show 2 ≤ sizeLine; decide, fun v1 m1 => gen_upd H2 v1 (tp [1, 0]) m1 fun H3 s3 k3 => ⟨_, rfl, p, _, rfl, .inr (SqT.of (s3 _ _ hp2)), _, _, rfl, rfl, v1, [1, 0], n, ?_, k3, by simp, by show 2 ≤ 100; decide, smp (i := 1) (b := 1) ⟨rfl, Nat.le_refl 1⟩ (by decide), fun i hi => ⟨(fb_bd1 (n := i)).ne, by rw [(fb_bd1 (n := i)).len]; omega, smp (fb_bd1 (n := i)) (by decide)⟩, by omega, fun v2 H4 s4 k4 => ?_⟩⟩
        · rw [List.length_map, lF]
          show [V.ref v1, V.int (((n + 1 : Nat) : Int) - 1)] = _
          rw [show ((n + 1 : Nat) : Int) - 1 = (n : Int) by omega]
        · have d4 := (d2.same s3).same s4
          refine ⟨_, rfl, d, 2, rfl, d4, by decide, by decide, fun r2 H5 hr2 s5 d5 => ?_⟩
          have b0 := fb_bd1 (n := n)
          have b1 := bd_scale (c := (r2 : Int)) (d := 2) b0 (by omega)
          have b2 := bd_zs pq.bG b1
          have k5 := s5 _ _ (dc_ne d4 k4) k4
          have hp5 := s5 _ _ (dc_ne d4 (s4 _ _ (s3 _ _ hp2))) (s4 _ _ (s3 _ _ hp2))
          have hq5 := s5 _ _ (dc_ne d4 (s4 _ _ (s3 _ _ hq2))) (s4 _ _ (s3 _ _ hq2))
          refine ⟨v2, _, r2, rfl, k5, by rw [b0.len]; omega, smp b0 (by decide), sm_le (n := 2) (by omega) (by decide), fun v3 H6 s6 _ k6 => ⟨q, v3, _, _, rfl, s6 _ _ hq5, k6, by rw [pq.bG.len, List.length_map, b0.len], by rw [pq.bG.len]; omega, fun v4 H7 s7 _ k7 => ?_⟩⟩
          exact ⟨_, _, rfl, rest p v4 H7 ⟨F, _, (s1.trans s2).trans ((Sx.of (s3.trans s4)).trans (s5.trans (Sx.of (s6.trans s7)))), (d5.same s6).same s7, s7 _ _ (s6 _ _ hp5), k7, ⟨n1, n7, pq.bF.mono (by decide), b2.mono (by decide)⟩⟩⟩
    · rintro c e H3 ⟨I, J, s3, d3, hc, he, p2⟩
      have z2 : 2 ≤ sizeLine := by decide
      have z4 : 4 ≤ sizeLine := by decide
      have D3 := D0.sx s3 d3
      have hp3 := s3 _ _ (dc_ne D0.dd hp) hp
      have hq3 := s3 _ _ (dc_ne D0.dd hq) hq
      have fin3 : ∀ H', Sts Ps H3 H' → Tg Ps H' → Q (.bl true) H' := fun H' s t => fin H' ((Sy.ofD s3).trans (Sy.ofP s)) (D3.sp s t)
      have t3 := D3.tt
      clear D0 D3 d3 s3 fin hp hq
      dsimp only [tNext]
      refine ⟨_, rfl, _, rfl, z2, fun L nL => gen_upd H3 L (.lst [.ref c, .ref e]) nL fun H4 s4 f4 => ⟨_, rfl, p, _, rfl, .inr (SqT.of (s4 _ _ hp3)), L, [c, e], [I, J], n + 1, ?_, .inr f4, ra2 (s4 _ _ hc) (s4 _ _ he), (show 2 ≤ 100 by decide), by omega, p2.two, p2.eokl, fun H5 s5 => ⟨_, _, rfl, rfl, _, rfl, ?_⟩⟩⟩
      · rw [List.length_map, lF]; rfl
      have s35 := s4.trans s5
      by_cases r2 : Rk2 (n + 1) I J
      · rw [decide_eq_false (show ¬ (((ech lless [I, J] (n + 1)).length : Nat) : Int) < 2 by rw [(rk2_iff lePL p2.bF.len p2.bG.len).mpr r2]; decide)]
        refine iteF ?_
        refine ⟨_, rfl, _, rfl, _, rfl, _, rfl, z4, fun L4 nL4 => gen_upd H5 L4 (.lst [.ref p, .ref q, .ref c, .ref e]) nL4 fun H6 s6 f6 => ⟨_, rfl, p, _, rfl, .inr (SqT.of ((s35.trans s6) _ _ hp3)), L4, [p, q, c, e], [F, G, I, J], n + 1, ?_, .inr f6, ⟨.inl ((s35.trans s6) _ _ hp3), .inl ((s35.trans s6) _ _ hq3), ra2 ((s35.trans s6) _ _ hc) ((s35.trans s6) _ _ he)⟩, (show 4 ≤ 100 by decide), by omega, p1.four p2, p1.eok4 p2, fun H7 s7 => ?_⟩⟩
        · rw [List.length_map, lF]; rfl
        refine ⟨rfl, ?_⟩
        obtain ⟨due, hdue⟩ : ∃ due, decide (V.int ((ech lless [F, G, I, J] (n + 1)).length : Nat) = V.int 2) = due := ⟨_, rfl⟩
        rw [hdue]
        have hd : due = true ↔ OneP (n + 1) F G I J := by
          rw [← one_four p1 pq.r2 p2, ← hdue, decide_eq_true_iff]
          exact ⟨fun z => by have := V.int.inj z; omega, fun z => by rw [z]; rfl⟩
        have s37 := (s35.trans s6).trans s7
        refine ⟨_, rfl, _, rfl, _, rfl, _, rfl, z4, fun T4 nT4 => gen_upd H7 T4 (.tup [.ref p, .ref q, .ref c, .ref e]) nT4 fun H8 s8 f8 => ⟨T4, rfl, ⟨_, SqT.of f8⟩, fun D hD => lc_tup (xs := [V.ref p, V.ref q, V.ref c, V.ref e]) (fun i H9 => Same H8 H9 ∧ Bf T.C_Form H9 D (fun i => [F, G, I, J].getD i []) i) ⟨same_upd0 hD, Bf.nil⟩ (fun i H9 _ hP => SqT.of (hP.1 _ _ f8)) (fun i x H9 hx hP => ?_) (fun H9 hP => ?_)⟩⟩
        · have s38 := s37.trans s8
          obtain ⟨r, l, rfl, hr, tl, el, hi⟩ : ∃ (r : Addr) (l : List Int), x = .ref r ∧ H8 r = some (tp l) ∧ Bd l n (2 ^ 100) ∧ [F, G, I, J].getD i [] = l ∧ i ≤ 3 := by
            match i, hx with
            | 0, hx => exact ⟨p, F, by cases hx; rfl, s38 _ _ hp3, p1.bF, rfl, by omega⟩
            | 1, hx => exact ⟨q, G, by cases hx; rfl, s38 _ _ hq3, p1.bG, rfl, by omega⟩
            | 2, hx => exact ⟨c, I, by cases hx; rfl, s38 _ _ hc, p2.bF, rfl, by omega⟩
            | 3, hx => exact ⟨e, J, by cases hx; rfl, s38 _ _ he, p2.bG, rfl, by omega⟩
          have tr : Tr l := tl.tr (by omega) (by decide +kernel)
          exact ⟨rfl, _, rfl, fun a dx x1 x2 x3 => mkF x1 x2 x3 (hP.1 _ _ hr) tr.pos (by rw [tl.len]; omega) tr.sho fun Hx sx fx => Bf.step hP hD sx (by rw [el]; exact fx) (by omega)⟩
        · obtain ⟨s9, rs, hL, lr, hf⟩ := hP
          match rs, lr, hf with
          | [a1, a2, a3, a4], _, hf =>
            have f1 : Fo T.C_Form H9 a1 F := hf 0 (by simp)
            have f2 : Fo T.C_Form H9 a2 G := hf 1 (by simp)
            have f3 : Fo T.C_Form H9 a3 I := hf 2 (by simp)
            have f4 : Fo T.C_Form H9 a4 J := hf 3 (by simp)
            have s39 := (s37.trans s8).trans s9
            have t9 := t3.same s39
            clear hf f8 hp3 hq3 hc he
            refine ⟨_, rfl, D, _, 0, _, rfl, rfl, SqL.of hL, atI_nat (j := 0) rfl, _, rfl, D, _, 1, _, rfl, rfl, SqL.of hL, atI_nat (j := 1) rfl, _, rfl, D, _, 2, _, rfl, rfl, SqL.of hL, atI_nat (j := 2) rfl, _, rfl, D, _, 3, _, rfl, rfl, SqL.of hL, atI_nat (j := 3) rfl, ?_⟩
            refine ⟨a1, a2, a3, a4, n, F, G, I, J, rfl, f1, f2, f3, f4, p1, pq.r2, p2, r2, t9, fun H10 s10 t10 => ⟨_, rfl, rfl, _, rfl, ?_⟩⟩
            have e1 : decide (ech less [F, G] (n + 1) = ech less [I, J] (n + 1)) = due := by
              rw [Bool.eq_iff_iff, hd, decide_eq_true_iff]
              exact one_ech p1 p2 r2
            rw [e1, decide_eq_true rfl]
            refine iteF ?_
            dsimp only [tNext]
            have hL10 := s10.lst t9 hL
            have f1 := s10.fo t9 f1
            have f2 := s10.fo t9 f2
            have f3 := s10.fo t9 f3
            have f4 := s10.fo t9 f4
            refine ⟨_, rfl, D, _, 0, _, rfl, rfl, SqL.of hL10, atI_nat (j := 0) rfl, _, rfl, D, _, 1, _, rfl, rfl, SqL.of hL10, atI_nat (j := 1) rfl, _, rfl, D, _, 2, _, rfl, rfl, SqL.of hL10, atI_nat (j := 2) rfl, _, rfl, D, _, 3, _, rfl, rfl, SqL.of hL10, atI_nat (j := 3) rfl, ?_⟩
            refine ⟨a3, a4, n, I, J, rfl, f3, f4, p2, r2, t10, fun u us H11 s11 t11 ft11 => ?_⟩
            refine ⟨a1, a2, u, n, F, G, us, _, rfl, s11.fo t10 f1, s11.fo t10 f2, p1, pq.r2, t11, ft11, orow_len2 p1 p2, fun k hk => orow_sm p2 hk, fun H12 s12 t12 => ⟨_, rfl, rfl, _, rfl, ?_⟩⟩
            have e2 : amul (fl (orow F G) ((n + 1) / 2)) (fl (orow I J) ((n + 1) / 2)) = due := by
              rw [Bool.eq_iff_iff, hd]
              exact one_mul p1 pq.r2 p2 r2
            rw [e2, decide_eq_true rfl]
            refine iteF ?_
            dsimp only [tNext]
            have s1012 := s11.trans s12
            have hL12 := s1012.lst t10 hL10
            have f1 := s1012.fo t10 f1
            have f2 := s1012.fo t10 f2
            have f3 := s1012.fo t10 f3
            have f4 := s1012.fo t10 f4
            refine ⟨_, rfl, D, _, 0, _, rfl, rfl, SqL.of hL12, atI_nat (j := 0) rfl, _, rfl, D, _, 1, _, rfl, rfl, SqL.of hL12, atI_nat (j := 1) rfl, ?_⟩
            refine ⟨a1, a2, n, F, G, rfl, f1, f2, p1, pq.r2, t12, fun q1 x1 y1 H13 s13 t13 ft13 _ _ => ?_⟩
            have hL13 := s13.lst t12 hL12
            refine ⟨_, rfl, D, _, 2, _, rfl, rfl, SqL.of hL13, atI_nat (j := 2) rfl, _, rfl, D, _, 3, _, rfl, rfl, SqL.of hL13, atI_nat (j := 3) rfl, ?_⟩
            refine ⟨a3, a4, n, I, J, rfl, s13.fo t12 f3, s13.fo t12 f4, p2, r2, t13, fun q2 x2 y2 H14 s14 t14 ft14 nx ny => ?_⟩
            have g0 := s14.fo t13 (ft13.fo 0 (Nat.zero_lt_succ 1))
            have g1 := s14.fo t13 (ft13.fo 1 (Nat.lt_succ_self 1))
            have ft134 : Ft T.C_Form H14 q1 [x1, y1] 2 (fun k => (ech less [F, G] (n + 1)).getD k []) := ⟨s14.tup t13 ft13.tup, rfl, fun k hk => match k, hk with
              | 0, _ => g0
              | 1, _ => g1⟩
            have d1 : x1 ≠ x2 := fun z => (ft13.fo 0 (Nat.zero_lt_succ 1)).some (z ▸ nx)
            have d2 : y1 ≠ y2 := fun z => (ft13.fo 1 (Nat.lt_succ_self 1)).some (z ▸ ny)
            refine ⟨_, pairs_eq ft134 ft14 d1 d2, fun H15 e15 => ?_⟩
            rw [two_lists ((rk2_iff lePP p1.bF.len p1.bG.len).mpr pq.r2) ((rk2_iff lePP p2.bF.len p2.bG.len).mpr r2), e1]
            refine ⟨_, rfl, rfl, ?_⟩
            rw [decide_eq_true rfl]
            exact fin3 H15 ((Sts.of s39).trans (s10.trans (s1012.trans (s13.trans (s14.trans (Sts.of e15)))))) (t14.same e15)
      · rw [decide_eq_true (show (((ech lless [I, J] (n + 1)).length : Nat) : Int) < 2 by
          have h1 := rk2_le lePL p2.bF.len p2.bG.len
          have h2 : (ech lless [I, J] (n + 1)).length ≠ 2 := fun z => r2 ((rk2_iff lePL p2.bF.len p2.bG.len).mp z)
          omega)]
        exact iteT (fin3 H5 (Sts.of s35) (t3.same s35))
end
end K83

set_option Elab.async false
set_option linter.all false
set_option maxRecDepth 100000
set_option maxHeartbeats 4000000
set_option exponentiation.threshold 10000
namespace K83
open PySem PySem.Spec PyProof.Rows L2 StX RZ MyR SlX OwnR OwnF EnumT GxR GenNx FDivQ
def TD (ls : List (List Int)) : List PyData := ls.map fun l => .tuple (l.map PyData.int)
theorem lay_td : ∀ ls : List (List Int), PyData.canLayAll0 (TD ls) = true
  | [] => rfl
  | l :: r => by
    show (PyData.canLay0 (.tuple (l.map PyData.int)) && PyData.canLayAll0 (TD r)) = true
    rw [lay_td r, show PyData.canLay0 (.tuple (l.map PyData.int)) = PyData.canLayAll0 (l.map PyData.int) from rfl, lay_ints]
    rfl
theorem depth_td : ∀ ls : List (List Int), PyData.depthAll (TD ls) ≤ 1
  | [] => Nat.zero_le _
  | l :: r => by
    show max (PyData.depth (.tuple (l.map PyData.int))) (PyData.depthAll (TD r)) ≤ 1
    have h := depth_td r
    rw [show PyData.depth (.tuple (l.map PyData.int)) = PyData.depthAll (l.map PyData.int) + 1 from rfl, depth_ints]
    omega
theorem shaped_ltd (ls : List (List Int)) : SeqAt.shaped (.list (TD ls)) = true := by
  unfold SeqAt.shaped
  rw [show PyData.canLay0 (.list (TD ls)) = PyData.canLayAll0 (TD ls) from rfl, lay_td]
  rw [show PyData.depth (.list (TD ls)) = PyData.depthAll (TD ls) + 1 from rfl, decide_eq_true (show PyData.depthAll (TD ls) + 1 ≤ 64 by have := depth_td ls; omega)]
  rfl
theorem eqv_ltd (ls : List (List Int)) : PyData.eqv (.list (TD ls)) (.list (TD ls)) = true := SeqAt.eqv_refl _ (lay_td ls)
end K83

set_option Elab.async false
set_option linter.all false
set_option maxRecDepth 100000
set_option maxHeartbeats 4000000
set_option exponentiation.threshold 10000
/-! one pair: row and basis, sums, changes -/
namespace K83
open PySem PySem.Spec PyProof.Rows L2 StX RZ MyR SlX OwnR OwnF EnumT SeqE GxR GenNx FDivQ
theorem rx_of {p : Addr → List Int → Prop} : ∀ {as : List Addr} {rs : List (List Int)}, as.length = rs.length → (∀ i (h : i < as.length) (h' : i < rs.length), p as[i] rs[i]) → RX p as rs
  | [], [], _, _ => True.intro
  | _ :: _, _ :: _, l, h => ⟨h 0 (Nat.succ_pos _) (Nat.succ_pos _), rx_of (Nat.succ.inj l) fun i hi hi' => h (i + 1) (Nat.succ_lt_succ hi) (Nat.succ_lt_succ hi')⟩
  | [], _ :: _, l, _ => (nomatch l)
  | _ :: _, [], l, _ => (nomatch l)
theorem dpAll_rt {K : PySem.W.Frag} {H : Hp} : ∀ {bs : List Addr} {ls : List (List Int)}, RT H bs ls → L2.DpAll K H (bs.map V.ref) (TD ls)
  | [], [], _ => .nil
  | _ :: _, l :: _, h => .cons (.tup (SqT.of h.1) (dpAll_ints l)) (dpAll_rt h.2)
  | [], _ :: _, h => h.elim
  | _ :: _, [], h => h.elim
/-- a list of tuples of ints -/
def Tli (H : Hp) (D : Addr) (ls : List (List Int)) : Prop := ∃ bs : List Addr, H D = some (.lst (bs.map V.ref)) ∧ RT H bs ls
theorem Bl.tli {H : Hp} {D : Addr} {φ : Nat → List Int} {m : Nat} (h : Bl H D φ m) : Tli H D ((List.range m).map φ) := by
  obtain ⟨rs, h1, l, h2⟩ := h
  refine ⟨rs, h1, rx_of (by rw [List.length_map, List.length_range, l]) fun i hi hi' => ?_⟩
  rw [List.getElem_map, List.getElem_range]
  exact h2 i hi
theorem Tli.dp {K : PySem.W.Frag} {H : Hp} {D : Addr} {ls : List (List Int)} (h : Tli H D ls) : L2.Dp K H (.ref D) (.list (TD ls)) := by
  obtain ⟨bs, h1, h2⟩ := h
  exact .lst (SqL.of h1) (dpAll_rt h2)
theorem ne_tli {K : PySem.W.Frag} {H : Hp} {D E : Addr} {ls : List (List Int)} {Q : VK} (h1 : Tli H D ls) (h2 : Tli H E ls) (q : Q (.bl false) H) : rNeD K (.ref D) (.ref E) H Q := by
  refine ⟨_, _, h1.dp, h2.dp, shaped_ltd _, shaped_ltd _, ?_⟩
  rw [eqv_ltd]
  exact q
theorem eq_tli {K : PySem.W.Frag} {H : Hp} {D E : Addr} {ls : List (List Int)} {Q : VK} (h1 : Tli H D ls) (h2 : Tli H E ls) (q : Q (.bl true) H) : rEqD K (.ref D) (.ref E) H Q := by
  refine ⟨_, _, h1.dp, h2.dp, shaped_ltd _, shaped_ltd _, ?_⟩
  rw [eqv_ltd]
  exact q
theorem Tli.same {H H' : Hp} {D : Addr} {ls : List (List Int)} (h : Tli H D ls) (s : Same H H') : Tli H' D ls := by
  obtain ⟨bs, h1, h2⟩ := h
  exact ⟨bs, s _ _ h1, RX.imp (fun a r e => s _ _ e) h2⟩
theorem refs_ne {bs : List Addr} {x y z : Int} : bs.map V.ref ≠ [V.int x, V.int y, V.int z] := fun e => by
  match bs with
  | [] => cases e
  | b :: r => cases e
theorem Dp.lst {d D : Addr} {Ps : List Addr} {H H' : Hp} {bs : List Addr} (g : Dp d Ps H) (s : Sy d Ps H H') (h : H D = some (.lst (bs.map V.ref))) : H' D = some (.lst (bs.map V.ref)) := s _ _ (fun e => by
  obtain ⟨x, y, z, hd⟩ := g.dd
  rw [e, hd] at h
  exact refs_ne (HO.lst.inj (Option.some.inj h)).symm) (g.tt.ne h fun _ e => by cases e) h
theorem Dp.tli {d D : Addr} {Ps : List Addr} {H H' : Hp} {ls : List (List Int)} (g : Dp d Ps H) (s : Sy d Ps H H') (h : Tli H D ls) : Tli H' D ls := by
  obtain ⟨bs, h1, h2⟩ := h
  exact ⟨bs, g.lst s h1, RX.imp (fun a r e => g.tup s e) h2⟩
theorem Dp.bl {d D : Addr} {Ps : List Addr} {H H' : Hp} {φ : Nat → List Int} {m : Nat} (g : Dp d Ps H) (s : Sy d Ps H H') (h : Bl H D φ m) : Bl H' D φ m := by
  obtain ⟨rs, h1, l, h2⟩ := h
  exact ⟨rs, g.lst s h1, l, fun k hk => g.tup s (h2 k hk)⟩
theorem cont_ne {l : List Int} {k : Nat} (h : co l k ≠ 0) : cont l ≠ 0 := fun z => h (nzr_co ((cont_nzr l).mp z) k)
theorem two_getD {A : List (List Int)} (h : A.length = 2) : (List.range 2).map (fun k => A.getD k []) = A := by
  match A, h with
  | [a, b], _ => rfl
theorem bd_cb {n A m : Nat} {F G : List Int} {a b : Int} (hF : Bd F n A) (hG : Bd G n A) (ha : a.natAbs ≤ m) (hb : b.natAbs ≤ m) : Bd (cb a b F G) n (m * A + m * A) := bd_zs (bd_scale hF ha) (bd_scale hG hb)
theorem cb_c1 {F G : List Int} {a b : Int} (h : F.length = G.length) : ∀ j, j < F.length → 1 * co (cb a b F G) j = a * co F j + b * co G j := fun j _ => by rw [co_cb h, Int.one_mul]
theorem rk_cb {n : Nat} {F G : List Int} {a b c e : Int} (lF : F.length = n + 1) (lG : G.length = n + 1) (hd : a * e - b * c ≠ 0) (r : Rk2 (n + 1) F G) : Rk2 (n + 1) (cb a b F G) (cb c e F G) := by
  obtain ⟨i, j, hi, hj, h⟩ := r
  refine ⟨i, j, hi, hj, fun z => ?_⟩
  have := mi_comb (F := F) (G := G) (i := i) (j := j) (by omega) (by omega) (cb_c1 (a := a) (b := b) (by omega)) (cb_c1 (a := c) (b := e) (by omega))
  rw [z, Int.mul_zero] at this
  exact (Int.mul_eq_zero.mp this.symm).elim hd h
theorem one_cb {n : Nat} {F G : List Int} {a b c e : Int} (lF : F.length = n + 1) (lG : G.length = n + 1) : OneP (n + 1) F G (cb a b F G) (cb c e F G) :=
  ⟨sp_two.mpr ⟨1, by decide, a, b, fun j hj => cb_c1 (by omega) j (by omega)⟩, sp_two.mpr ⟨1, by decide, c, e, fun j hj => cb_c1 (by omega) j (by omega)⟩⟩
theorem Rk2.swap {n : Nat} {F G : List Int} (r : Rk2 n F G) : Rk2 n G F := by
  obtain ⟨i, j, hi, hj, h⟩ := r
  refine ⟨j, i, hj, hi, fun z => h ?_⟩
  unfold mi at z ⊢
  grind
theorem PrP.swap {n : Nat} {F G : List Int} (p : PrP n F G) : PrP n G F := ⟨p.n1, p.n7, p.bG, p.bF⟩
theorem orow_cb {n : Nat} {F G : List Int} {a b c e : Int} (lF : F.length = n + 1) (lG : G.length = n + 1) {k : Nat} (hk : k < (n + 1) / 2) : orow (cb a b F G) (cb c e F G) k = (orow F G k).map ((a * e - b * c) * ·) := L_cb_list (by omega) (by omega) (by omega)
theorem orow_chg {n : Nat} {F G : List Int} {a b c e : Int} (lF : F.length = n + 1) (lG : G.length = n + 1) {k : Nat} (hk : k < (n + 1) / 2) : orow (changed [a, b] [c, e] F) (changed [a, b] [c, e] G) k = (changed [a, b] [c, e] (orow F G k)).map ((a * e - b * c) ^ (2 * k + 1) * ·) := by
  refine (L_changed_list (by omega) (by omega)).trans ?_
  refine List.map_congr_left fun x _ => Int.mul_comm _ _
theorem nzr_scale {l : List Int} {c : Int} (hc : c ≠ 0) : nzr (l.map (c * ·)) = nzr l := by
  unfold nzr
  rw [List.any_map]
  congr 1
  funext x
  show (c * x != 0) = (x != 0)
  rw [Bool.eq_iff_iff, bne_iff_ne, bne_iff_ne]
  exact ⟨fun h z => h (by rw [z, Int.mul_zero]), fun h z => (Int.mul_eq_zero.mp z).elim hc h⟩
theorem nzr_of_co {l : List Int} {k : Nat} (h : co l k ≠ 0) : nzr l = true := by
  cases e : nzr l with
  | true => rfl
  | false => exact absurd (nzr_co e k) h
theorem rk_chg {n : Nat} {F G : List Int} {a b c e : Int} (h1 : 1 ≤ n) (lF : F.length = n + 1) (lG : G.length = n + 1) (lF2 : (changed [a, b] [c, e] F).length = n + 1) (lG2 : (changed [a, b] [c, e] G).length = n + 1) (hd : a * e - b * c ≠ 0) (r : Rk2 (n + 1) F G) : Rk2 (n + 1) (changed [a, b] [c, e] F) (changed [a, b] [c, e] G) := Classical.byContradiction fun nr => by
  obtain ⟨k, hk⟩ := L1_ne lF lG h1 r
  have z0 : nzr (orow F G 0) = true := nzr_of_co hk
  have ne : orow F G 0 ≠ [] := fun z => by rw [z] at z0; cases z0
  have z1 : nzr (changed [a, b] [c, e] (orow F G 0)) = true := (changed_zero hd ne).trans z0
  have z2 := nzr_scale (l := changed [a, b] [c, e] (orow F G 0)) (c := (a * e - b * c) ^ (2 * 0 + 1)) (by show (a * e - b * c) ^ 1 ≠ 0; rw [Int.pow_succ, Int.pow_zero, Int.one_mul]; exact hd)
  rw [← orow_chg lF lG (k := 0) (by omega), z1] at z2
  obtain ⟨j, _, hj⟩ := nzr_iff.mp z2
  exact hj (L_dep lF2 lG2 nr h1 rfl j)
theorem pow_rw {X : List Int} {b i : Nat} (h : Bd X 1 b) (hi : i ≤ 90) (hb : b ≤ 2 ^ 10) : Rw (pow X i) := (bd_pow h i).rw (by omega) (Nat.lt_of_le_of_lt (Nat.pow_le_pow_left hb i) (Nat.lt_of_le_of_lt (Nat.pow_le_pow_right (by decide) hi) (by decide +kernel)))
/-- a loop over enumerate of a list -/
theorem for_enumL {K : PySem.W.Frag} {a : Addr} {xs : List V} {g : TG} {tb : TS} {D : Ends} {σ : L2.St} {H : Hp} (Pv : Nat → L2.St → Hp → Prop) (h0 : Pv 0 σ H) (hq : ∀ i σ H, Pv i σ H → SqL K H a xs)
    (hs : ∀ (i : Nat) (x : V) (T : Addr) (σ : L2.St) (H : Hp), xs[i]? = some x → Pv i σ H → H T = none → g (.ref T) σ (upd H T (.tup [.int (i : Nat), x])) fun σ2 H2 => tb { D with nx := Pv (i + 1), ct := Pv (i + 1), bk := D.nx } σ2 H2) (hd : ∀ σ H, Pv xs.length σ H → D.nx σ H) :
    ∃ W : Nat → Nat → L2.St → Hp → Prop, (∃ m, W 0 m σ H) ∧ ∀ i m σ H, W i m σ H →
      ((Ite K a).stop i H ∧ D.nx σ H) ∨ ((Ite K a).go i H ∧ ∃ N : L2.St → Hp → Prop, (∀ σ' H', N σ' H' → ∃ m', m' < m ∧ W (i + 1) m' σ' H') ∧ ∀ v H', (Ite K a).yld i H v H' → g v σ H' fun σ2 H2 => tb { D with nx := N, ct := N, bk := D.nx } σ2 H2) := by
  refine ⟨fun i m σ H => m = xs.length - i ∧ i ≤ xs.length ∧ Pv i σ H, ⟨xs.length, rfl, Nat.zero_le _, h0⟩, ?_⟩
  rintro i m σ H ⟨rfl, hi, p⟩
  have qx := hq i σ H p
  by_cases hlt : i < xs.length
  · have hx : xs[i]? = some xs[i] := List.getElem?_eq_getElem hlt
    refine .inr ⟨⟨xs, _, qx, hx⟩, Pv (i + 1), fun σ' H' p' => ⟨xs.length - (i + 1), by omega, rfl, hlt, p'⟩, fun v H' y => ?_⟩
    obtain ⟨T, x', rfl, hT, rfl, f1⟩ := y
    exact hs i x' T σ H (f1 xs qx) p hT
  · have e : i = xs.length := by omega
    subst e
    exact .inl ⟨⟨xs, qx, Nat.le_refl _⟩, hd σ H p⟩
theorem lch_ok {X Y l : List Int} {n B : Nat} (hX : Bd X 1 4) (hY : Bd Y 1 4) (hl : Bd l n B) (hn : n ≤ 12) (hB : B < 2 ^ 4000) : LchOk X Y l where
  ne := hl.ne
  len := by rw [hl.len]; omega
  lX := hX.len
  lY := hY.len
  pX := fun i hi => pow_rw hX (by rw [hl.len] at hi; omega) (by decide)
  pY := fun i hi => pow_rw hY (by rw [hl.len] at hi; omega) (by decide)
  pm := fun i hi => by
    rw [hl.len] at hi
    refine (bd_ml (bd_pow hX (l.length - 1 - i)) (bd_pow hY i)).rw (by rw [hl.len]; omega) ?_
    rw [hl.len]
    exact Nat.lt_of_le_of_lt (Nat.mul_le_mul (Nat.pow_le_pow_right (by decide) (show n + 1 - 1 - i ≤ 12 by omega)) (Nat.pow_le_pow_right (by decide) (show i ≤ 12 by omega))) (show 4 ^ 12 * 4 ^ 12 < 2 ^ 4000 by decide +kernel)
  sl := bd_sm hl hB
theorem det_le {a b c e : Int} {m : Nat} (ha : a.natAbs ≤ m) (hb : b.natAbs ≤ m) (hc : c.natAbs ≤ m) (he : e.natAbs ≤ m) : (a * e - b * c).natAbs ≤ 2 * (m * m) := by
  have e1 : (a * e).natAbs ≤ m * m := by rw [Int.natAbs_mul]; exact Nat.mul_le_mul ha he
  have e2 : (b * c).natAbs ≤ m * m := by rw [Int.natAbs_mul]; exact Nat.mul_le_mul hb hc
  omega
section
variable {P : Program} {w : World} {K : PySem.W.Frag} {mg : Str → Option Value} {base : Heap} {Ps : List Addr}
theorem ok_law_pair_right (T : Facts K mg) (TB_first_of : TabB base mg T.c_first_of T.P_first_of) (hP : T.P_first_of ∈ Ps) : FnOk P w K mg base CX0 11 T.f_law_pair_right T.fd_law_pair_right ["_law_dice_here", "_law_one", "_law_other"] (spPairR Ps) := by
  have G_law_odd_row := ok_law_odd_row (P := P) (w := w) (base := base) T
  have G_law_shown := ok_law_shown (P := P) (w := w) (base := base) T
  have G_law_shared := ok_law_shared (P := P) (w := w) (base := base) T
  have G_law_cleared := ok_law_cleared (P := P) (w := w) (base := base) T
  have G_law_table := ok_law_table (P := P) (w := w) (base := base) T
  have G_law_mixed_pair := ok_law_mixed_pair (P := P) (w := w) (base := base) T
  have G_law_scaled := ok_law_scaled (P := P) (w := w) (base := base) T
  have G_law_det := ok_law_det (P := P) (w := w) (base := base) T
  have G_law_changed := ok_law_changed (P := P) (w := w) (base := base) T
  have G_law_raised := ok_law_raised (P := P) (w := w) (base := base) T
  have G_Form_init : FnOk P w K mg base CX0 5 T.f_Form_init T.fd_Form_init ["self", "entries"] (spForm T.C_Told T.C_Form) := ok_Form_init T
  have G_are_one_pencil := ok_are_one_pencil (P := P) (w := w) (base := base) T TB_first_of hP
  have G_is_pencil_row := ok_is_pencil_row (P := P) (w := w) (base := base) T TB_first_of hP
  have G_pencil_row := ok_pencil_row (P := P) (w := w) (base := base) T TB_first_of hP
  have G_pencil_basis := ok_pencil_basis (P := P) (w := w) (base := base) T TB_first_of hP
  refine T.F_law_pair_right.ok sc_law_pair_right (fun vs H Q E h => ?_) (fun cdv A outer s H vs Q E hr h => ?_)
  · obtain ⟨d, p, q, n, F, G, rfl, _⟩ := h
    rfl
  · obtain ⟨d, p, q, n, F, G, rfl, D0, hp, hq, pq, fin⟩ := h
    refine ⟨_, (PSs.nox (pss_cons (ps_par (i := 3) (j := 4) (by rfl) sc_law_pair_right.nd rfl rfl (by decide) rfl rfl (pa_cons (pe_op op_sub (pe_callB call_len_seq (by rfl) T.z_len (by decide +kernel) (pa_cons (pv 1) pa_nil)) pe_int) (pa_cons (pe_tup (pa_cons (pe_make T.mk_Form G_Form_init (hr.mono (by decide)) (by rfl) T.g_Form T.b_Form_init .nil pass0 (pa_cons (pv 1) pa_nil)) (pa_cons (pe_make T.mk_Form G_Form_init (hr.mono (by decide)) (by rfl) T.g_Form T.b_Form_init .nil pass0 (pa_cons (pv 2) pa_nil)) pa_nil))) pa_nil)) (by rfl))
    (pss_cons (ps_set (i := 5) sc_law_pair_right.nd rfl (.inl rfl) (pe_call G_law_odd_row (hr.mono (by decide)) (by rfl) T.g_law_odd_row T.F_law_odd_row.kp T.b_law_odd_row .nil pass0 (pa_cons (pv 1) (pa_cons (pv 2) pa_nil))))
    (pss_cons (ps_if (pw_or (pt_cmpR (op_neD (hu64 hr)) (pe_call G_law_shown (hr.mono (by decide)) (by rfl) T.g_law_shown T.F_law_shown.kp T.b_law_shown .nil pass0 (pa_cons (pe_call G_pencil_row (hr.mono (by decide)) (by rfl) T.g_pencil_row T.F_pencil_row.kp T.b_pencil_row .nil pass0 (pa_cons (pe_ix ix_tup (pv 4) pe_int (fun _ _ => rfl)) (pa_cons (pe_ix ix_tup (pv 4) pe_int (fun _ _ => rfl)) pa_nil))) pa_nil)) (pv 5) (nomark _)) (pw_or1 (pt_cmpR op_eq (pe_call G_law_shared (hr.mono (by decide)) (by rfl) T.g_law_shared T.F_law_shared.kp T.b_law_shared .nil pass0 (pa_cons (pe_ix ix_list (pv 5) pe_int (fun _ _ => rfl)) pa_nil)) pe_int (nomark _)))).pt
      (pss_one (ps_ret pe_bl))
      pss_nil)
    (pss_cons (ps_set (i := 6) sc_law_pair_right.nd rfl (.inl rfl) (pe_call G_law_cleared (hr.mono (by decide)) (by rfl) T.g_law_cleared T.F_law_cleared.kp T.b_law_cleared .nil pass0 (pa_cons (pe_lst (pa_cons (pv 1) (pa_cons (pv 2) pa_nil))) (pa_cons (pe_op op_add (pv 3) pe_int) pa_nil))))
    (pss_cons (ps_if (pt_cmpR (op_neD (hu64 hr)) (pe_call G_law_shown (hr.mono (by decide)) (by rfl) T.g_law_shown T.F_law_shown.kp T.b_law_shown .nil pass0 (pa_cons (pe_call G_pencil_basis hr (by rfl) T.g_pencil_basis T.F_pencil_basis.kp T.b_pencil_basis .nil pass0 (pa_cons (pe_ix ix_tup (pv 4) pe_int (fun _ _ => rfl)) (pa_cons (pe_ix ix_tup (pv 4) pe_int (fun _ _ => rfl)) pa_nil))) pa_nil)) (pv 6) (nomark _))
      (pss_one (ps_ret pe_bl))
      pss_nil)
    (pss_cons (ps_set (i := 7) sc_law_pair_right.nd rfl (.inr rfl) (pe_call G_law_table (hr.mono (by decide)) (by rfl) T.g_law_table T.F_law_table.kp T.b_law_table .nil pass0 (pa_cons (pv 0) (pa_cons pe_int pa_nil))))
    (pss_cons (ps_asg (pe_lc (own := [("_law_entries", 10)]) (g := (gName 10)) (tt := tYes) (by rfl) sc_law_pair_right.nd (pi_list (pe_call G_law_mixed_pair (hr.mono (by decide)) (by rfl) T.g_law_mixed_pair T.F_law_mixed_pair.kp T.b_law_mixed_pair .nil pass0 (pa_cons (pv 1) (pa_cons (pv 2) (pa_cons (pv 7) pa_nil))))) (blkOk_by (N := N_law_pair_right) (sc := defScope s_law_pair_right) (by decide +kernel)) (fun _ _ _ _ _ => (pg_name (i := 10) sc_law_pair_right.nd rfl (.inl rfl))) (fun _ _ _ _ _ => pts_nil) (fun _ _ _ _ _ => (pe_make T.mk_Form G_Form_init (hr.mono (by decide)) (by rfl) T.g_Form T.b_Form_init .nil pass0 (pa_cons (pv 10) pa_nil)))) (pg_lst (by rfl) (pgs_cons (pg_name (i := 8) sc_law_pair_right.nd rfl (.inl rfl)) (pgs_cons (pg_name (i := 9) sc_law_pair_right.nd rfl (.inl rfl)) pgs_nil))))
    (pss_cons (ps_setLc (i := 11) (own := [("_law_form_here", 12)]) (g := (gName 12)) (tt := tYes) rfl sc_law_pair_right.nd rfl rfl (sw_true rfl rfl rfl (by decide +kernel)) (pi_list (pv 5)) (blkOk_by (N := N_law_pair_right) (sc := defScope s_law_pair_right) (by decide +kernel)) (fun _ _ _ _ _ => (pg_name (i := 12) sc_law_pair_right.nd rfl (.inl rfl))) (fun _ _ _ _ _ => pts_nil) (fun _ _ _ _ _ => (pe_call G_law_scaled (hr.mono (by decide)) (by rfl) T.g_law_scaled T.F_law_scaled.kp T.b_law_scaled .nil pass0 (pa_cons (pv 12) (pa_cons (pe_call G_law_det (hr.mono (by decide)) (by rfl) T.g_law_det T.F_law_det.kp T.b_law_det .nil pass0 (pa_cons (pv 7) pa_nil)) pa_nil)))))
    (pss_cons (ps_if (pw_or (pt_cmpR (op_neD (hu64 hr)) (pe_call G_law_shown (hr.mono (by decide)) (by rfl) T.g_law_shown T.F_law_shown.kp T.b_law_shown .nil pass0 (pa_cons (pe_call G_pencil_row (hr.mono (by decide)) (by rfl) T.g_pencil_row T.F_pencil_row.kp T.b_pencil_row .nil pass0 (pa_cons (pv 8) (pa_cons (pv 9) pa_nil))) pa_nil)) (pv 11) (nomark _)) (pw_or1 (pt_cmpR (op_neD (hu64 hr)) (pe_call G_law_shown (hr.mono (by decide)) (by rfl) T.g_law_shown T.F_law_shown.kp T.b_law_shown .nil pass0 (pa_cons (pe_call G_pencil_basis hr (by rfl) T.g_pencil_basis T.F_pencil_basis.kp T.b_pencil_basis .nil pass0 (pa_cons (pv 8) (pa_cons (pv 9) pa_nil))) pa_nil)) (pv 6) (nomark _)))).pt
      (pss_one (ps_ret pe_bl))
      pss_nil)
    (pss_cons (ps_if (pw_or (pt_not (pt_val (pe_call G_are_one_pencil hr (by rfl) T.g_are_one_pencil T.F_are_one_pencil.kp T.b_are_one_pencil .nil pass0 (pa_cons (pe_ix ix_tup (pv 4) pe_int (fun _ _ => rfl)) (pa_cons (pe_ix ix_tup (pv 4) pe_int (fun _ _ => rfl)) (pa_cons (pv 9) (pa_cons (pv 8) pa_nil))))))) (pw_or1 (pt_not (pt_val (pe_call G_is_pencil_row (hr.mono (by decide)) (by rfl) T.g_is_pencil_row T.F_is_pencil_row.kp T.b_is_pencil_row .nil pass0 (pa_cons (pe_ix ix_tup (pv 4) pe_int (fun _ _ => rfl)) (pa_cons (pe_ix ix_tup (pv 4) pe_int (fun _ _ => rfl)) (pa_cons (pe_call G_pencil_row (hr.mono (by decide)) (by rfl) T.g_pencil_row T.F_pencil_row.kp T.b_pencil_row .nil pass0 (pa_cons (pv 9) (pa_cons (pv 8) pa_nil))) pa_nil)))))))).pt
      (pss_one (ps_ret pe_bl))
      pss_nil)
    (pss_cons (ps_set (i := 13) sc_law_pair_right.nd rfl (.inl rfl) (pe_call G_law_table (hr.mono (by decide)) (by rfl) T.g_law_table T.F_law_table.kp T.b_law_table .nil pass0 (pa_cons (pv 0) (pa_cons pe_int pa_nil))))
    (pss_cons (ps_par (i := 14) (j := 15) (by rfl) sc_law_pair_right.nd rfl rfl (by decide) rfl rfl (pa_cons (pe_make T.mk_Form G_Form_init (hr.mono (by decide)) (by rfl) T.g_Form T.b_Form_init .nil pass0 (pa_cons (pe_call G_law_changed (hr.mono (by decide)) (by rfl) T.g_law_changed T.F_law_changed.kp T.b_law_changed .nil pass0 (pa_cons (pv 1) (pa_cons (pv 13) pa_nil))) pa_nil)) (pa_cons (pe_make T.mk_Form G_Form_init (hr.mono (by decide)) (by rfl) T.g_Form T.b_Form_init .nil pass0 (pa_cons (pe_call G_law_changed (hr.mono (by decide)) (by rfl) T.g_law_changed T.F_law_changed.kp T.b_law_changed .nil pass0 (pa_cons (pv 2) (pa_cons (pv 13) pa_nil))) pa_nil)) pa_nil)) (by rfl))
    (pss_cons (ps_set (i := 11) sc_law_pair_right.nd rfl (.inl rfl) (pe_lst pa_nil))
    (pss_cons (ps_for PassesOwn.never (by rfl) (pi_enum (by rfl) T.z_enumerate (pa_cons (pv 5) pa_nil)) (pg_tup (by rfl) (pgs_cons (pg_name (i := 16) sc_law_pair_right.nd rfl (.inl rfl)) (pgs_cons (pg_name (i := 12) sc_law_pair_right.nd rfl (.inl rfl)) pgs_nil)))
      (pss_one (ps_expr (pe_bm PySem.F.plainAttrs_list PySem.F.slot_list_append PySem.F.type_list_append mt_append (pv 11) (pa_cons (pe_call G_law_scaled (hr.mono (by decide)) (by rfl) T.g_law_scaled T.F_law_scaled.kp T.b_law_scaled .nil pass0 (pa_cons (pe_call G_law_changed (hr.mono (by decide)) (by rfl) T.g_law_changed T.F_law_changed.kp T.b_law_changed .nil pass0 (pa_cons (pv 12) (pa_cons (pv 13) pa_nil))) (pa_cons (pe_call G_law_raised (hr.mono (by decide)) (by rfl) T.g_law_raised T.F_law_raised.kp T.b_law_raised .nil pass0 (pa_cons (pe_call G_law_det (hr.mono (by decide)) (by rfl) T.g_law_det T.F_law_det.kp T.b_law_det .nil pass0 (pa_cons (pv 13) pa_nil)) (pa_cons (pe_op op_add (pe_op op_mulW pe_int (pv 16)) pe_int) pa_nil))) pa_nil))) pa_nil)))))
    (pss_one (ps_ret (pe_cmpR (op_eqD (hu64 hr)) (pe_call G_law_shown (hr.mono (by decide)) (by rfl) T.g_law_shown T.F_law_shown.kp T.b_law_shown .nil pass0 (pa_cons (pe_call G_pencil_row (hr.mono (by decide)) (by rfl) T.g_pencil_row T.F_pencil_row.kp T.b_pencil_row .nil pass0 (pa_cons (pv 14) (pa_cons (pv 15) pa_nil))) pa_nil)) (pv 11) (nomark _))))))))))))))))))), ?_⟩
    have z2 : 2 ≤ sizeLine := by decide
    have p1 := pq.pr
    have lF := pq.bF.len
    have lG := pq.bG.len
    have n1 := pq.n1
    have n7 := pq.n7
    have trF : Tr F := pq.bF.tr (by omega) (by decide)
    have trG : Tr G := pq.bG.tr (by omega) (by decide)
    refine ⟨_, rfl, p, _, rfl, .inr (SqT.of hp), _, _, rfl, rfl, ?_⟩
    refine ⟨_, rfl, fun a1 dx1 x1 x2 x3 => mkF x1 x2 x3 hp trF.pos (by omega) trF.sho fun H1 s1 f1 => ⟨_, rfl, fun a2 dx2 x1 x2 x3 => mkF x1 x2 x3 (s1 _ _ hq) trG.pos (by omega) trG.sho fun H2 s2 f2 => ⟨z2, fun t nt => gen_upd H2 t (.tup [.ref a1, .ref a2]) nt fun H3 s3 k3 => ?_⟩⟩⟩
    have s03 := (s1.trans s2).trans s3
    have D3 := D0.same s03
    have hp3 := s03 _ _ hp
    have hq3 := s03 _ _ hq
    have fa3 := f1.same (s2.trans s3)
    have fb3 := f2.same s3
    have fin3 : ∀ H', Sy d Ps H3 H' → Dp d Ps H' → Q (.bl true) H' := fun H' s D => fin H' ((Sy.of s03).trans s) D
    clear f1 f2 s03 s1 s2 s3 x1 x2 x3 hp hq D0 fin
    refine ⟨_, _, rfl, _, rfl, _, rfl, p, q, n, F, G, rfl, hp3, hq3, p1, fun R H4 s4 bR => ?_⟩
    have D4 := D3.same s4
    refine ⟨_, rfl, t, _, 0, _, rfl, rfl, SqT.of (s4 _ _ k3), atI_nat (j := 0) rfl, _, rfl, t, _, 1, _, rfl, rfl, SqT.of (s4 _ _ k3), atI_nat (j := 1) rfl, a1, a2, n, F, G, rfl, fa3.same s4, fb3.same s4, p1, pq.r2, D4.tt, fun u us H5 s5 t5 ft5 => ⟨u, us, _, _, rfl, ft5, by omega, fun S H6 s6 bS => ?_⟩⟩
    have s46 : Sy d Ps H4 H6 := (Sy.ofP s5).trans (Sy.of s6)
    have D6 : Dp d Ps H6 := (D4.sp s5 t5).same s6
    have bR6 := D4.bl s46 bR
    refine ⟨_, rfl, ne_tli bS.tli bR6.tli ⟨false, rfl, iteF ?_⟩⟩
    obtain ⟨rs, hR, lR, hrR⟩ := id bR6
    have h0 : 0 < rs.length := by omega
    refine ⟨_, rfl, R, _, 0, _, rfl, rfl, SqL.of hR, atI_nat (j := 0) (v := .ref rs[0]) (by rw [List.getElem?_map, List.getElem?_eq_getElem h0]; rfl), rs[0], _, rfl, hrR 0 h0, ?_⟩
    obtain ⟨k0, hk0⟩ := L1_ne lF lG n1 pq.r2
    have hc0 : cont (orow F G 0) ≠ 0 := cont_ne (k := k0) hk0
    refine ⟨rfl, _, rfl, ?_⟩
    rw [decide_eq_false (show ¬ V.int ((cont (orow F G 0) : Nat) : Int) = V.int 0 from fun z => hc0 (by have := V.int.inj z; omega))]
    refine iteF ?_
    dsimp only [tNext]
    have s36 : Sy d Ps H3 H6 := (Sy.of s4).trans s46
    have hp6 := D3.tup s36 hp3
    have hq6 := D3.tup s36 hq3
    have k6 := D3.tup s36 k3
    have fa6 := D3.fo s36 fa3
    have fb6 := D3.fo s36 fb3
    have fin6 : ∀ H', Sy d Ps H6 H' → Dp d Ps H' → Q (.bl true) H' := fun H' s D => fin3 H' (s36.trans s) D
    clear hc0 hk0 hR hrR ft5 bS s5 t5 s6 s46 s36 bR s4 D4 D3 fin3 fa3 fb3 hp3 hq3 k3 h0 lR
    refine ⟨_, rfl, _, rfl, z2, fun L nL => gen_upd H6 L (.lst [.ref p, .ref q]) nL fun H7 s7 k7 => ⟨_, rfl, _, _, rfl, rfl, L, [p, q], [F, G], n + 1, ?_, .inr k7, ra2 (s7 _ _ hp6) (s7 _ _ hq6), (show 2 ≤ 100 by decide), by omega, p1.two, p1.eokl, fun B bs H8 s8 kB rB => ?_⟩⟩
    · rw [List.length_map, lF]
      show [V.ref L, V.int (((n + 1 : Nat) : Int) - 1 + 1)] = _
      rw [show ((n + 1 : Nat) : Int) - 1 + 1 = ((n + 1 : Nat) : Int) by omega]
    have tB : Tli H8 B (ech less [F, G] (n + 1)) := ⟨bs, kB, by rw [ech_eq p1.two]; exact rB⟩
    have s68 := s7.trans s8
    have D8 := D6.same s68
    refine ⟨_, rfl, t, _, 0, _, rfl, rfl, SqT.of (s68 _ _ k6), atI_nat (j := 0) rfl, _, rfl, t, _, 1, _, rfl, rfl, SqT.of (s68 _ _ k6), atI_nat (j := 1) rfl, a1, a2, n, F, G, rfl, fa6.same s68, fb6.same s68, p1, pq.r2, D8.tt, fun u x9 y9 H9 s9 t9 ft9 _ _ => ⟨u, [x9, y9], _, _, rfl, ft9, by omega, fun S H10 s10 bS => ?_⟩⟩
    have l2 : (ech less [F, G] (n + 1)).length = 2 := (rk2_iff lePP lF lG).mpr pq.r2
    have s810 : Sy d Ps H8 H10 := (Sy.ofP s9).trans (Sy.of s10)
    have tS : Tli H10 S (ech less [F, G] (n + 1)) := by
      have := bS.tli
      rwa [two_getD l2] at this
    have tB10 := D8.tli s810 tB
    have D10 : Dp d Ps H10 := (D8.sp s9 t9).same s10
    refine ⟨_, rfl, ne_tli tS tB10 ⟨false, rfl, iteF ?_⟩⟩
    have s610 : Sy d Ps H6 H10 := (Sy.of s68).trans s810
    dsimp only [tNext]
    refine ⟨_, rfl, d, 4, rfl, D10.dd, by decide, by decide, fun tb H11 a b c e s11 d11 hTb ha hb hc he hdet => ?_⟩
    have D11 := D10.sx s11 d11
    have s6B : Sy d Ps H6 H11 := s610.trans (Sy.ofD s11)
    have hp11 := D6.tup s6B hp6
    have hq11 := D6.tup s6B hq6
    have k11 := D6.tup s6B k6
    have fa11 := D6.fo s6B fa6
    have fb11 := D6.fo s6B fb6
    have bR11 := D6.bl s6B bR6
    have tB11 := D10.tli (Sy.ofD s11) tB10
    have fin11 : ∀ H', Sy d Ps H11 H' → Dp d Ps H' → Q (.bl true) H' := fun H' s D => fin6 H' (s6B.trans s) D
    clear tB tB10 rB kB s68 s610 s810 s6B s7 s8 s9 t9 ft9 bS tS s10 D8 D10 s11 d11 D6 fin6 fa6 fb6 hp6 hq6 k6 bR6
    have sF := bd_sm pq.bF (by decide +kernel)
    have sG := bd_sm pq.bG (by decide +kernel)
    have dl := det_le ha hb hc he
    have bF1 : Bd (cb a b F G) n (2 ^ 100) := (bd_cb pq.bF pq.bG ha hb).mono (by decide)
    have bG1 : Bd (cb c e F G) n (2 ^ 100) := (bd_cb pq.bF pq.bG hc he).mono (by decide)
    have p2 : PrP n (cb a b F G) (cb c e F G) := ⟨n1, n7, bF1, bG1⟩
    have r2 := rk_cb lF lG hdet pq.r2
    have o2 := one_cb (a := a) (b := b) (c := c) (e := e) lF lG
    have eo : ∀ k, k < (n + 1) / 2 → orow (cb a b F G) (cb c e F G) k = (orow F G k).map ((a * e - b * c) * ·) := fun k hk => orow_cb lF lG hk
    obtain ⟨F1, eF1⟩ : ∃ F1, cb a b F G = F1 := ⟨_, rfl⟩
    obtain ⟨G1, eG1⟩ : ∃ G1, cb c e F G = G1 := ⟨_, rfl⟩
    refine ⟨_, rfl, _, rfl, _, rfl, p, q, tb, F, G, a, b, c, e, rfl, hp11, hq11, by omega, by omega, sF, sG, hTb, sm_le (n := 4) ha (by decide), sm_le (n := 4) hb (by decide), sm_le (n := 4) hc (by decide), sm_le (n := 4) he (by decide), fun M xm ym H12 s12 kM hxm hym => ?_⟩
    rw [eF1] at bF1 p2 r2 o2 eo hxm
    rw [eG1] at bG1 p2 r2 o2 eo hym
    clear eF1 eG1
    refine ⟨M, rfl, ⟨_, SqL.of kM⟩, fun W nW => lc_list (xs := [V.ref xm, V.ref ym]) (fun i H => Same H12 H ∧ Bf T.C_Form H W (fun i => [F1, G1].getD i []) i) ⟨same_upd0 nW, Bf.nil⟩ (fun i H _ hP => SqL.of (hP.1 _ _ kM)) (fun i x H hx hP => ?_) (fun H13 hP => ?_)⟩
    · obtain ⟨r, l, rfl, hr, tl, el, hi⟩ : ∃ (r : Addr) (l : List Int), x = .ref r ∧ H12 r = some (tp l) ∧ Bd l n (2 ^ 100) ∧ [F1, G1].getD i [] = l ∧ i ≤ 1 := by
        match i, hx with
        | 0, hx => exact ⟨xm, F1, by cases hx; rfl, hxm, bF1, rfl, by omega⟩
        | 1, hx => exact ⟨ym, G1, by cases hx; rfl, hym, bG1, rfl, by omega⟩
      have tr : Tr l := tl.tr (by omega) (by decide +kernel)
      exact ⟨rfl, _, rfl, fun a dx x1 x2 x3 => mkF x1 x2 x3 (hP.1 _ _ hr) tr.pos (by rw [tl.len]; omega) tr.sho fun Hx sx fx => Bf.step hP nW sx (by rw [el]; exact fx) (by omega)⟩
    obtain ⟨s13, ws, hW, lw, hf⟩ := hP
    match ws, lw, hf with
    | [w1, w2], _, hf =>
    have g1 : Fo T.C_Form H13 w1 F1 := hf 0 (by simp)
    have g2 : Fo T.C_Form H13 w2 G1 := hf 1 (by simp)
    refine ⟨W, _, rfl, SqL.of hW, rfl, _, _, rfl, _, _, rfl, rfl, ?_⟩
    have s1113 := s12.trans s13
    have D13 := D11.same s1113
    obtain ⟨rs13, hR13, lR13, hrow13⟩ := id (D11.bl (Sy.of s1113) bR11)
    refine ⟨_, rfl, R, rfl, ⟨_, SqL.of hR13⟩, fun D2 nD2 => lc_list (xs := rs13.map V.ref) (fun i H => Same H13 H ∧ Bl H D2 (fun k => (orow F G k).map ((a * e - b * c) * ·)) i) ⟨same_upd0 nD2, Bl.nil⟩ (fun i H _ hP => SqL.of (hP.1 _ _ hR13)) (fun i x H hx hP => ?_) (fun H14 hP => ?_)⟩
    · obtain ⟨hi, rfl⟩ := get_ref hx
      exact ⟨rfl, _, rfl, _, rfl, tb, a, b, c, e, rfl, hTb.same (s1113.trans hP.1), by omega, by omega, by omega, by omega, rs13[i], orow F G i, a * e - b * c, rfl, hP.1 _ _ (hrow13 i hi), by rw [orow_len p1 (by omega)]; omega, orow_sm p1 (by omega), sm_le (n := 32) (by omega) (by decide), fun u H15 s15 _ k15 => Bl.step hP nD2 s15 k15 (by omega)⟩
    obtain ⟨s14, bD⟩ := hP
    rw [List.length_map, lR13] at bD
    have s1114 := s1113.trans s14
    have D14 := D11.same s1114
    have fin14 : ∀ H', Sy d Ps H14 H' → Dp d Ps H' → Q (.bl true) H' := fun H' s D => fin11 H' ((Sy.of s1114).trans s) D
    have g1 := g1.same s14
    have g2 := g2.same s14
    have hp14 := s1114 _ _ hp11
    have hq14 := s1114 _ _ hq11
    have k14 := s1114 _ _ k11
    have fa14 := fa11.same s1114
    have fb14 := fb11.same s1114
    have bR14 := D11.bl (Sy.of s1114) bR11
    have tB14 := tB11.same s1114
    have tD : Tli H14 D2 ((List.range ((n + 1) / 2)).map (orow F1 G1)) := by
      rw [List.map_congr_left (g := fun k => (orow F G k).map ((a * e - b * c) * ·)) fun k hk => eo k (List.mem_range.mp hk)]
      exact bD.tli
    have l2 : (ech less [F, G] (n + 1)).length = 2 := (rk2_iff lePP lF lG).mpr pq.r2
    have eb : ech less [F, G] (n + 1) = ech less [F1, G1] (n + 1) := (one_ech p1 p2 r2).mpr o2
    clear bD eo hf hW s14 s13 s12 s1113 s1114 D13 hR13 lR13 hrow13 kM hxm hym bF1 bG1 sF sG dl hTb ha hb hc he hdet fin11 hp11 hq11 k11 fa11 fb11 bR11 tB11 D11
    refine ⟨_, rfl, _, rfl, w1, w2, n, F1, G1, rfl, g1, g2, p2, r2, D14.tt, fun u us H15 s15 t15 ft15 => ⟨u, us, _, _, rfl, ft15, by omega, fun S H16 s16 bS => ?_⟩⟩
    have s1416 : Sy d Ps H14 H16 := (Sy.ofP s15).trans (Sy.of s16)
    have D16 : Dp d Ps H16 := (D14.sp s15 t15).same s16
    refine ⟨_, rfl, ne_tli bS.tli (D14.tli s1416 tD) ⟨false, rfl, iteF ?_⟩⟩
    refine ⟨_, rfl, _, rfl, w1, w2, n, F1, G1, rfl, D14.fo s1416 g1, D14.fo s1416 g2, p2, r2, D16.tt, fun v x17 y17 H17 s17 t17 ft17 _ _ => ⟨v, [x17, y17], _, _, rfl, ft17, by omega, fun S2 H18 s18 bS2 => ?_⟩⟩
    have s1618 : Sy d Ps H16 H18 := (Sy.ofP s17).trans (Sy.of s18)
    have D18 : Dp d Ps H18 := (D16.sp s17 t17).same s18
    have s1418 := s1416.trans s1618
    have tS2 : Tli H18 S2 (ech less [F, G] (n + 1)) := by
      have := bS2.tli
      rw [← eb] at this
      rwa [two_getD l2] at this
    refine ⟨_, rfl, ne_tli tS2 (D14.tli s1418 tB14) ⟨false, rfl, iteF ?_⟩⟩
    dsimp only [tNext]
    have o2s : OneP (n + 1) F G G1 F1 := ⟨o2.2, o2.1⟩
    have k18 := D14.tup s1418 k14
    have fa18 := D14.fo s1418 fa14
    have fb18 := D14.fo s1418 fb14
    have g118 := D14.fo s1418 g1
    have g218 := D14.fo s1418 g2
    refine ⟨_, rfl, t, _, 0, _, rfl, rfl, SqT.of k18, atI_nat (j := 0) rfl, _, rfl, t, _, 1, _, rfl, rfl, SqT.of k18, atI_nat (j := 1) rfl, _, rfl, _, rfl, a1, a2, w2, w1, n, F, G, G1, F1, rfl, fa18, fb18, g218, g118, p1, pq.r2, p2.swap, r2.swap, D18.tt, fun H19 s19 t19 => ?_⟩
    rw [decide_eq_true ((one_ech p1 p2.swap r2.swap).mpr o2s)]
    refine ⟨true, rfl, iteF ?_⟩
    have D19 : Dp d Ps H19 := D18.sp s19 t19
    have s1819 : Sy d Ps H18 H19 := Sy.ofP s19
    have k19 := D18.tup s1819 k18
    refine ⟨_, rfl, t, _, 0, _, rfl, rfl, SqT.of k19, atI_nat (j := 0) rfl, _, rfl, t, _, 1, _, rfl, rfl, SqT.of k19, atI_nat (j := 1) rfl, _, rfl, _, rfl, w2, w1, n, G1, F1, rfl, D18.fo s1819 g218, D18.fo s1819 g118, p2.swap, r2.swap, t19, fun u2 us2 H20 s20 t20 ft20 => ?_⟩
    have D20 : Dp d Ps H20 := D19.sp s20 t20
    have s1820 := s1819.trans (Sy.ofP s20)
    refine ⟨a1, a2, u2, n, F, G, us2, _, rfl, D18.fo s1820 fa18, D18.fo s1820 fb18, p1, pq.r2, t20, ft20, orow_len2 p1 p2.swap, fun k hk => orow_sm p2.swap hk, fun H21 s21 t21 => ?_⟩
    rw [(one_mul p1 pq.r2 p2.swap r2.swap).mpr o2s]
    refine ⟨true, rfl, iteF ?_⟩
    have D21 : Dp d Ps H21 := D20.sp s21 t21
    have s1421 := s1418.trans (s1820.trans (Sy.ofP s21))
    dsimp only [tNext]
    refine ⟨_, rfl, d, 2, rfl, D21.dd, by decide, by decide, fun t2 H22 a b c e s22 d22 hTb ha hb hc he hdet => ?_⟩
    have D22 := D21.sx s22 d22
    have s1422 := s1421.trans (Sy.ofD s22)
    have hp22 := D14.tup s1422 hp14
    have hq22 := D14.tup s1422 hq14
    have bR22 := D14.bl s1422 bR14
    have fin22 : ∀ H', Sy d Ps H22 H' → Dp d Ps H' → Q (.bl true) H' := fun H' s D => fin14 H' (s1422.trans s) D
    clear bR14 fin14 hp14 hq14 k14 s1422 s1421 s22 d22 D21 s1820 s1819 s20 t20 ft20 s19 t19 s21 t21 D20 D19 k19 k18 fa18 fb18 g118 g218 tS2 s1418 s1618 D18 s17 t17 ft17 s18 bS2 D16 s1416 s15 t15 ft15 s16 bS tD tB14 g1 g2 fa14 fb14 D14 o2s o2 eb l2 p2 r2
    have bX : Bd [a, b] 1 4 := bd_pair ha hb
    have bY : Bd [c, e] 1 4 := bd_pair hc he
    have dl := det_le ha hb hc he
    have chF : Bd (changed [a, b] [c, e] F) n (2 ^ 100) := (changed_bd bX bY pq.bF).mono (Nat.le_trans (Nat.mul_le_mul (Nat.le_refl _) (Nat.pow_le_pow_right (by decide) n7)) (by decide))
    have chG : Bd (changed [a, b] [c, e] G) n (2 ^ 100) := (changed_bd bX bY pq.bG).mono (Nat.le_trans (Nat.mul_le_mul (Nat.le_refl _) (Nat.pow_le_pow_right (by decide) n7)) (by decide))
    have tc1 : Tr (changed [a, b] [c, e] F) := chF.tr (by omega) (by decide +kernel)
    have tc2 : Tr (changed [a, b] [c, e] G) := chG.tr (by omega) (by decide +kernel)
    have lc1 := chF.len
    have lc2 := chG.len
    have p3 : PrP n (changed [a, b] [c, e] F) (changed [a, b] [c, e] G) := ⟨n1, n7, chF, chG⟩
    have r3 := rk_chg n1 lF lG lc1 lc2 hdet pq.r2
    refine ⟨_, rfl, _, rfl, p, t2, F, [a, b], [c, e], rfl, hp22, hTb, lch_ok bX bY pq.bF (by omega) (by decide +kernel), fun u1 H23 s23 k23 => fun b1 dx1 x1 x2 x3 => mkF x1 x2 x3 k23 tc1.pos (by omega) tc1.sho fun H24 s24 f24 => ?_⟩
    have s2224 := s23.trans s24
    refine ⟨_, rfl, _, rfl, q, t2, G, [a, b], [c, e], rfl, s2224 _ _ hq22, hTb.same s2224, lch_ok bX bY pq.bG (by omega) (by decide +kernel), fun u2 H25 s25 k25 => fun b2 dx2 x1 x2 x3 => mkF x1 x2 x3 k25 tc2.pos (by omega) tc2.sho fun H26 s26 f26 => ⟨_, _, rfl, ?_⟩⟩
    have s2226 := s2224.trans (s25.trans s26)
    have D26 := D22.same s2226
    have fin26 : ∀ H', Sy d Ps H26 H' → Dp d Ps H' → Q (.bl true) H' := fun H' s D => fin22 H' ((Sy.of s2226).trans s) D
    have g1 : Fo T.C_Form H26 b1 (changed [a, b] [c, e] F) := f24.same (s25.trans s26)
    have hTb26 := hTb.same s2226
    obtain ⟨rs26, hR26, lR26, hrow26⟩ := D22.bl (Sy.of s2226) bR22
    clear hp22 hq22 bR22 fin22 k23 f24 k25 s23 s24 s25 s2224 hTb D22 s2226 s26
    refine ⟨by show 0 ≤ sizeLine; decide, fun D3 n3 => ?_⟩
    refine ⟨_, rfl, R, _, rfl, SqL.of (same_upd0 n3 _ _ hR26), for_enumL (xs := rs26.map V.ref) (fun i σ H' => ∃ y12 y16, σ = [some (.ref d), some (.ref p), some (.ref q), some (V.int (((F.map V.int).length : Nat) - 1)), some (.ref t), some (.ref R), some (.ref B), some (.ref tb), some (.ref w1), some (.ref w2), none, some (.ref D3), y12, some (.ref t2), some (.ref b1), some (.ref b2), y16] ∧ Same H26 H' ∧ Bl H' D3 (orow (changed [a, b] [c, e] F) (changed [a, b] [c, e] G)) i) ⟨none, none, rfl, same_upd0 n3, Bl.nil⟩ (fun i σ H' hP => ?_) (fun i x T2 σ H' hx hP hT2 => ?_) (fun σ H' hP => ?_)⟩
    · obtain ⟨y12, y16, _, sH, _⟩ := hP
      exact SqL.of (sH _ _ hR26)
    · obtain ⟨y12, y16, rfl, sH, bD⟩ := hP
      obtain ⟨hi, rfl⟩ := get_ref hx
      refine gen_upd H' T2 _ hT2 fun H27 s27 k27 => ⟨T2, _, rfl, SqT.of k27, rfl, _, _, rfl, _, _, rfl, rfl, ?_⟩
      have s2627 := sH.trans s27
      have bD27 := bD.same s27
      obtain ⟨ds, hD3, _, _⟩ := id bD27
      have ik : i < (n + 1) / 2 := by omega
      have bo : Bd (orow F G i) (n + n - 2 * (2 * i + 1)) (2 ^ 249) := (orow_bd p1 ik).mono (Nat.le_trans (Nat.mul_le_mul_right _ (Nat.pow_le_pow_right (by decide) (show 7 * (2 * i + 1) ≤ 49 by omega))) (by decide))
      have bco : Bd (changed [a, b] [c, e] (orow F G i)) (n + n - 2 * (2 * i + 1)) (2 ^ 280) := (changed_bd bX bY bo).mono (Nat.le_trans (Nat.mul_le_mul (Nat.le_refl _) (Nat.pow_le_pow_right (by decide) (show n + n - 2 * (2 * i + 1) ≤ 12 by omega))) (by decide))
      have pd : ∀ j, j ≤ 7 → ((a * e - b * c) ^ j).natAbs ≤ 8 ^ 7 := fun j hj => by
        rw [Int.natAbs_pow]
        exact Nat.le_trans (Nat.pow_le_pow_left (show _ ≤ 8 by omega) j) (Nat.pow_le_pow_right (by decide) hj)
      refine ⟨_, rfl, .inl ⟨rfl, _, SqL.of hD3⟩, _, rfl, _, rfl, rs26[i], t2, orow F G i, [a, b], [c, e], rfl, s2627 _ _ (hrow26 i hi), hTb26.same s2627, lch_ok bX bY bo (by omega) (by decide +kernel), fun u3 H28 s28 k28 => ?_⟩
      refine ⟨_, rfl, t2, a, b, c, e, rfl, hTb26.same (s2627.trans s28), by omega, by omega, by omega, by omega, _, rfl, _, _, rfl, rfl, sm_mul (sm_le (n := 2) (by decide) (by decide)) (sm_le (n := 4) (by omega) (by decide)), _, _, rfl, rfl, a * e - b * c, 2 * i + 1, ?_, fun j hj => sm_le (pd j (by omega)) (by decide), sm_le (n := 8) (by omega) (by decide), by omega, u3, _, (a * e - b * c) ^ (2 * i + 1), rfl, k28, by rw [bco.len]; omega, bd_sm bco (by decide +kernel), sm_le (pd _ (by omega)) (by decide), fun u4 H29 s29 _ k29 => ?_⟩
      · show [V.int (a * e - b * c), V.int (2 * (i : Int) + 1)] = _
        rw [show 2 * (i : Int) + 1 = ((2 * i + 1 : Nat) : Int) by omega]
      · have hw := Bl.step (φ := orow (changed [a, b] [c, e] F) (changed [a, b] [c, e] G)) (p := u4) (H2 := H29) ⟨s2627, bD27⟩ n3 (s28.trans s29) (by rw [orow_chg lF lG ik]; exact k29) (by omega)
        obtain ⟨acc, h1, h2, h3, h4⟩ := hw
        exact ⟨D3, acc, .ref u4, rfl, rfl, h1, h2, _, _, rfl, h3, h4⟩
    · obtain ⟨y12, y16, rfl, sH, bD⟩ := hP
      rw [List.length_map, lR26] at bD
      have D30 := D26.same sH
      refine ⟨_, rfl, _, rfl, b1, b2, n, _, _, rfl, g1.same sH, f26.same sH, p3, r3, D30.tt, fun u us H31 s31 t31 ft31 => ⟨u, us, _, _, rfl, ft31, by omega, fun S H32 s32 bS => ?_⟩⟩
      have s3032 : Sy d Ps H' H32 := (Sy.ofP s31).trans (Sy.of s32)
      have D32 : Dp d Ps H32 := (D30.sp s31 t31).same s32
      exact ⟨_, rfl, eq_tli bS.tli (D30.tli s3032 bD.tli) (fin26 H32 ((Sy.of sH).trans s3032) D32)⟩
end
end K83

set_option Elab.async false
set_option linter.all false
set_option maxRecDepth 100000
set_option maxHeartbeats 4000000
set_option exponentiation.threshold 10000
namespace K83
open PySem PySem.Spec PyProof.Rows L2 StX RZ MyR SlX OwnR OwnF EnumT SeqE GxR GenNx FDivQ
def eF : List Int := [1, 0, 0, 0]
def eG : List Int := [0, 0, 0, 1]
def mF : List Int := [0, 1, 0, 0]
def mG : List Int := [0, 0, 1, 0]
theorem pE : PrP 3 eF eG := ⟨by decide, by decide, ⟨rfl, by decide⟩, ⟨rfl, by decide⟩⟩
theorem pM : PrP 3 mF mG := ⟨by decide, by decide, ⟨rfl, by decide⟩, ⟨rfl, by decide⟩⟩
theorem rE : Rk2 (3 + 1) eF eG := ⟨0, 3, by decide, by decide, by decide⟩
theorem rM : Rk2 (3 + 1) mF mG := ⟨1, 2, by decide, by decide, by decide⟩
theorem p1_ : PrP 1 [1, 0] [0, 1] := ⟨by decide, by decide, ⟨rfl, by decide⟩, ⟨rfl, by decide⟩⟩
theorem r1_ : Rk2 (1 + 1) [1, 0] [0, 1] := ⟨0, 1, by decide, by decide, by decide⟩
theorem oE : (List.range ((3 + 1) / 2)).map (orow eF eG) = [[0, 0, 9, 0, 0], [36]] := by decide +kernel
theorem oM : (List.range ((3 + 1) / 2)).map (orow mF mG) = [[0, 0, 3, 0, 0], [-12]] := by decide +kernel
theorem o1_ : (List.range ((1 + 1) / 2)).map (orow [1, 0] [0, 1]) = [[1]] := by decide +kernel
theorem nEM : ¬ ech less [eF, eG] (3 + 1) = ech less [mF, mG] (3 + 1) := by decide +kernel
def dTold : List PyData := [.list (TD [[0, 0, 9, 0, 0], [36]]), .list (TD [[0, 0, 3, 0, 0], [-12]])]
theorem lay_told : PyData.canLayAll0 dTold = true := by decide +kernel
theorem shp_told : SeqAt.shaped (.list dTold) = true := by decide +kernel
theorem Tli.sts {Ps : List Addr} {H H' : Hp} {D : Addr} {ls : List (List Int)} (h : Tli H D ls) (s : Sts Ps H H') (g : Tg Ps H) : Tli H' D ls := by
  obtain ⟨bs, h1, h2⟩ := h
  exact ⟨bs, s.lst g h1, RX.imp (fun a r e => s.tup g e) h2⟩
theorem tli2 {H : Hp} {L q1 q2 : Addr} {l1 l2 : List Int} (h : H L = some (.lst [.ref q1, .ref q2])) (h1 : H q1 = some (tp l1)) (h2 : H q2 = some (tp l2)) : Tli H L [l1, l2] := ⟨[q1, q2], h, h1, h2, True.intro⟩
theorem tli1 {H : Hp} {L q1 : Addr} {l1 : List Int} (h : H L = some (.lst [.ref q1])) (h1 : H q1 = some (tp l1)) : Tli H L [l1] := ⟨[q1], h, h1, True.intro⟩
section
variable {P : Program} {w : World} {K : PySem.W.Frag} {mg : Str → Option Value} {base : Heap}
theorem ok_law (T : Facts K mg) (TB_first_of : TabB base mg T.c_first_of T.P_first_of) : FnOk P w K mg base CX0 12 T.f_law T.fd_law ["_law_script"] (spLawT K [T.P_first_of]) := by
  obtain ⟨Ps, ePs⟩ : ∃ Ps, [T.P_first_of] = Ps := ⟨_, rfl⟩
  have hP : T.P_first_of ∈ Ps := by rw [← ePs]; simp
  rw [ePs]
  have G_law_dice := ok_law_dice (P := P) (w := w) (base := base) T
  have G_law_roll : FnOk P w K mg base CX0 1 T.f_law_roll T.fd_law_roll ["_law_dice_here", "_law_total"] spRoll2 := (ok_law_roll T).imp roll2
  have G_law_two_forms := ok_law_two_forms (P := P) (w := w) (base := base) T
  have G_law_pair_right := ok_law_pair_right (P := P) (w := w) (base := base) T TB_first_of hP
  have G_law_two_right := ok_law_two_right (P := P) (w := w) (base := base) T TB_first_of hP
  have G_pencil_row := ok_pencil_row (P := P) (w := w) (base := base) T TB_first_of hP
  have G_are_one_pencil := ok_are_one_pencil (P := P) (w := w) (base := base) T TB_first_of hP
  have G_law_shown := ok_law_shown (P := P) (w := w) (base := base) T
  have G_Form_init : FnOk P w K mg base CX0 5 T.f_Form_init T.fd_Form_init ["self", "entries"] (spForm T.C_Told T.C_Form) := ok_Form_init T
  refine T.F_law.ok sc_law (fun vs H Q E h => ?_) (fun cdv A outer s H vs Q E hr h => ?_)
  · obtain ⟨a, ns, rfl, _⟩ := h
    rfl
  · obtain ⟨a, ns, rfl, ha, hn, hG, q⟩ := h
    refine ⟨_, (PSs.nox (pss_cons (ps_for PassesOwn.never (by rfl) (pi_range1 (by rfl) T.z_range (pa_cons (pe_callB (call_max2 (by rfl)) (by rfl) T.z_max (by decide +kernel) (pa_cons pe_int (pa_cons (pe_callB (call_min2 (by rfl)) (by rfl) T.z_min (by decide +kernel) (pa_cons pe_int (pa_cons (pe_callB call_len_seq (by rfl) T.z_len (by decide +kernel) (pa_cons (pv 0) pa_nil)) pa_nil))) pa_nil))) pa_nil)) (pg_name (i := 1) sc_law.nd rfl (.inl rfl))
      (pss_cons (ps_set (i := 2) sc_law.nd rfl (.inl rfl) (pe_call G_law_dice (hr.mono (by decide)) (by rfl) T.g_law_dice T.F_law_dice.kp T.b_law_dice .nil pass0 (pa_cons (pv 0) (pa_cons (pv 1) pa_nil))))
      (pss_cons (ps_asg (pe_call G_law_two_forms (hr.mono (by decide)) (by rfl) T.g_law_two_forms T.F_law_two_forms.kp T.b_law_two_forms .nil pass0 (pa_cons (pv 2) (pa_cons (pe_op op_add pe_int (pe_call G_law_roll (hr.mono (by decide)) (by rfl) T.g_law_roll T.F_law_roll.kp T.b_law_roll .nil pass0 (pa_cons (pv 2) (pa_cons pe_int pa_nil)))) pa_nil))) (pg_tup (by rfl) (pgs_cons (pg_name (i := 3) sc_law.nd rfl (.inl rfl)) (pgs_cons (pg_name (i := 4) sc_law.nd rfl (.inl rfl)) pgs_nil))))
      (pss_one (ps_if (pw_or (pt_not (pt_val (pe_call G_law_pair_right hr (by rfl) T.g_law_pair_right T.F_law_pair_right.kp T.b_law_pair_right .nil pass0 (pa_cons (pv 2) (pa_cons (pv 3) (pa_cons (pv 4) pa_nil)))))) (pw_or1 (pt_not (pt_val (pe_call G_law_two_right hr (by rfl) T.g_law_two_right T.F_law_two_right.kp T.b_law_two_right .nil pass0 (pa_cons (pv 2) (pa_cons (pv 3) (pa_cons (pv 4) pa_nil)))))))).pt
        (pss_one (ps_ret pe_bl))
        pss_nil)))))
    (pss_cons (ps_set (i := 5) sc_law.nd rfl (.inl rfl) (pe_tup (pa_cons (pe_make T.mk_Form G_Form_init (hr.mono (by decide)) (by rfl) T.g_Form T.b_Form_init .nil pass0 (pa_cons (pe_tup (pa_cons pe_int (pa_cons pe_int (pa_cons pe_int (pa_cons pe_int pa_nil))))) pa_nil)) (pa_cons (pe_make T.mk_Form G_Form_init (hr.mono (by decide)) (by rfl) T.g_Form T.b_Form_init .nil pass0 (pa_cons (pe_tup (pa_cons pe_int (pa_cons pe_int (pa_cons pe_int (pa_cons pe_int pa_nil))))) pa_nil)) pa_nil))))
    (pss_cons (ps_set (i := 6) sc_law.nd rfl (.inl rfl) (pe_tup (pa_cons (pe_make T.mk_Form G_Form_init (hr.mono (by decide)) (by rfl) T.g_Form T.b_Form_init .nil pass0 (pa_cons (pe_tup (pa_cons pe_int (pa_cons pe_int (pa_cons pe_int (pa_cons pe_int pa_nil))))) pa_nil)) (pa_cons (pe_make T.mk_Form G_Form_init (hr.mono (by decide)) (by rfl) T.g_Form T.b_Form_init .nil pass0 (pa_cons (pe_tup (pa_cons pe_int (pa_cons pe_int (pa_cons pe_int (pa_cons pe_int pa_nil))))) pa_nil)) pa_nil))))
    (pss_cons (ps_set (i := 7) sc_law.nd rfl (.inl rfl) (pe_lst (pa_cons (pe_call G_law_shown (hr.mono (by decide)) (by rfl) T.g_law_shown T.F_law_shown.kp T.b_law_shown .nil pass0 (pa_cons (pe_call G_pencil_row (hr.mono (by decide)) (by rfl) T.g_pencil_row T.F_pencil_row.kp T.b_pencil_row .nil pass0 (pa_cons (pe_ix ix_tup (pv 5) pe_int (fun _ _ => rfl)) (pa_cons (pe_ix ix_tup (pv 5) pe_int (fun _ _ => rfl)) pa_nil))) pa_nil)) (pa_cons (pe_call G_law_shown (hr.mono (by decide)) (by rfl) T.g_law_shown T.F_law_shown.kp T.b_law_shown .nil pass0 (pa_cons (pe_call G_pencil_row (hr.mono (by decide)) (by rfl) T.g_pencil_row T.F_pencil_row.kp T.b_pencil_row .nil pass0 (pa_cons (pe_ix ix_tup (pv 6) pe_int (fun _ _ => rfl)) (pa_cons (pe_ix ix_tup (pv 6) pe_int (fun _ _ => rfl)) pa_nil))) pa_nil)) pa_nil))))
    (pss_cons (ps_if (pt_cmpR (op_neD (hu64 hr)) (pv 7) (pe_lst (pa_cons (pe_lst (pa_cons (pe_tup (pa_cons pe_int (pa_cons pe_int (pa_cons pe_int (pa_cons pe_int (pa_cons pe_int pa_nil)))))) (pa_cons (pe_tup (pa_cons pe_int pa_nil)) pa_nil))) (pa_cons (pe_lst (pa_cons (pe_tup (pa_cons pe_int (pa_cons pe_int (pa_cons pe_int (pa_cons pe_int (pa_cons pe_int pa_nil)))))) (pa_cons (pe_tup (pa_cons (pe_un un_neg pe_int) pa_nil)) pa_nil))) pa_nil))) (nomark _))
      (pss_one (ps_ret pe_bl))
      pss_nil)
    (pss_one (ps_ret (pe_and (pe_not (pe_call G_are_one_pencil (hr.mono (by decide)) (by rfl) T.g_are_one_pencil T.F_are_one_pencil.kp T.b_are_one_pencil .nil pass0 (pa_cons (pe_ix ix_tup (pv 5) pe_int (fun _ _ => rfl)) (pa_cons (pe_ix ix_tup (pv 5) pe_int (fun _ _ => rfl)) (pa_cons (pe_ix ix_tup (pv 6) pe_int (fun _ _ => rfl)) (pa_cons (pe_ix ix_tup (pv 6) pe_int (fun _ _ => rfl)) pa_nil)))))) (pe_one (pe_cmpR (op_eqD (hu64 hr)) (pe_call G_law_shown (hr.mono (by decide)) (by rfl) T.g_law_shown T.F_law_shown.kp T.b_law_shown .nil pass0 (pa_cons (pe_call G_pencil_row (hr.mono (by decide)) (by rfl) T.g_pencil_row T.F_pencil_row.kp T.b_pencil_row .nil pass0 (pa_cons (pe_make T.mk_Form G_Form_init (hr.mono (by decide)) (by rfl) T.g_Form T.b_Form_init .nil pass0 (pa_cons (pe_tup (pa_cons pe_int (pa_cons pe_int pa_nil))) pa_nil)) (pa_cons (pe_make T.mk_Form G_Form_init (hr.mono (by decide)) (by rfl) T.g_Form T.b_Form_init .nil pass0 (pa_cons (pe_tup (pa_cons pe_int (pa_cons pe_int pa_nil))) pa_nil)) pa_nil))) pa_nil)) (pe_lst (pa_cons (pe_tup (pa_cons pe_int pa_nil)) pa_nil)) (nomark _)))))))))))), ?_⟩
    refine ⟨_, rfl, a, _, rfl, .inl ha, 4, _, rfl, 1, _, rfl, ?_⟩
    rw [List.length_map]
    obtain ⟨n, hn1, hn0⟩ : ∃ n : Int, (if (if ((ns.length : Nat) : Int) < 4 then ((ns.length : Nat) : Int) else 4) > 1 then (if ((ns.length : Nat) : Int) < 4 then ((ns.length : Nat) : Int) else 4) else 1) = n ∧ 0 ≤ n ∧ n ≤ 4 := ⟨_, rfl, by split <;> split <;> omega, by split <;> split <;> omega⟩
    rw [hn1]
    refine ⟨_, rfl, by omega, by omega, for_range (n := n.toNat) (fun i σ H' => ∃ y1 y2 y3 y4, σ = [some (.ref a), y1, y2, y3, y4, none, none, none] ∧ SqL K H' a (ns.map V.int) ∧ Tg Ps H') ⟨none, none, none, none, rfl, ha, hG⟩ (fun i σ H1 hi hP => ?_) (fun σ H1 hP => ?_)⟩
    · obtain ⟨y1, y2, y3, y4, rfl, h1, p1⟩ := hP
      refine ⟨_, rfl, _, rfl, a, ns, i, ?_, h1, fun d x y z nd => ?_⟩
      · show [V.ref a, V.int (0 + (i : Int))] ++ [] = _
        rw [Int.zero_add]
        rfl
      have D1 : Dp d Ps (upd H1 d (dice x y z)) := ⟨⟨x, y, z, upd_same⟩, p1.same (same_upd0 nd)⟩
      refine ⟨_, rfl, _, rfl, d, 7, rfl, D1.dd, by decide, by decide, fun r H2 hr2 s2 d2 => ⟨_, _, rfl, rfl, d, r + 1, ?_, d2, by omega, by omega, fun rr p q2 H3 F G s3 d3 hrr hp hq pq => ⟨rr, _, rfl, SqT.of hrr, rfl, _, _, rfl, _, _, rfl, rfl, ?_⟩⟩⟩
      · show [V.ref d, V.int (1 + (r : Int))] = _
        rw [show (1 : Int) + r = ((r + 1 : Nat) : Int) by omega]
      have D3 : Dp d Ps H3 := (D1.sx s2 d2).sx s3 d3
      refine ⟨_, rfl, _, rfl, _, rfl, d, p, q2, r + 1, F, G, rfl, D3, hp, hq, pq, fun H4 s4 D4 => ⟨true, rfl, iteF ⟨_, rfl, _, rfl, _, rfl, d, p, q2, r + 1, F, G, rfl, D4, D3.tup s4 hp, D3.tup s4 hq, pq, fun H5 s5 D5 => ⟨true, rfl, iteF ⟨_, _, _, _, rfl, script_Sy ((Sy.ofD (s2.trans s3)).trans (s4.trans s5)) nd p1 h1, D5.tt⟩⟩⟩⟩⟩
    · obtain ⟨y1, y2, y3, y4, rfl, h1, t1⟩ := hP
      have z1 : 1 ≤ sizeLine := by decide
      have z2 : 2 ≤ sizeLine := by decide
      have z4 : 4 ≤ sizeLine := by decide
      have z5 : 5 ≤ sizeLine := by decide
      have sho : ∀ {l : List Int}, (∀ z ∈ l, z.natAbs ≤ 7) → ∀ z ∈ l, Sho z := fun h z hz => Nat.lt_of_le_of_lt (h z hz) (by decide)
      refine ⟨z4, fun u1 m1 => gen_upd H1 u1 (tp eF) m1 fun H2 s2 e1 => fun a1 dx x1 x2 x3 => mkF x1 x2 x3 e1 (by decide) (by decide) (sho (by decide)) fun H3 s3 f1 => ⟨z4, fun u2 m2 => gen_upd H3 u2 (tp eG) m2 fun H4 s4 e2 => fun a2 dx x1 x2 x3 => mkF x1 x2 x3 e2 (by decide) (by decide) (sho (by decide)) fun H5 s5 f2 => ⟨z2, fun u3 m3 => gen_upd H5 u3 (.tup [.ref a1, .ref a2]) m3 fun H6 s6 e3 => ?_⟩⟩⟩
      have f1 := f1.same ((s4.trans s5).trans s6)
      have f2 := f2.same s6
      have t6 := t1.same (((s2.trans s3).trans (s4.trans s5)).trans s6)
      clear m1 m2 m3 e1 e2 x1 x2 x3 s2 s3 s4 s5 s6 t1 h1
      refine ⟨z4, fun u4 m1 => gen_upd H6 u4 (tp mF) m1 fun H7 s7 e1 => fun a3 dx x1 x2 x3 => mkF x1 x2 x3 e1 (by decide) (by decide) (sho (by decide)) fun H8 s8 f3 => ⟨z4, fun u5 m2 => gen_upd H8 u5 (tp mG) m2 fun H9 s9 e2 => fun a4 dx x1 x2 x3 => mkF x1 x2 x3 e2 (by decide) (by decide) (sho (by decide)) fun H10 s10 f4 => ⟨z2, fun u6 m3 => gen_upd H10 u6 (.tup [.ref a3, .ref a4]) m3 fun H11 s11 e6 => ?_⟩⟩⟩
      have s611 := ((s7.trans s8).trans (s9.trans s10)).trans s11
      have f1 := f1.same s611
      have f2 := f2.same s611
      have f3 := f3.same ((s9.trans s10).trans s11)
      have f4 := f4.same s11
      have e3 := s611 _ _ e3
      have t11 := t6.same s611
      clear m1 m2 m3 e1 e2 x1 x2 x3 s7 s8 s9 s10 s11 s611 t6
      refine ⟨_, rfl, u3, _, 0, _, rfl, rfl, SqT.of e3, atI_nat (j := 0) rfl, _, rfl, u3, _, 1, _, rfl, rfl, SqT.of e3, atI_nat (j := 1) rfl, a1, a2, 3, eF, eG, rfl, f1, f2, pE, rE, t11, fun v1 vs1 H12 s12 t12 ft12 => ⟨v1, vs1, _, _, rfl, ft12, by decide, fun S1 H13 s13 bS1 => ?_⟩⟩
      have tS1 : Tli H13 S1 [[0, 0, 9, 0, 0], [36]] := oE ▸ bS1.tli
      have t13 := t12.same s13
      have s1113 := s12.trans (Sts.of s13)
      have e6 := s1113.tup t11 e6
      have e3 := s1113.tup t11 e3
      have f1 := s1113.fo t11 f1
      have f2 := s1113.fo t11 f2
      have f3 := s1113.fo t11 f3
      have f4 := s1113.fo t11 f4
      clear ft12 bS1 s12 s13 t12 s1113 t11
      refine ⟨_, rfl, u6, _, 0, _, rfl, rfl, SqT.of e6, atI_nat (j := 0) rfl, _, rfl, u6, _, 1, _, rfl, rfl, SqT.of e6, atI_nat (j := 1) rfl, a3, a4, 3, mF, mG, rfl, f3, f4, pM, rM, t13, fun v2 vs2 H14 s14 t14 ft14 => ⟨v2, vs2, _, _, rfl, ft14, by decide, fun S2 H15 s15 bS2 => ?_⟩⟩
      have tS2 : Tli H15 S2 [[0, 0, 3, 0, 0], [-12]] := oM ▸ bS2.tli
      have t15 := t14.same s15
      have s1315 := s14.trans (Sts.of s15)
      have tS1 := tS1.sts s1315 t13
      have e6 := s1315.tup t13 e6
      have e3 := s1315.tup t13 e3
      have f1 := s1315.fo t13 f1
      have f2 := s1315.fo t13 f2
      have f3 := s1315.fo t13 f3
      have f4 := s1315.fo t13 f4
      clear ft14 bS2 s14 s15 t14 s1315 t13
      refine ⟨z2, fun L1 nL1 => gen_upd H15 L1 (.lst [.ref S1, .ref S2]) nL1 fun H16 s16 k16 => ?_⟩
      refine ⟨_, rfl, z5, fun q1 n1 => gen_upd H16 q1 (tp [0, 0, 9, 0, 0]) n1 fun H17 s17 e17 => ⟨z1, fun q2 n2 => gen_upd H17 q2 (tp [36]) n2 fun H18 s18 e18 => ⟨z2, fun M1 nM1 => gen_upd H18 M1 (.lst [.ref q1, .ref q2]) nM1 fun H19 s19 e19 => ?_⟩⟩⟩
      refine ⟨z5, fun q3 n3 => gen_upd H19 q3 (tp [0, 0, 3, 0, 0]) n3 fun H20 s20 e20 => ⟨_, rfl, z1, fun q4 n4 => gen_upd H20 q4 (tp [-12]) n4 fun H21 s21 e21 => ⟨z2, fun M2 nM2 => gen_upd H21 M2 (.lst [.ref q3, .ref q4]) nM2 fun H22 s22 e22 => ⟨z2, fun M3 nM3 => gen_upd H22 M3 (.lst [.ref M1, .ref M2]) nM3 fun H23 s23 e23 => ?_⟩⟩⟩⟩
      have s1923 := ((s20.trans s21).trans s22).trans s23
      have s1623 := ((s17.trans s18).trans s19).trans s1923
      have tM1 : Tli H19 M1 [[0, 0, 9, 0, 0], [36]] := tli2 e19 ((s18.trans s19) _ _ e17) (s19 _ _ e18)
      have tM2 : Tli H22 M2 [[0, 0, 3, 0, 0], [-12]] := tli2 e22 ((s21.trans s22) _ _ e20) (s22 _ _ e21)
      have dL : L2.Dp K H23 (.ref L1) (.list dTold) := .lst (SqL.of (s1623 _ _ k16)) (.cons (tS1.same (s16.trans s1623)).dp (.cons (tS2.same (s16.trans s1623)).dp .nil))
      have dR : L2.Dp K H23 (.ref M3) (.list dTold) := .lst (SqL.of e23) (.cons (tM1.same s1923).dp (.cons (tM2.same s23).dp .nil))
      refine ⟨_, _, dL, dR, shp_told, shp_told, ?_⟩
      rw [show PyData.eqv (.list dTold) (.list dTold) = true from SeqAt.eqv_refl _ lay_told]
      refine ⟨false, rfl, iteF ?_⟩
      dsimp only [tNext]
      have s1523 := s16.trans s1623
      have e6 := s1523 _ _ e6
      have e3 := s1523 _ _ e3
      have f1 := f1.same s1523
      have f2 := f2.same s1523
      have f3 := f3.same s1523
      have f4 := f4.same s1523
      have t23 := t15.same s1523
      clear dL dR tM1 tM2 tS1 tS2 e17 e18 e19 e20 e21 e22 e23 k16 s16 s17 s18 s19 s20 s21 s22 s23 s1923 s1623 s1523 t15 nL1 n1 n2 nM1 n3 n4 nM2 nM3
      refine ⟨_, rfl, u3, _, 0, _, rfl, rfl, SqT.of e3, atI_nat (j := 0) rfl, _, rfl, u3, _, 1, _, rfl, rfl, SqT.of e3, atI_nat (j := 1) rfl, _, rfl, u6, _, 0, _, rfl, rfl, SqT.of e6, atI_nat (j := 0) rfl, _, rfl, u6, _, 1, _, rfl, rfl, SqT.of e6, atI_nat (j := 1) rfl, a1, a2, a3, a4, 3, eF, eG, mF, mG, rfl, f1, f2, f3, f4, pE, rE, pM, rM, t23, fun H24 s24 t24 => ?_⟩
      rw [decide_eq_false nEM]
      clear f1 f2 f3 f4 e3 e6
      refine ⟨false, rfl, true, rfl, iteT ?_⟩
      refine ⟨z2, fun w1 m1 => gen_upd H24 w1 (tp [1, 0]) m1 fun H25 s25 e1 => fun b1 dx x1 x2 x3 => mkF x1 x2 x3 e1 (by decide) (by decide) (sho (by decide)) fun H26 s26 g1 => ⟨z2, fun w2 m2 => gen_upd H26 w2 (tp [0, 1]) m2 fun H27 s27 e2 => fun b2 dx x1 x2 x3 => mkF x1 x2 x3 e2 (by decide) (by decide) (sho (by decide)) fun H28 s28 g2 => ⟨b1, b2, 1, [1, 0], [0, 1], rfl, g1.same (s27.trans s28), g2, p1_, r1_, t24.same ((s25.trans s26).trans (s27.trans s28)), fun v3 vs3 H29 s29 t29 ft29 => ⟨v3, vs3, _, _, rfl, ft29, by decide, fun S3 H30 s30 bS3 => ?_⟩⟩⟩⟩
      have tS3 : Tli H30 S3 [[1]] := o1_ ▸ bS3.tli
      refine ⟨z1, fun q5 n5 => gen_upd H30 q5 (tp [1]) n5 fun H31 s31 e31 => ⟨z1, fun M5 nM5 => gen_upd H31 M5 (.lst [.ref q5]) nM5 fun H32 s32 e32 => ?_⟩⟩
      exact eq_tli (tS3.same (s31.trans s32)) (tli1 e32 (s32 _ _ e31)) (q H32)
end
end K83

set_option Elab.async false
set_option linter.all false
set_option maxRecDepth 100000
set_option maxHeartbeats 0
namespace K83
open PySem PySem.Spec PyProof.Rows L2
theorem facts {l : PySem.W.OpenLaw} {w : World} {K : PySem.W.Frag} {h : Heap} {mg : Str → Option Value} {f : Addr} (X : K.In h) (G : h.Ns mainGlobals mg) (hfa : mg ("law" : Str) = some (.ref f)) (c : HookT.SaysGT faL fnL tfL exL h K) :
    LamX.LawAtS l w K CX0 12 63 "_law_script" mg f h := by
  obtain ⟨T⟩ := facts_of X G c.g
  have e := hfa.symm.trans T.g_law
  cases e
  have b := FunD.bindsA (ps := ["_law_script"]) T.F_law fun _ _ _ _ _ _ us hl => match us, hl with | [_], _ => rfl
  have key : ∀ p ∈ ([(T.c_first_of, T.P_first_of)] : List (Addr × Addr)), ∃ q ∈ tfL, p = HookT.cTA K q := fun p hp => by
    simp only [List.mem_cons, List.not_mem_nil, or_false] at hp
    rcases hp with rfl
    · exact ⟨(HookG.At.glo "first_of"), by unfold tfL; simp, T.tab_first_of⟩
  refine ⟨T.fd_law, [(T.c_first_of, T.P_first_of)], spLawT K [T.P_first_of], fun p hp => ?_, fun p hp => ?_, fun p hp => ?_, fun s v => b s [v] rfl, fun H a ns hl _ hH hS => ⟨a, ns, rfl, hS, hl, (fun P hP => (List.mem_singleton.mp hP) ▸ HookT.tabG0 (hH (T.c_first_of, T.P_first_of) (by simp))), fun _ => rfl⟩, fun base _ _ TB => ok_law T (have t := TB (T.c_first_of, T.P_first_of) (by simp); ⟨t.code, t.bm, t.gP⟩)⟩
  · obtain ⟨q, hq, rfl⟩ := key p hp
    exact c.empty q hq
  · obtain ⟨q, hq, rfl⟩ := key p hp
    exact c.out q hq
  · obtain ⟨q, hq, rfl⟩ := key p hp
    exact PySem.W.codeHd_of_K X (c.hd q hq)
end K83
open PySem PySem.W PySem.Calls PyProof.Rows
theorem PySem.Challenge.cw_sourceforms_k83_whole_rows_of_pencils_holds : PySem.Challenge.rw_sourceforms_k83_whole_rows_of_pencils.Holds := by
  w_on; o_law
  refine HandSHeadRun.head_imp (r := OpenLaw.row PySem.Challenge.rw_sourceforms_k83_whole_rows_of_pencils) (q := view (OpenLaw.row PySem.Challenge.rw_sourceforms_k83_whole_rows_of_pencils).prog [0, 95]) (H := K83.hk) (ob := K83.ob) (M := 12000) (loose := K83.loose) (d := HandSHeadRun.topDef (OpenLaw.row PySem.Challenge.rw_sourceforms_k83_whole_rows_of_pencils).prog 95) (kwd := []) K83.ob_eq K83.run (by kernel_rfl) (by kernel_rfl) (by kernel_rfl) (by rfl) (by first | assumption | decide +kernel) (by decide +kernel) ⟨rfl, rfl, rfl, rfl, rfl, by decide +kernel⟩ ?hw ?hc
  case hw => w_witness2
  case hc =>
    refine LamX.walk_ofTsE (l := PySem.Challenge.rw_sourceforms_k83_whole_rows_of_pencils) (n := 63) (k := 12) (x := "_law_script") (CX := fun _ => L2.CX0) rfl (by decide) (by kernel_rfl) ⟨rfl, by decide, by decide⟩ ?F (fun _ _ _ _ _ z => z)
    intro w mg fa h Y G hmg0
    obtain ⟨K, KX, c⟩ := Y
    have hmg : mg ("law" : PySem.Str) = some (.ref fa) := by
      have e : (HandSHeadRun.topDef (OpenLaw.row PySem.Challenge.rw_sourceforms_k83_whole_rows_of_pencils).prog 95).name = ("law" : PySem.Str) := by kernel_rfl
      rw [← e]
      exact hmg0
    exact ⟨K, KX, K83.facts KX G hmg c⟩
