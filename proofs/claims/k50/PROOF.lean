import PyProof.Rows.All
import Wide.All
import OpenK.AllK
import Wide.FinOn
import KE.KTupSum
import HandS.ForMost
import HandS.Wide
import HandS.Style
import HandS.Gcd
import KE.KMathG
import Flt.RightSqrt
import HandS.SlotsOwn
import HandS.IsInst
import KE.KOpsOwn
import KE.KCallOwn
import KE.KOwnIter
import OpenK.KMeth
import OpenK.KOps
import PyProof.InstNe
import HandS.OwnIter
import HandS.IterNext
import HandS.Defaults
import HandS.HeadHook2
import HandS.HeadNt
import HandS.Iter
import KE.GoesMore
import HandS.Codes
import HandS.Words
import HandS.Slots
import HandS.ClsMeth
import PyProof.ListIndex
import HandS.List
import PyProof.EqKinds
import PyProof.EqAt
import HandS.AnyAll
import HandS.ExcOwn
import KE.KDictIter
import PyProof.GenCompT
import HandS.Deep
import HandS.TupSets
import HandS.Sort
import KE.DataFind
import HandS.Zip
import HandS.Star
import HandS.GenList
import KE.KStar
import KE.KDictZip
import HandS.Conv
import HandS.TupAny
import HandS.Evl
import HandS.WordsExc
import HandS.Head0
import HandS.Head1
import HandS.Head2
import HandS.Head3
import HandS.HeadEnd
import HandS.HeadHook1
import HandS.HeadHook3
import HandS.HeadHook4
import HandS.FStr
import KE.KEqSeq
import HandS.TupMul
import PySem.Challenge.RW_sourceforms_k50_whole_prime_points_and_t

set_option Elab.async false
set_option linter.all false
set_option maxRecDepth 100000
set_option maxHeartbeats 4000000
/-! rules of mine: a tuple turned round by a slice, the sum of a tuple -/
namespace MyR
open PySem PySem.Spec PyProof.Rows L2 HT
section
variable {prog : Program} {w : World} {A : Around} {E : Value → Shared → Prop} {s : Shared}
end
section
variable {X : Cx}
/-- // by any int other than 0 -/
def CDivZ (_ j : Int) : Prop := j ≠ 0 ∧ j.natAbs.log2 < 9000
theorem op_fdivZ : OpR X (binaryOp .FloorDiv) (rI CDivZ fun i j => .int (i.fdiv j)) := opI fun i j _ _ _ _ _ hc q =>
  floordiv_int hc.1 q (.inl (PyProof.noPylong_of_log2 hc.2))
end
end MyR

set_option Elab.async false
set_option linter.all false
set_option maxRecDepth 100000
set_option maxHeartbeats 2000000
/-! rules for instances with slots: own +, -, *, unary -, ==, !=, len, str -/
namespace OwnR
open PySem PySem.Spec PyProof.Rows L2 SlX
section
variable {X : Cx} {CX : CXT} {C g : Addr} {n : Nat} {sp : Sp} {E : XK}
end
end OwnR

set_option Elab.async false
set_option linter.all false
set_option maxRecDepth 100000
set_option maxHeartbeats 2000000
/-! list(x) of an instance with own __iter__ (an iterator over a tuple) and own __len__; iter of a tuple -/
namespace OwnR
open PySem PySem.Spec PyProof.Rows L2 SlX
/-- at it an iterator over the tuple at t, the next place is i -/
def ItT (t it : Addr) (i : Nat) : HO := .ext fun h => IsTupIter h it t i
section
variable {X : Cx} {CX : CXT} {pins : List (Addr × Obj)} {σ : L2.St} {H : Hp} {s : Shared} {C g gl t it q : Addr} {n i : Nat} {sp spl : Sp} {E : XK}
/-- what stands while the iterator's items are taken -/
structure Tk (K : PySem.W.Frag) (H0 H : Hp) (t it q : Addr) (ys : List V) (i : Nat) : Prop where
  at_ : H it = some (ItT t it i)
  tu : SqT K H t ys
  li : H q = some (.lst (ys.take i))
  st : ∀ b o, b ≠ it → b ≠ q → H0 b = some o → H b = some o
end
end OwnR

set_option Elab.async false
set_option linter.all false
set_option maxRecDepth 100000
set_option maxHeartbeats 2000000
/-! a Hook that tells of defs found anywhere (a global, a class's method, a property's getter), and of classes with slots -/
namespace HookG
open PySem PySem.Spec PyProof.Rows L2 He
/-- the property f of the class at C -/
def prA (K : PySem.W.Frag) (C : Addr) (f : Str) : Addr := match PySem.W.recIn K (ma K C f) "property" with
  | some (.ref g :: _) => g
  | _ => 0
/-- where a def stands: a global; a method; a property's getter; a classmethod -/
inductive At where
  | glo (x : Str)
  | met (C m : Str)
  | prp (C f : Str)
  | cms (C m : Str)
def At.adr (K : PySem.W.Frag) : At → Addr
  | .glo x => ga K x
  | .met C m => ma K (ga K C) m
  | .prp C f => prA K (ga K C) f
  | .cms C m => He5.wf K (ga K C) "classmethod" m
structure GD where
  at_ : At
  name : Str
  qual : Str
  params : Arguments
  body : List Stmt
  scope : Scope
def fnA (K : PySem.W.Frag) (a : Addr) : FnW := match K.lookup a with
  | some ⟨_, _, .func fd, _⟩ => some (fd.name, fd.qualname, fd.params, fd.body, fd.scope, fd.globals, fd.closure, fd.builtins)
  | _ => none
def GD.val (d : GD) : FnW := some (d.name, d.qual, d.params, .stmts d.body, d.scope, mainGlobals, [], builtinsNs)
def GD.ok (K : PySem.W.Frag) (d : GD) : Bool := PySem.W.keepIn K (.ref (d.at_.adr K)) && (match K.lookup (d.at_.adr K) with
  | some ⟨_, _, .func fd, _⟩ => PySem.W.codeIn K fd.code d.qual && (dflB K fd.defaults [] && kwdB K fd.kwdefaults [])
  | _ => false)
theorem GD.funD {K : PySem.W.Frag} {d : GD} (e : fnA K (d.at_.adr K) = d.val) (c : d.ok K = true) : ∃ fd, FunD K d.name d.qual d.params d.body d.scope [] [] (d.at_.adr K) fd := by
  obtain ⟨kp, c2⟩ := ba c
  unfold fnA at e
  cases q : K.lookup (d.at_.adr K) with
  | none => rw [q] at c2; cases c2
  | some o =>
    obtain ⟨oc, od, dt, osl⟩ := o
    rw [q] at c2 e
    cases dt with
    | func fd =>
      obtain ⟨n1, n2, n3, n4, n5, n6, n7, n8, n9, n10, n11, n12, n13, n14, n15⟩ := fd
      have e2 : (some (n1, n2, n3, n4, n5, n6, n7, n15) : FnW) = some (d.name, d.qual, d.params, .stmts d.body, d.scope, mainGlobals, [], builtinsNs) := e
      simp only [Option.some.injEq, Prod.mk.injEq] at e2
      obtain ⟨h1, h2, h3, h4, h5, h6, h7, h8⟩ := e2
      subst h1 h2 h3 h4 h5 h6 h7 h8
      have c3 : (PySem.W.codeIn K n13 d.qual && (dflB K n8 [] && kwdB K n9 [])) = true := c2
      obtain ⟨k1, k2⟩ := ba c3
      obtain ⟨k3, k4⟩ := ba k2
      exact ⟨_, ⟨oc, od, n8, n9, n10, n11, n12, n13, n14, osl, rfl, q, k1, dflB_ok k3, kwdB_ok k4⟩, kp⟩
    | _ => cases c2
/-- a method: found in the class, a function -/
structure Mt (K : PySem.W.Frag) (C : Addr) (m : Str) (g : Addr) : Prop where
  at_ : PySem.W.findIn K (.ref C) m = some (some (.ref g))
  fn : PySem.W.isFn K (.ref g) = true
/-- a property, its getter at g -/
structure Pr (K : PySem.W.Frag) (C : Addr) (f : Str) (p g : Addr) : Prop where
  at_ : PySem.W.findIn K (.ref C) f = some (some (.ref p))
  get : PySem.W.specialIn K (.ref p) "__get__" = some (some (.builtin "property.__get__"))
  tk : PySem.W.takesIn K (.ref p) = some true
  rc : ∃ rest, PySem.W.recIn K p "property" = some (.ref g :: rest)
/-! ### the Hook -/
abbrev AlG : Type := Bool × List FnW
def obsG (fa : List Fa) (fn : List GD) (ex : PySem.W.Frag → Bool) (K : PySem.W.Frag) : AlG := ((fa.all fun f => f.ok K) && ((fn.all fun d => d.ok K) && ex K), fn.map fun d => fnA K (d.at_.adr K))
def valG (fn : List GD) : AlG := (true, fn.map GD.val)
def SaysG (fa : List Fa) (fn : List GD) (ex : PySem.W.Frag → Bool) (K : PySem.W.Frag) : Prop := obsG fa fn ex K = valG fn
section
variable {fa : List Fa} {fn : List GD} {ex : PySem.W.Frag → Bool} {K : PySem.W.Frag}
theorem SaysG.all (c : SaysG fa fn ex K) : ((fa.all fun f => f.ok K) && ((fn.all fun d => d.ok K) && ex K)) = true := congrArg (fun z : AlG => z.1) c
theorem SaysG.fact (c : SaysG fa fn ex K) (i : Nat) {f : Fa} (h : fa[i]? = some f := by rfl) : f.ok K = true := List.all_eq_true.mp (ba c.all).1 f (List.mem_of_getElem? h)
theorem SaysG.more (c : SaysG fa fn ex K) : ex K = true := (ba (ba c.all).2).2
theorem SaysG.def_ (c : SaysG fa fn ex K) (i : Nat) {d : GD} (h : fn[i]? = some d := by rfl) : ∃ fd, FunD K d.name d.qual d.params d.body d.scope [] [] (d.at_.adr K) fd := by
  have c2 := (ba (ba c.all).2).1
  have e : fn.map (fun d => fnA K (d.at_.adr K)) = fn.map GD.val := congrArg (fun z : AlG => z.2) c
  have e2 : (fn.map fun d => fnA K (d.at_.adr K))[i]? = (fn.map GD.val)[i]? := by rw [e]
  rw [List.getElem?_map, List.getElem?_map, h] at e2
  exact GD.funD (Option.some.inj e2) (List.all_eq_true.mp c2 d (List.mem_of_getElem? h))
end
end HookG

set_option Elab.async false
set_option linter.all false
set_option maxRecDepth 100000
set_option maxHeartbeats 2000000
/-! HookG's Hook over a lesser fragment: what the globals name, what is named by that, and so on; a function names its code and its defaults only -/
namespace HookG
open PySem PySem.Spec PyProof.Rows L2 He
def refsW (o : Obj) : List Addr := match o.data with
  | .func fd => refV fd.code ++ refV fd.defaults ++ refV fd.kwdefaults
  | _ => refsD o
def nxtW (g : Addr → Option Obj) (as : List Addr) : List Addr := as.flatMap fun a => match g a with
  | some o => refsW o
  | none => []
def levW (g : Addr → Option Obj) : Nat → List Addr → List Addr
  | 0, as => as
  | n + 1, as => as ++ levW g n (nxtW g as)
def asW (g : Addr → Option Obj) (n : Nat) : List Addr := levW g n [mainGlobals] ++ [cStatics]
def obsGW (n : Nat) (fa : List Fa) (fn : List GD) (ex : PySem.W.Frag → Bool) (g : Addr → Option Obj) : AlG := obsG fa fn ex (frG g (asW g n))
def hookW (n : Nat) (fa : List Fa) (fn : List GD) (ex : PySem.W.Frag → Bool) : PySem.W.Hook where
  α := AlG
  obs := fun s => obsGW n fa fn ex s.heap.get?
  val := fun _ => valG fn
  says := fun _ h => ∃ K : PySem.W.Frag, K.In h ∧ SaysG fa fn ex K
  of := fun _ _ e => ⟨_, frG_in, e⟩
  keeps := fun _ _ _ ⟨K, hK, c⟩ k => ⟨K, PySem.W.Frag.In.keeps hK k, c⟩
theorem obsGW_eq {n : Nat} {fa : List Fa} {fn : List GD} {ex : PySem.W.Frag → Bool} {g : Addr → Option Obj} {s : Shared} (h : ∀ a, g a = s.heap.get? a) : obsGW n fa fn ex g = (hookW n fa fn ex).obs s := by
  have e : g = s.heap.get? := funext h
  rw [e] <;> rfl
end HookG

set_option Elab.async false
set_option linter.all false
set_option maxRecDepth 100000
set_option maxHeartbeats 2000000
/-! enumerate(t), t a tuple -/
namespace EnumT
open PySem PySem.Spec PyProof.Rows L2
open AutoSeq1 (wpAny_loadPart')
section
variable {prog : Program} {w : World} {A : Around} {E : Value → Shared → Prop} {s : Shared}
end
end EnumT

set_option Elab.async false
set_option linter.all false
set_option maxRecDepth 100000
set_option maxHeartbeats 2000000
/-! the rules of OwnR, OwnL, over the facts of HookG -/
namespace OwnF
open PySem PySem.Spec PyProof.Rows L2 He SlX OwnR HookG
/-- what is asked of a class with slots -/
structure OC (K : PySem.W.Frag) (C : Addr) : Prop where
  scl : SCls K C
  sis : SIsi K C
  first : PySem.W.selfFirst K C = true
  ne : PySem.W.findIn K (.ref C) "__ne__" = some (some (.builtin "object.__ne__"))
  ntup : PySem.W.notFirst K C (.type "tuple") = true
  rmul : PySem.W.findIn K (.ref C) "__rmul__" = some none
  imul : PySem.W.findIn K (.type "int") "__mul__" = some (some (.builtin "int.__mul__"))
  irmul : PySem.W.findIn K (.type "int") "__rmul__" = some (some (.builtin "int.__rmul__"))
  isub : PySem.W.subIn K (.type "int") (.ref C) = some false
  kself : PySem.W.kitOne K (.ref C) (.ref C) = some true
  ktup : PySem.W.kitOne K (.type "tuple") (.ref C) = some false
  kint : PySem.W.kitOne K (.type "int") (.ref C) = some false
section
variable {X : Cx} {C g gl pp : Addr} {n : Nat} {sp spl : Sp} {fd fdl : FuncData} {ps psl : List Str} {f : Str} {e : Expr} {pos : Pos} {ta : TE}
theorem hx0 : ∀ (H : Hp) (s : Shared) (e : Value) (s' : Shared), CX0 X.stack H s E0 e s' → False := fun _ _ _ _ h => h
end
end OwnF

set_option Elab.async false
set_option linter.all false
set_option maxRecDepth 100000
set_option maxHeartbeats 2000000
/-! a method of an instance with slots -/
namespace OwnF
open PySem PySem.Spec PyProof.Rows L2 He SlX OwnR HookG
section
variable {X : Cx} {C g : Addr} {n : Nat} {sp : Sp} {fd : FuncData} {ps : List Str} {o e : Expr} {es : List Expr} {x : Str} {pos apos : Pos} {ta : TE} {t : TA}
end
end OwnF

set_option Elab.async false
set_option linter.all false
set_option maxRecDepth 100000
set_option maxHeartbeats 2000000
/-! classmethods, classes in local names, xs[i] op= e -/
namespace OwnC
open PySem PySem.Spec PyProof.Rows L2 He SlX OwnR HookG OwnF
/-- C.m is a classmethod: its record at p, its def at g -/
structure Cm (K : PySem.W.Frag) (C : Addr) (m : Str) (p g : Addr) : Prop where
  rd : ClX.CRead K C (.type "type")
  cm : ClX.CMet K C (.type "type") m p g
section
variable {X : Cx} {C p g f : Addr} {n i : Nat} {sp : Sp} {fd : FuncData} {ps : List Str} {o e : Expr} {es : List Expr} {m x : Str} {pos apos pp : Pos} {ta : TE} {t : TA}
end
end OwnC

set_option Elab.async false
set_option linter.all false
set_option maxRecDepth 100000
set_option maxHeartbeats 2000000
/-! sequences that may be a list or a tuple: len, index, enumerate -/
namespace SeqE
open PySem PySem.Spec PyProof.Rows L2
/-- at a a list or a tuple with these items -/
def Sq (H : Hp) (a : Addr) (xs : List V) : Prop := H a = some (.tup xs) ∨ H a = some (.lst xs)
theorem Sq.same {H H' : Hp} {a : Addr} {xs : List V} (h : Sq H a xs) (s : Same H H') : Sq H' a xs := h.elim (fun e => .inl (s _ _ e)) fun e => .inr (s _ _ e)
theorem Sq.upd {H : Hp} {a p : Addr} {o : HO} {xs : List V} (h : Sq H a xs) (hp : H p = none) : Sq (upd H p o) a xs := by
  refine h.elim (fun e => .inl ?_) fun e => .inr ?_ <;> rw [upd_ne (ne_of_none e hp)] <;> exact e
theorem PI_or {X : Cx} {tg it : Expr} {t1 t2 : TI} (h1 : PI X tg it t1) (h2 : PI X tg it t2) : PI X tg it (fun σ H R => t1 σ H R ∨ t2 σ H R) :=
  ⟨fun pins s σ H R I h => h.elim (h1.run pins s σ H R I) (h2.run pins s σ H R I)⟩
end SeqE

set_option Elab.async false
set_option linter.all false
set_option maxRecDepth 100000
set_option maxHeartbeats 2000000
/-! a module's constant that is a tuple of ints; `n not in t` for a tuple of ints -/
namespace StatT
open PySem PySem.Spec PyProof.Rows L2 He HookG
def intsB : List Int → List Value → Bool
  | [], [] => true
  | i :: l, .int j _ :: us => decide (i = j) && intsB l us
  | _, _ => false
theorem intsB_ok : ∀ {l : List Int} {us : List Value}, intsB l us = true → Vals (l.map V.int) us
  | [], [], _ => .nil
  | i :: l, .int j t :: us, h => by
    obtain ⟨h1, h2⟩ := ba (show (decide (i = j) && intsB l us) = true from h)
    have e : i = j := of_decide_eq_true h1
    subst e
    exact .cons ⟨t, rfl⟩ (intsB_ok h2)
def tupB (K : PySem.W.Frag) (x : Str) (l : List Int) : Bool := eqO (PySem.W.nsIn K mainGlobals x) (some (some (.ref (ga K x)))) && (match K.lookup (ga K x) with
  | some ⟨.type "tuple", _, .seq its _, _⟩ => intsB l its.toList && decide (its.size ≤ 1000)
  | _ => false)
/-- x is a tuple of these ints -/
structure Tp (K : PySem.W.Frag) (mg : Str → Option Value) (x : Str) (l : List Int) (a : Addr) : Prop where
  g : mg x = some (.ref a)
  sq : ∀ H : Hp, SqT K H a (l.map V.int)
theorem tupB_ok {K : PySem.W.Frag} {h : Heap} {mg : Str → Option Value} {x : Str} {l : List Int} (X : K.In h) (G : h.Ns mainGlobals mg) (c : tupB K x l = true) : Tp K mg x l (ga K x) := by
  obtain ⟨c1, c2⟩ := ba c
  refine ⟨PySem.W.mg_of X G (eqO_ok c1), fun H => ?_⟩
  split at c2
  · rename_i od its n sl ho
    obtain ⟨c3, c4⟩ := ba c2
    have hz : its.size ≤ 1000 := of_decide_eq_true c4
    exact .inr ⟨_, its, n, ho, rfl, rfl, by rw [sizeLine_eq]; omega, intsB_ok c3⟩
  · cases c2
section
variable {X : Cx}
def rNotInTI (K : PySem.W.Frag) : V → V → Hp → VK → Prop := fun x y H Q => ∃ (i : Int) (a : Addr) (ns : List Int), x = .int i ∧ y = .ref a ∧ SqT K H a (ns.map V.int) ∧ Q (.bl (!ns.any (· == i))) H
def isI (i : Int) : Value → Bool
  | .int j _ => j == i
  | _ => false
theorem vals_any (i : Int) : ∀ {ns : List Int} {us : List Value}, Vals (ns.map V.int) us → us.any (isI i) = ns.any (· == i) ∧ ∀ y ∈ us, ∃ j t, y = .int j t
  | [], us, h => by
    cases h
    exact ⟨rfl, fun y hy => (nomatch hy)⟩
  | n :: ns, us, h => by
    cases h with
    | cons h1 h2 =>
      obtain ⟨t, rfl⟩ := h1
      obtain ⟨e, a⟩ := vals_any i h2
      refine ⟨by rw [List.any_cons, List.any_cons, e]; rfl, fun y hy => ?_⟩
      rcases List.mem_cons.mp hy with rfl | hy
      · exact ⟨n, t, rfl⟩
      · exact a y hy
theorem op_notInTI : OpR X (compareOp .NotIn) (rNotInTI X.K) := by
  intro pins s σ H x y v u Q I rx ry h
  obtain ⟨i, a, ns, rfl, rfl, ha, q⟩ := h
  obtain ⟨t, rfl⟩ := rx
  obtain rfl : u = Value.ref a := ry
  obtain ⟨its, r, ht, _⟩ := I.tuple ha
  obtain ⟨e, al⟩ := vals_any i r
  refine SeqAt.notIn_tupleAt (isI i) ht (fun y hy => ?_) ?_
  · obtain ⟨j, tj, rfl⟩ := al y (by simpa using hy)
    exact SeqAt.EqAt.int_int j tj i t
  · rw [show its.toArray.any (isI i) = its.any (isI i) by simp, e]
    exact ⟨.bl _, H, I, rfl, q⟩
end
end StatT

set_option Elab.async false
set_option linter.all false
set_option maxRecDepth 100000
/-! x //= n for ints, n not 0 -/
namespace AugZ
open PySem PySem.Spec PyProof.Rows L2 MyR
variable {X : Cx}
theorem ip_fdivZ : PIp X .FloorDiv (fun x y H Q => ∃ i j, x = .int i ∧ y = .int j ∧ CDivZ i j ∧ Q (.int (i.fdiv j)) H) := by
  intro pins s σ H x y v u Q I r1 r2 h
  obtain ⟨i, j, e1, e2, hc, q⟩ := h
  subst e1; subst e2
  obtain ⟨t, rfl⟩ := r1
  obtain ⟨t', rfl⟩ := r2
  exact ifloordiv_int hc.1 ⟨.int _, H, I.tok _, ⟨_, rfl⟩, q⟩ (.inl (PyProof.noPylong_of_log2 hc.2))
end AugZ

set_option Elab.async false
set_option linter.all false
set_option maxRecDepth 100000
set_option maxHeartbeats 2000000
/-! next(.. for .. in .. if .., default) -/
namespace GenNx
open PySem PySem.Spec PyProof.Rows L2 GxR EnumT
section
variable {prog : Program} {w : World} {A : Around} {E : Value → Shared → Prop} {s : Shared} {I : Addr} {fp wr : List Addr} {G : Array GenState → Array GenState → Prop} {n : Nat} {Pv : Nat → Value → Prop} {St : Nat → Shared → Prop}
end
/-- the generator expression's own scope: its names xa, xb -/
structure GenS2 (env : Env) (scope : Scope) (xa xb : Str) : Prop where
  kind : scope.kind = .function
  co : scope.isCoroutine = false
  cell : ∀ y ∈ scope.names, y.2 ≠ .cell
  dot : scope.names.lookup (".0" : Str) = some NameKind.local
  la : scope.names.lookup xa = some .local
  lb : scope.names.lookup xb = some .local
  ab : xa ≠ xb
  free : ∀ y ∈ scope.names, y.2 = .free → ∃ c, env.cells.lookup y.1 = some c
theorem GenS2.of {env : Env} {scope : Scope} {xa xb : Str} (h1 : scope.kind = .function) (h2 : scope.isCoroutine = false) (h3 : ∀ y ∈ scope.names, y.2 ≠ .cell ∧ y.2 ≠ .free) (h4 : scope.names.lookup (".0" : Str) = some NameKind.local) (h5 : scope.names.lookup xa = some .local) (h6 : scope.names.lookup xb = some .local) (h7 : xa ≠ xb) : GenS2 env scope xa xb :=
  ⟨h1, h2, fun y hy => (h3 y hy).1, h4, h5, h6, h7, fun y hy z => absurd z (h3 y hy).2⟩
section
variable {X : Cx} {pins : List (Addr × Obj)} {σ : L2.St} {H : Hp} {s : Shared}
end
end GenNx

set_option Elab.async false
set_option linter.all false
set_option maxRecDepth 100000
set_option maxHeartbeats 2000000
/-! l.count(x) of data, sorted(set) of pairs of ints -/
namespace TupC
open PySem PySem.Spec PyProof.Rows L2
section
variable {X : Cx}
end
section
variable {P : Program} {w : World} {A : Around} {E : Value → Shared → Prop} {s : Shared}
end
section
variable {X : Cx}
end
end TupC

set_option Elab.async false
set_option linter.all false
set_option maxRecDepth 100000
set_option maxHeartbeats 2000000
/-! list(zip(*t)), t a tuple of two tuples -/
namespace ZipL
open PySem PySem.Spec PyProof.Rows L2 RZ
theorem nolen_zip : typeLookup (.type "zip") "__len__" = pure none := by rw [typeLookup_type, builtinLookup_eq_fast]; kernel_rfl
theorem nohint_zip : typeLookup (.type "zip") "__length_hint__" = pure none := by rw [typeLookup_type, builtinLookup_eq_fast]; kernel_rfl
/-! ### zip of two tuples, its tuple still out -/
section
variable {prog : Program} {w : World} {A : Around} {E : Value → Shared → Prop} {s : Shared}

theorem itemH {z TI TO T i1 i2 l1 l2 : Addr} {f : Bool} {oT : Obj} {k1 k2 : Nat} {xs ys : Array Value} {x y : Value} {Q : Value → Shared → Prop} (D : ZipApart z TI TO i1 i2 l1 l2)
    (hz : IsZipHeld s.heap z TI TO T f) (hT : s.heap.get? T = some oT) (hTI : IsPair s.heap TI (.ref i1) (.ref i2))
    (h1 : s.heap.IsTupleIter i1 l1 k1) (h2 : s.heap.IsTupleIter i2 l2 k2) (hl1 : s.heap.IsTuple l1 xs) (hl2 : s.heap.IsTuple l2 ys) (hx : xs[k1]? = some x) (hy : ys[k2]? = some y)
    (hQ : ∀ h', IsZipHeld h' z TI TO T true → h'.IsTupleIter i1 l1 (k1 + 1) → h'.IsTupleIter i2 l2 (k2 + 1) → IsPair h' s.heap.objs.size x y → h'.objs.size = s.heap.objs.size + 1 →
      (∀ c o, c ≠ z → c ≠ i1 → c ≠ i2 → s.heap.get? c = some o → h'.get? c = some o) → Q (.ref s.heap.objs.size) { s with heap := h' }) :
    wpAny (model prog w) A (Builtin.«zip.__next__» ⟨[.ref z], []⟩) (fun fin s' => ∃ v, fin = .done (.ret v) ∧ Q v s') E s := by
  show wpAny _ _ (field (.ref z) 2 >>= _) _ _ _
  refine wpAny_bind (wpAny_field hz rfl (x := .bool false) rfl ?_)
  show wpAny _ _ (field (.ref z) 3 >>= _) _ _ _
  refine wpAny_bind (wpAny_field hz rfl (x := .ref TI) rfl ?_)
  refine wpAny_bind (wpAny_seqItems hTI rfl ?_)
  show wpAny _ _ (Builtin.SmallTypes.ownedTupleIsFree (.ref z) >>= _) _ _ _
  refine wpAny_bind (wpAny_tupleHeld_zip hz hT fun h₁ hz₁ hs₁ => ?_)
  simp only [Bool.false_eq_true, if_false]
  refine wpAny_bind ?_
  rw [← Array.forIn_toList]
  simp only [List.forIn_cons, List.forIn_nil]
  refine wpAny_bind (wpAny_bind (wpAny_holding ?_))
  show wpAny _ _ (Builtin.SmallTypes.nextOf (.ref i1) >>= _) _ _ _
  refine wpAny_bind (nextOf_tuple_item (s := { s with heap := h₁ }) (h1.extBut hs₁.extBut D.i1z) (hl1.extBut hs₁.extBut D.l1z) hx fun h₂ h1₂ hs₂ => wpAny_pure ?_)
  refine wpAny_pure ?_
  refine wpAny_bind (wpAny_bind (wpAny_holding ?_))
  show wpAny _ _ (Builtin.SmallTypes.nextOf (.ref i2) >>= _) _ _ _
  refine wpAny_bind (nextOf_tuple_item (s := { s with heap := h₂ }) ((h2.extBut hs₁.extBut D.i2z).extBut hs₂.extBut D.i12.symm) ((hl2.extBut hs₁.extBut D.l2z).extBut hs₂.extBut D.l2i1) hy fun h₃ h2₃ hs₃ => wpAny_pure ?_)
  refine wpAny_pure (wpAny_pure ?_)
  show wpAny _ _ (newTuple [x, y] >>= _) _ _ _
  refine wpAny_bind (wpAny_newTuple ?_)
  have hsz : h₃.objs.size = s.heap.objs.size := by rw [hs₃.1, hs₂.1, hs₁.1]
  have hz₃ : IsZipHeld h₃ z TI TO T true := hs₃.extBut _ _ D.i2z.symm (hs₂.extBut _ _ D.i1z.symm hz₁)
  have hk : ∀ c o, c ≠ z → c ≠ i1 → c ≠ i2 → s.heap.get? c = some o → h₃.get? c = some o := fun c o c1 c2 c3 e => hs₃.extBut _ _ c3 (hs₂.extBut _ _ c2 (hs₁.extBut _ _ c1 e))
  have h1₃ : h₃.IsTupleIter i1 l1 (k1 + 1) := h1₂.extBut hs₃.extBut D.i12
  refine wpAny_pure ⟨_, rfl, ?_⟩
  show Q (.ref h₃.objs.size) _
  have hp : IsPair (h₃.push { cls := .type "tuple", data := .seq #[x, y] }) h₃.objs.size x y := Heap.get?_push_size _ rfl
  have hz4 : (h₃.push { cls := .type "tuple", data := .seq #[x, y] }).objs.size = h₃.objs.size + 1 := Heap.size_push ..
  rw [hsz] at hp hz4 ⊢
  exact hQ _ (Heap.get?_push_of_some _ hz₃) (h1₃.at fun o e => Heap.get?_push_of_some _ e) (h2₃.at fun o e => Heap.get?_push_of_some _ e) hp hz4 fun c o c1 c2 c3 e => Heap.get?_push_of_some _ (hk c o c1 c2 c3 e)

theorem endH {z TI TO T i1 i2 l1 l2 : Addr} {f : Bool} {oT : Obj} {k1 k2 : Nat} {xs ys : Array Value} {Q : Fin → Shared → Prop} (hh : A.handled = none) (D : ZipApart z TI TO i1 i2 l1 l2)
    (hz : IsZipHeld s.heap z TI TO T f) (hT : s.heap.get? T = some oT) (hTI : IsPair s.heap TI (.ref i1) (.ref i2))
    (h1 : s.heap.IsTupleIter i1 l1 k1) (hl1 : s.heap.IsTuple l1 xs) (hend : xs[k1]? = none)
    (hE : ∀ h' e, (∀ c o, c ≠ z → c ≠ i1 → c ≠ i2 → s.heap.get? c = some o → h'.get? c = some o) → (∃ o, h'.get? e = some o ∧ o.cls = .type "StopIteration") → E (.ref e) { s with heap := h' }) :
    wpAny (model prog w) A (Builtin.«zip.__next__» ⟨[.ref z], []⟩) Q E s := by
  show wpAny _ _ (field (.ref z) 2 >>= _) _ _ _
  refine wpAny_bind (wpAny_field hz rfl (x := .bool false) rfl ?_)
  show wpAny _ _ (field (.ref z) 3 >>= _) _ _ _
  refine wpAny_bind (wpAny_field hz rfl (x := .ref TI) rfl ?_)
  refine wpAny_bind (wpAny_seqItems hTI rfl ?_)
  show wpAny _ _ (Builtin.SmallTypes.ownedTupleIsFree (.ref z) >>= _) _ _ _
  refine wpAny_bind (wpAny_tupleHeld_zip hz hT fun h₁ hz₁ hs₁ => ?_)
  simp only [Bool.false_eq_true, if_false]
  refine wpAny_bind ?_
  rw [← Array.forIn_toList]
  simp only [List.forIn_cons, List.forIn_nil]
  refine wpAny_bind (wpAny_bind (wpAny_holding ?_))
  show wpAny _ _ (Builtin.SmallTypes.nextOf (.ref i1) >>= _) _ _ _
  refine wpAny_bind (nextOf_tuple_end (s := { s with heap := h₁ }) hh (h1.extBut hs₁.extBut D.i1z) (hl1.extBut hs₁.extBut D.l1z) hend fun h₂ e hs₂ he => ?_)
  exact hE h₂ e (fun c o c1 c2 _ x => hs₂ _ _ c2 (hs₁.extBut _ _ c1 x)) he
/-- the zip's state: its tuple is free, or out -/
def ZS (h : Heap) (z TI TO i1 i2 : Addr) : Prop := (IsZip h z TI TO .none ∧ ∃ a b, IsPair h TO a b) ∨ ∃ T f oT, PySem.IsZipHeld h z TI TO T f ∧ h.get? T = some oT ∧ T ≠ z ∧ T ≠ TO ∧ T ≠ i1 ∧ T ≠ i2
theorem next_item {z TI TO i1 i2 l1 l2 : Addr} {k1 k2 : Nat} {xs ys : Array Value} {x y : Value} {Q : Option Value → Shared → Prop} (D : ZipApart z TI TO i1 i2 l1 l2)
    (hz : ZS s.heap z TI TO i1 i2) (hTI : IsPair s.heap TI (.ref i1) (.ref i2))
    (h1 : s.heap.IsTupleIter i1 l1 k1) (h2 : s.heap.IsTupleIter i2 l2 k2) (hl1 : s.heap.IsTuple l1 xs) (hl2 : s.heap.IsTuple l2 ys) (hx : xs[k1]? = some x) (hy : ys[k2]? = some y)
    (hTOl : TO < s.heap.objs.size)
    (hQ : ∀ h', ZS h' z TI TO i1 i2 → h'.IsTupleIter i1 l1 (k1 + 1) → h'.IsTupleIter i2 l2 (k2 + 1) → IsPair h' s.heap.objs.size x y → h'.objs.size = s.heap.objs.size + 1 →
      (∀ c o, c ≠ z → c ≠ TO → c ≠ i1 → c ≠ i2 → s.heap.get? c = some o → h'.get? c = some o) → Q (some (.ref s.heap.objs.size)) { s with heap := h' }) :
    wpAny (model prog w) A (pyNext (.ref z)) Q E s := by
  have l1lt : i1 < s.heap.objs.size := by obtain ⟨_, e, _⟩ := h1; exact Heap.lt_size e
  have l2lt : i2 < s.heap.objs.size := by obtain ⟨_, e, _⟩ := h2; exact Heap.lt_size e
  rcases hz with ⟨hz, a, b, hTO⟩ | ⟨T, f, oT, hz, hT, t1, t2, t3, t4⟩
  · have hzl : z < s.heap.objs.size := Heap.lt_size hz
    exact pyNext_zipT_item D hz hTI hTO h1 h2 hl1 hl2 hx hy fun h' z' TO' h1' h2' hT hsz hk => hQ h' (.inr ⟨_, false, _, z', hT, Nat.ne_of_gt hzl, Nat.ne_of_gt hTOl, Nat.ne_of_gt l1lt, Nat.ne_of_gt l2lt⟩) h1' h2' hT hsz hk
  · have hTy : s.TypeIs (.ref z) "zip" := ⟨_, hz, rfl⟩
    unfold pyNext
    exact wpAny_bind (wpAny_attempt (wpAny_callSpecial?_slot (name := Str.ofString "__next__") hTy F.slot_zip_next
      (wpAny_call_entry F.slot_zip_next hTy F.entry_zip_next
        (itemH D hz hT hTI h1 h2 hl1 hl2 hx hy fun h' a1 a3 a4 a5 a6 a7 => wpAny_pure (hQ h' (.inr ⟨T, true, oT, a1, a7 T oT t1 t3 t4 hT, t1, t2, t3, t4⟩) a3 a4 a5 a6 fun c o c1 _ c3 c4 e => a7 c o c1 c3 c4 e)) (F.args_zip_next_1 _))))
theorem next_end {z TI TO i1 i2 l1 l2 : Addr} {k1 k2 : Nat} {xs ys : Array Value} {Q : Option Value → Shared → Prop} (hh : A.handled = none) (D : ZipApart z TI TO i1 i2 l1 l2)
    (hz : ZS s.heap z TI TO i1 i2) (hTI : IsPair s.heap TI (.ref i1) (.ref i2)) (h1 : s.heap.IsTupleIter i1 l1 k1) (h2 : s.heap.IsTupleIter i2 l2 k2) (hl1 : s.heap.IsTuple l1 xs) (hl2 : s.heap.IsTuple l2 ys) (hend : xs[k1]? = none)
    (hQ : ∀ h', (∀ c o, c ≠ z → c ≠ TO → c ≠ i1 → c ≠ i2 → s.heap.get? c = some o → h'.get? c = some o) → Q none { s with heap := h' }) : wpAny (model prog w) A (pyNext (.ref z)) Q E s := by
  rcases hz with ⟨hz, a, b, hTO⟩ | ⟨T, f, oT, hz, hT, t1, t2, t3, t4⟩
  · exact pyNext_zipT_end hh D hz hTI hTO h1 h2 hl1 hl2 (.inl hend) hQ
  · have hTy : s.TypeIs (.ref z) "zip" := ⟨_, hz, rfl⟩
    unfold pyNext
    refine wpAny_bind (wpAny_attempt (wpAny_callSpecial?_slot (name := Str.ofString "__next__") hTy F.slot_zip_next
      (wpAny_call_entry F.slot_zip_next hTy F.entry_zip_next (endH (k2 := 0) (ys := #[]) hh D hz hT hTI h1 hl1 hend fun h' e hk he => ?_) (F.args_zip_next_1 _))))
    obtain ⟨o, ho, hc⟩ := he
    refine wpAny_bind (wpAny_isInstance (T := "StopIteration") (b := true) ⟨o, ho, hc⟩ isSubtype_stop ?_)
    exact wpAny_pure (hQ _ fun c o c1 _ c3 c4 e => hk c o c1 c3 c4 e)
end

abbrev lo (acc : Array Value) (c : Nat) : Obj := { cls := .type "list", dict := none, data := .seq acc c, slots := #[] }
section
variable {X : Cx} {pins : List (Addr × Obj)} {σ : L2.St} {H : Hp} {s : Shared}
/-- a list that was made behind the heap is known from now on -/
theorem adopt {S : Addr} {acc : Array Value} {c : Nat} {out : List V} (I : Inv X pins σ H s) (hf : FpOk X pins H S) (e : s.heap.get? S = some (lo acc c)) (r : Vals out acc.toList) (hlen : out.length ≤ sizeLine) : Inv X pins σ (upd H S (.lst out)) s := by
  have hn := hf.1
  refine I.call' (ch := [S]) rfl ⟨fun b ob q n hb hx => q, fun b ob q n hb hx => ⟨ob.slots, q⟩, fun b ob q n hx => ?_, fun b ob q hx => ⟨ob, q⟩, fun b xs q => ?_, fun b ob y q => ?_, fun b qs q => ⟨#[], ?_⟩⟩ (fun b u q => ?_) I.bare (fun b hb => ?_)
  · rw [upd_ne (by simpa using hx)]; exact n
  · rw [upd_ne (ne_of_none q hn)]; exact q
  · rw [upd_ne (ne_of_none q hn)]; exact q
  · rw [upd_ne (ne_of_none q hn), q]; simp
  · by_cases hb : b = S
    · subst hb
      rw [upd_same] at q
      cases q
      exact ⟨hlen, acc.toList, c, r, by rw [e]⟩
    · rw [upd_ne hb] at q
      exact (I.hok b u q).stay (fun _ _ _ z => z) (fun d z => by rw [upd_ne (ne_of_none z hn)]; exact z) fun d xs z => by rw [upd_ne (ne_of_none z hn)]; exact z
  · rw [List.mem_singleton.mp hb]
    exact ⟨hf.2.2.2.1, hf.2.1, hf.2.2.2.2.1, hf.2.2.2.2.2⟩
theorem fpOk_upd {T b : Addr} {o : HO} (h : FpOk X pins H b) (n : b ≠ T) : FpOk X pins (upd H T o) b := ⟨by rw [upd_ne n]; exact h.1, h.2⟩
/-- the columns so far -/
def Cols (H : Hp) (xs ys : List V) (ts : List Addr) : Prop := ∀ (j : Nat) (t : Addr), ts[j]? = some t → ∃ x y, xs[j]? = some x ∧ ys[j]? = some y ∧ H t = some (.tup [x, y])
theorem zip_loop (hc : X.calm = true) {a b z TI TO i1 i2 S : Addr} {A : Around} {R : Result → Shared → Prop} {res : Value} (hA : A.handled = none) (D : ZipApart z TI TO i1 i2 a b) {xs ys : List V} (hl : xs.length = ys.length) (hn : xs.length ≤ 1000)
    (hS : S ∉ [z, TI, TO, i1, i2]) :
    ∀ (k i : Nat) (H : Hp) (s : Shared) (acc : Array Value) (c : Nat) (ts : List Addr), xs.length - i = k → i ≤ xs.length → Inv X pins σ H s → SqT X.K H a xs → SqT X.K H b ys →
      ZS s.heap z TI TO i1 i2 → TO < s.heap.objs.size → z < s.heap.objs.size → IsPair s.heap TI (.ref i1) (.ref i2) → s.heap.IsTupleIter i1 a i → s.heap.IsTupleIter i2 b i → (∀ b ∈ [z, TI, TO, i1, i2, S], FpOk X pins H b) →
      s.heap.get? S = some (lo acc c) → acc.toList = ts.map Value.ref → ts.length = i → Cols H xs ys ts →
      (∀ H' s' acc' c' ts', (∀ b o, H b = some o → H' b = some o) → Inv X pins σ H' s' → FpOk X pins H' S → s'.heap.get? S = some (lo acc' c') → acc'.toList = ts'.map Value.ref → ts'.length = xs.length → Cols H' xs ys ts' → R (.ok (.ret res)) s') →
      codeAny (model X.prog X.w) A (.builtin "list.extend.loop" ⟨[.ref S, .ref z, res], []⟩) R s := by
  intro k
  induction k with
  | zero =>
    intro i H s acc c ts hk hi I ha hb hz hTOl hzl hTI h1 h2 hf hSl hacc hts hcol hR
    have hin : i = xs.length := by omega
    obtain ⟨its, rv, p, _⟩ := I.tuple ha
    obtain ⟨its2, rv2, p2, _⟩ := I.tuple hb
    have l1 := rv.length
    refine codeAny_builtin F.entry_extend_loop ?_
    rw [Around.under_plainId F.plain_extend_loop _]
    show wpAny _ A.in1 (pyNext (.ref z) >>= _) _ _ s
    refine wpAny_bind (next_end hA D hz hTI h1 h2 p p2 (by simp; omega) fun h' hkk => ?_)
    have hS' : ∀ w, w ∈ [z, TI, TO, i1, i2] → S ≠ w := fun w hw e => hS (e ▸ hw)
    refine wpAny_pure (show R (.ok (.ret res)) { s with heap := h' } from hR H _ acc c ts (fun _ _ e => e) (I.turnedL (t' := s.toks) (ch := [z, TI, TO, i1, i2]) (fun c o hb q => hkk c o (fun q' => hb (by simp [q'])) (fun q' => hb (by simp [q'])) (fun q' => hb (by simp [q'])) (fun q' => hb (by simp [q'])) q) fun w hw => hf w (by simp only [List.mem_cons, List.not_mem_nil, or_false] at hw ⊢; rcases hw with e | e | e | e | e <;> simp [e])) (hf S (by simp)) ?_ hacc (by omega) hcol)
    exact hkk S _ (hS' z (by simp)) (hS' TO (by simp)) (hS' i1 (by simp)) (hS' i2 (by simp)) hSl
  | succ k ih =>
    intro i H s acc c ts hk hi I ha hb hz hTOl hzl hTI h1 h2 hf hSl hacc hts hcol hR
    have hlt : i < xs.length := by omega
    have hlt2 : i < ys.length := by omega
    obtain ⟨its, rv, p, _⟩ := I.tuple ha
    obtain ⟨its2, rv2, p2, _⟩ := I.tuple hb
    obtain ⟨u, hu, ru⟩ := rv.get (List.getElem?_eq_getElem hlt)
    obtain ⟨u2, hu2, ru2⟩ := rv2.get (List.getElem?_eq_getElem hlt2)
    have hS' : ∀ w, w ∈ [z, TI, TO, i1, i2] → S ≠ w := fun w hw e => hS (e ▸ hw)
    refine codeAny_builtin F.entry_extend_loop ?_
    rw [Around.under_plainId F.plain_extend_loop _]
    show wpAny _ A.in1 (pyNext (.ref z) >>= _) _ _ s
    refine wpAny_bind (next_item D hz hTI h1 h2 p p2 (x := u) (y := u2) (by simpa using hu) (by simpa using hu2) hTOl fun h' z' h1' h2' hT hsz hkk => ?_)
    have hSl' : h'.get? S = some (lo acc c) := hkk S _ (hS' z (by simp)) (hS' TO (by simp)) (hS' i1 (by simp)) (hS' i2 (by simp)) hSl
    have accSz : acc.size = i := by
      rw [← Array.length_toList, hacc, List.length_map, hts]
    show wpAny _ A.in1 (updateSeq S (·.push (.ref s.heap.objs.size)) >>= _) _ _ _
    refine wpAny_bind ?_
    refine wpAny_updateSeq hSl' rfl (wpAny_pure ⟨plainId_quiet F.plain_extend_loop _, ?_⟩) (Nat.le_trans (by omega) (show 1000 ≤ sizeLine by decide)) (Nat.le_trans (by rw [Array.size_push]; omega) (show 1000 ≤ sizeLine + 1 by decide))
    have T_ne : ∀ w o, s.heap.get? w = some o → w ≠ s.heap.objs.size := fun w o q => Nat.ne_of_lt (Heap.lt_size q)
    have up : ∀ w o, w ≠ S → h'.get? w = some o → (h'.update S (Obj.mapSeq (·.push (.ref s.heap.objs.size)))).get? w = some o := fun w o nw q => (Heap.get?_update_other _ _ (Ne.symm nw)).trans q
    have nST : S ≠ s.heap.objs.size := T_ne S _ hSl
    have new : ObjOk X.prog X.w (upd H s.heap.objs.size (.tup [xs[i], ys[i]])) (h'.update S (Obj.mapSeq (·.push (.ref s.heap.objs.size)))) s.heap.objs.size (.tup [xs[i], ys[i]]) :=
      ⟨by show 2 ≤ sizeLine; decide, [u, u2], .cons ru (.cons ru2 .nil), ⟨_, up _ _ (Ne.symm nST) hT, rfl, _, rfl⟩⟩
    have I1 : Inv X pins σ (upd H s.heap.objs.size (.tup [xs[i], ys[i]])) { s with heap := h'.update S (Obj.mapSeq (·.push (.ref s.heap.objs.size))) } :=
      I.turnedNew (t' := s.toks) (ch := [z, TI, TO, i1, i2, S]) (fun c o hb q => up c o (fun q' => hb (by simp [q'])) (hkk c o (fun q' => hb (by simp [q'])) (fun q' => hb (by simp [q'])) (fun q' => hb (by simp [q'])) (fun q' => hb (by simp [q'])) q)) hf (Nat.le_refl _) new
    have nT : H s.heap.objs.size = none := I.hok.fresh (Nat.le_refl _)
    have sm : ∀ b o, H b = some o → upd H s.heap.objs.size (.tup [xs[i], ys[i]]) b = some o := fun b o e => by
      rw [upd_ne (ne_of_none e nT)]
      exact e
    have sqt : ∀ {w : Addr} {vs : List V}, SqT X.K H w vs → SqT X.K (upd H s.heap.objs.size (.tup [xs[i], ys[i]])) w vs := fun {w vs} h => by
      rcases h with (h | ⟨u, h⟩) | h
      · exact .inl (.inl (sm _ _ h))
      · exact .inl (.inr ⟨u, sm _ _ h⟩)
      · exact .inr h
    have there : ∀ w ∈ [z, TI, TO, i1, i2, S], w ≠ s.heap.objs.size := fun w hw => by
      obtain ⟨o1, e1, _⟩ := h1
      obtain ⟨o2, e2, _⟩ := h2
      simp only [List.mem_cons, List.not_mem_nil, or_false] at hw
      rcases hw with q | q | q | q | q | q <;> rw [q]
      · exact Nat.ne_of_lt hzl
      · exact T_ne _ _ hTI
      · exact Nat.ne_of_lt hTOl
      · exact T_ne _ _ e1
      · exact T_ne _ _ e2
      · exact nST
    have neS : ∀ w, w ∈ [z, TI, TO, i1, i2] → w ≠ S := fun w hw => Ne.symm (hS' w hw)
    refine ih (i + 1) _ _ (acc.push (.ref s.heap.objs.size)) _ (ts ++ [s.heap.objs.size]) (by omega) hlt I1 (sqt ha) (sqt hb) ?_ ?_ ?_ (up _ _ (neS TI (by simp)) ?_) (h1'.at fun o q => up _ _ (neS i1 (by simp)) q) (h2'.at fun o q => up _ _ (neS i2 (by simp)) q) (fun w hw => fpOk_upd (hf w hw) (there w hw)) (Heap.get?_update_self _ hSl' rfl) ?_ ?_ ?_ ?_
    · rcases z' with ⟨q1, a1, b1, q2⟩ | ⟨T, f, oT, q1, q2, t1, t2, t3, t4⟩
      · exact .inl ⟨up _ _ (neS z (by simp)) q1, a1, b1, up _ _ (neS TO (by simp)) q2⟩
      · by_cases c : T = S
        · exact .inr ⟨T, f, _, up _ _ (neS z (by simp)) q1, by rw [c]; exact Heap.get?_update_self _ hSl' rfl, t1, t2, t3, t4⟩
        · exact .inr ⟨T, f, oT, up _ _ (neS z (by simp)) q1, up _ _ c q2, t1, t2, t3, t4⟩
    · show TO < (h'.update S _).objs.size
      rw [Heap.size_update, hsz]
      exact Nat.lt_succ_of_lt hTOl
    · show z < (h'.update S _).objs.size
      rw [Heap.size_update, hsz]
      exact Nat.lt_succ_of_lt hzl
    · exact hkk _ _ D.TIz D.TITO D.TIi1 D.TIi2 hTI
    · rw [Array.toList_push, hacc, List.map_append]
      rfl
    · rw [List.length_append, hts]
      rfl
    · intro j t hj
      by_cases c : j < ts.length
      · rw [List.getElem?_append_left c] at hj
        obtain ⟨x, y, e1, e2, e3⟩ := hcol j t hj
        exact ⟨x, y, e1, e2, sm _ _ e3⟩
      · have hj2 := (List.getElem?_eq_some_iff.mp hj).1
        rw [List.length_append] at hj2
        have : [s.heap.objs.size].length = 1 := rfl
        have ej : j = i := by omega
        subst ej
        rw [← hts, List.getElem?_append_right (Nat.le_refl _), Nat.sub_self] at hj
        have ht : t = s.heap.objs.size := (Option.some.inj hj).symm
        rw [ht]
        exact ⟨_, _, List.getElem?_eq_getElem hlt, List.getElem?_eq_getElem hlt2, upd_same⟩
    · intro H' s' acc' c' ts' q1 q2 q3 q4 q5 q6 q7
      exact hR H' s' acc' c' ts' (fun b o e => q1 b o (sm b o e)) q2 q3 q4 q5 q6 q7

/-- a zip of two tuples, made and not begun -/
def ZMade (X : Cx) (pins : List (Addr × Obj)) (H : Hp) (xs ys : List V) (u : Value) (s : Shared) : Prop :=
  ∃ z TI TO i1 i2 a b, u = .ref z ∧ ZipApart z TI TO i1 i2 a b ∧ IsZip s.heap z TI TO .none ∧ IsPair s.heap TI (.ref i1) (.ref i2) ∧ (∃ p q, IsPair s.heap TO p q) ∧ s.heap.IsTupleIter i1 a 0 ∧ s.heap.IsTupleIter i2 b 0 ∧ SqT X.K H a xs ∧ SqT X.K H b ys ∧ ∀ c ∈ [z, TI, TO, i1, i2], FpOk X pins H c
theorem vals_refs : ∀ ts : List Addr, Vals (ts.map V.ref) (ts.map Value.ref)
  | [] => .nil
  | _ :: r => .cons rfl (vals_refs r)
theorem call_list_zip (hc : X.calm = true) {u : Value} {xs ys : List V} {A : Around} {Q' : Value → Shared → Prop} {E : Value → Shared → Prop} (hA : A.handled = none) (I : Inv X pins σ H s) (hl : xs.length = ys.length) (hn : xs.length ≤ 1000) (h : ZMade X pins H xs ys u s)
    (hQ : ∀ S s' H' ts, (∀ b o, H b = some o → H' b = some o) → ts.length = xs.length → Cols H' xs ys ts → H' S = none → Inv X pins σ (upd H' S (.lst (ts.map V.ref))) s' → Q' (.ref S) s') :
    wpAny (model X.prog X.w) A (call (.type "list") [u]) Q' E s := by
  obtain ⟨z, TI, TO, i1, i2, a, b, rfl, D, hz, hTI, ⟨p1, p2, hTO⟩, h1, h2, ha, hb, hf⟩ := h
  have zl : z < s.heap.objs.size := Heap.lt_size hz
  have til : TI < s.heap.objs.size := Heap.lt_size hTI
  have tol : TO < s.heap.objs.size := Heap.lt_size hTO
  have i1l : i1 < s.heap.objs.size := by obtain ⟨_, e, _⟩ := h1; exact Heap.lt_size e
  have i2l : i2 < s.heap.objs.size := by obtain ⟨_, e, _⟩ := h2; exact Heap.lt_size e
  have hSz : s.heap.objs.size ≠ z := Nat.ne_of_gt zl
  refine callType_codes (Q₁ := fun obj s₁ => obj = .ref s.heap.objs.size ∧ s₁ = { s with heap := s.heap.push { cls := .type "list", data := .seq #[] } }) F.called_list (F.typeCall_list_1 _) F.entry_list_init
    (code_list_new _ ⟨rfl, rfl⟩) fun obj s₁ h₁ => ?_
  obtain ⟨rfl, rfl⟩ := h₁
  have hS : (s.heap.push { cls := .type "list", data := .seq #[] }).get? s.heap.objs.size = some { cls := .type "list", data := .seq #[] } := Heap.get?_push_size _ rfl
  refine ⟨⟨_, hS, rfl⟩, F.args_list_init_2 _ _, ?_⟩
  show wpAny _ A.in1.in1 (do let old ← Builtin.List.listItems (.ref s.heap.objs.size); Builtin.List.listUpdate (.ref s.heap.objs.size) (fun _ => #[]); letGo old.toList.reverse; Builtin.List.listExtendWith (.ref s.heap.objs.size) (.ref z) .none) _ _ _
  refine wpAny_bind ?_
  unfold Builtin.List.listItems
  refine wpAny_bind (wpAny_seqItems hS rfl (wpAny_pure ?_))
  show wpAny _ A.in1.in1 (updateSeq s.heap.objs.size (fun _ => #[]) >>= fun _ => letGo (#[] : Array Value).toList.reverse >>= fun _ => Builtin.List.listExtendWith (.ref s.heap.objs.size) (.ref z) .none) _ _ _
  refine wpAny_bind (wpAny_updateSeq hS rfl ?_)
  have hS2 := Heap.get?_update_self (Obj.mapSeq (fun _ => (#[] : Array Value))) hS rfl
  refine wpAny_bind (wpAny_letGo ?_)
  unfold Builtin.List.listExtendWith
  have up : ∀ (h : Heap) (f : Obj → Obj), (∀ b o, s.heap.get? b = some o → h.get? b = some o) → ∀ b o, s.heap.get? b = some o → (h.update s.heap.objs.size f).get? b = some o := fun h f q b o e =>
    (Heap.get?_update_other _ _ (Ne.symm (Nat.ne_of_lt (Heap.lt_size e)))).trans (q b o e)
  have k1 : ∀ b o, s.heap.get? b = some o → (s.heap.push { cls := .type "list", data := .seq #[] }).get? b = some o := fun b o e => Heap.get?_push_of_some _ e
  have k2 := up _ (Obj.mapSeq (fun _ => (#[] : Array Value))) k1
  have gty : ∀ {h : Heap}, (∀ b o, s.heap.get? b = some o → h.get? b = some o) → Shared.TypeIs { s with heap := h } (.ref z) "zip" := fun {h} q => ⟨_, q _ _ hz, rfl⟩
  refine wpAny_bind (wpAny_typeOf (gty k2) ?_)
  have e1 : Builtin.List.listSameRef (.ref s.heap.objs.size) (.ref z) = false := by simp [Builtin.List.listSameRef, hSz]
  have e2 : (Value.type "zip" == Value.type "list") = false := by decide
  have e3 : (Value.type "zip" == Value.type "tuple") = false := by decide
  simp only [e1, e2, e3, Bool.or_false, Bool.false_eq_true, if_false]
  refine wpAny_bind (wpAny_pyIter_zip (s := { s with heap := _ }) (z := z) (TI := TI) (TO := TO) (f0 := .none) (k2 _ _ hz) ?_)
  refine wpAny_bind (wpAny_holding ?_)
  unfold Builtin.List.listLengthHint
  refine wpAny_bind (wpAny_specialOf (gty k2) nolen_zip ?_)
  show wpAny _ A.in1.in1 (specialOf (Value.ref z) (Str.ofString "__length_hint__") >>= _) _ _ _
  refine wpAny_bind (wpAny_specialOf (gty k2) nohint_zip ?_)
  refine wpAny_pure ?_
  show wpAny _ A.in1.in1 (rule "list.extend.makes-room" >>= fun _ => Builtin.List.listTouch (.ref s.heap.objs.size) >>= fun _ =>
    again (.builtin "list.extend.loop" ⟨[.ref s.heap.objs.size, .ref z, .none], []⟩)) _ _ _
  refine wpAny_bind (wpAny_rule ?_)
  refine wpAny_bind ?_
  show wpAny _ A.in1.in1 (updateSeq s.heap.objs.size (·.push .none) >>= fun _ => updateSeq s.heap.objs.size (·.pop)) _ _ _
  refine wpAny_bind (wpAny_updateSeq hS2 rfl ?_)
  have hS3 := Heap.get?_update_self (Obj.mapSeq (·.push Value.none)) hS2 rfl
  refine wpAny_updateSeq (hz := by seq_fits) hS3 rfl ?_
  have hS4 := Heap.get?_update_self (Obj.mapSeq (·.pop)) hS3 rfl
  have k4 := up _ (Obj.mapSeq (·.pop)) (up _ (Obj.mapSeq (·.push Value.none)) k2)
  refine wpAny_pure ⟨plainId_quiet F.plain_extend_loop _, ?_⟩
  refine zip_loop hc (A := A.in1) (pins := pins) (σ := σ) hA D hl hn (S := s.heap.objs.size) ?_ xs.length 0 H _ #[] _ [] rfl (Nat.zero_le _) (I.kept (t' := s.toks) k4) ha hb (.inl ⟨k4 _ _ hz, p1, p2, k4 _ _ hTO⟩) (Heap.lt_size (k4 _ _ hTO)) (Heap.lt_size (k4 _ _ hz)) (k4 _ _ hTI) (h1.at fun o e => k4 _ o e) (h2.at fun o e => k4 _ o e) ?_ hS4 rfl rfl (fun j t e => (nomatch e)) ?_
  · intro hm
    simp only [List.mem_cons, List.not_mem_nil, or_false] at hm
    rcases hm with e | e | e | e | e
    · exact absurd e (Nat.ne_of_gt zl)
    · exact absurd e (Nat.ne_of_gt til)
    · exact absurd e (Nat.ne_of_gt tol)
    · exact absurd e (Nat.ne_of_gt i1l)
    · exact absurd e (Nat.ne_of_gt i2l)
  · intro w hw
    simp only [List.mem_cons, List.not_mem_nil, or_false] at hw
    rcases hw with e | e | e | e | e | e
    · exact hf w (by simp [e])
    · exact hf w (by simp [e])
    · exact hf w (by simp [e])
    · exact hf w (by simp [e])
    · exact hf w (by simp [e])
    · rw [e]
      exact I.fpOk (Nat.le_refl _) (I.hok.fresh (Nat.le_refl _))
  · intro H' s' acc' c' ts' q1 I' q2 q3 q4 q5 q6
    refine ⟨rfl, hQ _ s' H' ts' q1 q5 q6 q2.1 (adopt I' q2 q3 ?_ ?_)⟩
    · rw [q4]
      exact vals_refs ts'
    · rw [List.length_map, q5]
      exact Nat.le_trans hn (by decide)
end
def tZipS (K : PySem.W.Frag) (te : TE) : TE := fun σ H Q => te σ H fun x H1 => ∃ (p a b : Addr) (xs ys : List V), x = V.ref p ∧ SqT K H1 p [V.ref a, V.ref b] ∧ SqT K H1 a xs ∧ SqT K H1 b ys ∧ xs.length = ys.length ∧ xs.length ≤ 1000 ∧
  ∀ (S : Addr) (H' : Hp) (ts : List Addr), (∀ b o, H1 b = some o → H' b = some o) → ts.length = xs.length → Cols H' xs ys ts → H' S = none → Q (.ref S) (upd H' S (.lst (ts.map V.ref)))
section
variable {X : Cx} {e : Expr} {te : TE} {p p2 sp pos pos2 : Pos}
theorem pe_listZipS (hc : X.calm = true) (he : PE X e te) (hgl : Gl X "list") (hml : X.mg "list" = none) (hgz : Gl X "zip") (hmz : X.mg "zip" = none)
    (hst : starEach [.Starred e sp] X.env = [(true, eval e X.env)] := by rfl)
    (hs : starEach [.Call (.Name "zip" p2) [.Starred e sp] [] pos2] X.env = (false, eval (.Call (.Name "zip" p2) [.Starred e sp] [] pos2) X.env) :: starEach [] X.env := by rfl) :
    PE X (.Call (.Name "list" p) [.Call (.Name "zip" p2) [.Starred e sp] [] pos2] [] pos) (tZipS X.K te) := by
  refine ⟨fun pins s σ H Q I hq => ?_⟩
  refine wpAny_Call_Name_kw (ld_blt I hgl hml (show bootBuiltins "list" = some (.type "list") by decide +kernel) ?_ (by decide) (by decide))
  refine PyProof.Rows.callWith_type1 ?_ hs rfl
  rw [hs]
  show wpAny _ _ (spliced ((false, eval (.Call (.Name "zip" p2) [.Starred e sp] [] pos2) X.env) :: backTo pos (starEach [] X.env))) _ _ s
  refine Calls.spliced_cons (wpAny_mono (Q := fun u s' => ∃ H1 xs ys, Inv X pins σ H1 s' ∧ ZMade X pins H1 xs ys u s' ∧ xs.length = ys.length ∧ xs.length ≤ 1000 ∧ ∀ (S : Addr) (H' : Hp) (ts : List Addr), (∀ b o, H1 b = some o → H' b = some o) → ts.length = xs.length → Cols H' xs ys ts → H' S = none → Q (.ref S) (upd H' S (.lst (ts.map V.ref)))) ?_ (fun u s1 ⟨H1, xs, ys, I1, hZ, hl, hn, q⟩ => ?_) fun _ _ x => x)
  · refine wpAny_Call_Name_kw (ld_blt I hgz hmz PyProof.Rows.boot_zip ?_ (by decide) (by decide))
    show wpAny _ _ (callWith pos2 (.type "zip") [] (backTo pos2 (starEach [.Starred e sp] X.env)) []) _ _ s
    rw [hst]
    refine PySem.W.ks_call (P := fun _ => True) rfl (fun h _ => ⟨.machine, .inr (.inl rfl), PySem.W.Looks.now⟩) (PySem.W.ks_lone ?_)
    refine thn (he.run pins s σ H _ I hq) fun v s1 ⟨x, H1, I1, rx, q⟩ => ?_
    obtain ⟨pp, a, b, xs, ys, rfl, hp, ha, hb, hl, hn, q⟩ := q
    obtain rfl : v = Value.ref pp := rx
    refine StX.star_any I1 (.inl hp) fun us s2 I2 rv => ⟨trivial, ?_⟩
    cases rv with
    | cons r rr =>
      cases rr with
      | cons r' rr =>
        cases rr
        cases r
        cases r'
        have fresh5 : ∀ c, c ∈ [s2.heap.objs.size + 4, s2.heap.objs.size + 2, s2.heap.objs.size + 3, s2.heap.objs.size, s2.heap.objs.size + 1] → FpOk X pins H1 c := fun c hcm => by
          have e' : c = s2.heap.objs.size + 4 ∨ c = s2.heap.objs.size + 2 ∨ c = s2.heap.objs.size + 3 ∨ c = s2.heap.objs.size ∨ c = s2.heap.objs.size + 1 := by simpa using hcm
          have hle : s2.heap.objs.size ≤ c := by
            rcases e' with z | z | z | z | z
            · rw [z]; exact Nat.le_add_right _ _
            · rw [z]; exact Nat.le_add_right _ _
            · rw [z]; exact Nat.le_add_right _ _
            · rw [z]; exact Nat.le_refl _
            · rw [z]; exact Nat.le_add_right _ _
          exact I2.fpOk hle (I2.hok.fresh hle)
        obtain ⟨its, rv, p1, _⟩ := I2.tuple ha
        obtain ⟨its2, rv2, p2, _⟩ := I2.tuple hb
        obtain ⟨o1, ho1, _⟩ := id p1
        obtain ⟨o2, ho2, _⟩ := id p2
        refine call_zipT (show s2.heap.IsTuple a its.toArray from p1) (show s2.heap.IsTuple b its2.toArray from p2) fun h' hz hTI hTO h1 h2 hsz hk => ?_
        exact ⟨H1, xs, ys, I2.kept (t' := s2.toks) hk, ⟨_, _, _, _, _, a, b, rfl, PySem.W.ktu_apart s2.heap.objs.size a b (Heap.lt_size ho1) (Heap.lt_size ho2), hz, hTI, ⟨_, _, hTO⟩, h1, h2, ha, hb, fresh5⟩, hl, hn, q⟩
  · refine Calls.spliced_nil ?_
    refine call_list_zip hc (I1.ok.hd hc) I1 hl hn hZ fun S s' H' ts h1 h2 h3 h4 I' => ?_
    exact ⟨.ref S, _, I', rfl, q S H' ts h1 h2 h3 h4⟩
end
end ZipL

set_option Elab.async false
set_option linter.all false
set_option maxRecDepth 100000
set_option maxHeartbeats 3200000
/-! len(set(xs)), xs a list or tuple of different tuples of ints, fewer than 256 -/
namespace SetB
open PySem PySem.Spec PyProof.Rows L2
/-! ### a table of 512 slots, too -/
def MaskB (m : Nat) : Prop := MaskOk m ∨ m = 511
def orb : Nat → Nat → List Nat
  | _, 0 => []
  | x, n + 1 => x :: orb ((x * 5 + 1) % 512) n
theorem orb_mem : ∀ (n a y : Nat), y ∈ orb (lcgN 511 a) n → ∃ k, k < n ∧ lcgN 511 (a + k) = y
  | 0, a, y, h => nomatch h
  | n + 1, a, y, h => by
    rcases List.mem_cons.mp h with e | e
    · exact ⟨0, Nat.succ_pos _, e.symm⟩
    · obtain ⟨k, hk, e2⟩ := orb_mem n (a + 1) y e
      exact ⟨k + 1, Nat.succ_lt_succ hk, by rw [← e2]; congr 1; omega⟩
theorem orb_all : ((List.range 512).all fun j => (orb 0 512).contains j) = true := by decide +kernel
theorem lcg511 {j : Nat} (hj : j ≤ 511) : ∃ b, b ≤ 511 ∧ lcgN 511 b = j := by
  have h := List.all_eq_true.mp orb_all j (List.mem_range.mpr (by omega))
  obtain ⟨k, hk, e⟩ := orb_mem 512 0 j (List.contains_iff_mem.mp h)
  exact ⟨k, by omega, by rw [← e, Nat.zero_add]⟩
theorem round511 : lcgN 511 512 = 0 := by decide +kernel
theorem mod511 : ∀ k, lcgN 511 (512 + k) = lcgN 511 k
  | 0 => round511
  | k + 1 => by
    show (lcgN 511 (512 + k) * 5 + 1) % 512 = (lcgN 511 k * 5 + 1) % 512
    rw [mod511 k]
theorem lcgI_allB {m : Nat} (hm : MaskB m) {i j : Nat} (hi : i ≤ m) (hj : j ≤ m) : ∃ k, k ≤ m ∧ lcgI m i k = j := by
  rcases hm with hm | rfl
  · exact lcgI_all hm hi hj
  · obtain ⟨a, ha, rfl⟩ := lcg511 hi
    obtain ⟨b, hb, rfl⟩ := lcg511 hj
    by_cases c : b < a
    · refine ⟨b + 512 - a, by omega, ?_⟩
      rw [lcgN_add, show a + (b + 512 - a) = 512 + b by omega, mod511]
    · refine ⟨b - a, by omega, ?_⟩
      rw [lcgN_add, show a + (b - a) = b by omega]
theorem run_meetsB {m : Nat} (hm : MaskB m) (h : Int) {j : Nat} (hj : j ≤ m) : ∃ n, n ≤ m + 12 ∧ runI m (SetTable.bits h) n = j := by
  obtain ⟨k, hk, e⟩ := lcgI_allB hm (runI_le m (SetTable.bits h) 12) hj
  exact ⟨12 + k, by omega, (runI_tail (bits_lt h) k).trans e⟩
theorem nth_meetsB {m : Nat} (hm : MaskB m) (h : Int) {j : Nat} (hj : j ≤ m) : ∃ k, k < 10 * SetTable.turns m ∧ way m h k = j := by
  obtain ⟨n, hn, e⟩ := run_meetsB hm h hj
  obtain ⟨k, hk, e2⟩ := run_nth m (SetTable.bits h) n
  exact ⟨k, by unfold SetTable.turns; omega, by show (nth m _ k).j = j; rw [e2]; exact e⟩
theorem way_in {m : Nat} {h : Int} {k : Nat} : way m h k ≤ m := by
  have hi : SetTable.bits h % (m + 1) ≤ m := Nat.le_of_lt_succ (Nat.mod_lt _ (Nat.succ_pos _))
  have r := runEnd_bd hi
  have q := nth_in (m := m) k (runAt m (SetTable.bits h % (m + 1)) (SetTable.bits h)) (by
    show SetTable.bits h % (m + 1) + (SetTable.runEnd m (SetTable.bits h % (m + 1)) - SetTable.bits h % (m + 1)) ≤ m
    omega)
  exact Nat.le_trans (Nat.le_add_right _ _) q
theorem odd {m : Nat} (h : MaskB m) : m % 2 = 1 := by
  rcases h with h | rfl
  · exact mask_odd h
  · rfl
/-- a table of n entries, with nothing told of the way to them -/
structure Tab (t : SetTable) (n : Nat) : Prop where
  ris : Ris t.place.toList
  dm : t.dummies = #[]
  sz : t.place.size = n
  mok : MaskB t.mask
  bd : ∀ x ∈ t.place.toList, x ≤ t.mask
theorem Tab.first {t : SetTable} {n : Nat} (T : Tab t n) (hl : n ≤ t.mask) (h : Int) : ∃ K, K < 10 * SetTable.turns t.mask ∧ way t.mask h K ∉ t.place.toList ∧ ∀ k, k < K → way t.mask h k ∈ t.place.toList := by
  obtain ⟨j, hj, hn⟩ := st_missing t.place.toList (t.mask + 1) (by rw [Array.length_toList, T.sz]; omega)
  obtain ⟨k, hk, e⟩ := nth_meetsB T.mok h (Nat.le_of_lt_succ hj)
  obtain ⟨K, h1, h2, h3⟩ := st_least (p := fun k => way t.mask h k ∉ t.place.toList) k (by rw [e]; exact hn)
  exact ⟨K, Nat.lt_of_le_of_lt h1 hk, h2, fun k' hk' => Classical.byContradiction (h3 k' hk')⟩
theorem Tab.put {t : SetTable} {n : Nat} (T : Tab t n) {j : Nat} (hj : j ∉ t.place.toList) (hjm : j ≤ t.mask) : Tab (t.put j).1 (n + 1) ∧ (t.put j).1.fill = n + 1 := by
  obtain ⟨c1, _, _⟩ := below_cut T.ris j
  have hpl : SetTable.below t.place j ≤ t.place.toList.length := by
    rw [Array.length_toList]
    exact c1
  have hpp := put_place t j
  have hsize : (t.put j).1.place.size = n + 1 := by rw [← Array.length_toList, hpp, len_ins _ hpl, Array.length_toList, T.sz]
  refine ⟨⟨ris_insert T.ris fun e => hj (List.mem_of_getElem? (by rw [Array.getElem?_toList]; exact e)), put_dm T.dm j, hsize, T.mok, fun x hx => ?_⟩, ?_⟩
  · rw [hpp] at hx
    rcases mem_ins.1 hx with z | z
    · rw [z]
      exact hjm
    · exact T.bd x z
  · show (t.put j).1.place.size + (t.put j).1.dummies.size = n + 1
    rw [hsize, put_dm T.dm j]
    rfl
/-! ### laid anew -/
structure Seat (m n : Nat) (owner : Array (Option Nat)) : Prop where
  sz : owner.size = m + 1
  all : ∀ k, k < n → ∃ j, j ≤ m ∧ oAt owner j = some k
  ps : ∃ ps : List Nat, ps.length = n ∧ ∀ j, j ≤ m → oAt owner j ≠ none → j ∈ ps
theorem free_at {m : Nat} (hm : MaskB m) (owner : Array (Option Nat)) (h : Int) {j : Nat} (hj : j ≤ m) (hf : oAt owner j = none) :
    ∃ K, SetTable.layClean.free m owner (SetTable.turns m) (SetTable.bits h % (m + 1)) (SetTable.bits h) = some (way m h K) ∧ oAt owner (way m h K) = none := by
  obtain ⟨n, hn, e⟩ := run_meetsB hm h hj
  have hw : way m h (off m (SetTable.bits h % (m + 1)) (SetTable.bits h) n) = j := by
    show (nth m _ _).j = j
    rw [nth_off, itL_run]
    exact e
  obtain ⟨K, k1, k2, k3⟩ := st_least (p := fun k => oAt owner (way m h k) = none) _ (by rw [hw]; exact hf)
  refine ⟨K, free_spec m owner (SetTable.turns m) n _ _ K (by unfold SetTable.turns; omega) k1 (fun k hk => ?_) ?_, k2⟩
  · have q := k3 k hk
    cases z : oAt owner (nth m (runAt m (SetTable.bits h % (m + 1)) (SetTable.bits h)) k).j with
    | none => exact absurd z q
    | some _ => rfl
  · have q : oAt owner (nth m (runAt m (SetTable.bits h % (m + 1)) (SetTable.bits h)) K).j = none := k2
    rw [q]
    rfl
theorem Seat.step {m n : Nat} (hm : MaskB m) {owner : Array (Option Nat)} (W : Seat m n owner) (hl : n ≤ m) (h : Int) :
    ∃ j, SetTable.layClean.free m owner (SetTable.turns m) (SetTable.bits h % (m + 1)) (SetTable.bits h) = some j ∧ Seat m (n + 1) (owner.setIfInBounds j (some n)) := by
  obtain ⟨ps, hps, hin⟩ := W.ps
  obtain ⟨j0, h0, hn0⟩ := st_missing ps (m + 1) (by omega)
  have hj0 : oAt owner j0 = none := Classical.byContradiction fun z => hn0 (hin j0 (Nat.le_of_lt_succ h0) z)
  obtain ⟨K, e1, e2⟩ := free_at hm owner h (Nat.le_of_lt_succ h0) hj0
  have hjs : way m h K < owner.size := by rw [W.sz]; exact Nat.lt_succ_of_le way_in
  refine ⟨_, e1, by rw [Array.size_setIfInBounds]; exact W.sz, fun k hk => ?_, way m h K :: ps, by rw [List.length_cons, hps], fun j hj e => ?_⟩
  · by_cases c : k < n
    · obtain ⟨j, hj, e⟩ := W.all k c
      exact ⟨j, hj, by rw [oAt_set_ne _ (fun z => by rw [z, e2] at e; cases e)]; exact e⟩
    · have ek : k = n := by omega
      subst ek
      exact ⟨_, way_in, oAt_set_self _ hjs⟩
  · by_cases c : j = way m h K
    · rw [c]
      exact List.mem_cons_self
    · rw [oAt_set_ne _ c] at e
      exact List.mem_cons_of_mem _ (hin j hj e)
theorem seats {m : Nat} (hm : MaskB m) : ∀ (rest : List Int) (n : Nat) (owner : Array (Option Nat)), Seat m n owner → n + rest.length ≤ m →
    ∃ owner', rest.foldl (stepF m) (some (owner, n)) = some (owner', n + rest.length) ∧ Seat m (n + rest.length) owner'
  | [], n, owner, W, _ => ⟨owner, rfl, W⟩
  | h :: rest, n, owner, W, hl => by
    rw [List.length_cons] at hl
    obtain ⟨j, e, W'⟩ := W.step hm (by omega) h
    obtain ⟨owner', f, W2⟩ := seats hm rest (n + 1) _ W' (by omega)
    refine ⟨owner', ?_, ?_⟩
    · rw [List.foldl_cons, stepF_some e, f, List.length_cons]
      congr 2
      omega
    · rw [List.length_cons, show n + (rest.length + 1) = n + 1 + rest.length by omega]
      exact W2
theorem relaidB (t : SetTable) {hs : Array Int} {wanted M : Nat} (hw : SetTable.sizeAbove wanted - 1 = M) (hM : MaskB M) (hn : hs.size ≤ M) :
    ∃ t' order, t.relaid hs wanted = some (t', order) ∧ order.toList.Perm (List.range hs.size) ∧ Tab t' hs.size ∧ t'.mask = M ∧ t'.led = t.led ∧ t'.plain = t.plain := by
  obtain ⟨owner, f, W⟩ := seats hM hs.toList 0 _ ⟨(Own.init M).sz, (Own.init M).all, (Own.init M).ps⟩ (by rw [Nat.zero_add, Array.length_toList]; exact hn)
  rw [Nat.zero_add, Array.length_toList] at W f
  have hr : t.relaid hs wanted = some (tabOf t M owner, ((liveOf M owner).map (·.2)).toArray) := by
    rw [relaid_eq, hw, layClean_eq, f]
    rfl
  have ris := ris_live (fun j => owner.getD j none) (List.range (M + 1)) (by
    unfold Ris
    first | exact List.pairwise_lt_range | exact List.pairwise_lt_range _)
  have r1 : Ris ((liveOf M owner).map (·.1)) := ris.1
  have r2 : ∀ x ∈ (liveOf M owner).map (·.1), x ∈ List.range (M + 1) := ris.2
  have hall : ∀ k, k < hs.size → k ∈ (liveOf M owner).map (·.2) := fun k hk => by
    obtain ⟨j, b1, b2⟩ := W.all k hk
    exact List.mem_map.mpr ⟨(j, k), (mem_live W.sz).2 ⟨b1, b2⟩, rfl⟩
  have hlen : (liveOf M owner).length = hs.size := by
    obtain ⟨ps, p1, p2⟩ := W.ps
    have nd : ((liveOf M owner).map (·.1)).Nodup := List.Pairwise.imp (fun h => Nat.ne_of_lt h) r1
    have a := nat_nodup_len ((liveOf M owner).map (·.1)) ps nd fun x hx => by
      obtain ⟨⟨y, k⟩, hq, eq1⟩ := List.mem_map.mp hx
      have ey : y = x := eq1
      subst ey
      obtain ⟨b1, b2⟩ := (mem_live W.sz).1 hq
      exact p2 y b1 (by rw [b2]; exact fun z => nomatch z)
    have b := nat_nodup_len (List.range hs.size) ((liveOf M owner).map (·.2)) List.nodup_range fun k hk => hall k (List.mem_range.mp hk)
    rw [List.length_map, p1] at a
    rw [List.length_map, List.length_range] at b
    omega
  refine ⟨_, _, hr, perm_range hs.size _ (by show ((liveOf M owner).map (·.2)).length = hs.size; rw [List.length_map]; exact hlen) hall, ⟨r1, rfl, ?_, hM, fun x hx => Nat.le_of_lt_succ (List.mem_range.mp (r2 x hx))⟩, rfl, rfl, rfl⟩
  show ((liveOf M owner).map (·.1)).toArray.size = hs.size
  rw [List.size_toArray, List.length_map, hlen]
/-! ### the set -/
structure Rep (P : Program) (w : World) (h : Heap) (a : Addr) (L : List (Addr × List Int)) (es : Array (Int × Value)) (ep : Nat) (t : SetTable) : Prop where
  ob : ∃ o, h.get? a = some o ∧ o.ExactSet ∧ o.data = .set es ep t
  rows : es.toList = rowsOf P w L
  tab : Tab t L.length
  tup : ∀ p ∈ L, IsT P w h p.2 p.1
  plain : t.plain = true
  led : w.params.followText "set-order" = true ∨ t.led = true
  room : L.length * 5 < t.mask * 3
section
variable {P : Program} {w : World} {A : Around} {E : Value → Shared → Prop} {s : Shared} {a : Addr} {L : List (Addr × List Int)} {es : Array (Int × Value)} {ep : Nat} {t : SetTable}
theorem Rep.size {h : Heap} (R : Rep P w h a L es ep t) : es.size = L.length := by
  have h := congrArg List.length R.rows
  unfold rowsOf at h
  rwa [Array.length_toList, List.length_map] at h
theorem Rep.fits {h : Heap} (R : Rep P w h a L es ep t) : t.fits es.size = true := by
  have h1 := R.tab.sz
  have h2 := R.size
  have h3 := R.room
  unfold SetTable.fits SetTable.fill
  rw [R.tab.dm, Bool.and_eq_true, beq_iff_eq, decide_eq_true_eq]
  show t.place.size = es.size ∧ t.place.size + 0 ≤ t.mask
  omega
theorem Rep.entry {h : Heap} (R : Rep P w h a L es ep t) {i : Nat} {p : Addr × List Int} (e : L[i]? = some p) : es[i]? = some (thash P w p.2, Value.ref p.1) := by
  rw [← Array.getElem?_toList, R.rows]
  unfold rowsOf
  rw [List.getElem?_map, e]
  rfl
/-- the search for a tuple that is not there -/
theorem search_from (R : Rep P w s.heap a L es ep t) {x : Addr} {k : List Int} (hx : IsT P w s.heap k x) (hu : A.units < cLine) (hnew : k ∉ L.map (·.2)) {K : Nat} (hKf : K < 10 * SetTable.turns t.mask)
    (hK : way t.mask (thash P w k) K ∉ t.place.toList) (hKb : ∀ c, c < K → way t.mask (thash P w k) c ∈ t.place.toList) {Q : SetFound → Shared → Prop} (hout : Q (.free (way t.mask (thash P w k) K) false) s) :
    ∀ (f c : Nat) (stand : Option SetTable.Probe), stand.getD (t.probeStart (thash P w k)) = nth t.mask (runAt t.mask (SetTable.bits (thash P w k) % (t.mask + 1)) (SetTable.bits (thash P w k))) c → c ≤ K → K - c < f →
      wpAny (model P w) A (setSearchFrom a (.ref x) (thash P w k) true f stand) Q E s
  | 0, c, stand, _, _, hf => absurd hf (Nat.not_lt_zero _)
  | f + 1, c, stand, hst, hc, hf => by
    obtain ⟨o, ho, hex, hd⟩ := R.ob
    rw [setSearchFrom_succ]
    refine wpAny_bind (wpAny_setState_of ho hd R.fits ?_)
    dsimp only
    refine wp_if_neg (by unfold SetTable.gaveWay; rw [odd R.tab.mok]; decide) ?_
    try refine wpAny_bind (wpAny_pure ?_)
    have key : ∀ (n : Nat) (p : SetTable.Probe), p.dummy = none → (nth t.mask p n).dummy = none := by
      intro n
      induction n with
      | zero => intro p h; exact h
      | succ n ih =>
        intro p h
        refine ih (adv t.mask p) ?_
        unfold adv
        split <;> exact h
    have sh : ∀ q, nth t.mask (nth t.mask (runAt t.mask (SetTable.bits (thash P w k) % (t.mask + 1)) (SetTable.bits (thash P w k))) c) q = nth t.mask (runAt t.mask (SetTable.bits (thash P w k) % (t.mask + 1)) (SetTable.bits (thash P w k))) (c + q) := fun q => (nth_add t.mask c _ q).symm
    have e1 : ∀ q, (nth t.mask (nth t.mask (runAt t.mask (SetTable.bits (thash P w k) % (t.mask + 1)) (SetTable.bits (thash P w k))) c) q).j = way t.mask (thash P w k) (c + q) := fun q => congrArg SetTable.Probe.j (sh q)
    rcases go_spec t R.tab.ris R.tab.dm (fun i => (es[i]?.map (·.1)).getD 0) (thash P w k) (10 * SetTable.turns t.mask) (K - c) _ (key c _ rfl) (by omega)
      (fun q hq => by rw [e1]; exact hKb (c + q) (by omega)) (by rw [e1, show c + (K - c) = K by omega]; exact hK) with ⟨q, i, hq, hi, hh, hno, hpr⟩ | ⟨hno, hpr⟩
    · have hpr' : t.probe (fun i => (es[i]?.map (·.1)).getD 0) (thash P w k) (stand.getD (t.probeStart (thash P w k))) = some (.candidate (way t.mask (thash P w k) (c + q)) i (nth t.mask (runAt t.mask (SetTable.bits (thash P w k) % (t.mask + 1)) (SetTable.bits (thash P w k))) (c + (q + 1)))) := by
        rw [hst, ← e1, ← sh]
        exact hpr
      rw [hpr']
      dsimp only
      rw [e1] at hi
      have hil : i < L.length := by
        have h1 : i < t.place.toList.length := (List.getElem?_eq_some_iff.mp hi).1
        rwa [Array.length_toList, R.tab.sz] at h1
      have hp : L[i]? = some L[i] := List.getElem?_eq_getElem hil
      generalize L[i] = p at hp
      have hmem : p ∈ L := List.mem_of_getElem? hp
      have hkk : p.2 ≠ k := fun e => hnew (List.mem_map.mpr ⟨p, hmem, e⟩)
      have rest : wpAny (model P w) A (searchRest a (.ref x) (thash P w k) true f es t (way t.mask (thash P w k) (c + q)) i (nth t.mask (runAt t.mask (SetTable.bits (thash P w k) % (t.mask + 1)) (SetTable.bits (thash P w k))) (c + (q + 1)))) Q E s := by
        unfold searchRest
        rw [R.entry hp]
        dsimp only
        refine wpAny_bind (wpAny_holding (wpAny_eqBool_tuple hu (R.tup p hmem) hx ?_))
        refine wpAny_bind (wpAny_setState_of ho hd R.fits ?_)
        dsimp only
        refine wp_if_neg (by simp [hkk]) ?_
        try refine wpAny_bind (wpAny_pure ?_)
        rw [sameMem]
        dsimp only
        have hsl : t.slot (way t.mask (thash P w k) (c + q)) = .live i := slot_live R.tab.ris hi
        simp only [if_true, hsl, R.entry hp]
        refine wpAny_bind (wpAny_isSame_ref_self (wpAny_bind (wpAny_pure ?_)))
        simp only [if_true]
        refine wp_if_neg (by simp [hkk]) ?_
        exact search_from R hx hu hnew hKf hK hKb hout f (c + (q + 1)) _ rfl (by omega) (by omega)
      by_cases hl : t.led = true
      · refine wp_if_neg (by simp [hl]) ?_
        try refine wpAny_bind (wpAny_pure ?_)
        exact rest
      · refine wp_if_pos (by simp [hl]) ?_
        refine wpAny_bind (seen_tup hx (fun y hy => ?_) ?_)
        · obtain ⟨e, he, ee⟩ := List.mem_map.mp hy
          have he1 : e ∈ es ∧ e.1 = thash P w k := by simpa using he
          have he2 : e ∈ es.toList := by simpa using he1.1
          rw [R.rows] at he2
          obtain ⟨p2, hp2, e2⟩ := List.mem_map.mp he2
          refine ⟨p2.2, p2.1, ?_, R.tup p2 hp2⟩
          rw [← ee, ← e2]
        · refine wp_if_neg (by decide) ?_
          try refine wpAny_bind (wpAny_pure ?_)
          exact rest
    · have hpr' : t.probe (fun i => (es[i]?.map (·.1)).getD 0) (thash P w k) (stand.getD (t.probeStart (thash P w k))) = some (.empty (way t.mask (thash P w k) K) none) := by
        have e2 : way t.mask (thash P w k) K = (nth t.mask (nth t.mask (runAt t.mask (SetTable.bits (thash P w k) % (t.mask + 1)) (SetTable.bits (thash P w k))) c) (K - c)).j := by
          rw [e1, show c + (K - c) = K by omega]
        rw [hst, e2]
        exact hpr
      rw [hpr']
      dsimp only
      exact wpAny_pure hout
theorem search_new (R : Rep P w s.heap a L es ep t) {x : Addr} {k : List Int} (hx : IsT P w s.heap k x) (hu : A.units < cLine) (hnew : k ∉ L.map (·.2)) {Q : SetFound → Shared → Prop}
    (hout : ∀ j, j ∉ t.place.toList → j ≤ t.mask → Q (.free j false) s) : wpAny (model P w) A (setSearch a (.ref x) (thash P w k) true) Q E s := by
  have hroom := R.room
  obtain ⟨K, hKf, hK, hKb⟩ := R.tab.first (by omega) (thash P w k)
  have hbig : K < 100000 := by
    have : 10 * SetTable.turns t.mask ≤ 5260 := by
      unfold SetTable.turns
      rcases R.tab.mok with (e | e | e) | e <;> omega
    omega
  unfold setSearch
  exact search_from R hx hu hnew hKf hK hKb (hout _ hK way_in) 100000 0 none rfl (Nat.zero_le _) (by omega)
theorem relay {o : Obj} (ho : s.heap.get? a = some o) (hex : o.ExactSet) (hd : o.data = .set es ep t) (hrows : es.toList = rowsOf P w L) (T : Tab t L.length) (hfl : L.length ≤ t.mask)
    (tup : ∀ p ∈ L, IsT P w s.heap p.2 p.1) (pl : t.plain = true) (ld : w.params.followText "set-order" = true ∨ t.led = true) {wanted M : Nat}
    (hw : SetTable.sizeAbove wanted - 1 = M) (hM : MaskB M) (hw2 : SetTable.sizeAbove wanted ≤ 512) (hn : L.length * 5 < M * 3) {Q : Unit → Shared → Prop}
    (hQ : ∀ h' L' es' ep' t', Heap.SameBut a s.heap h' → Rep P w h' a L' es' ep' t' → L'.Perm L → Q () { s with heap := h' }) : wpAny (model P w) A (setRelay a wanted) Q E s := by
  have hsl : es.size = L.length := by
    have h := congrArg List.length hrows
    unfold rowsOf at h
    rwa [Array.length_toList, List.length_map] at h
  have hfits : t.fits es.size = true := by
    have := T.sz
    unfold SetTable.fits SetTable.fill
    rw [T.dm, Bool.and_eq_true, beq_iff_eq, decide_eq_true_eq]
    show t.place.size = es.size ∧ t.place.size + 0 ≤ t.mask
    omega
  obtain ⟨t', order, e, hp, T', em, el, ep'⟩ := relaidB t (hs := es.map (·.1)) (wanted := wanted) hw hM (by rw [Array.size_map, hsl]; omega)
  rw [Array.size_map, hsl] at hp T'
  obtain ⟨L2, r1, r2, r3⟩ := order_rows L es order hrows hp
  have hs2 : (order.filterMap (es[·]?)).size = es.size := by
    have h := congrArg List.length r1
    unfold rowsOf at h
    rw [Array.length_toList, List.length_map, r2.length_eq] at h
    rw [h, hsl]
  rw [setRelay_eq]
  refine wpAny_bind (wpAny_setState_of ho hd hfits ?_)
  dsimp only
  refine wp_if_neg (by rw [sizeLine_eq]; omega) ?_
  try refine wpAny_bind (wpAny_pure ?_)
  rw [e]
  dsimp only
  refine wpAny_bind ?_
  refine wp_if_neg (by rw [hs2]; simp) ?_
  try refine wpAny_bind (wpAny_pure ?_)
  refine wpAny_pure ?_
  dsimp only
  refine wpAny_storeSet_of ho hd ?_ (by rw [hs2, hsl, sizeLine_eq]; rcases hM with (z | z | z) | z <;> omega)
  have sb : Heap.SameBut a s.heap (s.heap.update a (Obj.putSet (order.filterMap (es[·]?)) t')) := Heap.SameBut.update ..
  refine hQ _ L2 (order.filterMap (es[·]?)) (ep + 1) t' sb ⟨⟨_, store_at ho hd, ⟨hex.1, hex.2.1, hex.2.2⟩, rfl⟩, r1, by rw [r2.length_eq]; exact T', fun p hpm => isT_same (tup p (r2.mem_iff.mp hpm)) ho hd sb, by rw [ep']; exact pl, by rw [el]; exact ld, ?_⟩ r2
  rw [r2.length_eq, em]
  exact hn
theorem size_308 : SetTable.sizeAbove (SetTable.grown 77) = 512 := by decide +kernel
/-- a new tuple is added -/
theorem add_new (R : Rep P w s.heap a L es ep t) {x : Addr} {k : List Int} (hx : IsT P w s.heap k x) (hu : A.units < cLine) (hnew : k ∉ L.map (·.2)) (hfew : L.length < 256) {Q : Bool → Shared → Prop}
    (hQ : ∀ b h' L' es' ep' t', Heap.SameBut a s.heap h' → Rep P w h' a L' es' ep' t' → L'.Perm ((x, k) :: L) → Q b { s with heap := h' }) :
    wpAny (model P w) A (setAddHashed a (.ref x) (thash P w k)) Q E s := by
  obtain ⟨o, ho, hex, hd⟩ := R.ob
  have hsl := R.size
  have hroom := R.room
  unfold setAddHashed
  refine wpAny_holding ?_
  rw [show (100000 : Nat) = 99999 + 1 from rfl, setAddHashedIn_succ]
  refine wpAny_bind (wpAny_setState_of ho hd R.fits ?_)
  dsimp only
  refine wp_if_neg (by simp [byScan, Value.scannable]) ?_
  try refine wpAny_bind (wpAny_pure ?_)
  refine wpAny_bind (search_new R hx hu hnew fun j hj hjm => ?_)
  dsimp only
  refine wpAny_bind (wpAny_setState_of ho hd R.fits ?_)
  dsimp only
  obtain ⟨T1, hfill⟩ := R.tab.put hj hjm
  have hp1 : (t.put j).1.plain = true := R.plain
  have ld1 : w.params.followText "set-order" = true ∨ (t.put j).1.led = true := R.led
  have hm1 : (t.put j).1.mask = t.mask := rfl
  have hp2 : (t.put j).2 = SetTable.below t.place j := rfl
  generalize hpt : t.put j = pt at T1 hfill hp1 ld1 hm1 hp2 ⊢
  obtain ⟨t1, p⟩ := pt
  dsimp only at T1 hfill hp1 ld1 hm1 hp2 ⊢
  first
    | (refine wpAny_bind ?_; refine wp_if_pos hp1 ?_; refine hashBy_tup hx ?_)
    | refine wp_if_pos hp1 (wpAny_bind (hashBy_tup hx ?_))
  simp only [if_true]
  have hin : (SetTable.insertAt es p (thash P w k, Value.ref x)).toList = rowsOf P w (L.take p ++ (x, k) :: L.drop p) := by
    rw [SetTable.toList_insertAt, rows_put, R.rows]
  have pm := put_perm L p (x, k)
  have hlen : (L.take p ++ (x, k) :: L.drop p).length = L.length + 1 := pm.length_eq
  have hes : (SetTable.insertAt es p (thash P w k, Value.ref x)).size = L.length + 1 := by
    have h := congrArg List.length hin
    unfold rowsOf at h
    rwa [Array.length_toList, List.length_map, hlen] at h
  generalize SetTable.insertAt es p (thash P w k, Value.ref x) = es1 at hin hes ⊢
  generalize L.take p ++ (x, k) :: L.drop p = L1 at pm hlen hin
  refine wpAny_bind (wpAny_storeSet_of ho hd ?_ (by rw [hes, sizeLine_eq]; omega))
  have sb : Heap.SameBut a s.heap (s.heap.update a (Obj.putSet es1 t1)) := Heap.SameBut.update ..
  have ho1 := store_at (es' := es1) (t' := t1) ho hd
  generalize s.heap.update a (Obj.putSet es1 t1) = h1 at sb ho1 ⊢
  have tup1 : ∀ p ∈ L1, IsT P w h1 p.2 p.1 := fun p hp => by
    rcases List.mem_cons.mp (pm.mem_iff.mp hp) with e | hp
    · rw [e]; exact isT_same hx ho hd sb
    · exact isT_same (R.tup p hp) ho hd sb
  rw [← hlen] at T1
  by_cases hf : t1.tooFull = true
  · first
      | (refine wpAny_bind ?_; refine wp_if_pos (by simp [hf]) ?_)
      | (refine wp_if_pos (by simp [hf]) ?_; refine wpAny_bind ?_)
    have hfull : (L.length + 1) * 5 ≥ t1.mask * 3 := by
      have h := hf
      unfold SetTable.tooFull at h
      rwa [decide_eq_true_eq, hfill] at h
    rw [hsl]
    rw [hm1] at hfull
    have go : ∀ M, SetTable.sizeAbove (SetTable.grown (L.length + 1)) - 1 = M → MaskB M → SetTable.sizeAbove (SetTable.grown (L.length + 1)) ≤ 512 → (L.length + 1) * 5 < M * 3 → L.length + 1 ≤ t.mask →
        wpAny (model P w) A (setRelay a (SetTable.grown (L.length + 1))) (fun _ s' => wpAny (model P w) A (pure true) Q E s') E { s with heap := h1 } := fun M h1' h2' h3' h4' h5' => by
      refine relay (s := { s with heap := h1 }) ho1 ⟨hex.1, hex.2.1, hex.2.2⟩ rfl hin T1 (by rw [hlen, hm1]; exact h5') tup1 hp1 ld1 h1' h2' h3' (by rw [hlen]; exact h4') ?_
      intro h2 L2 es2 ep2 t2 sb2 R2 pm2
      exact wpAny_pure (hQ true h2 L2 es2 ep2 t2 (sb.trans sb2) R2 (pm2.trans pm))
    rcases R.tab.mok with (e | e | e) | e
    · have e2 : L.length = 4 := by omega
      exact go 31 (by rw [e2, size_20]) (.inl (.inr (.inl rfl))) (by rw [e2, size_20]; decide) (by omega) (by omega)
    · have e2 : L.length = 18 := by omega
      exact go 127 (by rw [e2, size_76]) (.inl (.inr (.inr rfl))) (by rw [e2, size_76]; decide) (by omega) (by omega)
    · have e2 : L.length = 76 := by omega
      exact go 511 (by rw [e2, size_308]) (.inr rfl) (by rw [e2, size_308]; decide) (by omega) (by omega)
    · omega
  · first
      | refine wp_if_neg (by simp [hf]) ?_
      | (refine wpAny_bind ?_; refine wp_if_neg (by simp [hf]) ?_; refine wpAny_pure ?_)
    refine wpAny_pure (hQ true h1 L1 es1 (ep + 1) t1 sb ⟨⟨_, ho1, ⟨hex.1, hex.2.1, hex.2.2⟩, rfl⟩, hin, T1, tup1, hp1, ld1, ?_⟩ pm)
    have h := hf
    unfold SetTable.tooFull at h
    rw [decide_eq_true_eq, hfill] at h
    rw [hlen]
    omega
theorem keep_isT {h h' : Heap} {k : List Int} {b : Addr} (x : IsT P w h k b) (hk : ∀ c o, h.get? c = some o → h'.get? c = some o) : IsT P w h' k b := isT_keep x hk
theorem Rep.keep {h h' : Heap} (R : Rep P w h a L es ep t) (ha : ∀ o, h.get? a = some o → h'.get? a = some o) (ht : ∀ p ∈ L, IsT P w h' p.2 p.1) : Rep P w h' a L es ep t := by
  obtain ⟨o, ho, r⟩ := R.ob
  exact ⟨⟨o, ha o ho, r⟩, R.rows, R.tab, ht, R.plain, R.led, R.room⟩
abbrev obj0 (w : World) : Obj := { cls := .type "set", dict := none, data := .set #[] 0 (.fresh 0 0 (!w.params.followText "set-order")) }
theorem rep0 {h : Heap} (ho : h.get? a = some (obj0 w)) : Rep P w h a [] #[] 0 (.fresh 0 0 (!w.params.followText "set-order")) where
  ob := ⟨_, ho, ⟨rfl, rfl, rfl⟩, rfl⟩
  rows := rfl
  tab := ⟨List.Pairwise.nil, rfl, rfl, .inl (.inl rfl), fun x hx => (by cases hx)⟩
  tup := fun p hp => (by cases hp)
  plain := rfl
  led := by
    show _ ∨ (!w.params.followText "set-order") = true
    cases w.params.followText "set-order"
    · exact .inr rfl
    · exact .inl rfl
  room := by
    show 0 * 5 < 7 * 3
    decide
theorem new_at {ks : List (Addr × List Int)} (hd : (ks.map (·.2)).Nodup) {i : Nat} {p : Addr × List Int} (hp : ks[i]? = some p) {L : List (Addr × List Int)} (hL : L.Perm (ks.take i)) : p.2 ∉ L.map (·.2) := fun hm => by
  have hm2 : p.2 ∈ (ks.take i).map (·.2) := (hL.map (·.2)).mem_iff.mp hm
  have e : ks.take (i + 1) = ks.take i ++ [p] := by rw [List.take_succ, hp]; rfl
  have hs : (ks.take (i + 1)).map (·.2) |>.Nodup := List.Nodup.sublist ((List.take_sublist _ _).map _) hd
  rw [e, List.map_append] at hs
  exact (List.nodup_append.mp hs).2.2 _ hm2 _ (List.mem_singleton.mpr rfl) rfl
theorem loop {I : Addr} {fp wr : List Addr} {G : Array GenState → Array GenState → Prop} {n : Nat} {Pv : Nat → Value → Prop} {St : Nat → Shared → Prop} {R : Result → Shared → Prop}
    (W : WalksS P w A.in1 I fp wr G n Pv St) (S : Addr) (hSf : S ∉ fp) (ks : List (Addr × List Int)) (hn : n = ks.length) (hfew : ks.length ≤ 256) (hnd : (ks.map (·.2)).Nodup) (hval : ∀ i v, Pv i v → ∃ p, ks[i]? = some p ∧ v = .ref p.1)
    (h0 : Heap) (hk : ∀ p ∈ ks, IsT P w h0 p.2 p.1) (hS0 : h0.get? S = none) (hw0 : ∀ b ∈ wr, h0.get? b = none) (hu : A.in1.units < cLine) :
    ∀ (k i : Nat) (s : Shared), n - i = k → i ≤ n → St i s → (∀ b o, h0.get? b = some o → s.heap.get? b = some o) → (∃ L es ep t, Rep P w s.heap S L es ep t ∧ L.Perm (ks.take i)) →
      (∀ s' L es ep t, Moved (S :: wr) G s s' → Rep P w s'.heap S L es ep t → L.Perm ks → (∀ b o, h0.get? b = some o → s'.heap.get? b = some o) → R (.ok (.ret .none)) s') →
      codeAny (model P w) A (.builtin "set.update.loop" ⟨[.ref S, .ref I], []⟩) R s := by
  have hSw : S ∉ wr := fun h => hSf (W.sub _ h)
  have hsub : ∀ b ∈ wr, b ∈ S :: wr := fun b hb => List.mem_cons_of_mem _ hb
  have keepM : ∀ {s s' : Shared}, Moved wr G s s' → (∀ b o, h0.get? b = some o → s.heap.get? b = some o) → ∀ b o, h0.get? b = some o → s'.heap.get? b = some o := fun hm hkp b o e =>
    hm.heap b o (fun hb => by rw [hw0 b hb] at e; cases e) (hkp b o e)
  intro k
  induction k with
  | zero =>
    intro i s hk' hi hst hkp ⟨L, es, ep, t, hS, g⟩ hR
    have hin : i = n := by omega
    subst hin
    refine codeAny_builtin F.entry_set_update_loop ?_
    rw [Around.under_plainId F.plain_set_update_loop _]
    show wpAny _ A.in1 (pyNext (.ref I) >>= _) _ _ s
    refine wpAny_bind (W.done s _ _ hst fun s' hm => ?_)
    show wpAny _ A.in1 (ret Value.none) _ _ s'
    rw [hn, List.take_length] at g
    exact wpAny_pure (hR s' L es ep t (hm.mono hsub) (hS.keep (fun o e => hm.heap S o hSw e) fun p hp => keep_isT (hk p (g.mem_iff.mp hp)) (keepM hm hkp)) g (keepM hm hkp))
  | succ k ih =>
    intro i s hk' hi hst hkp ⟨L, es, ep, t, hS, g⟩ hR
    have hlt : i < n := by omega
    refine codeAny_builtin F.entry_set_update_loop ?_
    rw [Around.under_plainId F.plain_set_update_loop _]
    show wpAny _ A.in1 (pyNext (.ref I) >>= _) _ _ s
    refine wpAny_bind (W.item i s _ _ hlt hst fun v s' hP hst' hm => ?_)
    obtain ⟨p, hp, rfl⟩ := hval i v hP
    have hkp' := keepM hm hkp
    have hL : L.length = i := by
      rw [g.length_eq, List.length_take]
      omega
    have hS' : Rep P w s'.heap S L es ep t := hS.keep (fun o e => hm.heap S o hSw e) fun q hq => keep_isT (hk q (List.mem_of_mem_take (g.mem_iff.mp hq))) hkp'
    have hx : IsT P w s'.heap p.2 p.1 := keep_isT (hk p (List.mem_of_getElem? hp)) hkp'
    show wpAny _ A.in1 (holding [Value.ref p.1] (setAdd S (.ref p.1)) >>= _) _ _ s'
    refine wpAny_bind (wpAny_holding ?_)
    unfold setAdd
    refine wpAny_holding ?_
    refine wpAny_bind (wpAny_pyHash_tuple hu hx ?_)
    refine add_new (s := { s' with toks := s'.toks + (p.2.length + 1) }) hS' hx hu (new_at hnd hp g) (by omega) fun b h' L' es' ep' t' hsb hS2 pm => ?_
    have g' : L'.Perm (ks.take (i + 1)) := by
      rw [show ks.take (i + 1) = ks.take i ++ [p] by rw [List.take_succ, hp]; rfl]
      exact pm.trans ((g.cons _).trans (List.perm_append_singleton _ _).symm)
    have hkp2 : ∀ b o, h0.get? b = some o → h'.get? b = some o := fun b o e => (hsb.2 b (fun z => by rw [z, hS0] at e; cases e)).trans (hkp' b o e)
    refine wpAny_pure ⟨plainId_quiet F.plain_set_update_loop _, ih (i + 1) _ (by omega) hlt (W.frame _ s' _ _ hst' (Nat.le_add_right _ _) fun b hb o e => ?_) hkp2 ⟨L', es', ep', t', hS2, g'⟩ fun s'' L2 es2 ep2 t2 hm'' hS'' g'' hkp'' => ?_⟩
    · rw [hsb.2 b (fun h : b = S => hSf (by rw [← h]; exact hb))]; exact e
    · refine hR s'' L2 es2 ep2 t2 (Moved.trans W.gtrans ((hm.mono hsub).then_heap (Nat.le_add_right _ _) fun b o hb e => ?_) hm'') hS'' g'' hkp''
      rw [hsb.2 b (fun h : b = S => hb (by rw [h]; exact List.mem_cons_self))]; exact e
theorem call_list {l : Addr} {items : Array Value} (ks : List (Addr × List Int)) {Q : Value → Shared → Prop} (hh : A.handled = none) (hl : s.heap.IsList l items) (hit : items.toList = ks.map fun p => Value.ref p.1)
    (hk : ∀ p ∈ ks, IsT P w s.heap p.2 p.1) (hfew : ks.length ≤ 256) (hnd : (ks.map (·.2)).Nodup) (hu : A.units + 3 < cLine)
    (h : ∀ (h' : Heap) (tk : Nat) L es ep t, Rep P w h' s.heap.objs.size L es ep t → L.Perm ks → (∀ b o, s.heap.get? b = some o → h'.get? b = some o) → Q (.ref s.heap.objs.size) { s with heap := h', toks := tk }) :
    wpAny (model P w) A (call (.type "set") [.ref l]) Q E s := by
  have hisz : items.size = ks.length := by
    have q := congrArg List.length hit
    rwa [Array.length_toList, List.length_map] at q
  obtain ⟨c, tl, hmro⟩ := F.called_set.mro
  have hmade := F.called_set.made
  have hsub := F.called_set.sub
  refine wpAny_call (codeAny_of_tree ?_)
  show wpAny _ _ (callAny (.type "set") _) _ _ _
  refine wpAny_pure ⟨Code.quiet_builtin _ (by decide +kernel), codeAny_builtin F.entry_type_call ?_⟩
  rw [Around.under_plain (weight_type_call_type "set" [.ref l] []) rfl]
  have h1 := F.called_set.notType
  have h2 := F.called_set.canCreate
  have hct := F.typeCall_set_1 (.ref l)
  repeat (any_goals (first | assumption | wp_step))
  refine codeAny_mono (code_set_led1 (.ref l) (E := E) (Q₁ := fun obj s₁ => obj = .ref s.heap.objs.size ∧ s₁ = { s with heap := s.heap.push (obj0 w) }) ⟨rfl, rfl⟩) fun r s₁ hr => ?_
  cases r with
  | error e => exact hr
  | ok fl =>
    cases fl with
    | ret obj =>
      obtain ⟨rfl, rfl⟩ := hr
      have hS : (s.heap.push (obj0 w)).get? s.heap.objs.size = some (obj0 w) := Heap.get?_push_size _ rfl
      have hT : Shared.TypeIs { s with heap := s.heap.push (obj0 w) } (.ref s.heap.objs.size) "set" := ⟨_, hS, rfl⟩
      have hli := F.called_set.init.lookup
      have hbi := F.called_set.init.bind (.ref s.heap.objs.size)
      repeat (any_goals (first | assumption | wp_step))
      refine codeAny_mono (codeAny_call_builtin (R := wants (fun r s₂ => r = .none ∧ ∃ h' tk L es ep t, s₂ = { s with heap := h', toks := tk } ∧ Rep P w h' s.heap.objs.size L es ep t ∧ L.Perm ks ∧
          (∀ b o, s.heap.get? b = some o → h'.get? b = some o)) E) F.called_set.init.plain F.entry_set_init (check_set_init_1 hT ?_)) fun r₂ s₂ hr₂ => ?_
      · obtain ⟨ol, hol, hcl, nl, hdl⟩ := hl
        obtain ⟨ocls, odict, odata, oslots⟩ := ol
        simp only at hcl hdl
        subst hcl; subst hdl
        have hol' : (s.heap.push (obj0 w)).get? l = some { cls := .type "list", dict := odict, data := .seq items nl, slots := oslots } := Heap.get?_push_of_some _ hol
        have hsls := F.sub_list_set
        have hslf := F.sub_list_frozenset
        have hne : (Value.type "list" == Value.type "dict") = false := by decide
        have hl1 : (s.heap.push (obj0 w)).IsList l items := ⟨_, hol', rfl, nl, rfl⟩
        unfold Builtin.«set.__init__» noKeywords Builtin.Frozenset.updateFrom
        generalize hPI : pyIter = PI
        wp_walk
        subst hPI
        refine wpAny_pyIter_list hl1 ?_
        refine wpAny_bind (wpAny_runValue ?_)
        have hlS : l < s.heap.objs.size := Heap.lt_size hol
        have hh3 : A.in1.in1.in1.handled = none := by simp [hh]
        have hneI : l ≠ (s.heap.push (obj0 w)).objs.size := by
          rw [Heap.size_push]; exact Nat.ne_of_lt (Nat.lt_succ_of_lt hlS)
        have hSf : s.heap.objs.size ∉ [(s.heap.push (obj0 w)).objs.size, l] := by
          rw [Heap.size_push]; simp only [List.mem_cons, List.mem_singleton, List.not_mem_nil, or_false, not_or]
          exact ⟨Nat.ne_of_lt (Nat.lt_succ_self _), Nat.ne_of_gt hlS⟩
        have hval : ∀ (i : Nat) (v : Value), items[i]? = some v → ∃ p, ks[i]? = some p ∧ v = .ref p.1 := fun i v hv => by
          have q : items.toList[i]? = some v := by rw [Array.getElem?_toList]; exact hv
          rw [hit, List.getElem?_map] at q
          cases hq : ks[i]? with
          | none => rw [hq] at q; cases q
          | some p =>
            rw [hq] at q
            exact ⟨p, rfl, (Option.some.inj q).symm⟩
        have none_of : ∀ b, s.heap.objs.size ≤ b → s.heap.get? b = none := fun b hb => by
          cases q : s.heap.get? b with
          | none => rfl
          | some o => exact absurd (Nat.lt_of_lt_of_le (Heap.lt_size q) hb) (Nat.lt_irrefl _)
        refine loop ((Walks.list hh3 _ l hneI items).toS) s.heap.objs.size
          hSf ks hisz hfew hnd hval s.heap hk (none_of _ (Nat.le_refl _)) (fun b hb => none_of b (by
            rw [List.mem_singleton.mp hb, Heap.size_push]
            exact Nat.le_succ _)) hu (items.size - 0) 0 _ (by omega) (Nat.zero_le _)
          ⟨⟨_, Heap.get?_push_size _ rfl, rfl, rfl⟩, (hl1.push _)⟩ (fun b o e => Heap.get?_push_of_some _ (Heap.get?_push_of_some _ e)) ?hS0 ?hR
        case hS0 => exact ⟨[], #[], 0, _, rep0 (Heap.get?_push_of_some _ hS), .refl _⟩
        case hR =>
          intro s' L es ep t hm hS' g' hkp
          obtain ⟨h', g2, d', tk', os'⟩ := s'
          have eg : g2 = s.gens := hm.gens
          have ed : d' = s.drawn := hm.drawn
          have eo : os' = s.os := hm.os
          subst eg; subst ed; subst eo
          show wpAny _ _ _ _ _ _
          refine wpAny_pure ?_
          show wpAny _ _ (ret Value.none) _ _ _
          exact wpAny_pure ⟨rfl, h', tk', L, es, ep, t, rfl, hS', g', hkp⟩
      · cases r₂ with
        | error e => exact hr₂
        | ok fl₂ =>
          cases fl₂ with
          | ret r =>
            obtain ⟨rfl, h', tk, L, es, ep, t, rfl, hS', g', hk'⟩ := hr₂
            repeat (any_goals (first | assumption | wp_step))
            exact h _ _ _ _ _ _ hS' g' hk'
          | _ => exact hr₂.elim
    | _ => exact hr.elim
theorem call_tuple {l : Addr} {items : Array Value} (ks : List (Addr × List Int)) {Q : Value → Shared → Prop} (hh : A.handled = none) (hl : s.heap.IsTuple l items) (hit : items.toList = ks.map fun p => Value.ref p.1)
    (hk : ∀ p ∈ ks, IsT P w s.heap p.2 p.1) (hfew : ks.length ≤ 256) (hnd : (ks.map (·.2)).Nodup) (hu : A.units + 3 < cLine)
    (h : ∀ (h' : Heap) (tk : Nat) L es ep t, Rep P w h' s.heap.objs.size L es ep t → L.Perm ks → (∀ b o, s.heap.get? b = some o → h'.get? b = some o) → Q (.ref s.heap.objs.size) { s with heap := h', toks := tk }) :
    wpAny (model P w) A (call (.type "set") [.ref l]) Q E s := by
  have hisz : items.size = ks.length := by
    have q := congrArg List.length hit
    rwa [Array.length_toList, List.length_map] at q
  obtain ⟨c, tl, hmro⟩ := F.called_set.mro
  have hmade := F.called_set.made
  have hsub := F.called_set.sub
  refine wpAny_call (codeAny_of_tree ?_)
  show wpAny _ _ (callAny (.type "set") _) _ _ _
  refine wpAny_pure ⟨Code.quiet_builtin _ (by decide +kernel), codeAny_builtin F.entry_type_call ?_⟩
  rw [Around.under_plain (weight_type_call_type "set" [.ref l] []) rfl]
  have h1 := F.called_set.notType
  have h2 := F.called_set.canCreate
  have hct := F.typeCall_set_1 (.ref l)
  repeat (any_goals (first | assumption | wp_step))
  refine codeAny_mono (code_set_led1 (.ref l) (E := E) (Q₁ := fun obj s₁ => obj = .ref s.heap.objs.size ∧ s₁ = { s with heap := s.heap.push (obj0 w) }) ⟨rfl, rfl⟩) fun r s₁ hr => ?_
  cases r with
  | error e => exact hr
  | ok fl =>
    cases fl with
    | ret obj =>
      obtain ⟨rfl, rfl⟩ := hr
      have hS : (s.heap.push (obj0 w)).get? s.heap.objs.size = some (obj0 w) := Heap.get?_push_size _ rfl
      have hT : Shared.TypeIs { s with heap := s.heap.push (obj0 w) } (.ref s.heap.objs.size) "set" := ⟨_, hS, rfl⟩
      have hli := F.called_set.init.lookup
      have hbi := F.called_set.init.bind (.ref s.heap.objs.size)
      repeat (any_goals (first | assumption | wp_step))
      refine codeAny_mono (codeAny_call_builtin (R := wants (fun r s₂ => r = .none ∧ ∃ h' tk L es ep t, s₂ = { s with heap := h', toks := tk } ∧ Rep P w h' s.heap.objs.size L es ep t ∧ L.Perm ks ∧
          (∀ b o, s.heap.get? b = some o → h'.get? b = some o)) E) F.called_set.init.plain F.entry_set_init (check_set_init_1 hT ?_)) fun r₂ s₂ hr₂ => ?_
      · obtain ⟨ol, hol, hcl, nl, hdl⟩ := hl
        obtain ⟨ocls, odict, odata, oslots⟩ := ol
        simp only at hcl hdl
        subst hcl; subst hdl
        have hol' : (s.heap.push (obj0 w)).get? l = some { cls := .type "tuple", dict := odict, data := .seq items nl, slots := oslots } := Heap.get?_push_of_some _ hol
        have hsls := F.sub_tuple_set
        have hslf := F.sub_tuple_frozenset
        have hne : (Value.type "tuple" == Value.type "dict") = false := by decide
        have hl1 : (s.heap.push (obj0 w)).IsTuple l items := ⟨_, hol', rfl, nl, rfl⟩
        unfold Builtin.«set.__init__» noKeywords Builtin.Frozenset.updateFrom
        generalize hPI : pyIter = PI
        wp_walk
        subst hPI
        refine wpAny_pyIter_tuple hl1 ?_
        refine wpAny_bind (wpAny_runValue ?_)
        have hlS : l < s.heap.objs.size := Heap.lt_size hol
        have hh3 : A.in1.in1.in1.handled = none := by simp [hh]
        have hneI : l ≠ (s.heap.push (obj0 w)).objs.size := by
          rw [Heap.size_push]; exact Nat.ne_of_lt (Nat.lt_succ_of_lt hlS)
        have hSf : s.heap.objs.size ∉ [(s.heap.push (obj0 w)).objs.size, l] := by
          rw [Heap.size_push]; simp only [List.mem_cons, List.mem_singleton, List.not_mem_nil, or_false, not_or]
          exact ⟨Nat.ne_of_lt (Nat.lt_succ_self _), Nat.ne_of_gt hlS⟩
        have hval : ∀ (i : Nat) (v : Value), items[i]? = some v → ∃ p, ks[i]? = some p ∧ v = .ref p.1 := fun i v hv => by
          have q : items.toList[i]? = some v := by rw [Array.getElem?_toList]; exact hv
          rw [hit, List.getElem?_map] at q
          cases hq : ks[i]? with
          | none => rw [hq] at q; cases q
          | some p =>
            rw [hq] at q
            exact ⟨p, rfl, (Option.some.inj q).symm⟩
        have none_of : ∀ b, s.heap.objs.size ≤ b → s.heap.get? b = none := fun b hb => by
          cases q : s.heap.get? b with
          | none => rfl
          | some o => exact absurd (Nat.lt_of_lt_of_le (Heap.lt_size q) hb) (Nat.lt_irrefl _)
        refine loop ((Walks.tuple hh3 _ l hneI items).toS) s.heap.objs.size
          hSf ks hisz hfew hnd hval s.heap hk (none_of _ (Nat.le_refl _)) (fun b hb => none_of b (by
            rw [List.mem_singleton.mp hb, Heap.size_push]
            exact Nat.le_succ _)) hu (items.size - 0) 0 _ (by omega) (Nat.zero_le _)
          ⟨⟨_, Heap.get?_push_size _ rfl, rfl, rfl⟩, (hl1.push _)⟩ (fun b o e => Heap.get?_push_of_some _ (Heap.get?_push_of_some _ e)) ?hS0 ?hR
        case hS0 => exact ⟨[], #[], 0, _, rep0 (Heap.get?_push_of_some _ hS), .refl _⟩
        case hR =>
          intro s' L es ep t hm hS' g' hkp
          obtain ⟨h', g2, d', tk', os'⟩ := s'
          have eg : g2 = s.gens := hm.gens
          have ed : d' = s.drawn := hm.drawn
          have eo : os' = s.os := hm.os
          subst eg; subst ed; subst eo
          show wpAny _ _ _ _ _ _
          refine wpAny_pure ?_
          show wpAny _ _ (ret Value.none) _ _ _
          exact wpAny_pure ⟨rfl, h', tk', L, es, ep, t, rfl, hS', g', hkp⟩
      · cases r₂ with
        | error e => exact hr₂
        | ok fl₂ =>
          cases fl₂ with
          | ret r =>
            obtain ⟨rfl, h', tk, L, es, ep, t, rfl, hS', g', hk'⟩ := hr₂
            repeat (any_goals (first | assumption | wp_step))
            exact h _ _ _ _ _ _ hS' g' hk'
          | _ => exact hr₂.elim
    | _ => exact hr.elim
end
end SetB

set_option Elab.async false
set_option linter.all false
set_option maxRecDepth 100000
set_option maxHeartbeats 3200000
/-! len(set(xs)), xs a list or tuple of different tuples of ints -/
namespace SetB
open PySem PySem.Spec PyProof.Rows L2
/-- len(set(e)) -/
def tLenSetB (K : PySem.W.Frag) (ta : TE) : TE := fun σ H Q => ta σ H fun x H1 => ∃ (l : Addr) (ks : List (Addr × List Int)), x = V.ref l ∧ (SqT K H1 l (ks.map fun p => V.ref p.1) ∨ SqL K H1 l (ks.map fun p => V.ref p.1)) ∧ (∀ p ∈ ks, SqT K H1 p.1 (p.2.map V.int)) ∧ ks.length ≤ 256 ∧ (ks.map (·.2)).Nodup ∧ Q (.int ks.length) H1
section
variable {X : Cx}
theorem pe_lenSetB {a : Expr} {ta : TE} {p p2 q pos : Pos} (hc : X.calm = true) (hu : X.A.units + 64 < cLine) (hg : Gl X "len") (hm : X.mg "len" = none) (hg2 : Gl X "set") (hm2 : X.mg "set" = none) (ha : PE X a ta)
    (na : starEach [a] X.env = (false, eval a X.env) :: starEach [] X.env := by rfl) : PE X (.Call (.Name "len" p) [.Call (.Name "set" p2) [a] [] q] [] pos) (tLenSetB X.K ta) := by
  refine ⟨fun pins s σ H Q I h => ?_⟩
  refine Call_ (ld_blt I hg hm PySem.boot_len ?_)
  refine PyProof.Rows.callWith_builtin1 (PyProof.Rows.args_cons ?_ rfl) rfl rfl
  refine Call_ (ld_blt I hg2 hm2 PyProof.Rows.boot_set ?_)
  refine PyProof.Rows.callWith_type1 (PyProof.Rows.args_cons (thn (ha.run pins s σ H _ I h) fun v s1 ⟨x, H1, I1, r1, q1⟩ => PyProof.Rows.args_nil ?_) na) na rfl
  obtain ⟨l, ks, rfl, hq, hk, h1, hnd, q1⟩ := q1
  cases r1
  rcases hq with hq | hq
  · obtain ⟨its, r, pl, _⟩ := I1.tuple hq
    refine call_tuple (P := X.prog) (w := X.w) ks (I1.ok.hd hc) pl (by simpa using refs_of_vals r) (fun p hp => I1.isT (hk p hp)) h1 hnd (by omega) fun h' tk L es ep t R pm k => ?_
    refine PyProof.Rows.args_nil ?_
    obtain ⟨o, ho, hex, hd⟩ := R.ob
    have I2 : Inv X pins σ H1 { s1 with heap := h', toks := tk } := I1.kept fun b o e => k b o e
    exact call_len_set ho hex hd R.fits (by rw [R.size, pm.length_eq]; omega) ⟨.int ks.length, H1, I2.tok _, ⟨_, by rw [R.size, pm.length_eq]⟩, q1⟩
  · obtain ⟨its, r, pl, _⟩ := I1.list hq
    refine call_list (P := X.prog) (w := X.w) ks (I1.ok.hd hc) pl.isList (by simpa using refs_of_vals r) (fun p hp => I1.isT (hk p hp)) h1 hnd (by omega) fun h' tk L es ep t R pm k => ?_
    refine PyProof.Rows.args_nil ?_
    obtain ⟨o, ho, hex, hd⟩ := R.ob
    have I2 : Inv X pins σ H1 { s1 with heap := h', toks := tk } := I1.kept fun b o e => k b o e
    exact call_len_set ho hex hd R.fits (by rw [R.size, pm.length_eq]; omega) ⟨.int ks.length, H1, I2.tok _, ⟨_, by rw [R.size, pm.length_eq]⟩, q1⟩
end
end SetB

set_option Elab.async false
set_option linter.all false
set_option maxRecDepth 100000
set_option maxHeartbeats 4000000
namespace K50
open PySem PySem.Spec PyProof.Rows L2 SlX OwnR OwnF
theorem hu64 {k : Nat} {A : Around} (hr : Room k A) : A.units + 64 < cLine := hr.units
theorem same_upd0 {H : Hp} {p : Addr} {o : HO} (h : H p = none) : Same H (upd H p o) := fun b x e => by
  rw [upd_ne (ne_of_none e h)]
  exact e
def topS (i : Nat) : Stmt := PySem.Challenge.pw_sourceforms_k50_whole_prime_points_and_t.main.body.getD i (.Pass ⟨0, 0, 0, 0⟩)
abbrev FnP (K : PySem.W.Frag) (x : Str) (st : Stmt) (f : Addr) (fd : FuncData) : Prop := FunD K x x (defArgs st) (defBody st) (defScope st) [] [] f fd
abbrev s_is_whole : Stmt := topS 7
abbrev N_is_whole : List Str := ["value"]
theorem sc_is_whole : FnScope N_is_whole ["value"] (defScope s_is_whole) := ⟨rfl, rfl, rfl, by decide +kernel, rfl, by decide +kernel, by decide +kernel⟩
abbrev s_is_short : Stmt := topS 8
abbrev N_is_short : List Str := ["value"]
theorem sc_is_short : FnScope N_is_short ["value"] (defScope s_is_short) := ⟨rfl, rfl, rfl, by decide +kernel, rfl, by decide +kernel, by decide +kernel⟩
abbrev s_require_prime : Stmt := topS 11
abbrev N_require_prime : List Str := ["value"]
theorem sc_require_prime : FnScope N_require_prime ["value"] (defScope s_require_prime) := ⟨rfl, rfl, rfl, by decide +kernel, rfl, by decide +kernel, by decide +kernel⟩
abbrev s_undone_in : Stmt := topS 12
abbrev N_undone_in : List Str := ["prime", "number", "found", "power", "left"]
theorem sc_undone_in : FnScope N_undone_in ["prime", "number"] (defScope s_undone_in) := ⟨rfl, rfl, rfl, by decide +kernel, rfl, by decide +kernel, by decide +kernel⟩
abbrev s_modulo : Stmt := topS 13
abbrev N_modulo : List Str := ["prime", "numbers", "number"]
theorem sc_modulo : FnScope N_modulo ["prime", "numbers"] (defScope s_modulo) := ⟨rfl, rfl, rfl, by decide +kernel, rfl, by decide +kernel, by decide +kernel⟩
abbrev s_plain_row : Stmt := topS 14
abbrev N_plain_row : List Str := ["prime", "numbers", "others", "number", "factor"]
theorem sc_plain_row : FnScope N_plain_row ["prime", "numbers"] (defScope s_plain_row) := ⟨rfl, rfl, rfl, by decide +kernel, rfl, by decide +kernel, by decide +kernel⟩
abbrev s_is_prime_point : Stmt := topS 15
abbrev N_is_prime_point : List Str := ["prime", "value", "one"]
theorem sc_is_prime_point : FnScope N_is_prime_point ["prime", "value"] (defScope s_is_prime_point) := ⟨rfl, rfl, rfl, by decide +kernel, rfl, by decide +kernel, by decide +kernel⟩
abbrev s_require_prime_point : Stmt := topS 16
abbrev N_require_prime_point : List Str := ["prime", "value"]
theorem sc_require_prime_point : FnScope N_require_prime_point ["prime", "value"] (defScope s_require_prime_point) := ⟨rfl, rfl, rfl, by decide +kernel, rfl, by decide +kernel, by decide +kernel⟩
abbrev s_determinant_in : Stmt := topS 17
abbrev N_determinant_in : List Str := ["table"]
theorem sc_determinant_in : FnScope N_determinant_in ["table"] (defScope s_determinant_in) := ⟨rfl, rfl, rfl, by decide +kernel, rfl, by decide +kernel, by decide +kernel⟩
abbrev s_is_prime_table : Stmt := topS 18
abbrev N_is_prime_table : List Str := ["prime", "value", "row", "one"]
theorem sc_is_prime_table : FnScope N_is_prime_table ["prime", "value"] (defScope s_is_prime_table) := ⟨rfl, rfl, rfl, by decide +kernel, rfl, by decide +kernel, by decide +kernel⟩
abbrev s_require_prime_table : Stmt := topS 19
abbrev N_require_prime_table : List Str := ["prime", "value"]
theorem sc_require_prime_table : FnScope N_require_prime_table ["prime", "value"] (defScope s_require_prime_table) := ⟨rfl, rfl, rfl, by decide +kernel, rfl, by decide +kernel, by decide +kernel⟩
abbrev s_plain_table_in : Stmt := topS 20
abbrev N_plain_table_in : List Str := ["prime", "table", "one", "two", "three", "four"]
theorem sc_plain_table_in : FnScope N_plain_table_in ["prime", "table"] (defScope s_plain_table_in) := ⟨rfl, rfl, rfl, by decide +kernel, rfl, by decide +kernel, by decide +kernel⟩
abbrev s_led_in : Stmt := topS 21
abbrev N_led_in : List Str := ["prime", "table", "point", "x", "y", "row"]
theorem sc_led_in : FnScope N_led_in ["prime", "table", "point"] (defScope s_led_in) := ⟨rfl, rfl, rfl, by decide +kernel, rfl, by decide +kernel, by decide +kernel⟩
abbrev s_all_points : Stmt := topS 22
abbrev N_all_points : List Str := ["prime"]
theorem sc_all_points : FnScope N_all_points ["prime"] (defScope s_all_points) := ⟨rfl, rfl, rfl, by decide +kernel, rfl, by decide +kernel, by decide +kernel⟩
abbrev s_points_in : Stmt := topS 23
abbrev N_points_in : List Str := ["prime", "last"]
theorem sc_points_in : FnScope N_points_in ["prime"] (defScope s_points_in) := ⟨rfl, rfl, rfl, by decide +kernel, rfl, by decide +kernel, by decide +kernel⟩
abbrev s_led_point : Stmt := topS 24
abbrev N_led_point : List Str := ["prime", "table", "point"]
theorem sc_led_point : FnScope N_led_point ["prime", "table", "point"] (defScope s_led_point) := ⟨rfl, rfl, rfl, by decide +kernel, rfl, by decide +kernel, by decide +kernel⟩
abbrev s_plain_table : Stmt := topS 25
abbrev N_plain_table : List Str := ["prime", "table"]
theorem sc_plain_table : FnScope N_plain_table ["prime", "table"] (defScope s_plain_table) := ⟨rfl, rfl, rfl, by decide +kernel, rfl, by decide +kernel, by decide +kernel⟩
abbrev s_crossed : Stmt := topS 26
abbrev N_crossed : List Str := ["one", "other"]
theorem sc_crossed : FnScope N_crossed ["one", "other"] (defScope s_crossed) := ⟨rfl, rfl, rfl, by decide +kernel, rfl, by decide +kernel, by decide +kernel⟩
abbrev s_table_to_three : Stmt := topS 27
abbrev N_table_to_three : List Str := ["three", "first", "second", "third", "left", "right"]
theorem sc_table_to_three : FnScope N_table_to_three ["three"] (defScope s_table_to_three) := ⟨rfl, rfl, rfl, by decide +kernel, rfl, by decide +kernel, by decide +kernel⟩
abbrev s_product_of_tables : Stmt := topS 28
abbrev N_product_of_tables : List Str := ["one", "other", "columns", "column", "row"]
theorem sc_product_of_tables : FnScope N_product_of_tables ["one", "other"] (defScope s_product_of_tables) := ⟨rfl, rfl, rfl, by decide +kernel, rfl, by decide +kernel, by decide +kernel⟩
abbrev s_table_between : Stmt := topS 29
abbrev N_table_between : List Str := ["prime", "three", "other", "one", "two", "last", "more"]
theorem sc_table_between : FnScope N_table_between ["prime", "three", "other"] (defScope s_table_between) := ⟨rfl, rfl, rfl, by decide +kernel, rfl, by decide +kernel, by decide +kernel⟩
abbrev s_is_three : Stmt := topS 30
abbrev N_is_three : List Str := ["prime", "value", "one"]
theorem sc_is_three : FnScope N_is_three ["prime", "value"] (defScope s_is_three) := ⟨rfl, rfl, rfl, by decide +kernel, rfl, by decide +kernel, by decide +kernel⟩
abbrev s_table_by_three : Stmt := topS 31
abbrev N_table_by_three : List Str := ["prime", "three", "other", "points"]
theorem sc_table_by_three : FnScope N_table_by_three ["prime", "three", "other"] (defScope s_table_by_three) := ⟨rfl, rfl, rfl, by decide +kernel, rfl, by decide +kernel, by decide +kernel⟩
abbrev s_law_dice : Stmt := topS 33
abbrev N_law_dice : List Str := ["_law_script", "_law_spot", "_law_cell", "_law_left"]
theorem sc_law_dice : FnScope N_law_dice ["_law_script", "_law_spot"] (defScope s_law_dice) := ⟨rfl, rfl, rfl, by decide +kernel, rfl, by decide +kernel, by decide +kernel⟩
abbrev s_law_roll : Stmt := topS 34
abbrev N_law_roll : List Str := ["_law_dice_here", "_law_total", "_law_found", "_law_one", "_law_two"]
theorem sc_law_roll : FnScope N_law_roll ["_law_dice_here", "_law_total"] (defScope s_law_roll) := ⟨rfl, rfl, rfl, by decide +kernel, rfl, by decide +kernel, by decide +kernel⟩
abbrev s_law_pick : Stmt := topS 35
abbrev N_law_pick : List Str := ["_law_dice_here", "_law_items"]
theorem sc_law_pick : FnScope N_law_pick ["_law_dice_here", "_law_items"] (defScope s_law_pick) := ⟨rfl, rfl, rfl, by decide +kernel, rfl, by decide +kernel, by decide +kernel⟩
abbrev s_law_mixed : Stmt := topS 36
abbrev N_law_mixed : List Str := ["_law_dice_here", "_law_items", "_law_left", "_law_found", "_law_turn"]
theorem sc_law_mixed : FnScope N_law_mixed ["_law_dice_here", "_law_items"] (defScope s_law_mixed) := ⟨rfl, rfl, rfl, by decide +kernel, rfl, by decide +kernel, by decide +kernel⟩
abbrev s_law_near : Stmt := topS 37
abbrev N_law_near : List Str := ["_law_dice_here", "_law_most"]
theorem sc_law_near : FnScope N_law_near ["_law_dice_here", "_law_most"] (defScope s_law_near) := ⟨rfl, rfl, rfl, by decide +kernel, rfl, by decide +kernel, by decide +kernel⟩
abbrev s_law_scaled : Stmt := topS 38
abbrev N_law_scaled : List Str := ["_law_form", "_law_factor", "_law_entry"]
theorem sc_law_scaled : FnScope N_law_scaled ["_law_form", "_law_factor"] (defScope s_law_scaled) := ⟨rfl, rfl, rfl, by decide +kernel, rfl, by decide +kernel, by decide +kernel⟩
abbrev s_law_joined : Stmt := topS 39
abbrev N_law_joined : List Str := ["_law_one", "_law_other", "_law_rows", "_law_first", "_law_second", "_law_at"]
theorem sc_law_joined : FnScope N_law_joined ["_law_one", "_law_other"] (defScope s_law_joined) := ⟨rfl, rfl, rfl, by decide +kernel, rfl, by decide +kernel, by decide +kernel⟩
abbrev s_law_det : Stmt := topS 40
abbrev N_law_det : List Str := ["_law_table"]
theorem sc_law_det : FnScope N_law_det ["_law_table"] (defScope s_law_det) := ⟨rfl, rfl, rfl, by decide +kernel, rfl, by decide +kernel, by decide +kernel⟩
abbrev s_law_left_by : Stmt := topS 41
abbrev N_law_left_by : List Str := ["_law_entries", "_law_prime", "_law_entry"]
theorem sc_law_left_by : FnScope N_law_left_by ["_law_entries", "_law_prime"] (defScope s_law_left_by) := ⟨rfl, rfl, rfl, by decide +kernel, rfl, by decide +kernel, by decide +kernel⟩
abbrev s_law_undo_by : Stmt := topS 42
abbrev N_law_undo_by : List Str := ["_law_number", "_law_prime", "_law_found", "_law_base", "_law_left"]
theorem sc_law_undo_by : FnScope N_law_undo_by ["_law_number", "_law_prime"] (defScope s_law_undo_by) := ⟨rfl, rfl, rfl, by decide +kernel, rfl, by decide +kernel, by decide +kernel⟩
abbrev s_law_first_one : Stmt := topS 43
abbrev N_law_first_one : List Str := ["_law_entries", "_law_prime", "_law_some", "_law_entry"]
theorem sc_law_first_one : FnScope N_law_first_one ["_law_entries", "_law_prime"] (defScope s_law_first_one) := ⟨rfl, rfl, rfl, by decide +kernel, rfl, by decide +kernel, by decide +kernel⟩
abbrev s_law_some_prime : Stmt := topS 44
abbrev N_law_some_prime : List Str := ["_law_dice_here"]
theorem sc_law_some_prime : FnScope N_law_some_prime ["_law_dice_here"] (defScope s_law_some_prime) := ⟨rfl, rfl, rfl, by decide +kernel, rfl, by decide +kernel, by decide +kernel⟩
abbrev s_law_prime_point : Stmt := topS 45
abbrev N_law_prime_point : List Str := ["_law_dice_here", "_law_prime", "_law_number"]
theorem sc_law_prime_point : FnScope N_law_prime_point ["_law_dice_here", "_law_prime"] (defScope s_law_prime_point) := ⟨rfl, rfl, rfl, by decide +kernel, rfl, by decide +kernel, by decide +kernel⟩
abbrev s_law_prime_table : Stmt := topS 46
abbrev N_law_prime_table : List Str := ["_law_dice_here", "_law_prime", "_law_most", "_law_found", "_law_row"]
theorem sc_law_prime_table : FnScope N_law_prime_table ["_law_dice_here", "_law_prime"] (defScope s_law_prime_table) := ⟨rfl, rfl, rfl, by decide +kernel, rfl, by decide +kernel, by decide +kernel⟩
abbrev s_law_led_by : Stmt := topS 47
abbrev N_law_led_by : List Str := ["_law_table", "_law_point", "_law_prime", "_law_row"]
theorem sc_law_led_by : FnScope N_law_led_by ["_law_table", "_law_point", "_law_prime"] (defScope s_law_led_by) := ⟨rfl, rfl, rfl, by decide +kernel, rfl, by decide +kernel, by decide +kernel⟩
abbrev s_law_points_by : Stmt := topS 48
abbrev N_law_points_by : List Str := ["_law_prime", "_law_number"]
theorem sc_law_points_by : FnScope N_law_points_by ["_law_prime"] (defScope s_law_points_by) := ⟨rfl, rfl, rfl, by decide +kernel, rfl, by decide +kernel, by decide +kernel⟩
abbrev s_law_plain_table : Stmt := topS 49
abbrev N_law_plain_table : List Str := ["_law_table", "_law_prime", "_law_found"]
theorem sc_law_plain_table : FnScope N_law_plain_table ["_law_table", "_law_prime"] (defScope s_law_plain_table) := ⟨rfl, rfl, rfl, by decide +kernel, rfl, by decide +kernel, by decide +kernel⟩
abbrev s_law_three : Stmt := topS 50
abbrev N_law_three : List Str := ["_law_dice_here", "_law_prime", "_law_points"]
theorem sc_law_three : FnScope N_law_three ["_law_dice_here", "_law_prime"] (defScope s_law_three) := ⟨rfl, rfl, rfl, by decide +kernel, rfl, by decide +kernel, by decide +kernel⟩
abbrev s_law_leads_three : Stmt := topS 51
abbrev N_law_leads_three : List Str := ["_law_table", "_law_prime", "_law_three_here", "_law_other", "_law_one", "_law_goal"]
theorem sc_law_leads_three : FnScope N_law_leads_three ["_law_table", "_law_prime", "_law_three_here", "_law_other"] (defScope s_law_leads_three) := ⟨rfl, rfl, rfl, by decide +kernel, rfl, by decide +kernel, by decide +kernel⟩
abbrev s_law_all_between : Stmt := topS 52
abbrev N_law_all_between : List Str := ["_law_prime", "_law_three_here", "_law_other", "_law_found", "_law_place", "_law_some", "_law_table", "_law_first"]
theorem sc_law_all_between : FnScope N_law_all_between ["_law_prime", "_law_three_here", "_law_other"] (defScope s_law_all_between) := ⟨rfl, rfl, rfl, by decide +kernel, rfl, by decide +kernel, by decide +kernel⟩
abbrev s_law_right : Stmt := topS 53
abbrev N_law_right : List Str := ["_law_dice_here", "_law_prime", "_law_one", "_law_other", "_law_factor", "_law_many", "_law_entry", "_law_row", "_law_turn", "_law_point", "_law_told", "_law_three_here", "_law_goals"]
theorem sc_law_right : FnScope N_law_right ["_law_dice_here"] (defScope s_law_right) := ⟨rfl, rfl, rfl, by decide +kernel, rfl, by decide +kernel, by decide +kernel⟩
abbrev s_law : Stmt := topS 54
abbrev N_law : List Str := ["_law_script", "_law_spot", "_law_dice_here", "_law_three_here", "_law_other", "_law_told"]
theorem sc_law : FnScope N_law ["_law_script"] (defScope s_law) := ⟨rfl, rfl, rfl, by decide +kernel, rfl, by decide +kernel, by decide +kernel⟩
/-- where the defs stand, what the names of the module are -/
structure Facts (K : PySem.W.Frag) (mg : Str → Option Value) where
  f_is_whole : Addr
  fd_is_whole : FuncData
  F_is_whole : FnP K "is_whole" s_is_whole f_is_whole fd_is_whole
  g_is_whole : mg "is_whole" = some (.ref f_is_whole)
  b_is_whole : Binds K fd_is_whole ["value"] []
  f_is_short : Addr
  fd_is_short : FuncData
  F_is_short : FnP K "is_short" s_is_short f_is_short fd_is_short
  g_is_short : mg "is_short" = some (.ref f_is_short)
  b_is_short : Binds K fd_is_short ["value"] []
  f_require_prime : Addr
  fd_require_prime : FuncData
  F_require_prime : FnP K "require_prime" s_require_prime f_require_prime fd_require_prime
  g_require_prime : mg "require_prime" = some (.ref f_require_prime)
  b_require_prime : Binds K fd_require_prime ["value"] []
  f_undone_in : Addr
  fd_undone_in : FuncData
  F_undone_in : FnP K "undone_in" s_undone_in f_undone_in fd_undone_in
  g_undone_in : mg "undone_in" = some (.ref f_undone_in)
  b_undone_in : Binds K fd_undone_in ["prime", "number"] []
  f_modulo : Addr
  fd_modulo : FuncData
  F_modulo : FnP K "modulo" s_modulo f_modulo fd_modulo
  g_modulo : mg "modulo" = some (.ref f_modulo)
  b_modulo : Binds K fd_modulo ["prime", "numbers"] []
  f_plain_row : Addr
  fd_plain_row : FuncData
  F_plain_row : FnP K "plain_row" s_plain_row f_plain_row fd_plain_row
  g_plain_row : mg "plain_row" = some (.ref f_plain_row)
  b_plain_row : Binds K fd_plain_row ["prime", "numbers"] []
  f_is_prime_point : Addr
  fd_is_prime_point : FuncData
  F_is_prime_point : FnP K "is_prime_point" s_is_prime_point f_is_prime_point fd_is_prime_point
  g_is_prime_point : mg "is_prime_point" = some (.ref f_is_prime_point)
  b_is_prime_point : Binds K fd_is_prime_point ["prime", "value"] []
  f_require_prime_point : Addr
  fd_require_prime_point : FuncData
  F_require_prime_point : FnP K "require_prime_point" s_require_prime_point f_require_prime_point fd_require_prime_point
  g_require_prime_point : mg "require_prime_point" = some (.ref f_require_prime_point)
  b_require_prime_point : Binds K fd_require_prime_point ["prime", "value"] []
  f_determinant_in : Addr
  fd_determinant_in : FuncData
  F_determinant_in : FnP K "determinant_in" s_determinant_in f_determinant_in fd_determinant_in
  g_determinant_in : mg "determinant_in" = some (.ref f_determinant_in)
  b_determinant_in : Binds K fd_determinant_in ["table"] []
  f_is_prime_table : Addr
  fd_is_prime_table : FuncData
  F_is_prime_table : FnP K "is_prime_table" s_is_prime_table f_is_prime_table fd_is_prime_table
  g_is_prime_table : mg "is_prime_table" = some (.ref f_is_prime_table)
  b_is_prime_table : Binds K fd_is_prime_table ["prime", "value"] []
  f_require_prime_table : Addr
  fd_require_prime_table : FuncData
  F_require_prime_table : FnP K "require_prime_table" s_require_prime_table f_require_prime_table fd_require_prime_table
  g_require_prime_table : mg "require_prime_table" = some (.ref f_require_prime_table)
  b_require_prime_table : Binds K fd_require_prime_table ["prime", "value"] []
  f_plain_table_in : Addr
  fd_plain_table_in : FuncData
  F_plain_table_in : FnP K "plain_table_in" s_plain_table_in f_plain_table_in fd_plain_table_in
  g_plain_table_in : mg "plain_table_in" = some (.ref f_plain_table_in)
  b_plain_table_in : Binds K fd_plain_table_in ["prime", "table"] []
  f_led_in : Addr
  fd_led_in : FuncData
  F_led_in : FnP K "led_in" s_led_in f_led_in fd_led_in
  g_led_in : mg "led_in" = some (.ref f_led_in)
  b_led_in : Binds K fd_led_in ["prime", "table", "point"] []
  f_all_points : Addr
  fd_all_points : FuncData
  F_all_points : FnP K "all_points" s_all_points f_all_points fd_all_points
  g_all_points : mg "all_points" = some (.ref f_all_points)
  b_all_points : Binds K fd_all_points ["prime"] []
  f_points_in : Addr
  fd_points_in : FuncData
  F_points_in : FnP K "points_in" s_points_in f_points_in fd_points_in
  g_points_in : mg "points_in" = some (.ref f_points_in)
  b_points_in : Binds K fd_points_in ["prime"] []
  f_led_point : Addr
  fd_led_point : FuncData
  F_led_point : FnP K "led_point" s_led_point f_led_point fd_led_point
  g_led_point : mg "led_point" = some (.ref f_led_point)
  b_led_point : Binds K fd_led_point ["prime", "table", "point"] []
  f_plain_table : Addr
  fd_plain_table : FuncData
  F_plain_table : FnP K "plain_table" s_plain_table f_plain_table fd_plain_table
  g_plain_table : mg "plain_table" = some (.ref f_plain_table)
  b_plain_table : Binds K fd_plain_table ["prime", "table"] []
  f_crossed : Addr
  fd_crossed : FuncData
  F_crossed : FnP K "crossed" s_crossed f_crossed fd_crossed
  g_crossed : mg "crossed" = some (.ref f_crossed)
  b_crossed : Binds K fd_crossed ["one", "other"] []
  f_table_to_three : Addr
  fd_table_to_three : FuncData
  F_table_to_three : FnP K "table_to_three" s_table_to_three f_table_to_three fd_table_to_three
  g_table_to_three : mg "table_to_three" = some (.ref f_table_to_three)
  b_table_to_three : Binds K fd_table_to_three ["three"] []
  f_product_of_tables : Addr
  fd_product_of_tables : FuncData
  F_product_of_tables : FnP K "product_of_tables" s_product_of_tables f_product_of_tables fd_product_of_tables
  g_product_of_tables : mg "product_of_tables" = some (.ref f_product_of_tables)
  b_product_of_tables : Binds K fd_product_of_tables ["one", "other"] []
  f_table_between : Addr
  fd_table_between : FuncData
  F_table_between : FnP K "table_between" s_table_between f_table_between fd_table_between
  g_table_between : mg "table_between" = some (.ref f_table_between)
  b_table_between : Binds K fd_table_between ["prime", "three", "other"] []
  f_is_three : Addr
  fd_is_three : FuncData
  F_is_three : FnP K "is_three" s_is_three f_is_three fd_is_three
  g_is_three : mg "is_three" = some (.ref f_is_three)
  b_is_three : Binds K fd_is_three ["prime", "value"] []
  f_table_by_three : Addr
  fd_table_by_three : FuncData
  F_table_by_three : FnP K "table_by_three" s_table_by_three f_table_by_three fd_table_by_three
  g_table_by_three : mg "table_by_three" = some (.ref f_table_by_three)
  b_table_by_three : Binds K fd_table_by_three ["prime", "three", "other"] []
  f_law_dice : Addr
  fd_law_dice : FuncData
  F_law_dice : FnP K "_law_dice" s_law_dice f_law_dice fd_law_dice
  g_law_dice : mg "_law_dice" = some (.ref f_law_dice)
  b_law_dice : Binds K fd_law_dice ["_law_script", "_law_spot"] []
  f_law_roll : Addr
  fd_law_roll : FuncData
  F_law_roll : FnP K "_law_roll" s_law_roll f_law_roll fd_law_roll
  g_law_roll : mg "_law_roll" = some (.ref f_law_roll)
  b_law_roll : Binds K fd_law_roll ["_law_dice_here", "_law_total"] []
  f_law_pick : Addr
  fd_law_pick : FuncData
  F_law_pick : FnP K "_law_pick" s_law_pick f_law_pick fd_law_pick
  g_law_pick : mg "_law_pick" = some (.ref f_law_pick)
  b_law_pick : Binds K fd_law_pick ["_law_dice_here", "_law_items"] []
  f_law_mixed : Addr
  fd_law_mixed : FuncData
  F_law_mixed : FnP K "_law_mixed" s_law_mixed f_law_mixed fd_law_mixed
  g_law_mixed : mg "_law_mixed" = some (.ref f_law_mixed)
  b_law_mixed : Binds K fd_law_mixed ["_law_dice_here", "_law_items"] []
  f_law_near : Addr
  fd_law_near : FuncData
  F_law_near : FnP K "_law_near" s_law_near f_law_near fd_law_near
  g_law_near : mg "_law_near" = some (.ref f_law_near)
  b_law_near : Binds K fd_law_near ["_law_dice_here", "_law_most"] []
  f_law_scaled : Addr
  fd_law_scaled : FuncData
  F_law_scaled : FnP K "_law_scaled" s_law_scaled f_law_scaled fd_law_scaled
  g_law_scaled : mg "_law_scaled" = some (.ref f_law_scaled)
  b_law_scaled : Binds K fd_law_scaled ["_law_form", "_law_factor"] []
  f_law_joined : Addr
  fd_law_joined : FuncData
  F_law_joined : FnP K "_law_joined" s_law_joined f_law_joined fd_law_joined
  g_law_joined : mg "_law_joined" = some (.ref f_law_joined)
  b_law_joined : Binds K fd_law_joined ["_law_one", "_law_other"] []
  f_law_det : Addr
  fd_law_det : FuncData
  F_law_det : FnP K "_law_det" s_law_det f_law_det fd_law_det
  g_law_det : mg "_law_det" = some (.ref f_law_det)
  b_law_det : Binds K fd_law_det ["_law_table"] []
  f_law_left_by : Addr
  fd_law_left_by : FuncData
  F_law_left_by : FnP K "_law_left_by" s_law_left_by f_law_left_by fd_law_left_by
  g_law_left_by : mg "_law_left_by" = some (.ref f_law_left_by)
  b_law_left_by : Binds K fd_law_left_by ["_law_entries", "_law_prime"] []
  f_law_undo_by : Addr
  fd_law_undo_by : FuncData
  F_law_undo_by : FnP K "_law_undo_by" s_law_undo_by f_law_undo_by fd_law_undo_by
  g_law_undo_by : mg "_law_undo_by" = some (.ref f_law_undo_by)
  b_law_undo_by : Binds K fd_law_undo_by ["_law_number", "_law_prime"] []
  f_law_first_one : Addr
  fd_law_first_one : FuncData
  F_law_first_one : FnP K "_law_first_one" s_law_first_one f_law_first_one fd_law_first_one
  g_law_first_one : mg "_law_first_one" = some (.ref f_law_first_one)
  b_law_first_one : Binds K fd_law_first_one ["_law_entries", "_law_prime"] []
  f_law_some_prime : Addr
  fd_law_some_prime : FuncData
  F_law_some_prime : FnP K "_law_some_prime" s_law_some_prime f_law_some_prime fd_law_some_prime
  g_law_some_prime : mg "_law_some_prime" = some (.ref f_law_some_prime)
  b_law_some_prime : Binds K fd_law_some_prime ["_law_dice_here"] []
  f_law_prime_point : Addr
  fd_law_prime_point : FuncData
  F_law_prime_point : FnP K "_law_prime_point" s_law_prime_point f_law_prime_point fd_law_prime_point
  g_law_prime_point : mg "_law_prime_point" = some (.ref f_law_prime_point)
  b_law_prime_point : Binds K fd_law_prime_point ["_law_dice_here", "_law_prime"] []
  f_law_prime_table : Addr
  fd_law_prime_table : FuncData
  F_law_prime_table : FnP K "_law_prime_table" s_law_prime_table f_law_prime_table fd_law_prime_table
  g_law_prime_table : mg "_law_prime_table" = some (.ref f_law_prime_table)
  b_law_prime_table : Binds K fd_law_prime_table ["_law_dice_here", "_law_prime"] []
  f_law_led_by : Addr
  fd_law_led_by : FuncData
  F_law_led_by : FnP K "_law_led_by" s_law_led_by f_law_led_by fd_law_led_by
  g_law_led_by : mg "_law_led_by" = some (.ref f_law_led_by)
  b_law_led_by : Binds K fd_law_led_by ["_law_table", "_law_point", "_law_prime"] []
  f_law_points_by : Addr
  fd_law_points_by : FuncData
  F_law_points_by : FnP K "_law_points_by" s_law_points_by f_law_points_by fd_law_points_by
  g_law_points_by : mg "_law_points_by" = some (.ref f_law_points_by)
  b_law_points_by : Binds K fd_law_points_by ["_law_prime"] []
  f_law_plain_table : Addr
  fd_law_plain_table : FuncData
  F_law_plain_table : FnP K "_law_plain_table" s_law_plain_table f_law_plain_table fd_law_plain_table
  g_law_plain_table : mg "_law_plain_table" = some (.ref f_law_plain_table)
  b_law_plain_table : Binds K fd_law_plain_table ["_law_table", "_law_prime"] []
  f_law_three : Addr
  fd_law_three : FuncData
  F_law_three : FnP K "_law_three" s_law_three f_law_three fd_law_three
  g_law_three : mg "_law_three" = some (.ref f_law_three)
  b_law_three : Binds K fd_law_three ["_law_dice_here", "_law_prime"] []
  f_law_leads_three : Addr
  fd_law_leads_three : FuncData
  F_law_leads_three : FnP K "_law_leads_three" s_law_leads_three f_law_leads_three fd_law_leads_three
  g_law_leads_three : mg "_law_leads_three" = some (.ref f_law_leads_three)
  b_law_leads_three : Binds K fd_law_leads_three ["_law_table", "_law_prime", "_law_three_here", "_law_other"] []
  f_law_all_between : Addr
  fd_law_all_between : FuncData
  F_law_all_between : FnP K "_law_all_between" s_law_all_between f_law_all_between fd_law_all_between
  g_law_all_between : mg "_law_all_between" = some (.ref f_law_all_between)
  b_law_all_between : Binds K fd_law_all_between ["_law_prime", "_law_three_here", "_law_other"] []
  f_law_right : Addr
  fd_law_right : FuncData
  F_law_right : FnP K "_law_right" s_law_right f_law_right fd_law_right
  g_law_right : mg "_law_right" = some (.ref f_law_right)
  b_law_right : Binds K fd_law_right ["_law_dice_here"] []
  f_law : Addr
  fd_law : FuncData
  F_law : FnP K "law" s_law f_law fd_law
  g_law : mg "law" = some (.ref f_law)
  b_law : Binds K fd_law ["_law_script"] []
  z_abs : mg "abs" = none
  z_all : mg "all" = none
  z_bool : mg "bool" = none
  z_int : mg "int" = none
  z_isinstance : mg "isinstance" = none
  z_len : mg "len" = none
  z_list : mg "list" = none
  z_max : mg "max" = none
  z_min : mg "min" = none
  z_range : mg "range" = none
  z_set : mg "set" = none
  z_tuple : mg "tuple" = none
  z_zip : mg "zip" = none
  c_GREATEST : ∃ t, mg "GREATEST" = some (.int 1000000000000000000000000000000000000000000000000000000000000 t)
  A_PRIMES : Addr
  t_PRIMES : StatT.Tp K mg "PRIMES" [13, 17, 19, 23, 29, 31, 37, 41, 43, 47, 53, 59, 61, 67, 71, 73, 79, 83, 89, 97, 101] A_PRIMES
/-! ### for the head -/
def d_is_whole : HookG.GD := ⟨.glo "is_whole", "is_whole", "is_whole", defArgs s_is_whole, defBody s_is_whole, defScope s_is_whole⟩
def d_is_short : HookG.GD := ⟨.glo "is_short", "is_short", "is_short", defArgs s_is_short, defBody s_is_short, defScope s_is_short⟩
def d_require_prime : HookG.GD := ⟨.glo "require_prime", "require_prime", "require_prime", defArgs s_require_prime, defBody s_require_prime, defScope s_require_prime⟩
def d_undone_in : HookG.GD := ⟨.glo "undone_in", "undone_in", "undone_in", defArgs s_undone_in, defBody s_undone_in, defScope s_undone_in⟩
def d_modulo : HookG.GD := ⟨.glo "modulo", "modulo", "modulo", defArgs s_modulo, defBody s_modulo, defScope s_modulo⟩
def d_plain_row : HookG.GD := ⟨.glo "plain_row", "plain_row", "plain_row", defArgs s_plain_row, defBody s_plain_row, defScope s_plain_row⟩
def d_is_prime_point : HookG.GD := ⟨.glo "is_prime_point", "is_prime_point", "is_prime_point", defArgs s_is_prime_point, defBody s_is_prime_point, defScope s_is_prime_point⟩
def d_require_prime_point : HookG.GD := ⟨.glo "require_prime_point", "require_prime_point", "require_prime_point", defArgs s_require_prime_point, defBody s_require_prime_point, defScope s_require_prime_point⟩
def d_determinant_in : HookG.GD := ⟨.glo "determinant_in", "determinant_in", "determinant_in", defArgs s_determinant_in, defBody s_determinant_in, defScope s_determinant_in⟩
def d_is_prime_table : HookG.GD := ⟨.glo "is_prime_table", "is_prime_table", "is_prime_table", defArgs s_is_prime_table, defBody s_is_prime_table, defScope s_is_prime_table⟩
def d_require_prime_table : HookG.GD := ⟨.glo "require_prime_table", "require_prime_table", "require_prime_table", defArgs s_require_prime_table, defBody s_require_prime_table, defScope s_require_prime_table⟩
def d_plain_table_in : HookG.GD := ⟨.glo "plain_table_in", "plain_table_in", "plain_table_in", defArgs s_plain_table_in, defBody s_plain_table_in, defScope s_plain_table_in⟩
def d_led_in : HookG.GD := ⟨.glo "led_in", "led_in", "led_in", defArgs s_led_in, defBody s_led_in, defScope s_led_in⟩
def d_all_points : HookG.GD := ⟨.glo "all_points", "all_points", "all_points", defArgs s_all_points, defBody s_all_points, defScope s_all_points⟩
def d_points_in : HookG.GD := ⟨.glo "points_in", "points_in", "points_in", defArgs s_points_in, defBody s_points_in, defScope s_points_in⟩
def d_led_point : HookG.GD := ⟨.glo "led_point", "led_point", "led_point", defArgs s_led_point, defBody s_led_point, defScope s_led_point⟩
def d_plain_table : HookG.GD := ⟨.glo "plain_table", "plain_table", "plain_table", defArgs s_plain_table, defBody s_plain_table, defScope s_plain_table⟩
def d_crossed : HookG.GD := ⟨.glo "crossed", "crossed", "crossed", defArgs s_crossed, defBody s_crossed, defScope s_crossed⟩
def d_table_to_three : HookG.GD := ⟨.glo "table_to_three", "table_to_three", "table_to_three", defArgs s_table_to_three, defBody s_table_to_three, defScope s_table_to_three⟩
def d_product_of_tables : HookG.GD := ⟨.glo "product_of_tables", "product_of_tables", "product_of_tables", defArgs s_product_of_tables, defBody s_product_of_tables, defScope s_product_of_tables⟩
def d_table_between : HookG.GD := ⟨.glo "table_between", "table_between", "table_between", defArgs s_table_between, defBody s_table_between, defScope s_table_between⟩
def d_is_three : HookG.GD := ⟨.glo "is_three", "is_three", "is_three", defArgs s_is_three, defBody s_is_three, defScope s_is_three⟩
def d_table_by_three : HookG.GD := ⟨.glo "table_by_three", "table_by_three", "table_by_three", defArgs s_table_by_three, defBody s_table_by_three, defScope s_table_by_three⟩
def d_law_dice : HookG.GD := ⟨.glo "_law_dice", "_law_dice", "_law_dice", defArgs s_law_dice, defBody s_law_dice, defScope s_law_dice⟩
def d_law_roll : HookG.GD := ⟨.glo "_law_roll", "_law_roll", "_law_roll", defArgs s_law_roll, defBody s_law_roll, defScope s_law_roll⟩
def d_law_pick : HookG.GD := ⟨.glo "_law_pick", "_law_pick", "_law_pick", defArgs s_law_pick, defBody s_law_pick, defScope s_law_pick⟩
def d_law_mixed : HookG.GD := ⟨.glo "_law_mixed", "_law_mixed", "_law_mixed", defArgs s_law_mixed, defBody s_law_mixed, defScope s_law_mixed⟩
def d_law_near : HookG.GD := ⟨.glo "_law_near", "_law_near", "_law_near", defArgs s_law_near, defBody s_law_near, defScope s_law_near⟩
def d_law_scaled : HookG.GD := ⟨.glo "_law_scaled", "_law_scaled", "_law_scaled", defArgs s_law_scaled, defBody s_law_scaled, defScope s_law_scaled⟩
def d_law_joined : HookG.GD := ⟨.glo "_law_joined", "_law_joined", "_law_joined", defArgs s_law_joined, defBody s_law_joined, defScope s_law_joined⟩
def d_law_det : HookG.GD := ⟨.glo "_law_det", "_law_det", "_law_det", defArgs s_law_det, defBody s_law_det, defScope s_law_det⟩
def d_law_left_by : HookG.GD := ⟨.glo "_law_left_by", "_law_left_by", "_law_left_by", defArgs s_law_left_by, defBody s_law_left_by, defScope s_law_left_by⟩
def d_law_undo_by : HookG.GD := ⟨.glo "_law_undo_by", "_law_undo_by", "_law_undo_by", defArgs s_law_undo_by, defBody s_law_undo_by, defScope s_law_undo_by⟩
def d_law_first_one : HookG.GD := ⟨.glo "_law_first_one", "_law_first_one", "_law_first_one", defArgs s_law_first_one, defBody s_law_first_one, defScope s_law_first_one⟩
def d_law_some_prime : HookG.GD := ⟨.glo "_law_some_prime", "_law_some_prime", "_law_some_prime", defArgs s_law_some_prime, defBody s_law_some_prime, defScope s_law_some_prime⟩
def d_law_prime_point : HookG.GD := ⟨.glo "_law_prime_point", "_law_prime_point", "_law_prime_point", defArgs s_law_prime_point, defBody s_law_prime_point, defScope s_law_prime_point⟩
def d_law_prime_table : HookG.GD := ⟨.glo "_law_prime_table", "_law_prime_table", "_law_prime_table", defArgs s_law_prime_table, defBody s_law_prime_table, defScope s_law_prime_table⟩
def d_law_led_by : HookG.GD := ⟨.glo "_law_led_by", "_law_led_by", "_law_led_by", defArgs s_law_led_by, defBody s_law_led_by, defScope s_law_led_by⟩
def d_law_points_by : HookG.GD := ⟨.glo "_law_points_by", "_law_points_by", "_law_points_by", defArgs s_law_points_by, defBody s_law_points_by, defScope s_law_points_by⟩
def d_law_plain_table : HookG.GD := ⟨.glo "_law_plain_table", "_law_plain_table", "_law_plain_table", defArgs s_law_plain_table, defBody s_law_plain_table, defScope s_law_plain_table⟩
def d_law_three : HookG.GD := ⟨.glo "_law_three", "_law_three", "_law_three", defArgs s_law_three, defBody s_law_three, defScope s_law_three⟩
def d_law_leads_three : HookG.GD := ⟨.glo "_law_leads_three", "_law_leads_three", "_law_leads_three", defArgs s_law_leads_three, defBody s_law_leads_three, defScope s_law_leads_three⟩
def d_law_all_between : HookG.GD := ⟨.glo "_law_all_between", "_law_all_between", "_law_all_between", defArgs s_law_all_between, defBody s_law_all_between, defScope s_law_all_between⟩
def d_law_right : HookG.GD := ⟨.glo "_law_right", "_law_right", "_law_right", defArgs s_law_right, defBody s_law_right, defScope s_law_right⟩
def d_law : HookG.GD := ⟨.glo "law", "law", "law", defArgs s_law, defBody s_law, defScope s_law⟩
def fnL : List HookG.GD := [d_is_whole, d_is_short, d_require_prime, d_undone_in, d_modulo, d_plain_row, d_is_prime_point, d_require_prime_point, d_determinant_in, d_is_prime_table, d_require_prime_table, d_plain_table_in, d_led_in, d_all_points, d_points_in, d_led_point, d_plain_table, d_crossed, d_table_to_three, d_product_of_tables, d_table_between, d_is_three, d_table_by_three, d_law_dice, d_law_roll, d_law_pick, d_law_mixed, d_law_near, d_law_scaled, d_law_joined, d_law_det, d_law_left_by, d_law_undo_by, d_law_first_one, d_law_some_prime, d_law_prime_point, d_law_prime_table, d_law_led_by, d_law_points_by, d_law_plain_table, d_law_three, d_law_leads_three, d_law_all_between, d_law_right, d_law]
def faL : List He.Fa := [.glo "is_whole", .glo "is_short", .glo "require_prime", .glo "undone_in", .glo "modulo", .glo "plain_row", .glo "is_prime_point", .glo "require_prime_point", .glo "determinant_in", .glo "is_prime_table", .glo "require_prime_table", .glo "plain_table_in", .glo "led_in", .glo "all_points", .glo "points_in", .glo "led_point", .glo "plain_table", .glo "crossed", .glo "table_to_three", .glo "product_of_tables", .glo "table_between", .glo "is_three", .glo "table_by_three", .glo "_law_dice", .glo "_law_roll", .glo "_law_pick", .glo "_law_mixed", .glo "_law_near", .glo "_law_scaled", .glo "_law_joined", .glo "_law_det", .glo "_law_left_by", .glo "_law_undo_by", .glo "_law_first_one", .glo "_law_some_prime", .glo "_law_prime_point", .glo "_law_prime_table", .glo "_law_led_by", .glo "_law_points_by", .glo "_law_plain_table", .glo "_law_three", .glo "_law_leads_three", .glo "_law_all_between", .glo "_law_right", .glo "law", .free "abs", .free "all", .free "bool", .free "int", .free "isinstance", .free "len", .free "list", .free "max", .free "min", .free "range", .free "set", .free "tuple", .free "zip", .int "GREATEST" 1000000000000000000000000000000000000000000000000000000000000]
def exL (K : PySem.W.Frag) : Bool := StatT.tupB K "PRIMES" [13, 17, 19, 23, 29, 31, 37, 41, 43, 47, 53, 59, 61, 67, 71, 73, 79, 83, 89, 97, 101]
theorem facts_of {K : PySem.W.Frag} {h : Heap} {mg : Str → Option Value} (X : K.In h) (G : h.Ns mainGlobals mg) (c : HookG.SaysG faL fnL exL K) : Nonempty (Facts K mg) := by
  have ex := c.more
  unfold exL at ex
  obtain ⟨fd_is_whole, F_is_whole⟩ := c.def_ 0 (d := d_is_whole) rfl
  obtain ⟨fd_is_short, F_is_short⟩ := c.def_ 1 (d := d_is_short) rfl
  obtain ⟨fd_require_prime, F_require_prime⟩ := c.def_ 2 (d := d_require_prime) rfl
  obtain ⟨fd_undone_in, F_undone_in⟩ := c.def_ 3 (d := d_undone_in) rfl
  obtain ⟨fd_modulo, F_modulo⟩ := c.def_ 4 (d := d_modulo) rfl
  obtain ⟨fd_plain_row, F_plain_row⟩ := c.def_ 5 (d := d_plain_row) rfl
  obtain ⟨fd_is_prime_point, F_is_prime_point⟩ := c.def_ 6 (d := d_is_prime_point) rfl
  obtain ⟨fd_require_prime_point, F_require_prime_point⟩ := c.def_ 7 (d := d_require_prime_point) rfl
  obtain ⟨fd_determinant_in, F_determinant_in⟩ := c.def_ 8 (d := d_determinant_in) rfl
  obtain ⟨fd_is_prime_table, F_is_prime_table⟩ := c.def_ 9 (d := d_is_prime_table) rfl
  obtain ⟨fd_require_prime_table, F_require_prime_table⟩ := c.def_ 10 (d := d_require_prime_table) rfl
  obtain ⟨fd_plain_table_in, F_plain_table_in⟩ := c.def_ 11 (d := d_plain_table_in) rfl
  obtain ⟨fd_led_in, F_led_in⟩ := c.def_ 12 (d := d_led_in) rfl
  obtain ⟨fd_all_points, F_all_points⟩ := c.def_ 13 (d := d_all_points) rfl
  obtain ⟨fd_points_in, F_points_in⟩ := c.def_ 14 (d := d_points_in) rfl
  obtain ⟨fd_led_point, F_led_point⟩ := c.def_ 15 (d := d_led_point) rfl
  obtain ⟨fd_plain_table, F_plain_table⟩ := c.def_ 16 (d := d_plain_table) rfl
  obtain ⟨fd_crossed, F_crossed⟩ := c.def_ 17 (d := d_crossed) rfl
  obtain ⟨fd_table_to_three, F_table_to_three⟩ := c.def_ 18 (d := d_table_to_three) rfl
  obtain ⟨fd_product_of_tables, F_product_of_tables⟩ := c.def_ 19 (d := d_product_of_tables) rfl
  obtain ⟨fd_table_between, F_table_between⟩ := c.def_ 20 (d := d_table_between) rfl
  obtain ⟨fd_is_three, F_is_three⟩ := c.def_ 21 (d := d_is_three) rfl
  obtain ⟨fd_table_by_three, F_table_by_three⟩ := c.def_ 22 (d := d_table_by_three) rfl
  obtain ⟨fd_law_dice, F_law_dice⟩ := c.def_ 23 (d := d_law_dice) rfl
  obtain ⟨fd_law_roll, F_law_roll⟩ := c.def_ 24 (d := d_law_roll) rfl
  obtain ⟨fd_law_pick, F_law_pick⟩ := c.def_ 25 (d := d_law_pick) rfl
  obtain ⟨fd_law_mixed, F_law_mixed⟩ := c.def_ 26 (d := d_law_mixed) rfl
  obtain ⟨fd_law_near, F_law_near⟩ := c.def_ 27 (d := d_law_near) rfl
  obtain ⟨fd_law_scaled, F_law_scaled⟩ := c.def_ 28 (d := d_law_scaled) rfl
  obtain ⟨fd_law_joined, F_law_joined⟩ := c.def_ 29 (d := d_law_joined) rfl
  obtain ⟨fd_law_det, F_law_det⟩ := c.def_ 30 (d := d_law_det) rfl
  obtain ⟨fd_law_left_by, F_law_left_by⟩ := c.def_ 31 (d := d_law_left_by) rfl
  obtain ⟨fd_law_undo_by, F_law_undo_by⟩ := c.def_ 32 (d := d_law_undo_by) rfl
  obtain ⟨fd_law_first_one, F_law_first_one⟩ := c.def_ 33 (d := d_law_first_one) rfl
  obtain ⟨fd_law_some_prime, F_law_some_prime⟩ := c.def_ 34 (d := d_law_some_prime) rfl
  obtain ⟨fd_law_prime_point, F_law_prime_point⟩ := c.def_ 35 (d := d_law_prime_point) rfl
  obtain ⟨fd_law_prime_table, F_law_prime_table⟩ := c.def_ 36 (d := d_law_prime_table) rfl
  obtain ⟨fd_law_led_by, F_law_led_by⟩ := c.def_ 37 (d := d_law_led_by) rfl
  obtain ⟨fd_law_points_by, F_law_points_by⟩ := c.def_ 38 (d := d_law_points_by) rfl
  obtain ⟨fd_law_plain_table, F_law_plain_table⟩ := c.def_ 39 (d := d_law_plain_table) rfl
  obtain ⟨fd_law_three, F_law_three⟩ := c.def_ 40 (d := d_law_three) rfl
  obtain ⟨fd_law_leads_three, F_law_leads_three⟩ := c.def_ 41 (d := d_law_leads_three) rfl
  obtain ⟨fd_law_all_between, F_law_all_between⟩ := c.def_ 42 (d := d_law_all_between) rfl
  obtain ⟨fd_law_right, F_law_right⟩ := c.def_ 43 (d := d_law_right) rfl
  obtain ⟨fd_law, F_law⟩ := c.def_ 44 (d := d_law) rfl
  exact ⟨{ f_is_whole := _, fd_is_whole := _, F_is_whole := F_is_whole, b_is_whole := (F_is_whole.bindsN fun _ _ _ _ _ _ us hl => match us, hl with | [_], _ => rfl), g_is_whole := He.glo_ok X G (c.fact 0 (f := .glo "is_whole") rfl), f_is_short := _, fd_is_short := _, F_is_short := F_is_short, b_is_short := (F_is_short.bindsN fun _ _ _ _ _ _ us hl => match us, hl with | [_], _ => rfl), g_is_short := He.glo_ok X G (c.fact 1 (f := .glo "is_short") rfl), f_require_prime := _, fd_require_prime := _, F_require_prime := F_require_prime, b_require_prime := (F_require_prime.bindsN fun _ _ _ _ _ _ us hl => match us, hl with | [_], _ => rfl), g_require_prime := He.glo_ok X G (c.fact 2 (f := .glo "require_prime") rfl), f_undone_in := _, fd_undone_in := _, F_undone_in := F_undone_in, b_undone_in := (F_undone_in.bindsN fun _ _ _ _ _ _ us hl => match us, hl with | [_, _], _ => rfl), g_undone_in := He.glo_ok X G (c.fact 3 (f := .glo "undone_in") rfl), f_modulo := _, fd_modulo := _, F_modulo := F_modulo, b_modulo := (F_modulo.bindsN fun _ _ _ _ _ _ us hl => match us, hl with | [_, _], _ => rfl), g_modulo := He.glo_ok X G (c.fact 4 (f := .glo "modulo") rfl), f_plain_row := _, fd_plain_row := _, F_plain_row := F_plain_row, b_plain_row := (F_plain_row.bindsN fun _ _ _ _ _ _ us hl => match us, hl with | [_, _], _ => rfl), g_plain_row := He.glo_ok X G (c.fact 5 (f := .glo "plain_row") rfl), f_is_prime_point := _, fd_is_prime_point := _, F_is_prime_point := F_is_prime_point, b_is_prime_point := (F_is_prime_point.bindsN fun _ _ _ _ _ _ us hl => match us, hl with | [_, _], _ => rfl), g_is_prime_point := He.glo_ok X G (c.fact 6 (f := .glo "is_prime_point") rfl), f_require_prime_point := _, fd_require_prime_point := _, F_require_prime_point := F_require_prime_point, b_require_prime_point := (F_require_prime_point.bindsN fun _ _ _ _ _ _ us hl => match us, hl with | [_, _], _ => rfl), g_require_prime_point := He.glo_ok X G (c.fact 7 (f := .glo "require_prime_point") rfl), f_determinant_in := _, fd_determinant_in := _, F_determinant_in := F_determinant_in, b_determinant_in := (F_determinant_in.bindsN fun _ _ _ _ _ _ us hl => match us, hl with | [_], _ => rfl), g_determinant_in := He.glo_ok X G (c.fact 8 (f := .glo "determinant_in") rfl), f_is_prime_table := _, fd_is_prime_table := _, F_is_prime_table := F_is_prime_table, b_is_prime_table := (F_is_prime_table.bindsN fun _ _ _ _ _ _ us hl => match us, hl with | [_, _], _ => rfl), g_is_prime_table := He.glo_ok X G (c.fact 9 (f := .glo "is_prime_table") rfl), f_require_prime_table := _, fd_require_prime_table := _, F_require_prime_table := F_require_prime_table, b_require_prime_table := (F_require_prime_table.bindsN fun _ _ _ _ _ _ us hl => match us, hl with | [_, _], _ => rfl), g_require_prime_table := He.glo_ok X G (c.fact 10 (f := .glo "require_prime_table") rfl), f_plain_table_in := _, fd_plain_table_in := _, F_plain_table_in := F_plain_table_in, b_plain_table_in := (F_plain_table_in.bindsN fun _ _ _ _ _ _ us hl => match us, hl with | [_, _], _ => rfl), g_plain_table_in := He.glo_ok X G (c.fact 11 (f := .glo "plain_table_in") rfl), f_led_in := _, fd_led_in := _, F_led_in := F_led_in, b_led_in := (F_led_in.bindsN fun _ _ _ _ _ _ us hl => match us, hl with | [_, _, _], _ => rfl), g_led_in := He.glo_ok X G (c.fact 12 (f := .glo "led_in") rfl), f_all_points := _, fd_all_points := _, F_all_points := F_all_points, b_all_points := (F_all_points.bindsN fun _ _ _ _ _ _ us hl => match us, hl with | [_], _ => rfl), g_all_points := He.glo_ok X G (c.fact 13 (f := .glo "all_points") rfl), f_points_in := _, fd_points_in := _, F_points_in := F_points_in, b_points_in := (F_points_in.bindsN fun _ _ _ _ _ _ us hl => match us, hl with | [_], _ => rfl), g_points_in := He.glo_ok X G (c.fact 14 (f := .glo "points_in") rfl), f_led_point := _, fd_led_point := _, F_led_point := F_led_point, b_led_point := (F_led_point.bindsN fun _ _ _ _ _ _ us hl => match us, hl with | [_, _, _], _ => rfl), g_led_point := He.glo_ok X G (c.fact 15 (f := .glo "led_point") rfl), f_plain_table := _, fd_plain_table := _, F_plain_table := F_plain_table, b_plain_table := (F_plain_table.bindsN fun _ _ _ _ _ _ us hl => match us, hl with | [_, _], _ => rfl), g_plain_table := He.glo_ok X G (c.fact 16 (f := .glo "plain_table") rfl), f_crossed := _, fd_crossed := _, F_crossed := F_crossed, b_crossed := (F_crossed.bindsN fun _ _ _ _ _ _ us hl => match us, hl with | [_, _], _ => rfl), g_crossed := He.glo_ok X G (c.fact 17 (f := .glo "crossed") rfl), f_table_to_three := _, fd_table_to_three := _, F_table_to_three := F_table_to_three, b_table_to_three := (F_table_to_three.bindsN fun _ _ _ _ _ _ us hl => match us, hl with | [_], _ => rfl), g_table_to_three := He.glo_ok X G (c.fact 18 (f := .glo "table_to_three") rfl), f_product_of_tables := _, fd_product_of_tables := _, F_product_of_tables := F_product_of_tables, b_product_of_tables := (F_product_of_tables.bindsN fun _ _ _ _ _ _ us hl => match us, hl with | [_, _], _ => rfl), g_product_of_tables := He.glo_ok X G (c.fact 19 (f := .glo "product_of_tables") rfl), f_table_between := _, fd_table_between := _, F_table_between := F_table_between, b_table_between := (F_table_between.bindsN fun _ _ _ _ _ _ us hl => match us, hl with | [_, _, _], _ => rfl), g_table_between := He.glo_ok X G (c.fact 20 (f := .glo "table_between") rfl), f_is_three := _, fd_is_three := _, F_is_three := F_is_three, b_is_three := (F_is_three.bindsN fun _ _ _ _ _ _ us hl => match us, hl with | [_, _], _ => rfl), g_is_three := He.glo_ok X G (c.fact 21 (f := .glo "is_three") rfl), f_table_by_three := _, fd_table_by_three := _, F_table_by_three := F_table_by_three, b_table_by_three := (F_table_by_three.bindsN fun _ _ _ _ _ _ us hl => match us, hl with | [_, _, _], _ => rfl), g_table_by_three := He.glo_ok X G (c.fact 22 (f := .glo "table_by_three") rfl), f_law_dice := _, fd_law_dice := _, F_law_dice := F_law_dice, b_law_dice := (F_law_dice.bindsN fun _ _ _ _ _ _ us hl => match us, hl with | [_, _], _ => rfl), g_law_dice := He.glo_ok X G (c.fact 23 (f := .glo "_law_dice") rfl), f_law_roll := _, fd_law_roll := _, F_law_roll := F_law_roll, b_law_roll := (F_law_roll.bindsN fun _ _ _ _ _ _ us hl => match us, hl with | [_, _], _ => rfl), g_law_roll := He.glo_ok X G (c.fact 24 (f := .glo "_law_roll") rfl), f_law_pick := _, fd_law_pick := _, F_law_pick := F_law_pick, b_law_pick := (F_law_pick.bindsN fun _ _ _ _ _ _ us hl => match us, hl with | [_, _], _ => rfl), g_law_pick := He.glo_ok X G (c.fact 25 (f := .glo "_law_pick") rfl), f_law_mixed := _, fd_law_mixed := _, F_law_mixed := F_law_mixed, b_law_mixed := (F_law_mixed.bindsN fun _ _ _ _ _ _ us hl => match us, hl with | [_, _], _ => rfl), g_law_mixed := He.glo_ok X G (c.fact 26 (f := .glo "_law_mixed") rfl), f_law_near := _, fd_law_near := _, F_law_near := F_law_near, b_law_near := (F_law_near.bindsN fun _ _ _ _ _ _ us hl => match us, hl with | [_, _], _ => rfl), g_law_near := He.glo_ok X G (c.fact 27 (f := .glo "_law_near") rfl), f_law_scaled := _, fd_law_scaled := _, F_law_scaled := F_law_scaled, b_law_scaled := (F_law_scaled.bindsN fun _ _ _ _ _ _ us hl => match us, hl with | [_, _], _ => rfl), g_law_scaled := He.glo_ok X G (c.fact 28 (f := .glo "_law_scaled") rfl), f_law_joined := _, fd_law_joined := _, F_law_joined := F_law_joined, b_law_joined := (F_law_joined.bindsN fun _ _ _ _ _ _ us hl => match us, hl with | [_, _], _ => rfl), g_law_joined := He.glo_ok X G (c.fact 29 (f := .glo "_law_joined") rfl), f_law_det := _, fd_law_det := _, F_law_det := F_law_det, b_law_det := (F_law_det.bindsN fun _ _ _ _ _ _ us hl => match us, hl with | [_], _ => rfl), g_law_det := He.glo_ok X G (c.fact 30 (f := .glo "_law_det") rfl), f_law_left_by := _, fd_law_left_by := _, F_law_left_by := F_law_left_by, b_law_left_by := (F_law_left_by.bindsN fun _ _ _ _ _ _ us hl => match us, hl with | [_, _], _ => rfl), g_law_left_by := He.glo_ok X G (c.fact 31 (f := .glo "_law_left_by") rfl), f_law_undo_by := _, fd_law_undo_by := _, F_law_undo_by := F_law_undo_by, b_law_undo_by := (F_law_undo_by.bindsN fun _ _ _ _ _ _ us hl => match us, hl with | [_, _], _ => rfl), g_law_undo_by := He.glo_ok X G (c.fact 32 (f := .glo "_law_undo_by") rfl), f_law_first_one := _, fd_law_first_one := _, F_law_first_one := F_law_first_one, b_law_first_one := (F_law_first_one.bindsN fun _ _ _ _ _ _ us hl => match us, hl with | [_, _], _ => rfl), g_law_first_one := He.glo_ok X G (c.fact 33 (f := .glo "_law_first_one") rfl), f_law_some_prime := _, fd_law_some_prime := _, F_law_some_prime := F_law_some_prime, b_law_some_prime := (F_law_some_prime.bindsN fun _ _ _ _ _ _ us hl => match us, hl with | [_], _ => rfl), g_law_some_prime := He.glo_ok X G (c.fact 34 (f := .glo "_law_some_prime") rfl), f_law_prime_point := _, fd_law_prime_point := _, F_law_prime_point := F_law_prime_point, b_law_prime_point := (F_law_prime_point.bindsN fun _ _ _ _ _ _ us hl => match us, hl with | [_, _], _ => rfl), g_law_prime_point := He.glo_ok X G (c.fact 35 (f := .glo "_law_prime_point") rfl), f_law_prime_table := _, fd_law_prime_table := _, F_law_prime_table := F_law_prime_table, b_law_prime_table := (F_law_prime_table.bindsN fun _ _ _ _ _ _ us hl => match us, hl with | [_, _], _ => rfl), g_law_prime_table := He.glo_ok X G (c.fact 36 (f := .glo "_law_prime_table") rfl), f_law_led_by := _, fd_law_led_by := _, F_law_led_by := F_law_led_by, b_law_led_by := (F_law_led_by.bindsN fun _ _ _ _ _ _ us hl => match us, hl with | [_, _, _], _ => rfl), g_law_led_by := He.glo_ok X G (c.fact 37 (f := .glo "_law_led_by") rfl), f_law_points_by := _, fd_law_points_by := _, F_law_points_by := F_law_points_by, b_law_points_by := (F_law_points_by.bindsN fun _ _ _ _ _ _ us hl => match us, hl with | [_], _ => rfl), g_law_points_by := He.glo_ok X G (c.fact 38 (f := .glo "_law_points_by") rfl), f_law_plain_table := _, fd_law_plain_table := _, F_law_plain_table := F_law_plain_table, b_law_plain_table := (F_law_plain_table.bindsN fun _ _ _ _ _ _ us hl => match us, hl with | [_, _], _ => rfl), g_law_plain_table := He.glo_ok X G (c.fact 39 (f := .glo "_law_plain_table") rfl), f_law_three := _, fd_law_three := _, F_law_three := F_law_three, b_law_three := (F_law_three.bindsN fun _ _ _ _ _ _ us hl => match us, hl with | [_, _], _ => rfl), g_law_three := He.glo_ok X G (c.fact 40 (f := .glo "_law_three") rfl), f_law_leads_three := _, fd_law_leads_three := _, F_law_leads_three := F_law_leads_three, b_law_leads_three := (F_law_leads_three.bindsN fun _ _ _ _ _ _ us hl => match us, hl with | [_, _, _, _], _ => rfl), g_law_leads_three := He.glo_ok X G (c.fact 41 (f := .glo "_law_leads_three") rfl), f_law_all_between := _, fd_law_all_between := _, F_law_all_between := F_law_all_between, b_law_all_between := (F_law_all_between.bindsN fun _ _ _ _ _ _ us hl => match us, hl with | [_, _, _], _ => rfl), g_law_all_between := He.glo_ok X G (c.fact 42 (f := .glo "_law_all_between") rfl), f_law_right := _, fd_law_right := _, F_law_right := F_law_right, b_law_right := (F_law_right.bindsN fun _ _ _ _ _ _ us hl => match us, hl with | [_], _ => rfl), g_law_right := He.glo_ok X G (c.fact 43 (f := .glo "_law_right") rfl), f_law := _, fd_law := _, F_law := F_law, b_law := (F_law.bindsN fun _ _ _ _ _ _ us hl => match us, hl with | [_], _ => rfl), g_law := He.glo_ok X G (c.fact 44 (f := .glo "law") rfl), z_abs := He.free_ok X G (c.fact 45 (f := .free "abs") rfl), z_all := He.free_ok X G (c.fact 46 (f := .free "all") rfl), z_bool := He.free_ok X G (c.fact 47 (f := .free "bool") rfl), z_int := He.free_ok X G (c.fact 48 (f := .free "int") rfl), z_isinstance := He.free_ok X G (c.fact 49 (f := .free "isinstance") rfl), z_len := He.free_ok X G (c.fact 50 (f := .free "len") rfl), z_list := He.free_ok X G (c.fact 51 (f := .free "list") rfl), z_max := He.free_ok X G (c.fact 52 (f := .free "max") rfl), z_min := He.free_ok X G (c.fact 53 (f := .free "min") rfl), z_range := He.free_ok X G (c.fact 54 (f := .free "range") rfl), z_set := He.free_ok X G (c.fact 55 (f := .free "set") rfl), z_tuple := He.free_ok X G (c.fact 56 (f := .free "tuple") rfl), z_zip := He.free_ok X G (c.fact 57 (f := .free "zip") rfl), c_GREATEST := He.int_ok X G (c.fact 58 (f := .int "GREATEST" 1000000000000000000000000000000000000000000000000000000000000) rfl), A_PRIMES := _, t_PRIMES := StatT.tupB_ok X G ex }⟩

end K50

set_option Elab.async false
set_option linter.all false
set_option maxRecDepth 100000
set_option maxHeartbeats 0
namespace K50
open PySem PySem.Spec PyProof.Rows L2
abbrev R : PySem.W.OpenRow := PySem.W.OpenLaw.row PySem.Challenge.rw_sourceforms_k50_whole_prime_points_and_t
abbrev hk : PySem.W.Hook := HookG.hookW 5 faL fnL exL
def ob (s : PySem.W.SharedT) : HookG.AlG := HookG.obsGW 5 faL fnL exL (HandSHeadRun.getT s)
theorem ob_eq (s : PySem.W.SharedT) : ob s = hk.obs s.abs := HookG.obsGW_eq (HandSHeadRun.getT_eq s)
def loose0 : List Str := ["LetterError", "InvalidTable", "InvalidPoint", "InvalidNumber", "GREATEST", "is_whole", "is_short", "PRIMES", "require_prime", "undone_in", "modulo", "plain_row", "is_prime_point", "require_prime_point", "determinant_in", "is_prime_table", "require_prime_table", "plain_table_in", "led_in", "all_points", "points_in", "led_point", "plain_table", "crossed", "table_to_three", "product_of_tables", "table_between", "is_three", "table_by_three", "_law_dice"]
def loose1 : List Str := ["_law_roll", "_law_pick", "_law_mixed", "_law_near", "_law_scaled", "_law_joined", "_law_det", "_law_left_by", "_law_undo_by", "_law_first_one", "_law_some_prime", "_law_prime_point", "_law_prime_table", "_law_led_by", "_law_points_by", "_law_plain_table", "_law_three", "_law_leads_three", "_law_all_between", "_law_right"]
def loose : List Str := loose0 ++ loose1
theorem run (w : World) : HandSHeadRun.RunEq R (PySem.W.view R.prog [54]) hk ob 9000 loose w := by
  intro os
  kernel_rfl
end K50

set_option Elab.async false
set_option linter.all false
set_option maxRecDepth 100000
set_option maxHeartbeats 4000000
namespace K50
open PySem PySem.Spec PyProof.Rows L2 StX RZ MyR SlX OwnR OwnF EnumT
/-! products of forms: the plain law -/
/-- the entry at a place, 0 behind the end -/
def co (l : List Int) (k : Nat) : Int := l.getD k 0
/-- the first n values -/
def tb (n : Nat) (f : Nat → Int) : List Int := (List.range n).map f
theorem tb_len (n : Nat) (f : Nat → Int) : (tb n f).length = n := by
  unfold tb
  rw [List.length_map, List.length_range]
theorem co_tb {n : Nat} {f : Nat → Int} (k : Nat) : co (tb n f) k = if k < n then f k else 0 := by
  unfold co tb
  rw [List.getD_eq_getElem?_getD, List.getElem?_map]
  by_cases h : k < n
  · rw [List.getElem?_range h, if_pos h]
    rfl
  · rw [List.getElem?_eq_none (by rw [List.length_range]; omega), if_neg h]
    rfl
theorem co_far {l : List Int} {i : Nat} (h : l.length ≤ i) : co l i = 0 := by
  unfold co
  rw [List.getD_eq_getElem?_getD, List.getElem?_eq_none h]
  rfl
theorem co_get {l : List Int} {i : Nat} (h : i < l.length) : co l i = l[i] := by
  unfold co
  rw [List.getD_eq_getElem?_getD, List.getElem?_eq_getElem h]
  rfl
theorem co_inj {l m : List Int} (hl : l.length = m.length) (h : ∀ i, co l i = co m i) : l = m := by
  refine List.ext_getElem hl fun i h1 h2 => ?_
  rw [← co_get h1, ← co_get h2, h]
theorem tb_co (l : List Int) : tb l.length (co l) = l := co_inj (tb_len _ _) fun i => by
  rw [co_tb]
  split
  · rfl
  · exact (co_far (by omega)).symm
/-! the contents of forms -/
/-- an int of at most sixty digits -/
def Sho (i : Int) : Prop := i.natAbs < 10 ^ 60
theorem Same.rf (H : Hp) : Same H H := fun _ _ h => h
@[elab_as_elim] theorem gen_upd {G : Hp → Prop} (H : Hp) (p : Addr) (o : HO) (n : H p = none) (h : ∀ H', Same H H' → H' p = some o → G H') : G (upd H p o) := h _ (same_upd0 n) upd_same
section
variable {P : Program} {w : World} {K : PySem.W.Frag} {mg : Str → Option Value} {base : Heap}
def spWhole : Sp := fun vs H Q _ => ∃ i : Int, vs = [.int i] ∧ Q (.bl true) H
theorem ok_is_whole (T : Facts K mg) : FnOk P w K mg base CX0 1 T.f_is_whole T.fd_is_whole ["value"] spWhole := by
  refine T.F_is_whole.ok sc_is_whole (fun vs H Q E h => ?_) (fun cdv A outer s H vs Q E hr h => ?_)
  · obtain ⟨i, rfl, _⟩ := h
    rfl
  · obtain ⟨i, rfl, q⟩ := h
    refine ⟨_, (PSs.nox (pss_one (ps_ret (pe_and (pe_callB call_isi (by rfl) T.z_isinstance (by decide +kernel) (pa_cons (pv 0) (pa_cons (pe_bltn (v := .ty "int") (by rfl) T.z_int (by decide +kernel) rfl) pa_nil))) (pe_one (pe_not (pe_callB call_isi (by rfl) T.z_isinstance (by decide +kernel) (pa_cons (pv 0) (pa_cons (pe_bltn (v := .ty "bool") (by rfl) T.z_bool (by decide +kernel) rfl) pa_nil))))))))), ?_⟩
    refine ⟨_, rfl, .int i, .ty "int", .type "int", .type "int", true, rfl, .ty "int", .base (.int i), kit_ty (show kitB "int" "int" = some true by decide +kernel), true, rfl, iteT ?_⟩
    exact ⟨_, rfl, .int i, .ty "bool", .type "int", .type "bool", false, rfl, .ty "bool", .base (.int i), kit_ty (show kitB "int" "bool" = some false by decide +kernel), false, rfl, q⟩
def spShort : Sp := fun vs H Q _ => ∃ i : Int, vs = [.int i] ∧ Sho i ∧ Q (.bl true) H
theorem ok_is_short (T : Facts K mg) : FnOk P w K mg base CX0 2 T.f_is_short T.fd_is_short ["value"] spShort := by
  have G_is_whole : FnOk P w K mg base CX0 1 T.f_is_whole T.fd_is_whole ["value"] spWhole := ok_is_whole T
  refine T.F_is_short.ok sc_is_short (fun vs H Q E h => ?_) (fun cdv A outer s H vs Q E hr h => ?_)
  · obtain ⟨i, rfl, _⟩ := h
    rfl
  · obtain ⟨i, rfl, hi, q⟩ := h
    have e60 : (10 : Nat) ^ 60 = 1000000000000000000000000000000000000000000000000000000000000 := by decide
    unfold Sho at hi
    rw [e60] at hi
    refine ⟨_, (PSs.nox (pss_one (ps_ret (pe_and (pe_call G_is_whole hr (by rfl) T.g_is_whole T.F_is_whole.kp T.b_is_whole .nil pass0 (pa_cons (pv 0) pa_nil)) (pe_one (pe_chain op_lt op_lt (pe_un un_neg (pe_glob (v := .int 1000000000000000000000000000000000000000000000000000000000000) (by rfl) T.c_GREATEST.choose_spec ⟨_, rfl⟩)) (pv 0) (pe_glob (v := .int 1000000000000000000000000000000000000000000000000000000000000) (by rfl) T.c_GREATEST.choose_spec ⟨_, rfl⟩))))))), ?_⟩
    refine ⟨_, rfl, i, rfl, true, rfl, iteT ⟨_, rfl, _, rfl, _, i, rfl, rfl, true, ?_, iteT ⟨i, _, rfl, rfl, ?_⟩⟩⟩
    · show V.bl (decide (-1000000000000000000000000000000000000000000000000000000000000 < i)) = V.bl true
      rw [decide_eq_true (by omega)]
    · show Q (V.bl (decide (i < 1000000000000000000000000000000000000000000000000000000000000))) H
      rw [decide_eq_true (by omega)]
      exact q
/-- a tuple of ints -/
abbrev tp (ns : List Int) : HO := .tup (ns.map V.int)
end
def tab (L : Nat) (f : Nat → Int) : List V := (List.range L).map fun k => V.int (f k)
theorem tab_tb (L : Nat) (f : Nat → Int) : tab L f = (tb L f).map V.int := by
  unfold tab tb
  rw [List.map_map]
  rfl
theorem tab_len (L : Nat) (f : Nat → Int) : (tab L f).length = L := by
  unfold tab
  rw [List.length_map, List.length_range]
theorem at_of {xs : List V} {z : Int} {j : Nat} {v : V} (e : z = (j : Int)) (h : xs[j]? = some v) : atI xs z = some v := by
  rw [e]
  exact atI_nat h
/-- ints of less than 400 bits -/
def sm (x : Int) : Prop := x.natAbs < 2 ^ 4000
theorem sm_mul {x y : Int} (hx : sm x) (hy : sm y) : CMulW x y := wide_mul hx hy (by decide) (by decide) (by decide)
theorem get_int {xs : List Int} {i : Nat} (h : i < xs.length) : (xs.map V.int)[i]? = some (.int (co xs i)) := by
  rw [List.getElem?_map, List.getElem?_eq_getElem h, co_get h]
  rfl
theorem sm_co {xs : List Int} {i : Nat} (h : ∀ x ∈ xs, sm x) (hi : i < xs.length) : sm (co xs i) := by
  rw [co_get hi]
  exact h _ (List.getElem_mem hi)
section
variable {P : Program} {w : World} {K : PySem.W.Frag} {mg : Str → Option Value} {base : Heap}
end
/-- a comprehension over zip of two tuples of one length -/
theorem lc_zipT {K : PySem.W.Frag} {a b : Addr} {xs ys : List V} {g : TG} {tt : TT} {te : TE} {vs : List Nat} {σ : L2.St} {H1 : Hp} {D : Addr} {Qd : Hp → Prop} (hl : xs.length = ys.length) (Pv : Nat → Hp → Prop) (h0 : Pv 0 (upd H1 D (.lst []))) (hq : ∀ i H, i ≤ xs.length → Pv i H → SqT K H a xs ∧ SqT K H b ys)
    (hs : ∀ (i : Nat) (x y : V) (T : Addr) (H : Hp), xs[i]? = some x → ys[i]? = some y → Pv i H → H T = none → g (.ref T) (wipe σ vs) (upd H T (.tup [x, y])) fun σ2 H2 => wipe σ2 vs = wipe σ vs ∧ tt σ2 H2 fun b H3 =>
      if b = true then te σ2 H3 fun y H4 => ∃ acc, H4 D = some (.lst acc) ∧ acc.length < sizeLine ∧ Pv (i + 1) (upd H4 D (.lst (acc ++ [y]))) else Pv (i + 1) H3) (hd : ∀ H, Pv xs.length H → Qd H) :
    ∃ W : Nat → Nat → Hp → Prop, (∃ m, W 0 m (upd H1 D (.lst []))) ∧ ∀ i m H, W i m H →
      ((ItzT K a b).stop i H ∧ Qd H) ∨ ((ItzT K a b).go i H ∧ ∃ Nx : Hp → Prop, (∀ H', Nx H' → ∃ m', m' < m ∧ W (i + 1) m' H') ∧ ∀ x H', (ItzT K a b).yld i H x H' → g x (wipe σ vs) H' fun σ2 H2 => wipe σ2 vs = wipe σ vs ∧ tt σ2 H2 fun b H3 =>
        if b = true then te σ2 H3 fun y H4 => ∃ acc, H4 D = some (.lst acc) ∧ acc.length < sizeLine ∧ Nx (upd H4 D (.lst (acc ++ [y]))) else Nx H3) := by
  refine ⟨fun i m H => m = xs.length - i ∧ i ≤ xs.length ∧ Pv i H, ⟨xs.length, by simp, Nat.zero_le _, h0⟩, ?_⟩
  rintro i m H ⟨rfl, hi, p⟩
  obtain ⟨qx, qy⟩ := hq i H hi p
  by_cases hlt : i < xs.length
  · have hlt2 : i < ys.length := by omega
    have hx : xs[i]? = some xs[i] := List.getElem?_eq_getElem hlt
    have hy : ys[i]? = some ys[i] := List.getElem?_eq_getElem hlt2
    refine .inr ⟨⟨xs, ys, _, _, qx, qy, hx, hy⟩, Pv (i + 1), fun H' p' => ⟨xs.length - (i + 1), by omega, rfl, hlt, p'⟩, fun v H' y => ?_⟩
    obtain ⟨T, x', y', rfl, hT, rfl, f1, f2⟩ := y
    exact hs i x' y' T H (f1 xs qx) (f2 ys qy) p hT
  · have e : i = xs.length := by omega
    subst e
    exact .inl ⟨⟨xs, ys, qx, qy, Or.inl (Nat.le_refl _)⟩, hd H p⟩
theorem tb_map (f : Int → Int) (l : List Int) : (tb l.length fun k => f (co l k)) = l.map f := by
  conv => rhs; rw [← tb_co l]
  unfold tb
  rw [List.map_map]
  rfl
section
variable {P : Program} {w : World} {K : PySem.W.Frag} {mg : Str → Option Value} {base : Heap}
/-- the sum of one row and a multiple of the other -/
def zs (c : Int) (xs ys : List Int) : List Int := List.zipWith (fun x y => x + c * y) xs ys
end
/-! ### == of tuples of ints -/
theorem dpAll_ints {K : PySem.W.Frag} {H : Hp} : ∀ ns : List Int, DpAll K H (ns.map V.int) (ns.map PyData.int)
  | [] => .nil
  | n :: r => .cons (.int n) (dpAll_ints r)
theorem lay_ints : ∀ ns : List Int, PyData.canLayAll0 (ns.map PyData.int) = true
  | [] => rfl
  | n :: r => by
    show (PyData.canLay0 (.int n) && PyData.canLayAll0 (r.map PyData.int)) = true
    rw [lay_ints r]
    rfl
theorem depth_ints : ∀ ns : List Int, PyData.depthAll (ns.map PyData.int) = 0
  | [] => rfl
  | n :: r => by
    show max (PyData.depth (.int n)) (PyData.depthAll (r.map PyData.int)) = 0
    rw [depth_ints r]
    rfl
theorem shaped_tints (ns : List Int) : SeqAt.shaped (.tuple (ns.map PyData.int)) = true := by
  unfold SeqAt.shaped
  rw [show PyData.canLay0 (.tuple (ns.map PyData.int)) = PyData.canLayAll0 (ns.map PyData.int) from rfl, lay_ints]
  rw [show PyData.depth (.tuple (ns.map PyData.int)) = PyData.depthAll (ns.map PyData.int) + 1 from rfl, depth_ints]
  rfl
/-! ### the properties, the operators -/
section
variable {P : Program} {w : World} {K : PySem.W.Frag} {mg : Str → Option Value} {base : Heap}
end
theorem eqvAll_ints : ∀ xs ys : List Int, PyData.eqvAll (xs.map PyData.int) (ys.map PyData.int) = decide (xs = ys)
  | [], [] => rfl
  | [], _ :: _ => rfl
  | _ :: _, [] => rfl
  | x :: xs, y :: ys => by
    show (PyData.eqv (.int x) (.int y) && PyData.eqvAll (xs.map PyData.int) (ys.map PyData.int)) = _
    rw [eqvAll_ints xs ys]
    show ((x == y) && decide (xs = ys)) = decide (x :: xs = y :: ys)
    by_cases h : x = y
    · by_cases k : xs = ys
      · subst h k
        simp
      · rw [decide_eq_false k, decide_eq_false fun z => k (List.cons.inj z).2, Bool.and_false]
    · rw [decide_eq_false fun z => h (List.cons.inj z).1, beq_eq_false_iff_ne.mpr h, Bool.false_and]
theorem eqv_ints (xs ys : List Int) : PyData.eqv (.tuple (xs.map PyData.int)) (.tuple (ys.map PyData.int)) = decide (xs = ys) := eqvAll_ints xs ys
theorem eq_ints {K : PySem.W.Frag} {H : Hp} {a b : Addr} {xs ys : List Int} {Q : VK} (ha : SqT K H a (xs.map V.int)) (hb : SqT K H b (ys.map V.int)) (q : Q (.bl (decide (xs = ys))) H) : rEqD K (.ref a) (.ref b) H Q := by
  refine ⟨_, _, .tup ha (dpAll_ints xs), .tup hb (dpAll_ints ys), shaped_tints xs, shaped_tints ys, ?_⟩
  rw [eqv_ints]
  exact q
section
variable {P : Program} {w : World} {K : PySem.W.Frag} {mg : Str → Option Value} {base : Heap}
end
abbrev dice (x y z : Int) : HO := .lst [.int x, .int y, .int z]
/-- all but the dice is as it was -/
def Sx (a : Addr) (H H' : Hp) : Prop := ∀ b o, b ≠ a → H b = some o → H' b = some o
def Dc (H : Hp) (a : Addr) : Prop := ∃ x y z, H a = some (dice x y z)
theorem Sx.trans {a : Addr} {H H1 H2 : Hp} (s : Sx a H H1) (t : Sx a H1 H2) : Sx a H H2 := fun b o n h => t b o n (s b o n h)
theorem Sx.of {a : Addr} {H H' : Hp} (s : Same H H') : Sx a H H' := fun b o _ h => s b o h
theorem Sx.upd {a : Addr} {H : Hp} {o : HO} : Sx a H (upd H a o) := fun b u n h => by
  rw [upd_ne n]
  exact h
theorem Dc.same {a : Addr} {H H' : Hp} (d : Dc H a) (s : Same H H') : Dc H' a := by
  obtain ⟨x, y, z, e⟩ := d
  exact ⟨x, y, z, s _ _ e⟩
theorem Dc.ne {a p : Addr} {H : Hp} (d : Dc H a) (n : H p = none) : p ≠ a := fun e => by
  obtain ⟨x, y, z, h⟩ := d
  rw [e, h] at n
  cases n
theorem script_Sx {K : PySem.W.Frag} {d a : Addr} {H H' : Hp} {o : HO} {xs : List V} (s : Sx d (upd H d o) H') (n : H d = none) (h : SqL K H a xs) : SqL K H' a xs := by
  rcases h with (h | ⟨u, h⟩) | h
  · have ne : a ≠ d := ne_of_none h n
    exact .inl (.inl (s a _ ne (by rw [upd_ne ne]; exact h)))
  · have ne : a ≠ d := ne_of_none h n
    exact .inl (.inr ⟨u, s a _ ne (by rw [upd_ne ne]; exact h)⟩)
  · exact .inr h
section
variable {P : Program} {w : World} {K : PySem.W.Frag} {mg : Str → Option Value} {base : Heap}
theorem cp16 : CPow 10 16 := ⟨by decide, by decide, by decide⟩
theorem cp60 : CPow 10 60 := ⟨by decide, by decide, by decide⟩
theorem cw60 : CMulW (10 ^ Int.toNat 60) (10 ^ Int.toNat 60) := by
  unfold CMulW
  decide +kernel
theorem pos60 : (0 : Int) < 10 ^ Int.toNat 60 * 10 ^ Int.toNat 60 := by decide +kernel
theorem pos_m : (0 : Int) < 1152921504606846697 := by decide
theorem sz3 : 3 ≤ sizeLine := by decide
def spDice (K : PySem.W.Frag) : Sp := fun vs H Q _ => ∃ (a : Addr) (ns : List Int) (k : Nat), vs = [.ref a, .int k] ∧ SqL K H a (ns.map V.int) ∧ ∀ p x y z, H p = none → Q (.ref p) (upd H p (dice x y z))
theorem ok_law_dice (T : Facts K mg) : FnOk P w K mg base CX0 1 T.f_law_dice T.fd_law_dice ["_law_script", "_law_spot"] (spDice K) := by
  refine T.F_law_dice.ok sc_law_dice (fun vs H Q E h => ?_) (fun cdv A outer s H vs Q E hr h => ?_)
  · obtain ⟨a, ns, k, rfl, _⟩ := h
    rfl
  · obtain ⟨a, ns, k, rfl, hS, q⟩ := h
    refine ⟨_, (PSs.nox (pss_cons (ps_set (i := 2) sc_law_dice.nd rfl (.inl rfl) (pe_ifExp (pt_cmpR op_lt (pv 1) (pe_callB call_len_seq (by rfl) T.z_len (by decide +kernel) (pa_cons (pv 0) pa_nil)) (nomark _)) (pe_callTy call_int1 (by rfl) T.z_int (by decide +kernel) (pa_cons (pe_ix ix_list (pv 0) (pv 1) (fun _ _ => rfl)) pa_nil)) (pe_op op_add (pe_op op_mul pe_int (pv 1)) pe_int)))
    (pss_cons (ps_set (i := 3) sc_law_dice.nd rfl (.inl rfl) (pe_op op_mod (pe_callB (call_max2 (by rfl)) (by rfl) T.z_max (by decide +kernel) (pa_cons pe_int (pa_cons (pe_op op_sub (pe_callB call_abs (by rfl) T.z_abs (by decide +kernel) (pa_cons (pv 2) pa_nil)) (pe_op op_pow pe_int pe_int)) pa_nil))) (pe_op op_mulW (pe_op op_pow pe_int pe_int) (pe_op op_pow pe_int pe_int))))
    (pss_one (ps_ret (pe_lst (pa_cons (pv 3) (pa_cons (pe_op op_add (pe_op op_add (pe_op op_add (pe_op op_mul (pe_op op_mod (pe_callB call_abs (by rfl) T.z_abs (by decide +kernel) (pa_cons (pv 2) pa_nil)) pe_int) pe_int) (pe_op op_mul pe_int (pv 1))) (pe_op op_mul pe_int (pe_callTy call_int1 (by rfl) T.z_int (by decide +kernel) (pa_cons (pe_cmpR op_lt (pv 2) pe_int (nomark _)) pa_nil)))) pe_int) (pa_cons pe_int pa_nil))))))))), ?_⟩
    refine ⟨.int k, rfl, .ref a, rfl, a, ns.map V.int, rfl, .inl hS, k, _, rfl, rfl, _, rfl, ?_⟩
    rw [List.length_map]
    by_cases h1 : (k : Int) < (ns.length : Int)
    · rw [decide_eq_true h1]
      have hj : k < ns.length := by omega
      refine iteT ⟨.ref a, rfl, .int k, rfl, a, ns.map V.int, k, .int ns[k], rfl, rfl, hS, atI_nat (by rw [List.getElem?_map, List.getElem?_eq_getElem hj]; rfl), .inl ⟨_, rfl, ?_⟩⟩
      refine ⟨.int ns[k], rfl, _, rfl, 10, 16, rfl, rfl, cp16, _, _, rfl, rfl, 0, _, rfl, 10, 60, rfl, rfl, cp60, 10, 60, rfl, rfl, cp60, _, _, rfl, rfl, cw60, _, _, rfl, rfl, pos60, ?_⟩
      refine ⟨_, rfl, .int ns[k], rfl, _, rfl, _, _, rfl, rfl, pos_m, _, _, rfl, rfl, .inr ⟨by decide, by decide⟩, .int k, rfl, _, _, rfl, rfl, .inl ⟨by decide, by decide⟩, _, _, rfl, rfl, .int ns[k], rfl, _, _, rfl, rfl, .inr ⟨_, rfl, _, _, rfl, rfl, .inl ⟨by decide, by decide⟩, _, _, rfl, rfl, _, _, rfl, rfl, ?_⟩⟩
      exact ⟨sz3, fun p hp => q p _ _ _ hp⟩
    · rw [decide_eq_false h1]
      refine iteF ⟨.int k, rfl, _, _, rfl, rfl, .inl ⟨by decide, by decide⟩, _, _, rfl, rfl, ?_⟩
      refine ⟨_, rfl, _, rfl, 10, 16, rfl, rfl, cp16, _, _, rfl, rfl, 0, _, rfl, 10, 60, rfl, rfl, cp60, 10, 60, rfl, rfl, cp60, _, _, rfl, rfl, cw60, _, _, rfl, rfl, pos60, ?_⟩
      refine ⟨_, rfl, _, rfl, _, rfl, _, _, rfl, rfl, pos_m, _, _, rfl, rfl, .inr ⟨by decide, by decide⟩, .int k, rfl, _, _, rfl, rfl, .inl ⟨by decide, by decide⟩, _, _, rfl, rfl, _, rfl, _, _, rfl, rfl, .inr ⟨_, rfl, _, _, rfl, rfl, .inl ⟨by decide, by decide⟩, _, _, rfl, rfl, _, _, rfl, rfl, ?_⟩⟩
      exact ⟨sz3, fun p hp => q p _ _ _ hp⟩
def spRoll : Sp := fun vs H Q _ => ∃ (a : Addr) (x y z n : Int), vs = [.ref a, .int n] ∧ H a = some (dice x y z) ∧ 0 < n ∧ n.natAbs.log2 < 9000 ∧ ∀ r x' z', 0 ≤ r → r < n → Q (.int r) (upd H a (dice x' y z'))
theorem ok_law_roll (T : Facts K mg) : FnOk P w K mg base CX0 1 T.f_law_roll T.fd_law_roll ["_law_dice_here", "_law_total"] spRoll := by
  refine T.F_law_roll.ok sc_law_roll (fun vs H Q E h => ?_) (fun cdv A outer s H vs Q E hr h => ?_)
  · obtain ⟨a, x, y, z, n, rfl, _⟩ := h
    rfl
  · obtain ⟨a, x, y, z, n, rfl, hd, h0, h1, q⟩ := h
    have hS : SqL K H a [.int x, .int y, .int z] := SqL.of hd
    refine ⟨_, (PSs.nox (pss_cons (ps_if (pt_cmpR op_gt (pe_ix ix_list (pv 0) pe_int (fun _ _ => rfl)) pe_int (nomark _))
      (pss_cons (ps_set (i := 2) sc_law_roll.nd rfl (.inl rfl) (pe_op op_mod (pe_callTy call_int1 (by rfl) T.z_int (by decide +kernel) (pa_cons (pe_ix ix_list (pv 0) pe_int (fun _ _ => rfl)) pa_nil)) (pv 1)))
      (pss_cons (ps_asg (pe_op op_fdivW (pe_ix ix_list (pv 0) pe_int (fun _ _ => rfl)) (pv 1)) (pg_sub (pv 0) pe_int set_list))
      (pss_one (ps_ret (pv 2)))))
      pss_nil)
    (pss_cons (ps_asg (pe_op op_add (pe_ix ix_list (pv 0) pe_int (fun _ _ => rfl)) pe_int) (pg_sub (pv 0) pe_int set_list))
    (pss_cons (ps_set (i := 3) sc_law_roll.nd rfl (.inl rfl) (pe_op op_mod (pe_callTy call_int1 (by rfl) T.z_int (by decide +kernel) (pa_cons (pe_op op_add (pe_ix ix_list (pv 0) pe_int (fun _ _ => rfl)) (pe_op op_mul pe_int (pe_ix ix_list (pv 0) pe_int (fun _ _ => rfl)))) pa_nil)) pe_int))
    (pss_cons (ps_set (i := 4) sc_law_roll.nd rfl (.inl rfl) (pe_op op_add (pe_op op_mul (pe_op op_mod (pe_callTy call_int1 (by rfl) T.z_int (by decide +kernel) (pa_cons (pe_op op_add (pe_op op_mul (pv 3) (pv 3)) (pe_op op_mul pe_int (pe_ix ix_list (pv 0) pe_int (fun _ _ => rfl)))) pa_nil)) pe_int) pe_int) (pv 3)))
    (pss_one (ps_ret (pe_op op_mod (pe_callTy call_int1 (by rfl) T.z_int (by decide +kernel) (pa_cons (pe_op op_fdivW (pv 4) pe_int) pa_nil)) (pv 1))))))))), ?_⟩
    refine ⟨.ref a, rfl, a, _, 0, .int x, rfl, rfl, hS, atI_nat (j := 0) rfl, x, 0, rfl, rfl, decide (0 < x), rfl, ite2 (fun _ => ?_) (fun _ => ?_)⟩
    · refine ⟨.ref a, rfl, a, _, 0, .int x, rfl, rfl, hS, atI_nat (j := 0) rfl, .inl ⟨x, rfl, .int n, rfl, x, n, rfl, rfl, h0, ?_⟩⟩
      refine ⟨.ref a, rfl, a, _, 0, .int x, rfl, rfl, hS, atI_nat (j := 0) rfl, .int n, rfl, x, n, rfl, rfl, ⟨h0, h1⟩, ?_⟩
      refine ⟨.ref a, rfl, a, _, 0, 0, rfl, rfl, hd, rfl, ?_⟩
      exact ⟨_, rfl, q (x % n) (x / n) z (Int.emod_nonneg _ (by omega)) (Int.emod_lt_of_pos _ h0)⟩
    · refine ⟨.ref a, rfl, a, _, 2, .int z, rfl, rfl, hS, atI_nat (j := 2) rfl, z, 1, rfl, rfl, ?_⟩
      refine ⟨.ref a, rfl, a, _, 2, 2, rfl, rfl, hd, rfl, ?_⟩
      have hd' : (upd H a (dice x y (z + 1))) a = some (dice x y (z + 1)) := upd_same
      have hS' : SqL K (upd H a (dice x y (z + 1))) a [.int x, .int y, .int (z + 1)] := SqL.of hd'
      refine ⟨.ref a, rfl, a, _, 1, .int y, rfl, rfl, hS', atI_nat (j := 1) rfl, .ref a, rfl, a, _, 2, .int (z + 1), rfl, rfl, hS', atI_nat (j := 2) rfl, _, _, rfl, rfl, .inl ⟨by decide, by decide⟩, _, _, rfl, rfl, .inl ⟨_, rfl, _, _, rfl, rfl, (by decide : (0 : Int) < 2305843009213691579), ?_⟩⟩
      have b0 := Int.emod_nonneg (y + 92821991 * (z + 1)) (show (2305843009213691579 : Int) ≠ 0 by decide)
      have b1 := Int.emod_lt_of_pos (y + 92821991 * (z + 1)) (show (0 : Int) < 2305843009213691579 by decide)
      refine ⟨_, rfl, _, rfl, _, _, rfl, rfl, .inl ⟨Int.lt_of_lt_of_le (by decide) b0, Int.lt_trans b1 (by decide)⟩, .ref a, rfl, a, _, 2, .int (z + 1), rfl, rfl, hS', atI_nat (j := 2) rfl, _, _, rfl, rfl, .inl ⟨by decide, by decide⟩, _, _, rfl, rfl, .inl ⟨_, rfl, _, _, rfl, rfl, (by decide : (0 : Int) < 2305843009213692227), _, _, rfl, rfl, .inr ⟨by decide, by decide⟩, _, rfl, _, _, rfl, rfl, ?_⟩⟩
      refine ⟨_, rfl, _, _, rfl, rfl, ⟨by decide, by decide +kernel⟩, .inl ⟨_, rfl, .int n, rfl, _, _, rfl, rfl, h0, ?_⟩⟩
      exact q _ x (z + 1) (Int.emod_nonneg _ (by omega)) (Int.emod_lt_of_pos _ h0)
def spPick (K : PySem.W.Frag) : Sp := fun vs H Q _ => ∃ (a b : Addr) (x y z : Int) (xs : List V), vs = [.ref a, .ref b] ∧ H a = some (dice x y z) ∧ H b = some (.lst xs) ∧ a ≠ b ∧ 0 < xs.length ∧ xs.length < 1000 ∧
  ∀ (i : Nat) v x' z', xs[i]? = some v → Q v (upd H a (dice x' y z'))
theorem ok_law_pick (T : Facts K mg) : FnOk P w K mg base CX0 2 T.f_law_pick T.fd_law_pick ["_law_dice_here", "_law_items"] (spPick K) := by
  have G_law_roll : FnOk P w K mg base CX0 1 T.f_law_roll T.fd_law_roll ["_law_dice_here", "_law_total"] spRoll := ok_law_roll T
  refine T.F_law_pick.ok sc_law_pick (fun vs H Q E h => ?_) (fun cdv A outer s H vs Q E hr h => ?_)
  · obtain ⟨a, b, x, y, z, xs, rfl, _⟩ := h
    rfl
  · obtain ⟨a, b, x, y, z, xs, rfl, hd, hb, hab, l0, l1, q⟩ := h
    refine ⟨_, (PSs.nox (pss_one (ps_ret (pe_ix ix_list (pv 1) (pe_call G_law_roll hr (by rfl) T.g_law_roll T.F_law_roll.kp T.b_law_roll .nil pass0 (pa_cons (pv 0) (pa_cons (pe_callB call_len_seq (by rfl) T.z_len (by decide +kernel) (pa_cons (pv 1) pa_nil)) pa_nil))) (fun _ _ => rfl))))), ?_⟩
    refine ⟨.ref b, rfl, .ref a, rfl, .ref b, rfl, b, xs, rfl, .inl (SqL.of hb), ?_⟩
    refine ⟨a, x, y, z, _, rfl, hd, (by omega : (0 : Int) < (xs.length : Int)), Nat.lt_trans (PySem.Flt.log2_lt_of (k := 10) (by decide) (by show xs.length < 2 ^ 10; omega)) (by decide), fun r x' z' h1 h2 => ?_⟩
    obtain ⟨j, rfl⟩ := Int.eq_ofNat_of_zero_le h1
    have hj : j < xs.length := by omega
    exact ⟨b, xs, j, xs[j], rfl, rfl, SqL.of (by rw [upd_ne (Ne.symm hab)]; exact hb), atI_nat (List.getElem?_eq_getElem hj), q j _ x' z' (List.getElem?_eq_getElem hj)⟩
def spRoll2 : Sp := fun vs H Q _ => ∃ (a : Addr) (n : Int), vs = [.ref a, .int n] ∧ Dc H a ∧ 0 < n ∧ n.natAbs.log2 < 9000 ∧ ∀ (r : Nat) H', (r : Int) < n → Sx a H H' → Dc H' a → Q (.int r) H'
theorem roll2 : ∀ vs H Q E, spRoll2 vs H Q E → spRoll vs H Q E := fun vs H Q E h => by
  obtain ⟨a, n, rfl, ⟨x, y, z, e⟩, h0, h1, q⟩ := h
  refine ⟨a, x, y, z, n, rfl, e, h0, h1, fun r x' z' r0 r1 => ?_⟩
  obtain ⟨j, rfl⟩ := Int.eq_ofNat_of_zero_le r0
  exact q j _ r1 Sx.upd ⟨x', y, z', upd_same⟩
def spPick2 : Sp := fun vs H Q _ => ∃ (a b : Addr) (xs : List V), vs = [.ref a, .ref b] ∧ Dc H a ∧ H b = some (.lst xs) ∧ b ≠ a ∧ 0 < xs.length ∧ xs.length < 1000 ∧ ∀ v H', v ∈ xs → Sx a H H' → Dc H' a → Q v H'
theorem pick2 {K : PySem.W.Frag} : ∀ vs H Q E, spPick2 vs H Q E → spPick K vs H Q E := fun vs H Q E h => by
  obtain ⟨a, b, xs, rfl, ⟨x, y, z, e⟩, hb, ne, l0, l1, q⟩ := h
  exact ⟨a, b, x, y, z, xs, rfl, e, hb, Ne.symm ne, l0, l1, fun i v x' z' hv => q v _ (List.mem_of_getElem? hv) Sx.upd ⟨x', y, z', upd_same⟩⟩
def spRight : Sp := fun vs H Q _ => ∃ a : Addr, vs = [.ref a] ∧ Dc H a ∧ ∀ H', Sx a H H' → Dc H' a → Q (.bl true) H'
end
theorem take_snoc {xs : List Int} {i : Nat} (h : i < xs.length) : xs.take (i + 1) = xs.take i ++ [co xs i] := by
  rw [List.take_add_one, List.getElem?_eq_getElem h, co_get h]
  rfl
theorem int_get {xs : List Int} {i : Nat} {x : V} (h : (xs.map V.int)[i]? = some x) : i < xs.length ∧ x = .int (co xs i) := by
  have hi : i < xs.length := by
    have := (List.getElem?_eq_some_iff.mp h).1
    rw [List.length_map] at this
    exact this
  rw [get_int hi] at h
  cases h
  exact ⟨hi, rfl⟩
theorem tab_snoc (n : Nat) (f : Nat → Int) : tab n f ++ [V.int (f n)] = tab (n + 1) f := by
  unfold tab
  rw [List.range_succ, List.map_append]
  rfl
section
variable {P : Program} {w : World} {K : PySem.W.Frag} {mg : Str → Option Value} {base : Heap}
end
section
variable {P : Program} {w : World} {K : PySem.W.Frag} {mg : Str → Option Value} {base : Heap}
end
section
variable {P : Program} {w : World} {K : PySem.W.Frag} {mg : Str → Option Value} {base : Heap}
end
section
variable {P : Program} {w : World} {K : PySem.W.Frag} {mg : Str → Option Value} {base : Heap}
theorem dc_ne {H : Hp} {d p : Addr} {xs : List V} (hd : Dc H d) (hp : H p = some (.tup xs)) : p ≠ d := fun e => by
  obtain ⟨x, y, z, h⟩ := hd
  rw [e, h] at hp
  cases hp
end
/-! how large the entries of products are -/
section
variable {P : Program} {w : World} {K : PySem.W.Frag} {mg : Str → Option Value} {base : Heap}
end
section
variable {P : Program} {w : World} {K : PySem.W.Frag} {mg : Str → Option Value} {base : Heap}
end
/-! the primitive row of a primitive row -/
/-! sums of rows, rows of 0 -/
section
variable {P : Program} {w : World} {K : PySem.W.Frag} {mg : Str → Option Value} {base : Heap}
end
/-! what is said of forms by those who use them (for other laws: K50u, K50v, K50y hold the same) -/
section
variable {P : Program} {w : World} {K : PySem.W.Frag} {mg : Str → Option Value} {base : Heap}
theorem shaped_lints (ns : List Int) : SeqAt.shaped (.list (ns.map PyData.int)) = true := by
  unfold SeqAt.shaped
  rw [show PyData.canLay0 (.list (ns.map PyData.int)) = PyData.canLayAll0 (ns.map PyData.int) from rfl, lay_ints]
  rw [show PyData.depth (.list (ns.map PyData.int)) = PyData.depthAll (ns.map PyData.int) + 1 from rfl, depth_ints]
  rfl
/-- a drawn integer, of any size up to fifty digits -/
def spNearB : Sp := fun vs H Q _ => ∃ (a : Addr) (m : Int), vs = [.ref a, .int m] ∧ Dc H a ∧ 0 ≤ m ∧ m ≤ 100000000000000000000 ∧ ∀ r H', -m ≤ r → r ≤ m → Sx a H H' → Dc H' a → Q (.int r) H'
theorem ok_law_nearB (T : Facts K mg) : FnOk P w K mg base CX0 2 T.f_law_near T.fd_law_near ["_law_dice_here", "_law_most"] spNearB := by
  have G_law_roll : FnOk P w K mg base CX0 1 T.f_law_roll T.fd_law_roll ["_law_dice_here", "_law_total"] spRoll2 := (ok_law_roll T).imp roll2
  refine T.F_law_near.ok sc_law_near (fun vs H Q E h => ?_) (fun cdv A outer s H vs Q E hr h => ?_)
  · obtain ⟨a, m, rfl, _⟩ := h
    rfl
  · obtain ⟨a, m, rfl, hd, h0, h1, q⟩ := h
    refine ⟨_, (PSs.nox (pss_one (ps_ret (pe_op op_sub (pe_call G_law_roll hr (by rfl) T.g_law_roll T.F_law_roll.kp T.b_law_roll .nil pass0 (pa_cons (pv 0) (pa_cons (pe_op op_add (pe_op op_mul pe_int (pv 1)) pe_int) pa_nil))) (pv 1))))), ?_⟩
    refine ⟨_, rfl, _, rfl, _, _, rfl, rfl, .inl ⟨by decide, by decide⟩, _, _, rfl, rfl, a, _, rfl, hd, (by show 0 < 2 * m + 1; omega), ?_, fun r H' hr s d => ⟨_, rfl, _, _, rfl, rfl, ?_⟩⟩
    · refine Nat.lt_trans (PySem.Flt.log2_lt_of (k := 80) (by decide) ?_) (by decide)
      show (2 * m + 1).natAbs < 2 ^ 80
      omega
    · have hr' : (r : Int) < 2 * m + 1 := hr
      exact q _ H' (by omega) (by omega) s d
end
/-! values of forms; a form is told by its values -/
/-! changed forms, derived forms: the plain law -/
section
variable {P : Program} {w : World} {K : PySem.W.Frag} {mg : Str → Option Value} {base : Heap}
/-! ### changes -/
/-- a table of two rows of two -/
def Tb (H : Hp) (t : Addr) (X Y : List Int) : Prop := ∃ r0 r1, H t = some (.tup [.ref r0, .ref r1]) ∧ H r0 = some (tp X) ∧ H r1 = some (tp Y)
theorem Tb.same {H H' : Hp} {t : Addr} {X Y : List Int} (h : Tb H t X Y) (s : Same H H') : Tb H' t X Y := by
  obtain ⟨r0, r1, h1, h2, h3⟩ := h
  exact ⟨r0, r1, s _ _ h1, s _ _ h2, s _ _ h3⟩
end
section
variable {P : Program} {w : World} {K : PySem.W.Frag} {mg : Str → Option Value} {base : Heap}
end
section
variable {P : Program} {w : World} {K : PySem.W.Frag} {mg : Str → Option Value} {base : Heap}
end
section
variable {P : Program} {w : World} {K : PySem.W.Frag} {mg : Str → Option Value} {base : Heap}
theorem sm_le {x : Int} {n : Nat} (h : x.natAbs ≤ n) (hn : n < 2 ^ 200) : sm x := Nat.lt_of_le_of_lt h (Nat.lt_of_lt_of_le hn (Nat.pow_le_pow_right (by decide) (by decide)))
def spJoined : Sp := fun vs H Q _ => ∃ (t u : Addr) (a b c e a' b' c' e' : Int), vs = [.ref t, .ref u] ∧ Tb H t [a, b] [c, e] ∧ Tb H u [a', b'] [c', e'] ∧ (∀ x ∈ [a, b, c, e, a', b', c', e'], x.natAbs ≤ 100000000000000000000) ∧ ∀ p H', Same H H' → Tb H' p [a * a' + b * c', a * b' + b * e'] [c * a' + e * c', c * b' + e * e'] → Q (.ref p) H'
theorem ok_law_joined (T : Facts K mg) : FnOk P w K mg base CX0 1 T.f_law_joined T.fd_law_joined ["_law_one", "_law_other"] spJoined := by
  refine T.F_law_joined.ok sc_law_joined (fun vs H Q E h => ?_) (fun cdv A outer s H vs Q E hr h => ?_)
  · obtain ⟨t, u, a, b, c, e, a', b', c', e', rfl, _⟩ := h
    rfl
  · obtain ⟨t, u, a, b, c, e, a', b', c', e', rfl, ⟨r0, r1, f2, k0, k1⟩, ⟨o0, o1, g2, j0, j1⟩, hb, q⟩ := h
    refine ⟨_, (PSs.nox (pss_cons (ps_set (i := 2) sc_law_joined.nd rfl (.inl rfl) (pe_lst pa_nil))
    (pss_cons (ps_for PassesOwn.never (by rfl) (pi_tup (pv 0)) (pg_tup (by rfl) (pgs_cons (pg_name (i := 3) sc_law_joined.nd rfl (.inr rfl)) (pgs_cons (pg_name (i := 4) sc_law_joined.nd rfl (.inr rfl)) pgs_nil)))
      (pss_one (ps_expr (pe_bm PySem.F.plainAttrs_list PySem.F.slot_list_append PySem.F.type_list_append mt_append (pv 2) (pa_cons (pe_tupleOf (by rfl) T.z_tuple (pe_lc (own := [("_law_at", 5)]) (g := (gName 5)) (tt := tYes) (by rfl) sc_law_joined.nd (pi_range1 (by rfl) T.z_range (pa_cons pe_int pa_nil)) (blkOk_by (N := N_law_joined) (sc := defScope s_law_joined) (by decide +kernel)) (fun _ _ _ _ _ => (pg_name (i := 5) sc_law_joined.nd rfl (.inl rfl))) (fun _ _ _ _ _ => pts_nil) (fun _ _ _ _ _ => (pe_op op_add (pe_op op_mulW (pv 3) (pe_ix (ix_tup : IxR _ (rIxT K)) (pe_ix (ix_tup : IxR _ (rIxT K)) (pv 1) pe_int (fun _ _ => rfl)) (pv 5) (fun _ _ => rfl))) (pe_op op_mulW (pv 4) (pe_ix (ix_tup : IxR _ (rIxT K)) (pe_ix (ix_tup : IxR _ (rIxT K)) (pv 1) pe_int (fun _ _ => rfl)) (pv 5) (fun _ _ => rfl))))))) pa_nil)))))
    (pss_one (ps_ret (pe_tupleOf (by rfl) T.z_tuple (pv 2))))))), ?_⟩
    have row : ∀ x y : Int, tab 2 (fun k => x * co [a', b'] k + y * co [c', e'] k) = [V.int (x * a' + y * c'), V.int (x * b' + y * e')] := fun _ _ => rfl
    refine ⟨by show 0 ≤ sizeLine; exact Nat.zero_le _, fun R nR => gen_upd H R (.lst []) nR fun H1 s1 fR => ⟨_, rfl, t, rfl, ⟨_, SqT.of (s1 _ _ f2)⟩, for_tup (xs := [.ref r0, .ref r1]) (fun i σ H' => ∃ (rs : List Addr) (y3 y4 : Option V), σ = [some (.ref t), some (.ref u), some (.ref R), y3, y4, none] ∧ Same H H' ∧ H' R = some (.lst (rs.map V.ref)) ∧ rs.length = i ∧ ∀ k (h : k < rs.length), H' rs[k] = some (.tup (tab 2 fun k' => (if k = 0 then a else c) * co [a', b'] k' + (if k = 0 then b else e) * co [c', e'] k'))) ⟨[], none, none, rfl, s1, fR, rfl, fun k h => absurd h (Nat.not_lt_zero k)⟩ (fun i σ H' _ hP => ?_) (fun i x σ H' hx hP => ?_) (fun σ H' hP => ?_)⟩⟩
    · obtain ⟨rs, y3, y4, _, sH, _⟩ := hP
      exact SqT.of (sH _ _ f2)
    · obtain ⟨rs, y3, y4, rfl, sH, hR, hl, hrs⟩ := hP
      have hi : i < 2 := (List.getElem?_eq_some_iff.mp hx).1
      obtain ⟨r, z1, z2, rfl, hr, b1, b2, ez1, ez2⟩ : ∃ r z1 z2, x = .ref r ∧ H r = some (tp [z1, z2]) ∧ z1.natAbs ≤ 100000000000000000000 ∧ z2.natAbs ≤ 100000000000000000000 ∧ z1 = (if i = 0 then a else c) ∧ z2 = (if i = 0 then b else e) := by
        match i, hi, hx with
        | 0, _, hx => cases hx; exact ⟨r0, a, b, rfl, k0, hb a (by simp), hb b (by simp), rfl, rfl⟩
        | 1, _, hx => cases hx; exact ⟨r1, c, e, rfl, k1, hb c (by simp), hb e (by simp), rfl, rfl⟩
      refine ⟨r, _, rfl, SqT.of (sH _ _ hr), rfl, _, _, rfl, _, _, rfl, rfl, ?_⟩
      have nRR : ∀ b o, H b = some o → b ≠ R := fun b o e => ne_of_none e nR
      refine ⟨_, rfl, .inl ⟨rfl, _, SqL.of hR⟩, 2, rfl, by decide, by decide, fun D hD => lc_range (n := (2 : Int).toNat) (fun j H2 => Same H' H2 ∧ H2 D = some (.lst (tab j fun k => z1 * co [a', b'] k + z2 * co [c', e'] k))) ⟨same_upd0 hD, upd_same⟩ (fun j H2 hj hP2 => ?_) (fun H2 hP2 => ?_)⟩
      · obtain ⟨s2, hL⟩ := hP2
        have hj2 : j < 2 := hj
        have t2 := sH.trans s2
        have ej : (0 : Int) + (j : Int) = ((j : Nat) : Int) := by omega
        have sb0 : sm (co [a', b'] j) := by
          match j, hj2 with
          | 0, _ => exact sm_le (hb a' (by simp)) (by decide)
          | 1, _ => exact sm_le (hb b' (by simp)) (by decide)
        have sb1 : sm (co [c', e'] j) := by
          match j, hj2 with
          | 0, _ => exact sm_le (hb c' (by simp)) (by decide)
          | 1, _ => exact sm_le (hb e' (by simp)) (by decide)
        refine ⟨rfl, _, rfl, _, rfl, u, _, 0, _, rfl, rfl, SqT.of (t2 _ _ g2), atI_nat (j := 0) rfl, _, rfl, o0, _, _, _, rfl, rfl, SqT.of (t2 _ _ j0), at_of ej (get_int (xs := [a', b']) hj2), _, _, rfl, rfl, sm_mul (sm_le b1 (by decide)) sb0, ?_⟩
        refine ⟨_, rfl, _, rfl, u, _, 1, _, rfl, rfl, SqT.of (t2 _ _ g2), atI_nat (j := 1) rfl, _, rfl, o1, _, _, _, rfl, rfl, SqT.of (t2 _ _ j1), at_of ej (get_int (xs := [c', e']) hj2), _, _, rfl, rfl, sm_mul (sm_le b2 (by decide)) sb1, _, _, rfl, rfl, _, hL, ?_, fun b o e => ?_, ?_⟩
        · rw [tab_len]
          exact small1000 (by omega)
        · rw [upd_ne (ne_of_none e hD)]
          exact s2 _ _ e
        · rw [upd_same, ← tab_snoc]
      · obtain ⟨s2, hL⟩ := hP2
        refine .inl ⟨D, _, rfl, SqL.of hL, fun p np => gen_upd H2 p _ np fun H3 s3 f3 => ?_⟩
        have hR3 := s3 _ _ (s2 _ _ hR)
        refine ⟨R, _, _, rfl, rfl, hR3, by rw [List.length_map]; exact small1000 (by omega), rs ++ [p], _, _, rfl, fun b o e => ?_, by rw [upd_same, List.map_append]; rfl, by rw [List.length_append, hl]; rfl, fun k h => ?_⟩
        · rw [upd_ne (nRR b o e)]
          exact s3 _ _ (s2 _ _ (sH _ _ e))
        · have nk : ∀ q zs, H3 q = some (.tup zs) → q ≠ R := fun q zs e z => by
            rw [z, hR3] at e
            cases e
          by_cases cc : k < rs.length
          · rw [show (rs ++ [p])[k] = rs[k] from List.getElem_append_left _]
            have e3 := s3 _ _ (s2 _ _ (hrs k cc))
            rw [upd_ne (nk _ _ e3)]
            exact e3
          · have ek : k = rs.length := by rw [List.length_append] at h; simp at h; omega
            subst ek
            rw [show (rs ++ [p])[rs.length] = p by rw [List.getElem_append_right (Nat.le_refl _)]; simp, upd_ne (nk _ _ f3), f3, hl, ← ez1, ← ez2]
            rfl
    · obtain ⟨rs, y3, y4, rfl, sH, hR, hl, hrs⟩ := hP
      match rs, hl, hR, hrs with
      | [p0, p1], _, hR, hrs =>
        have w0 := hrs 0 (by simp)
        have w1 := hrs 1 (by simp)
        refine ⟨_, rfl, .inl ⟨R, _, rfl, SqL.of hR, fun p np => gen_upd H' p (.tup [.ref p0, .ref p1]) np fun H3 s3 f3 => q p H3 (sH.trans s3) ⟨p0, p1, f3, s3 _ _ w0, s3 _ _ w1⟩⟩⟩
end
theorem lt400 {x i : Nat} (h : x ≤ 2 ^ i) (hi : i < 4000) : x < 2 ^ 4000 := Nat.lt_of_le_of_lt h (Nat.pow_lt_pow_right (by decide) hi)
def md (p : Int) (l : List Int) : List Int := l.map (· % p)
/-- the primes -/
def PR : List Int := [13, 17, 19, 23, 29, 31, 37, 41, 43, 47, 53, 59, 61, 67, 71, 73, 79, 83, 89, 97, 101]
theorem pr_bd {p : Int} (h : p ∈ PR) : 13 ≤ p ∧ p ≤ 101 := (by decide : ∀ p ∈ PR, 13 ≤ p ∧ p ≤ 101) p h
theorem pr_any {p : Int} (h : p ∈ PR) : PR.any (· == p) = true := List.any_eq_true.mpr ⟨p, h, by simp⟩
theorem tb_md (p : Int) (l : List Int) : (tb l.length fun k => co l k % p) = md p l := tb_map (fun x => x % p) l
theorem sm20 {x : Int} (h : x.natAbs ≤ 10 ^ 45) : sm x := lt400 (i := 150) (Nat.le_trans h (by decide)) (by decide)
section
variable {P : Program} {w : World} {K : PySem.W.Frag} {mg : Str → Option Value} {base : Heap}
def spReqPrime : Sp := fun vs H Q _ => ∃ p : Int, vs = [.int p] ∧ p ∈ PR ∧ Q .non H
theorem ok_require_prime (T : Facts K mg) : FnOk P w K mg base CX0 3 T.f_require_prime T.fd_require_prime ["value"] spReqPrime := by
  have G_is_short := ok_is_short (P := P) (w := w) (base := base) T
  refine T.F_require_prime.ok sc_require_prime (fun vs H Q E h => ?_) (fun cdv A outer s H vs Q E hr h => ?_)
  · obtain ⟨p, rfl, _⟩ := h
    rfl
  · obtain ⟨p, rfl, hp, q⟩ := h
    refine ⟨_, (PSs.nox (pss_one (ps_if (pw_or (pt_not (pt_val (pe_call G_is_short hr (by rfl) T.g_is_short T.F_is_short.kp T.b_is_short .nil pass0 (pa_cons (pv 0) pa_nil)))) (pw_or1 (pt_cmpR StatT.op_notInTI (pv 0) (pe_glob (v := .ref T.A_PRIMES) (by rfl) T.t_PRIMES.g rfl) (by rfl)))).pt
      (pss_one ps_never)
      pss_nil))), ?_⟩
    obtain ⟨p1, p2⟩ := pr_bd hp
    refine ⟨_, rfl, p, rfl, Nat.lt_of_le_of_lt (show p.natAbs ≤ 101 by omega) (by decide), true, rfl, iteF ⟨_, rfl, p, T.A_PRIMES, PR, rfl, rfl, T.t_PRIMES.sq H, ?_⟩⟩
    rw [pr_any hp]
    exact ⟨false, rfl, iteF q⟩
def spDet : Sp := fun vs H Q _ => ∃ (t : Addr) (a b c e : Int), vs = [.ref t] ∧ Tb H t [a, b] [c, e] ∧ a.natAbs ≤ 10 ^ 45 ∧ b.natAbs ≤ 10 ^ 45 ∧ c.natAbs ≤ 10 ^ 45 ∧ e.natAbs ≤ 10 ^ 45 ∧ Q (.int (a * e - b * c)) H
theorem ok_law_det (T : Facts K mg) : FnOk P w K mg base CX0 1 T.f_law_det T.fd_law_det ["_law_table"] spDet := by
  refine T.F_law_det.ok sc_law_det (fun vs H Q E h => ?_) (fun cdv A outer s H vs Q E hr h => ?_)
  · obtain ⟨t, a, b, c, e, rfl, _⟩ := h
    rfl
  · obtain ⟨t, a, b, c, e, rfl, ⟨r0, r1, f2, k0, k1⟩, ba, bb, bc, be, q⟩ := h
    refine ⟨_, (PSs.nox (pss_one (ps_ret (pe_op op_sub (pe_op op_mulW (pe_ix ix_tup (pe_ix ix_tup (pv 0) pe_int (fun _ _ => rfl)) pe_int (fun _ _ => rfl)) (pe_ix ix_tup (pe_ix ix_tup (pv 0) pe_int (fun _ _ => rfl)) pe_int (fun _ _ => rfl))) (pe_op op_mulW (pe_ix ix_tup (pe_ix ix_tup (pv 0) pe_int (fun _ _ => rfl)) pe_int (fun _ _ => rfl)) (pe_ix ix_tup (pe_ix ix_tup (pv 0) pe_int (fun _ _ => rfl)) pe_int (fun _ _ => rfl))))))), ?_⟩
    refine ⟨_, rfl, t, _, 0, _, rfl, rfl, SqT.of f2, atI_nat (j := 0) rfl, r0, _, 0, _, rfl, rfl, SqT.of k0, atI_nat (j := 0) rfl, _, rfl, t, _, 1, _, rfl, rfl, SqT.of f2, atI_nat (j := 1) rfl, r1, _, 1, _, rfl, rfl, SqT.of k1, atI_nat (j := 1) rfl, _, _, rfl, rfl, sm_mul (sm20 ba) (sm20 be), ?_⟩
    exact ⟨_, rfl, t, _, 0, _, rfl, rfl, SqT.of f2, atI_nat (j := 0) rfl, r0, _, 1, _, rfl, rfl, SqT.of k0, atI_nat (j := 1) rfl, _, rfl, t, _, 1, _, rfl, rfl, SqT.of f2, atI_nat (j := 1) rfl, r1, _, 0, _, rfl, rfl, SqT.of k1, atI_nat (j := 0) rfl, _, _, rfl, rfl, sm_mul (sm20 bb) (sm20 bc), _, _, rfl, rfl, q⟩
theorem ok_determinant_in (T : Facts K mg) : FnOk P w K mg base CX0 1 T.f_determinant_in T.fd_determinant_in ["table"] spDet := by
  refine T.F_determinant_in.ok sc_determinant_in (fun vs H Q E h => ?_) (fun cdv A outer s H vs Q E hr h => ?_)
  · obtain ⟨t, a, b, c, e, rfl, _⟩ := h
    rfl
  · obtain ⟨t, a, b, c, e, rfl, ⟨r0, r1, f2, k0, k1⟩, ba, bb, bc, be, q⟩ := h
    refine ⟨_, (PSs.nox (pss_one (ps_ret (pe_op op_sub (pe_op op_mulW (pe_ix ix_tup (pe_ix ix_tup (pv 0) pe_int (fun _ _ => rfl)) pe_int (fun _ _ => rfl)) (pe_ix ix_tup (pe_ix ix_tup (pv 0) pe_int (fun _ _ => rfl)) pe_int (fun _ _ => rfl))) (pe_op op_mulW (pe_ix ix_tup (pe_ix ix_tup (pv 0) pe_int (fun _ _ => rfl)) pe_int (fun _ _ => rfl)) (pe_ix ix_tup (pe_ix ix_tup (pv 0) pe_int (fun _ _ => rfl)) pe_int (fun _ _ => rfl))))))), ?_⟩
    refine ⟨_, rfl, t, _, 0, _, rfl, rfl, SqT.of f2, atI_nat (j := 0) rfl, r0, _, 0, _, rfl, rfl, SqT.of k0, atI_nat (j := 0) rfl, _, rfl, t, _, 1, _, rfl, rfl, SqT.of f2, atI_nat (j := 1) rfl, r1, _, 1, _, rfl, rfl, SqT.of k1, atI_nat (j := 1) rfl, _, _, rfl, rfl, sm_mul (sm20 ba) (sm20 be), ?_⟩
    exact ⟨_, rfl, t, _, 0, _, rfl, rfl, SqT.of f2, atI_nat (j := 0) rfl, r0, _, 1, _, rfl, rfl, SqT.of k0, atI_nat (j := 1) rfl, _, rfl, t, _, 1, _, rfl, rfl, SqT.of f2, atI_nat (j := 1) rfl, r1, _, 0, _, rfl, rfl, SqT.of k1, atI_nat (j := 0) rfl, _, _, rfl, rfl, sm_mul (sm20 bb) (sm20 bc), _, _, rfl, rfl, q⟩
def spIsPT : Sp := fun vs H Q _ => ∃ (p : Int) (t : Addr) (a b c e : Int), vs = [.int p, .ref t] ∧ 0 < p ∧ Tb H t [a, b] [c, e] ∧ a.natAbs ≤ 10 ^ 45 ∧ b.natAbs ≤ 10 ^ 45 ∧ c.natAbs ≤ 10 ^ 45 ∧ e.natAbs ≤ 10 ^ 45 ∧ (a * e - b * c) % p ≠ 0 ∧ ∀ H', Same H H' → Q (.bl true) H'
theorem ok_is_prime_table (T : Facts K mg) : FnOk P w K mg base CX0 3 T.f_is_prime_table T.fd_is_prime_table ["prime", "value"] spIsPT := by
  have G_is_short := ok_is_short (P := P) (w := w) (base := base) T
  have G_determinant_in := ok_determinant_in (P := P) (w := w) (base := base) T
  refine T.F_is_prime_table.ok sc_is_prime_table (fun vs H Q E h => ?_) (fun cdv A outer s H vs Q E hr h => ?_)
  · obtain ⟨p, t, a, b, c, e, rfl, _⟩ := h
    rfl
  · obtain ⟨p, t, a, b, c, e, rfl, hp, ⟨r0, r1, h1, h2, h3⟩, ba, bb, bc, be, hd, q⟩ := h
    refine ⟨_, (PSs.nox (pss_cons (ps_if (pw_or (pt_not (pt_val (pe_callB call_isi (by rfl) T.z_isinstance (by decide +kernel) (pa_cons (pv 1) (pa_cons (pe_bltn (v := .ty "tuple") (by rfl) T.z_tuple (by decide +kernel) rfl) pa_nil))))) (pw_or1 (pt_cmpR op_ne (pe_callB call_len_seq (by rfl) T.z_len (by decide +kernel) (pa_cons (pv 1) pa_nil)) pe_int (nomark _)))).pt
      (pss_one (ps_ret pe_bl))
      pss_nil)
    (pss_cons (ps_for PassesOwn.never (by rfl) (pi_tup (pv 1)) (pg_name (i := 2) sc_is_prime_table.nd rfl (.inl rfl))
      (pss_one (ps_if (pw_or (pt_not (pt_val (pe_callB call_isi (by rfl) T.z_isinstance (by decide +kernel) (pa_cons (pv 2) (pa_cons (pe_bltn (v := .ty "tuple") (by rfl) T.z_tuple (by decide +kernel) rfl) pa_nil))))) (pw_or (pt_cmpR op_ne (pe_callB call_len_seq (by rfl) T.z_len (by decide +kernel) (pa_cons (pv 2) pa_nil)) pe_int (nomark _)) (pw_or1 (pt_not (pt_val (pe_callB (cr_all (by rfl)) (by rfl) T.z_all (by decide +kernel) (pa_cons (pe_lc (own := [("one", 3)]) (g := (gName 3)) (tt := tYes) (by rfl) sc_is_prime_table.nd (pi_tup (pv 2)) (blkOk_by (N := N_is_prime_table) (sc := defScope s_is_prime_table) (by decide +kernel)) (fun _ _ _ _ _ => (pg_name (i := 3) sc_is_prime_table.nd rfl (.inl rfl))) (fun _ _ _ _ _ => pts_nil) (fun _ _ _ _ _ => (pe_call G_is_short hr (by rfl) T.g_is_short T.F_is_short.kp T.b_is_short .nil pass0 (pa_cons (pv 3) pa_nil)))) pa_nil))))))).pt
        (pss_one (ps_ret pe_bl))
        pss_nil)))
    (pss_one (ps_ret (pe_cmpR op_ne (pe_op op_mod (pe_call G_determinant_in (hr.mono (by decide)) (by rfl) T.g_determinant_in T.F_determinant_in.kp T.b_determinant_in .nil pass0 (pa_cons (pv 1) pa_nil)) (pv 0)) pe_int (nomark _))))))), ?_⟩
    refine ⟨_, rfl, .ref t, .ty "tuple", .type "tuple", .type "tuple", true, rfl, .ty "tuple", .base (.tup h1), kit_ty (show kitB "tuple" "tuple" = some true by decide +kernel), true, rfl, iteF ?_⟩
    refine ⟨_, rfl, t, _, rfl, .inr (SqT.of h1), rfl, _, rfl, iteF ?_⟩
    refine ⟨_, rfl, t, rfl, ⟨_, SqT.of h1⟩, for_tup (xs := [.ref r0, .ref r1]) (fun i σ H' => ∃ y2 y3, σ = [some (.int p), some (.ref t), y2, y3] ∧ Same H H') ⟨none, none, rfl, Same.rf H⟩ (fun i σ H' _ hP => ?_) (fun i x σ H' hx hP => ?_) (fun σ H' hP => ?_)⟩
    · obtain ⟨y2, y3, _, sH⟩ := hP
      exact SqT.of (sH _ _ h1)
    · obtain ⟨y2, y3, rfl, sH⟩ := hP
      have sh : ∀ {z : Int}, z.natAbs ≤ 10 ^ 45 → Sho z := fun h => Nat.lt_of_le_of_lt h (by decide)
      obtain ⟨r, z1, z2, rfl, hr2, b1, b2⟩ : ∃ r z1 z2, x = .ref r ∧ H r = some (tp [z1, z2]) ∧ Sho z1 ∧ Sho z2 := by
        have hm := List.mem_of_getElem? hx
        simp only [List.mem_cons, List.not_mem_nil, or_false] at hm
        rcases hm with e | e <;> rw [e]
        · exact ⟨_, _, _, rfl, h2, sh ba, sh bb⟩
        · exact ⟨_, _, _, rfl, h3, sh bc, sh be⟩
      have hr3 := sH _ _ hr2
      refine ⟨_, rfl, .ref r, .ty "tuple", .type "tuple", .type "tuple", true, rfl, .ty "tuple", .base (.tup hr3), kit_ty (show kitB "tuple" "tuple" = some true by decide +kernel), true, rfl, iteF ?_⟩
      refine ⟨_, rfl, r, _, rfl, .inr (SqT.of hr3), rfl, _, rfl, iteF ?_⟩
      refine ⟨_, rfl, r, rfl, ⟨_, SqT.of hr3⟩, fun D hD => lc_tup (xs := [.int z1, .int z2]) (fun i H2 => H2 = upd H' D (.lst (List.replicate i (V.bl true)))) rfl (fun i H2 _ hP => ?_) (fun i x H2 hx hP => ?_) (fun H2 hP => ?_)⟩
      · rw [hP]
        exact SqT.of (same_upd0 hD _ _ hr3)
      · subst hP
        have hi2 : i < 2 := (List.getElem?_eq_some_iff.mp hx).1
        obtain ⟨z, rfl, hz⟩ : ∃ z, x = .int z ∧ Sho z := by
          have hm := List.mem_of_getElem? hx
          simp only [List.mem_cons, List.not_mem_nil, or_false] at hm
          rcases hm with e | e <;> rw [e]
          · exact ⟨_, rfl, b1⟩
          · exact ⟨_, rfl, b2⟩
        refine ⟨rfl, _, rfl, z, rfl, hz, _, upd_same, ?_, ?_⟩
        · rw [List.length_replicate]
          exact small1000 (by omega)
        · rw [upd_upd, List.replicate_succ']
      · subst hP
        refine ⟨D, [true, true], rfl, SqL.of upd_same, true, rfl, ?_⟩
        exact ⟨_, _, rfl, sH.trans (same_upd0 hD)⟩
    · obtain ⟨y2, y3, rfl, sH⟩ := hP
      have hT : Tb H' t [a, b] [c, e] := ⟨r0, r1, sH _ _ h1, sH _ _ h2, sH _ _ h3⟩
      refine ⟨_, rfl, t, a, b, c, e, rfl, hT, ba, bb, bc, be, _, rfl, _, _, rfl, rfl, hp, rfl, ?_⟩
      have e1 : (V.int ((a * e - b * c) % p) = V.int 0) = False := eq_false fun z => hd (V.int.inj z)
      show Q (V.bl (!decide (V.int ((a * e - b * c) % p) = V.int 0))) H'
      rw [decide_eq_false fun z => hd (V.int.inj z)]
      exact q _ sH
def spReqPT : Sp := fun vs H Q _ => ∃ (p : Int) (t : Addr) (a b c e : Int), vs = [.int p, .ref t] ∧ 0 < p ∧ Tb H t [a, b] [c, e] ∧ a.natAbs ≤ 10 ^ 45 ∧ b.natAbs ≤ 10 ^ 45 ∧ c.natAbs ≤ 10 ^ 45 ∧ e.natAbs ≤ 10 ^ 45 ∧ (a * e - b * c) % p ≠ 0 ∧ ∀ H', Same H H' → Q .non H'
theorem ok_require_prime_table (T : Facts K mg) : FnOk P w K mg base CX0 4 T.f_require_prime_table T.fd_require_prime_table ["prime", "value"] spReqPT := by
  have G_is_prime_table := ok_is_prime_table (P := P) (w := w) (base := base) T
  refine T.F_require_prime_table.ok sc_require_prime_table (fun vs H Q E h => ?_) (fun cdv A outer s H vs Q E hr h => ?_)
  · obtain ⟨p, t, a, b, c, e, rfl, _⟩ := h
    rfl
  · obtain ⟨p, t, a, b, c, e, rfl, hp, hT, ba, bb, bc, be, hd, q⟩ := h
    refine ⟨_, (PSs.nox (pss_one (ps_if (pt_not (pt_val (pe_call G_is_prime_table hr (by rfl) T.g_is_prime_table T.F_is_prime_table.kp T.b_is_prime_table .nil pass0 (pa_cons (pv 0) (pa_cons (pv 1) pa_nil)))))
      (pss_one ps_never)
      pss_nil))), ?_⟩
    exact ⟨_, rfl, _, rfl, p, t, a, b, c, e, rfl, hp, hT, ba, bb, bc, be, hd, fun H' s1 => ⟨true, rfl, iteF (q _ s1)⟩⟩
end
section
variable {P : Program} {w : World} {K : PySem.W.Frag} {mg : Str → Option Value} {base : Heap}
end
section
variable {P : Program} {w : World} {K : PySem.W.Frag} {mg : Str → Option Value} {base : Heap}
end
section
variable {P : Program} {w : World} {K : PySem.W.Frag} {mg : Str → Option Value} {base : Heap}
end
theorem w45 {x : Int} (h : x.natAbs ≤ 10 ^ 20) : x.natAbs ≤ 10 ^ 45 := Nat.le_trans h (by decide)
section
variable {P : Program} {w : World} {K : PySem.W.Frag} {mg : Str → Option Value} {base : Heap}
def spSomePrime : Sp := fun vs H Q _ => ∃ (d : Addr), vs = [.ref d] ∧ Dc H d ∧ ∀ (p : Int) H', p ∈ PR → Sx d H H' → Dc H' d → Q (.int p) H'
theorem ok_law_some_prime (T : Facts K mg) : FnOk P w K mg base CX0 3 T.f_law_some_prime T.fd_law_some_prime ["_law_dice_here"] spSomePrime := by
  have G_law_pick : FnOk P w K mg base CX0 2 T.f_law_pick T.fd_law_pick ["_law_dice_here", "_law_items"] spPick2 := (ok_law_pick T).imp pick2
  refine T.F_law_some_prime.ok sc_law_some_prime (fun vs H Q E h => ?_) (fun cdv A outer s H vs Q E hr h => ?_)
  · obtain ⟨d, rfl, _⟩ := h
    rfl
  · obtain ⟨d, rfl, hd, q⟩ := h
    refine ⟨_, (PSs.nox (pss_one (ps_ret (pe_call G_law_pick hr (by rfl) T.g_law_pick T.F_law_pick.kp T.b_law_pick .nil pass0 (pa_cons (pv 0) (pa_cons (pe_lst (pa_cons pe_int (pa_cons pe_int (pa_cons pe_int (pa_cons pe_int (pa_cons pe_int (pa_cons pe_int (pa_cons pe_int (pa_cons pe_int (pa_cons pe_int (pa_cons pe_int (pa_cons pe_int (pa_cons pe_int (pa_cons pe_int (pa_cons pe_int (pa_cons pe_int (pa_cons pe_int (pa_cons pe_int (pa_cons pe_int (pa_cons pe_int (pa_cons pe_int (pa_cons pe_int (pa_cons pe_int pa_nil))))))))))))))))))))))) pa_nil)))))), ?_⟩
    refine ⟨_, rfl, by show 22 ≤ sizeLine; decide, fun B nB => gen_upd H B (.lst (((13 : Int) :: PR).map V.int)) nB fun H1 s1 f1 => ⟨d, B, _, rfl, hd.same s1, f1, hd.ne nB, by decide, by decide, fun v H2 hv s2 d2 => ?_⟩⟩
    obtain ⟨p, hp, rfl⟩ := List.mem_map.mp hv
    refine q p H2 ?_ ((Sx.of s1).trans s2) d2
    rcases List.mem_cons.mp hp with e | e
    · rw [e]; decide
    · exact e
def spPTable : Sp := fun vs H Q _ => ∃ (d : Addr) (p : Int), vs = [.ref d, .int p] ∧ Dc H d ∧ p ∈ PR ∧ ∀ t H' a b c e, Sx d H H' → Dc H' d → Tb H' t [a, b] [c, e] → a.natAbs ≤ 10 ^ 20 → b.natAbs ≤ 10 ^ 20 → c.natAbs ≤ 10 ^ 20 → e.natAbs ≤ 10 ^ 20 → (a * e - b * c) % p ≠ 0 → Q (.ref t) H'
theorem ok_law_prime_table (T : Facts K mg) : FnOk P w K mg base CX0 3 T.f_law_prime_table T.fd_law_prime_table ["_law_dice_here", "_law_prime"] spPTable := by
  have G_law_pick : FnOk P w K mg base CX0 2 T.f_law_pick T.fd_law_pick ["_law_dice_here", "_law_items"] spPick2 := (ok_law_pick T).imp pick2
  have G_law_near : FnOk P w K mg base CX0 2 T.f_law_near T.fd_law_near ["_law_dice_here", "_law_most"] spNearB := ok_law_nearB T
  have G_law_det := ok_law_det (P := P) (w := w) (base := base) T
  refine T.F_law_prime_table.ok sc_law_prime_table (fun vs H Q E h => ?_) (fun cdv A outer s H vs Q E hr h => ?_)
  · obtain ⟨d, p, rfl, _⟩ := h
    rfl
  · obtain ⟨d, p, rfl, hd, hp, q⟩ := h
    obtain ⟨p1, p2⟩ := pr_bd hp
    have z2 : 2 ≤ sizeLine := by decide
    have e20 : (10 : Int) ^ 20 = 100000000000000000000 := by decide
    have e20n : (10 : Nat) ^ 20 = 100000000000000000000 := by decide
    have sp : sm p := sm_le (n := 101) (show p.natAbs ≤ 101 by omega) (by decide)
    refine ⟨_, (PSs.nox (pss_cons (ps_set (i := 2) sc_law_prime_table.nd rfl (.inr rfl) (pe_call G_law_pick hr (by rfl) T.g_law_pick T.F_law_pick.kp T.b_law_pick .nil pass0 (pa_cons (pv 0) (pa_cons (pe_lst (pa_cons pe_int (pa_cons (pv 1) (pa_cons (pe_op op_mulW pe_int (pv 1)) (pa_cons (pe_op op_pow pe_int pe_int) pa_nil))))) pa_nil))))
    (pss_cons (ps_set (i := 3) sc_law_prime_table.nd rfl (.inl rfl) (pe_tupleOf (by rfl) T.z_tuple (pe_lc (own := [("_law_row", 4)]) (g := (gName 4)) (tt := tYes) (by rfl) sc_law_prime_table.nd (pi_range1 (by rfl) T.z_range (pa_cons pe_int pa_nil)) (blkOk_by (N := N_law_prime_table) (sc := defScope s_law_prime_table) (by decide +kernel)) (fun _ _ _ _ _ => (pg_name (i := 4) sc_law_prime_table.nd rfl (.inl rfl))) (fun _ _ _ _ _ => pts_nil) (fun _ _ _ _ _ => (pe_tup (pa_cons (pe_call G_law_near hr (by rfl) T.g_law_near T.F_law_near.kp T.b_law_near .nil pass0 (pa_cons (pv 0) (pa_cons (pv 2) pa_nil))) (pa_cons (pe_call G_law_near hr (by rfl) T.g_law_near T.F_law_near.kp T.b_law_near .nil pass0 (pa_cons (pv 0) (pa_cons (pv 2) pa_nil))) pa_nil)))))))
    (pss_one (ps_ret (pe_ifExp (pt_cmpR op_ne (pe_op op_mod (pe_callTy call_int1 (by rfl) T.z_int (by decide +kernel) (pa_cons (pe_call G_law_det (hr.mono (by decide)) (by rfl) T.g_law_det T.F_law_det.kp T.b_law_det .nil pass0 (pa_cons (pv 3) pa_nil)) pa_nil)) (pv 1)) pe_int (nomark _)) (pv 3) (pe_tup (pa_cons (pe_tup (pa_cons pe_int (pa_cons pe_int pa_nil))) (pa_cons (pe_tup (pa_cons pe_int (pa_cons pe_int pa_nil))) pa_nil))))))))), ?_⟩
    refine ⟨_, rfl, _, rfl, _, rfl, _, _, rfl, rfl, sm_mul (sm_le (n := 3) (by decide) (by decide)) sp, 10, 20, rfl, rfl, ⟨by decide, by decide, by decide⟩, by show 4 ≤ sizeLine; decide, fun B nB => gen_upd H B (.lst [.int 2, .int p, .int (3 * p), .int 100000000000000000000]) nB fun H0 s0 f0 => ⟨d, B, _, rfl, hd.same s0, f0, hd.ne nB, by simp, by simp, fun v H1 hv s1' d1 => ?_⟩⟩
    obtain ⟨m, rfl, hm0, hm1⟩ : ∃ M : Int, v = .int M ∧ 0 ≤ M ∧ M ≤ 100000000000000000000 := by
      simp only [List.mem_cons, List.not_mem_nil, or_false] at hv
      rcases hv with e | e | e | e <;> exact ⟨_, e, by omega, by omega⟩
    have s1 := (Sx.of s0).trans s1'
    refine ⟨2, rfl, by decide, by decide, fun D hD => lc_range (n := (2 : Int).toNat) (fun j H' => Sx d H1 H' ∧ Dc H' d ∧ ∃ (rs : List Addr) (ls : List (List Int)), H' D = some (.lst (rs.map V.ref)) ∧ rs.length = j ∧ ls.length = j ∧ (∀ i (h : i < ls.length) (h' : i < rs.length), H' rs[i] = some (tp ls[i])) ∧ ∀ l ∈ ls, l.length = 2 ∧ ∀ x ∈ l, x.natAbs ≤ 10 ^ 20) ⟨Sx.of (same_upd0 hD), d1.same (same_upd0 hD), [], [], upd_same, rfl, rfl, fun i h _ => absurd h (Nat.not_lt_zero i), fun l h => (nomatch h)⟩ (fun j H' hj hP => ?_) (fun H' hP => ?_)⟩
    · obtain ⟨sH, dH, rs, ls, hL, hl1, hl2, hr, hb⟩ := hP
      have nD : D ≠ d := d1.ne hD
      refine ⟨rfl, _, rfl, _, rfl, d, m, rfl, dH, hm0, hm1, fun u H2 u1 u2 s2 d2 => ⟨_, rfl, _, rfl, d, m, rfl, d2, hm0, hm1, fun v H3 v1 v2 s3 d3 => ⟨z2, fun p2 n2 => gen_upd H3 p2 (tp [u, v]) n2 fun H4 s4 f4 => ?_⟩⟩⟩
      have hL4 := s4 _ _ (s3 D _ nD (s2 D _ nD hL))
      have dD : ∀ a l, H4 a = some (tp l) → a ≠ D := fun a l e z => by
        rw [z, hL4] at e
        cases e
      have d4 := d3.same s4
      have hj2 : j < 2 := hj
      refine ⟨_, hL4, by rw [List.length_map, hl1]; exact small1000 (by omega), fun b o hb2 e => ?_, ?_, rs ++ [p2], ls ++ [[u, v]], by rw [upd_same, List.map_append]; rfl, by rw [List.length_append, hl1]; rfl, by rw [List.length_append, hl2]; rfl, fun i h h' => ?_, fun l hl => ?_⟩
      · rw [upd_ne (ne_of_none e hD)]
        exact s4 _ _ (s3 b o hb2 (s2 b o hb2 (sH b o hb2 e)))
      · obtain ⟨x, y, z, e⟩ := d4
        exact ⟨x, y, z, by rw [upd_ne (Ne.symm nD)]; exact e⟩
      · by_cases c : i < ls.length
        · have e1 : (rs ++ [p2])[i] = rs[i]'(by omega) := List.getElem_append_left _
          have e2 : (ls ++ [[u, v]])[i] = ls[i] := List.getElem_append_left _
          rw [e1, e2]
          have e3 := s3 _ _ (dc_ne d2 (s2 _ _ (dc_ne dH (hr i c (by omega))) (hr i c (by omega)))) (s2 _ _ (dc_ne dH (hr i c (by omega))) (hr i c (by omega)))
          rw [upd_ne (dD _ _ (s4 _ _ e3))]
          exact s4 _ _ e3
        · have ei : i = ls.length := by rw [List.length_append] at h; simp at h; omega
          subst ei
          have e1 : (rs ++ [p2])[ls.length] = p2 := by rw [List.getElem_append_right (by omega)]; simp [hl1, hl2]
          have e2 : (ls ++ [[u, v]])[ls.length] = [u, v] := by rw [List.getElem_append_right (by omega)]; simp
          rw [e1, e2, upd_ne (dD _ _ f4)]
          exact f4
      · rcases List.mem_append.mp hl with e | e
        · exact hb l e
        · rw [List.mem_singleton.mp e]
          refine ⟨rfl, fun x hx => ?_⟩
          simp only [List.mem_cons, List.not_mem_nil, or_false] at hx
          rcases hx with e | e <;> rw [e, e20n] <;> omega
    · obtain ⟨sH, dH, rs, ls, hL, hl1, hl2, hr, hb⟩ := hP
      match rs, hl1, ls, hl2, hL, hr, hb with
      | [r0, r1], _, [l0, l1], _, hL, hr, hb =>
        have k0 : H' r0 = some (tp l0) := hr 0 (by simp) (by simp)
        have k1 : H' r1 = some (tp l1) := hr 1 (by simp) (by simp)
        obtain ⟨b0, c0⟩ := hb l0 (by simp)
        obtain ⟨b1, c1⟩ := hb l1 (by simp)
        match l0, b0, l1, b1, k0, k1, c0, c1 with
        | [a, b], _, [c, e], _, k0, k1, c0, c1 =>
          have ba := c0 a (by simp)
          have bb := c0 b (by simp)
          have bc := c1 c (by simp)
          have be := c1 e (by simp)
          refine .inl ⟨D, _, rfl, SqL.of hL, fun p9 np => ?_⟩
          refine gen_upd H' p9 (.tup [.ref r0, .ref r1]) np fun H2 s2 f2 => ?_
          have k0' := s2 _ _ k0
          have k1' := s2 _ _ k1
          have hT : Tb H2 p9 [a, b] [c, e] := ⟨r0, r1, f2, k0', k1'⟩
          refine ⟨_, rfl, p9, a, b, c, e, rfl, hT, w45 ba, w45 bb, w45 bc, w45 be, .inl ⟨_, rfl, _, rfl, _, _, rfl, rfl, by omega, rfl, _, rfl, ?_⟩⟩
          have sZ : Sx d H H2 := s1.trans (sH.trans (Sx.of s2))
          by_cases z : (a * e - b * c) % p = 0
          · rw [decide_eq_true (show V.int ((a * e - b * c) % p) = V.int 0 by rw [z])]
            refine iteF ⟨z2, fun q0 m0 => gen_upd H2 q0 (tp [1, 1]) m0 fun H3 s3 f3 => ⟨z2, fun q1 m1 => gen_upd H3 q1 (tp [0, 1]) m1 fun H4 s4 f4 => ⟨z2, fun q2 m2 => gen_upd H4 q2 (.tup [.ref q0, .ref q1]) m2 fun H5 s5 f5 => ?_⟩⟩⟩
            have s25 := (s3.trans s4).trans s5
            refine q q2 H5 1 1 0 1 (sZ.trans (Sx.of s25)) ((dH.same s2).same s25) ⟨q0, q1, f5, s5 _ _ (s4 _ _ f3), s5 _ _ f4⟩ (by decide) (by decide) (by decide) (by decide) ?_
            show (1 : Int) % p ≠ 0
            rw [Int.emod_eq_of_lt (by decide) (by omega)]
            decide
          · rw [decide_eq_false fun y => z (V.int.inj y)]
            exact iteT ⟨_, rfl, q p9 H2 a b c e sZ (dH.same s2) hT ba bb bc be z⟩
end
/-! ### undone: x ^ (p - 2) modulo p -/
def ul (p : Int) : Nat → Int → Int → Nat → Int
  | 0, f, _, _ => f
  | n + 1, f, w, k => if k = 0 then f else ul p n (if k % 2 = 1 then f * w % p else f) (w * w % p) (k / 2)
def und (p x : Int) : Int := ul p 7 1 (x % p) (p - 2).toNat
theorem ul_zero (p f w : Int) : ∀ n, ul p n f w 0 = f
  | 0 => rfl
  | n + 1 => by simp only [ul, if_pos]
def lOf : L2.St → Nat
  | [_, _, _, _, some (.int y)] => y.toNat
  | _ => 0
theorem und_fermat : ∀ p ∈ PR, ∀ k : Nat, k < 101 → (k : Int) % p ≠ 0 → ((k : Int) * und p k) % p = 1 := by decide +kernel
theorem und_bd : ∀ p ∈ PR, ∀ k : Nat, k < 101 → 0 ≤ und p k ∧ und p k < p := by decide +kernel
/-- no entry other than 0, or the row by the first one's inverse -/
def nz (l : List Int) : List Int := l.filter (· != 0)
def plR (p : Int) (l : List Int) : List Int := match nz l with
  | [] => l
  | x :: _ => l.map fun z => z * und p x % p
theorem md_scaled (p u : Int) (l : List Int) : md p (l.map (u * ·)) = l.map fun z => z * u % p := by
  unfold md
  rw [List.map_map]
  exact List.map_congr_left fun z _ => by show (u * z) % p = _; rw [Int.mul_comm]
section
variable {P : Program} {w : World} {K : PySem.W.Frag} {mg : Str → Option Value} {base : Heap}
def spUnd : Sp := fun vs H Q _ => ∃ p x : Int, vs = [.int p, .int x] ∧ p ∈ PR ∧ Q (.int (und p x)) H
def spUnd2 : Sp := fun vs H Q _ => ∃ p x : Int, vs = [.int x, .int p] ∧ p ∈ PR ∧ Q (.int (und p x)) H
theorem ok_undone_in (T : Facts K mg) : FnOk P w K mg base CX0 1 T.f_undone_in T.fd_undone_in ["prime", "number"] spUnd := by
  refine T.F_undone_in.ok sc_undone_in (fun vs H Q E h => ?_) (fun cdv A outer s H vs Q E hr h => ?_)
  · obtain ⟨p, x, rfl, _⟩ := h
    rfl
  · obtain ⟨p, x, rfl, hp, q⟩ := h
    obtain ⟨p1, p2⟩ := pr_bd hp
    have p128 : p < 128 := by omega
    refine ⟨_, (PSs.nox (pss_cons (ps_par3 (i := 2) (j := 3) (l := 4) (by rfl) sc_undone_in.nd rfl rfl rfl (by decide) (by decide) (by decide) rfl rfl rfl (pa_cons pe_int (pa_cons (pe_op op_mod (pv 1) (pv 0)) (pa_cons (pe_op op_sub (pv 0) pe_int) pa_nil))) (by rfl))
    (pss_cons (ps_while PassesOwn.never (pt_cmpR op_gt (pv 4) pe_int (nomark _))
      (pss_cons (ps_if (pt_cmpR op_eq (pe_op op_mod (pv 4) pe_int) pe_int (nomark _))
        (pss_one (ps_set (i := 2) sc_undone_in.nd rfl (.inl rfl) (pe_op op_mod (pe_op op_mulW (pv 2) (pv 3)) (pv 0))))
        pss_nil)
      (pss_cons (ps_set (i := 3) sc_undone_in.nd rfl (.inl rfl) (pe_op op_mod (pe_op op_mulW (pv 3) (pv 3)) (pv 0)))
      (pss_one (ps_aug (i := 4) sc_undone_in.nd rfl (.inl rfl) pe_int AugZ.ip_fdivZ)))))
    (pss_one (ps_ret (pv 2)))))), ?_⟩
    refine ⟨_, rfl, _, rfl, _, _, rfl, rfl, by omega, _, rfl, _, _, rfl, rfl, _, _, _, rfl, ?_⟩
    refine while_by (fun σ H' => ∃ (f w : Int) (k n : Nat), σ = [some (.int p), some (.int x), some (.int f), some (.int w), some (.int (k : Int))] ∧ 0 ≤ f ∧ f < p ∧ 0 ≤ w ∧ w < p ∧ k < 2 ^ n ∧ ul p n f w k = und p x ∧ H' = H) (fun σ _ => lOf σ) ⟨1, x % p, (p - 2).toNat, 7, ?_, by omega, by omega, Int.emod_nonneg _ (by omega), Int.emod_lt_of_pos _ (by omega), by omega, rfl, rfl⟩ (fun σ H' hP => ?_) (fun σ H' Q1 Q2 hQ h => ?_)
    · show [some (V.int p), some (V.int x), some (V.int 1), some (V.int (x % p)), some (V.int (p - 2))] = _
      rw [Int.toNat_of_nonneg (by omega)]
    · obtain ⟨f, w, k, n, rfl, f0, f1, w0, w1, hk, hu, rfl⟩ := hP
      have sf : sm f := sm_le (n := 101) (show f.natAbs ≤ 101 by omega) (by decide)
      have sw : sm w := sm_le (n := 101) (show w.natAbs ≤ 101 by omega) (by decide)
      refine ⟨_, rfl, _, _, rfl, rfl, _, rfl, ?_⟩
      by_cases c : 0 < (k : Int)
      · rw [decide_eq_true c]
        obtain ⟨m, rfl⟩ : ∃ m, n = m + 1 := ⟨n - 1, by cases n with | zero => omega | succ n => rfl⟩
        have hu2 : ul p m (if k % 2 = 1 then f * w % p else f) (w * w % p) (k / 2) = und p x := by
          rw [← hu]
          simp only [ul]
          rw [if_neg (show ¬ k = 0 by omega)]
        have hk2 : k / 2 < 2 ^ m := by rw [Nat.pow_succ] at hk; omega
        have kd : (k : Int) / 2 = ((k / 2 : Nat) : Int) := rfl
        have n0 := Int.emod_nonneg (w * w) (show p ≠ 0 by omega)
        have n1 := Int.emod_lt_of_pos (w * w) (show 0 < p by omega)
        have m0 := Int.emod_nonneg (f * w) (show p ≠ 0 by omega)
        have m1 := Int.emod_lt_of_pos (f * w) (show 0 < p by omega)
        have fin : ∀ f' : Int, 0 ≤ f' → f' < p → f' = (if k % 2 = 1 then f * w % p else f) → (∃ (f2 w2 : Int) (k2 n2 : Nat), [some (V.int p), some (V.int x), some (V.int f'), some (V.int (w * w % p)), some (V.int ((k : Int).fdiv 2))] = [some (V.int p), some (V.int x), some (V.int f2), some (V.int w2), some (V.int (k2 : Int))] ∧ 0 ≤ f2 ∧ f2 < p ∧ 0 ≤ w2 ∧ w2 < p ∧ k2 < 2 ^ n2 ∧ ul p n2 f2 w2 k2 = und p x ∧ H' = H') ∧ lOf [some (V.int p), some (V.int x), some (V.int f'), some (V.int (w * w % p)), some (V.int ((k : Int).fdiv 2))] < lOf [some (V.int p), some (V.int x), some (V.int f), some (V.int w), some (V.int (k : Int))] := fun f' h0 h1 e => by
          have e2 : (k : Int).fdiv 2 = ((k / 2 : Nat) : Int) := by rw [Int.fdiv_eq_ediv_of_nonneg _ (by decide)]; rfl
          rw [e2]
          refine ⟨⟨f', _, k / 2, m, rfl, h0, h1, n0, n1, hk2, by rw [e]; exact hu2, rfl⟩, ?_⟩
          show ((k / 2 : Nat) : Int).toNat < (k : Int).toNat
          omega
        refine iteT ⟨_, rfl, _, _, rfl, rfl, (by show (0 : Int) < 2; decide), rfl, _, rfl, ?_⟩
        have c2 : CDivZ (k : Int) 2 := ⟨by decide, by decide⟩
        by_cases c1 : k % 2 = 1
        · rw [decide_eq_true (show V.int ((k : Int) % 2) = V.int 1 by congr 1; omega)]
          refine iteT ⟨_, rfl, _, rfl, _, _, rfl, rfl, sm_mul sf sw, _, rfl, _, _, rfl, rfl, (by show 0 < p; omega), _, rfl, _, rfl, _, _, rfl, rfl, sm_mul sw sw, _, rfl, _, _, rfl, rfl, (by show 0 < p; omega), ?_⟩
          exact ⟨_, rfl, _, _, rfl, rfl, c2, fin _ m0 m1 (by rw [if_pos c1])⟩
        · rw [decide_eq_false (show ¬ V.int ((k : Int) % 2) = V.int 1 from fun y => c1 (by have := V.int.inj y; omega))]
          refine iteF ⟨_, rfl, _, rfl, _, _, rfl, rfl, sm_mul sw sw, _, rfl, _, _, rfl, rfl, (by show 0 < p; omega), ?_⟩
          exact ⟨_, rfl, _, _, rfl, rfl, c2, fin _ f0 f1 (by rw [if_neg c1])⟩
      · rw [decide_eq_false c]
        have ek : k = 0 := by omega
        subst ek
        rw [ul_zero] at hu
        subst hu
        exact iteF ⟨_, rfl, q⟩
    · obtain ⟨v, e, x1, x2, e1, e2, k, e3, h⟩ := h
      exact ⟨v, e, x1, x2, e1, e2, k, e3, hQ _ _ h⟩
theorem ok_law_undo_by (T : Facts K mg) : FnOk P w K mg base CX0 1 T.f_law_undo_by T.fd_law_undo_by ["_law_number", "_law_prime"] spUnd2 := by
  refine T.F_law_undo_by.ok sc_law_undo_by (fun vs H Q E h => ?_) (fun cdv A outer s H vs Q E hr h => ?_)
  · obtain ⟨p, x, rfl, _⟩ := h
    rfl
  · obtain ⟨p, x, rfl, hp, q⟩ := h
    obtain ⟨p1, p2⟩ := pr_bd hp
    have p128 : p < 128 := by omega
    refine ⟨_, (PSs.nox (pss_cons (ps_par3 (i := 2) (j := 3) (l := 4) (by rfl) sc_law_undo_by.nd rfl rfl rfl (by decide) (by decide) (by decide) rfl rfl rfl (pa_cons pe_int (pa_cons (pe_op op_mod (pe_callTy call_int1 (by rfl) T.z_int (by decide +kernel) (pa_cons (pv 0) pa_nil)) (pv 1)) (pa_cons (pe_op op_sub (pv 1) pe_int) pa_nil))) (by rfl))
    (pss_cons (ps_while PassesOwn.never (pt_cmpR op_gt (pv 4) pe_int (nomark _))
      (pss_cons (ps_if (pt_cmpR op_eq (pe_op op_mod (pv 4) pe_int) pe_int (nomark _))
        (pss_one (ps_set (i := 2) sc_law_undo_by.nd rfl (.inl rfl) (pe_op op_mod (pe_callTy call_int1 (by rfl) T.z_int (by decide +kernel) (pa_cons (pe_op op_mulW (pv 2) (pv 3)) pa_nil)) (pv 1))))
        pss_nil)
      (pss_one (ps_par (i := 3) (j := 4) (by rfl) sc_law_undo_by.nd rfl rfl (by decide) rfl rfl (pa_cons (pe_op op_mod (pe_callTy call_int1 (by rfl) T.z_int (by decide +kernel) (pa_cons (pe_op op_mulW (pv 3) (pv 3)) pa_nil)) (pv 1)) (pa_cons (pe_op op_fdivZ (pv 4) pe_int) pa_nil)) (by rfl)))))
    (pss_one (ps_ret (pv 2)))))), ?_⟩
    refine ⟨_, rfl, .inl ⟨_, rfl, _, rfl, _, _, rfl, rfl, by omega, _, rfl, _, _, rfl, rfl, _, _, _, rfl, ?_⟩⟩
    refine while_by (fun σ H' => ∃ (f w : Int) (k n : Nat), σ = [some (.int x), some (.int p), some (.int f), some (.int w), some (.int (k : Int))] ∧ 0 ≤ f ∧ f < p ∧ 0 ≤ w ∧ w < p ∧ k < 2 ^ n ∧ ul p n f w k = und p x ∧ H' = H) (fun σ _ => lOf σ) ⟨1, x % p, (p - 2).toNat, 7, ?_, by omega, by omega, Int.emod_nonneg _ (by omega), Int.emod_lt_of_pos _ (by omega), by omega, rfl, rfl⟩ (fun σ H' hP => ?_) (fun σ H' Q1 Q2 hQ h => ?_)
    · show [some (V.int x), some (V.int p), some (V.int 1), some (V.int (x % p)), some (V.int (p - 2))] = _
      rw [Int.toNat_of_nonneg (by omega)]
    · obtain ⟨f, w, k, n, rfl, f0, f1, w0, w1, hk, hu, rfl⟩ := hP
      have sf : sm f := sm_le (n := 101) (show f.natAbs ≤ 101 by omega) (by decide)
      have sw : sm w := sm_le (n := 101) (show w.natAbs ≤ 101 by omega) (by decide)
      refine ⟨_, rfl, _, _, rfl, rfl, _, rfl, ?_⟩
      by_cases c : 0 < (k : Int)
      · rw [decide_eq_true c]
        obtain ⟨m, rfl⟩ : ∃ m, n = m + 1 := ⟨n - 1, by cases n with | zero => omega | succ n => rfl⟩
        have hu2 : ul p m (if k % 2 = 1 then f * w % p else f) (w * w % p) (k / 2) = und p x := by
          rw [← hu]
          simp only [ul]
          rw [if_neg (show ¬ k = 0 by omega)]
        have hk2 : k / 2 < 2 ^ m := by rw [Nat.pow_succ] at hk; omega
        have kd : (k : Int) / 2 = ((k / 2 : Nat) : Int) := rfl
        have n0 := Int.emod_nonneg (w * w) (show p ≠ 0 by omega)
        have n1 := Int.emod_lt_of_pos (w * w) (show 0 < p by omega)
        have m0 := Int.emod_nonneg (f * w) (show p ≠ 0 by omega)
        have m1 := Int.emod_lt_of_pos (f * w) (show 0 < p by omega)
        have fin : ∀ f' : Int, 0 ≤ f' → f' < p → f' = (if k % 2 = 1 then f * w % p else f) → (∃ (f2 w2 : Int) (k2 n2 : Nat), [some (V.int x), some (V.int p), some (V.int f'), some (V.int (w * w % p)), some (V.int ((k : Int).fdiv 2))] = [some (V.int x), some (V.int p), some (V.int f2), some (V.int w2), some (V.int (k2 : Int))] ∧ 0 ≤ f2 ∧ f2 < p ∧ 0 ≤ w2 ∧ w2 < p ∧ k2 < 2 ^ n2 ∧ ul p n2 f2 w2 k2 = und p x ∧ H' = H') ∧ lOf [some (V.int x), some (V.int p), some (V.int f'), some (V.int (w * w % p)), some (V.int ((k : Int).fdiv 2))] < lOf [some (V.int x), some (V.int p), some (V.int f), some (V.int w), some (V.int (k : Int))] := fun f' h0 h1 e => by
          have e2 : (k : Int).fdiv 2 = ((k / 2 : Nat) : Int) := by rw [Int.fdiv_eq_ediv_of_nonneg _ (by decide)]; rfl
          rw [e2]
          refine ⟨⟨f', _, k / 2, m, rfl, h0, h1, n0, n1, hk2, by rw [e]; exact hu2, rfl⟩, ?_⟩
          show ((k / 2 : Nat) : Int).toNat < (k : Int).toNat
          omega
        refine iteT ⟨_, rfl, _, _, rfl, rfl, (by show (0 : Int) < 2; decide), rfl, _, rfl, ?_⟩
        have c2 : CDivZ (k : Int) 2 := ⟨by decide, by decide⟩
        by_cases c1 : k % 2 = 1
        · rw [decide_eq_true (show V.int ((k : Int) % 2) = V.int 1 by congr 1; omega)]
          refine iteT ⟨_, rfl, _, rfl, _, _, rfl, rfl, sm_mul sf sw, .inl ⟨_, rfl, _, rfl, _, _, rfl, rfl, (by show 0 < p; omega), _, rfl, _, rfl, _, _, rfl, rfl, sm_mul sw sw, .inl ⟨_, rfl, _, rfl, _, _, rfl, rfl, (by show 0 < p; omega), ?_⟩⟩⟩
          exact ⟨_, rfl, _, _, rfl, rfl, c2, _, _, rfl, fin _ m0 m1 (by rw [if_pos c1])⟩
        · rw [decide_eq_false (show ¬ V.int ((k : Int) % 2) = V.int 1 from fun y => c1 (by have := V.int.inj y; omega))]
          refine iteF ⟨_, rfl, _, rfl, _, _, rfl, rfl, sm_mul sw sw, .inl ⟨_, rfl, _, rfl, _, _, rfl, rfl, (by show 0 < p; omega), ?_⟩⟩
          exact ⟨_, rfl, _, _, rfl, rfl, c2, _, _, rfl, fin _ f0 f1 (by rw [if_neg c1])⟩
      · rw [decide_eq_false c]
        have ek : k = 0 := by omega
        subst ek
        rw [ul_zero] at hu
        subst hu
        exact iteF ⟨_, rfl, q⟩
    · obtain ⟨v, e, x1, x2, e1, e2, k, e3, h⟩ := h
      exact ⟨v, e, x1, x2, e1, e2, k, e3, hQ _ _ h⟩
end
theorem eq_lints {K : PySem.W.Frag} {H : Hp} {a b : Addr} {xs ys : List Int} {Q : VK} (ha : SqL K H a (xs.map V.int)) (hb : SqL K H b (ys.map V.int)) (q : Q (.bl (decide (xs = ys))) H) : rEqD K (.ref a) (.ref b) H Q := by
  refine ⟨.list (xs.map PyData.int), .list (ys.map PyData.int), .lst ha (dpAll_ints xs), .lst hb (dpAll_ints ys), shaped_lints xs, shaped_lints ys, ?_⟩
  rw [show PyData.eqv (.list (xs.map PyData.int)) (.list (ys.map PyData.int)) = decide (xs = ys) from eqvAll_ints xs ys]
  exact q
section
variable {P : Program} {w : World} {K : PySem.W.Frag} {mg : Str → Option Value} {base : Heap}
def spPRow : Sp := fun vs H Q _ => ∃ (t : Addr) (l : List Int) (p : Int), vs = [.int p, .ref t] ∧ p ∈ PR ∧ H t = some (tp l) ∧ (∀ z ∈ l, 0 ≤ z ∧ z < p) ∧ l.length ≤ 100 ∧ ∀ q H', Same H H' → H' q = some (tp (plR p l)) → Q (.ref q) H'
theorem ok_plain_row (T : Facts K mg) : FnOk P w K mg base CX0 2 T.f_plain_row T.fd_plain_row ["prime", "numbers"] spPRow := by
  have G_undone_in := ok_undone_in (P := P) (w := w) (base := base) T
  refine T.F_plain_row.ok sc_plain_row (fun vs H Q E h => ?_) (fun cdv A outer s H vs Q E hr h => ?_)
  · obtain ⟨t, l, p, rfl, _⟩ := h
    rfl
  · obtain ⟨t, l, p, rfl, hp, ht, hb, hl, q⟩ := h
    obtain ⟨p1, p2⟩ := pr_bd hp
    refine ⟨_, (PSs.nox (pss_cons (ps_setLc (i := 2) (own := [("number", 3)]) (g := (gName 3)) rfl sc_plain_row.nd rfl rfl (sw_true rfl rfl rfl (by decide +kernel)) (pi_tup (pv 1)) (blkOk_by (N := N_plain_row) (sc := defScope s_plain_row) (by decide +kernel)) (fun _ _ _ _ _ => (pg_name (i := 3) sc_plain_row.nd rfl (.inl rfl))) (fun _ _ _ _ _ => (pts_one (pt_cmpR op_ne (pv 3) pe_int (nomark _)))) (fun _ _ _ _ _ => (pv 3)))
    (pss_cons (ps_if (pt_cmpR (op_eqD (hu64 hr)) (pv 2) (pe_lst pa_nil) (nomark _))
      (pss_one (ps_ret (pe_tupleOf (by rfl) T.z_tuple (pv 1))))
      pss_nil)
    (pss_cons (ps_set (i := 4) sc_plain_row.nd rfl (.inr rfl) (pe_call G_undone_in hr (by rfl) T.g_undone_in T.F_undone_in.kp T.b_undone_in .nil pass0 (pa_cons (pv 0) (pa_cons (pe_ix ix_list (pv 2) pe_int (fun _ _ => rfl)) pa_nil))))
    (pss_one (ps_ret (pe_tupleOf (by rfl) T.z_tuple (pe_lc (own := [("number", 3)]) (g := (gName 3)) (tt := tYes) (by rfl) sc_plain_row.nd (pi_tup (pv 1)) (blkOk_by (N := N_plain_row) (sc := defScope s_plain_row) (by decide +kernel)) (fun _ _ _ _ _ => (pg_name (i := 3) sc_plain_row.nd rfl (.inl rfl))) (fun _ _ _ _ _ => pts_nil) (fun _ _ _ _ _ => (pe_op op_mod (pe_op op_mulW (pv 3) (pv 4)) (pv 0))))))))))), ?_⟩
    refine ⟨_, rfl, t, rfl, ⟨_, SqT.of ht⟩, fun D hD => lc_tup (xs := l.map V.int) (fun j H' => Same H H' ∧ H' D = some (.lst ((nz (l.take j)).map V.int))) ⟨same_upd0 hD, upd_same⟩ (fun j H' _ hP => SqT.of (hP.1 _ _ ht)) (fun j x H' hx hP => ?_) (fun H1 hP => ?_)⟩
    · obtain ⟨sH, hL⟩ := hP
      obtain ⟨hj, rfl⟩ := int_get hx
      refine ⟨rfl, _, rfl, rfl, _, rfl, ?_⟩
      unfold nz at hL ⊢
      rw [take_snoc hj, List.filter_append]
      by_cases d : co l j = 0
      · rw [decide_eq_true (show V.int (co l j) = V.int 0 by rw [d])]
        refine iteF ⟨sH, ?_⟩
        rw [hL, List.filter_cons_of_neg (by rw [d]; decide), List.filter_nil, List.append_nil]
      · rw [decide_eq_false fun z => d (V.int.inj z)]
        refine iteT ⟨_, rfl, _, hL, ?_, fun b o e => ?_, ?_⟩
        · have h1 := List.length_filter_le (fun x => x != 0) (l.take j)
          rw [List.length_take] at h1
          rw [List.length_map]
          exact small1000 (by omega)
        · rw [upd_ne (ne_of_none e hD)]
          exact sH _ _ e
        · rw [upd_same, List.filter_cons_of_pos (by simpa using d), List.filter_nil, List.map_append]
          rfl
    · obtain ⟨s1, hL⟩ := hP
      rw [List.length_map, List.take_length] at hL
      have ht1 := s1 _ _ ht
      refine ⟨_, rfl, by show 0 ≤ sizeLine; exact Nat.zero_le _, fun E0 nE => gen_upd H1 E0 (.lst []) nE fun H2 s2 f2 => eq_lints (ys := []) (SqL.of (s2 _ _ hL)) (SqL.of f2) ?_⟩
      have ht2 := s2 _ _ ht1
      cases e : nz l with
      | nil =>
        rw [decide_eq_true rfl]
        refine ⟨true, rfl, iteT ⟨_, rfl, .inr ⟨t, _, rfl, SqT.of ht2, q t H2 (s1.trans s2) ?_⟩⟩⟩
        unfold plR
        rw [e]
        exact ht2
      | cons x r =>
        rw [decide_eq_false (by simp)]
        have hx : x ∈ nz l := by rw [e]; exact List.mem_cons_self
        obtain ⟨hxl, _⟩ := List.mem_filter.mp hx
        obtain ⟨b1, b2⟩ := hb x hxl
        have hL2 := s2 _ _ hL
        rw [e] at hL2
        have ub := und_bd p hp x.toNat (by omega)
        rw [Int.toNat_of_nonneg b1] at ub
        refine ⟨false, rfl, iteF ⟨_, rfl, _, rfl, D, _, 0, _, rfl, rfl, SqL.of hL2, atI_nat (j := 0) rfl, p, x, rfl, hp, ?_⟩⟩
        refine ⟨_, rfl, t, rfl, ⟨_, SqT.of ht2⟩, fun D2 hD2 => lc_tup (xs := l.map V.int) (fun j H' => H' = upd H2 D2 (.lst (tab j fun k => co l k * und p x % p))) rfl (fun j H' _ hP => ?_) (fun j y H' hy hP => ?_) (fun H' hP => ?_)⟩
        · rw [hP]
          exact SqT.of (same_upd0 hD2 _ _ ht2)
        · subst hP
          obtain ⟨hj, rfl⟩ := int_get hy
          obtain ⟨c1, c2⟩ : 0 ≤ co l j ∧ co l j < p := by rw [co_get hj]; exact hb _ (List.getElem_mem hj)
          refine ⟨rfl, _, rfl, _, rfl, _, _, rfl, rfl, sm_mul (sm_le (n := 101) (show (co l j).natAbs ≤ 101 by omega) (by decide)) (sm_le (n := 101) (show (und p x).natAbs ≤ 101 by omega) (by decide)), _, rfl, _, _, rfl, rfl, (by show 0 < p; omega), _, upd_same, ?_, ?_⟩
          · rw [tab_len]
            exact small1000 (by omega)
          · rw [upd_upd, ← tab_snoc]
        · subst hP
          rw [List.length_map, tab_tb, tb_map (fun z => z * und p x % p) l]
          refine .inl ⟨D2, _, rfl, SqL.of upd_same, fun p2 hp2 => q p2 _ ((s1.trans s2).trans ((same_upd0 hD2).trans (same_upd0 hp2))) ?_⟩
          rw [upd_same]
          unfold plR
          rw [e]
end
end K50

set_option Elab.async false
set_option linter.all false
set_option maxRecDepth 100000
set_option maxHeartbeats 4000000
namespace K50
open PySem PySem.Spec PyProof.Rows L2 StX RZ MyR SlX OwnR OwnF EnumT
theorem modmul (z u p : Int) : (z % p) * u % p = z * u % p := by rw [Int.mul_emod, Int.emod_emod_of_dvd z (Int.dvd_refl p), ← Int.mul_emod]
section
variable {P : Program} {w : World} {K : PySem.W.Frag} {mg : Str → Option Value} {base : Heap}
/-- a list or a tuple of ints -/
abbrev Sqi (H : Hp) (t : Addr) (l : List Int) : Prop := SeqE.Sq H t (l.map V.int)
def spModulo : Sp := fun vs H Q _ => ∃ (p : Int) (t : Addr) (xs : List Int), vs = [.int p, .ref t] ∧ 0 < p ∧ H t = some (.lst (xs.map V.int)) ∧ xs.length ≤ 100 ∧ ∀ q H', Same H H' → H' q = some (tp (md p xs)) → Q (.ref q) H'
theorem ok_modulo (T : Facts K mg) : FnOk P w K mg base CX0 1 T.f_modulo T.fd_modulo ["prime", "numbers"] spModulo := by
  refine T.F_modulo.ok sc_modulo (fun vs H Q E h => ?_) (fun cdv A outer s H vs Q E hr h => ?_)
  · obtain ⟨p, t, xs, rfl, _⟩ := h
    rfl
  · obtain ⟨p, t, xs, rfl, hp, ht, hl, q⟩ := h
    refine ⟨_, (PSs.nox (pss_one (ps_ret (pe_tupleOf (by rfl) T.z_tuple (pe_lc (own := [("number", 2)]) (g := (gName 2)) (tt := tYes) (by rfl) sc_modulo.nd (pi_list (pv 1)) (blkOk_by (N := N_modulo) (sc := defScope s_modulo) (by decide +kernel)) (fun _ _ _ _ _ => (pg_name (i := 2) sc_modulo.nd rfl (.inl rfl))) (fun _ _ _ _ _ => pts_nil) (fun _ _ _ _ _ => (pe_op op_mod (pv 2) (pv 0)))))))), ?_⟩
    refine ⟨_, rfl, t, rfl, ⟨_, SqL.of ht⟩, fun D hD => lc_list (xs := xs.map V.int) (fun j H' => H' = upd H D (.lst (tab j fun k => co xs k % p))) rfl (fun j H' _ hP => ?_) (fun j x H' hx hP => ?_) (fun H' hP => ?_)⟩
    · rw [hP]
      exact SqL.of (same_upd0 hD _ _ ht)
    · subst hP
      obtain ⟨hj, rfl⟩ := int_get hx
      refine ⟨rfl, ⟨_, rfl, _, rfl, _, _, rfl, rfl, hp, _, upd_same, ?_, ?_⟩⟩
      · rw [tab_len]
        exact small1000 (by omega)
      · rw [upd_upd, ← tab_snoc]
    · subst hP
      rw [List.length_map, tab_tb, tb_md p xs]
      refine .inl ⟨D, _, rfl, SqL.of upd_same, fun p2 hp2 => ?_⟩
      exact q p2 _ ((same_upd0 hD).trans (same_upd0 hp2)) upd_same
def spScaled : Sp := fun vs H Q _ => ∃ (t : Addr) (xs : List Int) (c : Int), vs = [.ref t, .int c] ∧ Sqi H t xs ∧ xs.length ≤ 100 ∧ (∀ x ∈ xs, sm x) ∧ sm c ∧ ∀ p H', Same H H' → H' p = some (tp (xs.map fun x => c * x)) → Q (.ref p) H'
theorem ok_law_scaled (T : Facts K mg) : FnOk P w K mg base CX0 1 T.f_law_scaled T.fd_law_scaled ["_law_form", "_law_factor"] spScaled := by
  refine T.F_law_scaled.ok sc_law_scaled (fun vs H Q E h => ?_) (fun cdv A outer s H vs Q E hr h => ?_)
  · obtain ⟨t, xs, c, rfl, _⟩ := h
    rfl
  · obtain ⟨t, xs, c, rfl, ht, hl, hs, hc, q⟩ := h
    refine ⟨_, (PSs.nox (pss_one (ps_ret (pe_tupleOf (by rfl) T.z_tuple (pe_lc (own := [("_law_entry", 2)]) (g := (gName 2)) (tt := tYes) (by rfl) sc_law_scaled.nd (SeqE.PI_or (pi_tup (pv 0)) (pi_list (pv 0))) (blkOk_by (N := N_law_scaled) (sc := defScope s_law_scaled) (by decide +kernel)) (fun _ _ _ _ _ => (pg_name (i := 2) sc_law_scaled.nd rfl (.inl rfl))) (fun _ _ _ _ _ => pts_nil) (fun _ _ _ _ _ => (pe_op op_mulW (pv 1) (pv 2)))))))), ?_⟩
    rcases ht with ht | ht
    · refine .inl ⟨_, rfl, t, rfl, ⟨_, SqT.of ht⟩, fun D hD => lc_tup (xs := xs.map V.int) (fun j H' => H' = upd H D (.lst (tab j fun k => c * co xs k))) rfl (fun j H' _ hP => ?_) (fun j x H' hx hP => ?_) (fun H' hP => ?_)⟩
      · rw [hP]
        exact SqT.of (same_upd0 hD _ _ ht)
      · subst hP
        obtain ⟨hj, rfl⟩ := int_get hx
        refine ⟨rfl, ⟨_, rfl, _, rfl, _, _, rfl, rfl, sm_mul hc (sm_co hs hj), _, upd_same, ?_, ?_⟩⟩
        · rw [tab_len]
          exact small1000 (by omega)
        · rw [upd_upd, ← tab_snoc]
      · subst hP
        rw [List.length_map, tab_tb, tb_map (fun x => c * x) xs]
        refine .inl ⟨D, _, rfl, SqL.of upd_same, fun p hp2 => ?_⟩
        exact q p _ ((same_upd0 hD).trans (same_upd0 hp2)) upd_same
    · refine .inr ⟨_, rfl, t, rfl, ⟨_, SqL.of ht⟩, fun D hD => lc_list (xs := xs.map V.int) (fun j H' => H' = upd H D (.lst (tab j fun k => c * co xs k))) rfl (fun j H' _ hP => ?_) (fun j x H' hx hP => ?_) (fun H' hP => ?_)⟩
      · rw [hP]
        exact SqL.of (same_upd0 hD _ _ ht)
      · subst hP
        obtain ⟨hj, rfl⟩ := int_get hx
        refine ⟨rfl, ⟨_, rfl, _, rfl, _, _, rfl, rfl, sm_mul hc (sm_co hs hj), _, upd_same, ?_, ?_⟩⟩
        · rw [tab_len]
          exact small1000 (by omega)
        · rw [upd_upd, ← tab_snoc]
      · subst hP
        rw [List.length_map, tab_tb, tb_map (fun x => c * x) xs]
        refine .inl ⟨D, _, rfl, SqL.of upd_same, fun p hp2 => ?_⟩
        exact q p _ ((same_upd0 hD).trans (same_upd0 hp2)) upd_same
def spLeftBy : Sp := fun vs H Q _ => ∃ (t : Addr) (l : List Int) (p : Int), vs = [.ref t, .int p] ∧ 0 < p ∧ Sqi H t l ∧ l.length ≤ 100 ∧ ∀ q H', Same H H' → H' q = some (tp (md p l)) → Q (.ref q) H'
theorem ok_law_left_by (T : Facts K mg) : FnOk P w K mg base CX0 1 T.f_law_left_by T.fd_law_left_by ["_law_entries", "_law_prime"] spLeftBy := by
  refine T.F_law_left_by.ok sc_law_left_by (fun vs H Q E h => ?_) (fun cdv A outer s H vs Q E hr h => ?_)
  · obtain ⟨t, l, p, rfl, _⟩ := h
    rfl
  · obtain ⟨t, l, p, rfl, hp, ht, hl, q⟩ := h
    refine ⟨_, (PSs.nox (pss_one (ps_ret (pe_tupleOf (by rfl) T.z_tuple (pe_lc (own := [("_law_entry", 2)]) (g := (gName 2)) (tt := tYes) (by rfl) sc_law_left_by.nd (SeqE.PI_or (pi_tup (pv 0)) (pi_list (pv 0))) (blkOk_by (N := N_law_left_by) (sc := defScope s_law_left_by) (by decide +kernel)) (fun _ _ _ _ _ => (pg_name (i := 2) sc_law_left_by.nd rfl (.inl rfl))) (fun _ _ _ _ _ => pts_nil) (fun _ _ _ _ _ => (pe_op op_mod (pe_callTy call_int1 (by rfl) T.z_int (by decide +kernel) (pa_cons (pv 2) pa_nil)) (pv 1)))))))), ?_⟩
    rcases ht with ht | ht
    · refine .inl ⟨_, rfl, t, rfl, ⟨_, SqT.of ht⟩, fun D hD => lc_tup (xs := l.map V.int) (fun j H' => H' = upd H D (.lst (tab j fun k => co l k % p))) rfl (fun j H' _ hP => ?_) (fun j x H' hx hP => ?_) (fun H' hP => ?_)⟩
      · rw [hP]
        exact SqT.of (same_upd0 hD _ _ ht)
      · subst hP
        obtain ⟨hj, rfl⟩ := int_get hx
        refine ⟨rfl, _, rfl, .inl ⟨_, rfl, _, rfl, _, _, rfl, rfl, hp, _, upd_same, ?_, ?_⟩⟩
        · rw [tab_len]
          exact small1000 (by omega)
        · rw [upd_upd, ← tab_snoc]
      · subst hP
        rw [List.length_map, tab_tb, tb_md]
        exact .inl ⟨D, _, rfl, SqL.of upd_same, fun p2 hp2 => q p2 _ ((same_upd0 hD).trans (same_upd0 hp2)) upd_same⟩
    · refine .inr ⟨_, rfl, t, rfl, ⟨_, SqL.of ht⟩, fun D hD => lc_list (xs := l.map V.int) (fun j H' => H' = upd H D (.lst (tab j fun k => co l k % p))) rfl (fun j H' _ hP => ?_) (fun j x H' hx hP => ?_) (fun H' hP => ?_)⟩
      · rw [hP]
        exact SqL.of (same_upd0 hD _ _ ht)
      · subst hP
        obtain ⟨hj, rfl⟩ := int_get hx
        refine ⟨rfl, _, rfl, .inl ⟨_, rfl, _, rfl, _, _, rfl, rfl, hp, _, upd_same, ?_, ?_⟩⟩
        · rw [tab_len]
          exact small1000 (by omega)
        · rw [upd_upd, ← tab_snoc]
      · subst hP
        rw [List.length_map, tab_tb, tb_md]
        exact .inl ⟨D, _, rfl, SqL.of upd_same, fun p2 hp2 => q p2 _ ((same_upd0 hD).trans (same_upd0 hp2)) upd_same⟩
def spFirstOne : Sp := fun vs H Q _ => ∃ (t : Addr) (l : List Int) (p : Int), vs = [.ref t, .int p] ∧ p ∈ PR ∧ Sqi H t l ∧ (∀ z ∈ l, sm z) ∧ l.length ≤ 100 ∧ ∀ q H', Same H H' → H' q = some (tp (plR p (md p l))) → Q (.ref q) H'
theorem ok_law_first_one (T : Facts K mg) : FnOk P w K mg base CX0 2 T.f_law_first_one T.fd_law_first_one ["_law_entries", "_law_prime"] spFirstOne := by
  have G_law_undo_by := ok_law_undo_by (P := P) (w := w) (base := base) T
  have G_law_left_by := ok_law_left_by (P := P) (w := w) (base := base) T
  have G_law_scaled := ok_law_scaled (P := P) (w := w) (base := base) T
  refine T.F_law_first_one.ok sc_law_first_one (fun vs H Q E h => ?_) (fun cdv A outer s H vs Q E hr h => ?_)
  · obtain ⟨t, l, p, rfl, _⟩ := h
    rfl
  · obtain ⟨t, l, p, rfl, hp, ht, hb, hl, q⟩ := h
    obtain ⟨p1, p2⟩ := pr_bd hp
    refine ⟨_, (PSs.nox (pss_cons (ps_setLc (i := 2) (own := [("_law_entry", 3)]) (g := (gName 3)) rfl sc_law_first_one.nd rfl rfl (sw_true rfl rfl rfl (by decide +kernel)) (pi_tup (pe_call G_law_left_by hr (by rfl) T.g_law_left_by T.F_law_left_by.kp T.b_law_left_by .nil pass0 (pa_cons (pv 0) (pa_cons (pv 1) pa_nil)))) (blkOk_by (N := N_law_first_one) (sc := defScope s_law_first_one) (by decide +kernel)) (fun _ _ _ _ _ => (pg_name (i := 3) sc_law_first_one.nd rfl (.inl rfl))) (fun _ _ _ _ _ => (pts_one (pt_cmpR op_ne (pv 3) pe_int (nomark _)))) (fun _ _ _ _ _ => (pv 3)))
    (pss_cons (ps_if (pt_cmpR (op_eqD (hu64 hr)) (pv 2) (pe_lst pa_nil) (nomark _))
      (pss_one (ps_ret (pe_call G_law_left_by hr (by rfl) T.g_law_left_by T.F_law_left_by.kp T.b_law_left_by .nil pass0 (pa_cons (pv 0) (pa_cons (pv 1) pa_nil)))))
      pss_nil)
    (pss_one (ps_ret (pe_call G_law_left_by hr (by rfl) T.g_law_left_by T.F_law_left_by.kp T.b_law_left_by .nil pass0 (pa_cons (pe_call G_law_scaled hr (by rfl) T.g_law_scaled T.F_law_scaled.kp T.b_law_scaled .nil pass0 (pa_cons (pv 0) (pa_cons (pe_call G_law_undo_by hr (by rfl) T.g_law_undo_by T.F_law_undo_by.kp T.b_law_undo_by .nil pass0 (pa_cons (pe_ix ix_list (pv 2) pe_int (fun _ _ => rfl)) (pa_cons (pv 1) pa_nil))) pa_nil))) (pa_cons (pv 1) pa_nil)))))))), ?_⟩
    refine ⟨_, rfl, _, rfl, t, l, p, rfl, by omega, ht, hl, fun t0 H0 s0 k0 => ?_⟩
    have lm : (md p l).length = l.length := List.length_map ..
    refine ⟨t0, rfl, ⟨_, SqT.of k0⟩, fun D hD => lc_tup (xs := (md p l).map V.int) (fun j H' => Same H0 H' ∧ H' D = some (.lst ((nz ((md p l).take j)).map V.int))) ⟨same_upd0 hD, upd_same⟩ (fun j H' _ hP => SqT.of (hP.1 _ _ k0)) (fun j x H' hx hP => ?_) (fun H1 hP => ?_)⟩
    · obtain ⟨sH, hL⟩ := hP
      obtain ⟨hj, rfl⟩ := int_get hx
      refine ⟨rfl, _, rfl, rfl, _, rfl, ?_⟩
      unfold nz at hL ⊢
      rw [take_snoc hj, List.filter_append]
      by_cases d : co (md p l) j = 0
      · rw [decide_eq_true (show V.int (co (md p l) j) = V.int 0 by rw [d])]
        refine iteF ⟨sH, ?_⟩
        rw [hL, List.filter_cons_of_neg (by rw [d]; decide), List.filter_nil, List.append_nil]
      · rw [decide_eq_false fun z => d (V.int.inj z)]
        refine iteT ⟨_, rfl, _, hL, ?_, fun b o e => ?_, ?_⟩
        · have h1 := List.length_filter_le (fun x => x != 0) ((md p l).take j)
          rw [List.length_take] at h1
          rw [List.length_map]
          exact small1000 (by omega)
        · rw [upd_ne (ne_of_none e hD)]
          exact sH _ _ e
        · rw [upd_same, List.filter_cons_of_pos (by simpa using d), List.filter_nil, List.map_append]
          rfl
    · obtain ⟨s1, hL⟩ := hP
      rw [List.length_map, List.take_length] at hL
      have ht1 := (ht.same s0).same s1
      refine ⟨_, rfl, by show 0 ≤ sizeLine; exact Nat.zero_le _, fun E0 nE => gen_upd H1 E0 (.lst []) nE fun H2 s2 f2 => eq_lints (ys := []) (SqL.of (s2 _ _ hL)) (SqL.of f2) ?_⟩
      have ht2 := ht1.same s2
      have s02 := s0.trans (s1.trans s2)
      cases e : nz (md p l) with
      | nil =>
        rw [decide_eq_true rfl]
        refine ⟨true, rfl, iteT ⟨_, rfl, _, rfl, t, l, p, rfl, by omega, ht2, hl, fun t3 H3 s3 k3 => q t3 H3 (s02.trans s3) ?_⟩⟩
        unfold plR
        rw [e]
        exact k3
      | cons x r =>
        rw [decide_eq_false (by simp)]
        have hx : x ∈ nz (md p l) := by rw [e]; exact List.mem_cons_self
        obtain ⟨hxl, _⟩ := List.mem_filter.mp hx
        obtain ⟨y, _, rfl⟩ := List.mem_map.mp hxl
        have b1 := Int.emod_nonneg y (show p ≠ 0 by omega)
        have b2 := Int.emod_lt_of_pos y (show 0 < p by omega)
        have hL2 := s2 _ _ hL
        rw [e] at hL2
        have ub := und_bd p hp (y % p).toNat (by omega)
        rw [Int.toNat_of_nonneg b1] at ub
        refine ⟨false, rfl, iteF ⟨_, rfl, _, rfl, D, _, 0, _, rfl, rfl, SqL.of hL2, atI_nat (j := 0) rfl, _, rfl, p, _, rfl, hp, ?_⟩⟩
        refine ⟨t, l, und p (y % p), rfl, ht2, hl, hb, sm_le (n := 101) (show (und p (y % p)).natAbs ≤ 101 by omega) (by decide), fun t3 H3 s3 k3 => ⟨_, rfl, t3, _, p, rfl, by omega, .inl k3, by rw [List.length_map]; exact hl, fun t4 H4 s4 k4 => q t4 H4 (s02.trans (s3.trans s4)) ?_⟩⟩
        rw [md_scaled] at k4
        unfold plR
        rw [e, k4]
        show some (tp _) = some (tp ((md p l).map fun z => z * und p (y % p) % p))
        unfold md
        rw [List.map_map]
        exact congrArg (fun l' => some (tp l')) (List.map_congr_left fun z _ => (modmul z _ p).symm)
end
end K50

set_option Elab.async false
set_option linter.all false
set_option maxRecDepth 100000
set_option maxHeartbeats 4000000
namespace K50
/-! ### rows modulo a prime, told by their plain multiple -/
theorem em_iff {p a b : Int} : a % p = b % p ↔ p ∣ a - b := Int.emod_eq_emod_iff_emod_sub_eq_zero.trans (Int.dvd_iff_emod_eq_zero).symm
theorem inv {p : Int} (hp : p ∈ PR) {x : Int} (h : ¬ p ∣ x) : ∃ u, p ∣ x * u - 1 := by
  obtain ⟨p1, p2⟩ := pr_bd hp
  have b1 := Int.emod_nonneg x (show p ≠ 0 by omega)
  have b2 := Int.emod_lt_of_pos x (show 0 < p by omega)
  have f := und_fermat p hp (x % p).toNat (by omega) (by
    rw [Int.toNat_of_nonneg b1, Int.emod_emod_of_dvd x (Int.dvd_refl p)]
    exact fun e => h (Int.dvd_of_emod_eq_zero e))
  rw [Int.toNat_of_nonneg b1, modmul] at f
  exact ⟨_, em_iff.mp (f.trans (Int.emod_eq_of_lt (by decide) (by omega)).symm)⟩
theorem pm {p : Int} (hp : p ∈ PR) {a b : Int} (h : p ∣ a * b) (ha : ¬ p ∣ a) : p ∣ b := by
  obtain ⟨u, c, hu⟩ := inv hp ha
  obtain ⟨e, he⟩ := h
  exact ⟨u * e - c * b, by grind⟩
theorem pm_ne {p : Int} (hp : p ∈ PR) {a b : Int} (ha : ¬ p ∣ a) (hb : ¬ p ∣ b) : ¬ p ∣ a * b := fun h => hb (pm hp h ha)
theorem not_one {p : Int} (hp : p ∈ PR) : ¬ p ∣ 1 := fun h => by
  have := Int.le_of_dvd (by decide) h
  have := (pr_bd hp).1
  omega
theorem not_lt {p x : Int} (h : p ∣ x) (a : -p < x) (b : x < p) : x = 0 := by
  obtain ⟨c, rfl⟩ := h
  have hp : 0 < p := by omega
  have c1 : c < 1 := Int.lt_of_mul_lt_mul_left (by rw [Int.mul_one]; exact b) (Int.le_of_lt hp)
  have c2 : -1 < c := Int.lt_of_mul_lt_mul_left (a := p) (by rw [Int.mul_neg, Int.mul_one]; exact a) (Int.le_of_lt hp)
  have : c = 0 := by omega
  rw [this, Int.mul_zero]
/-- L is the plain multiple of l -/
def Pr (p : Int) (l L : List Int) : Prop := (∀ z ∈ L, 0 ≤ z ∧ z < p) ∧ (nz L).head? = some 1 ∧ ∃ a, ¬ p ∣ a ∧ L = l.map fun z => z * a % p
theorem nz_map {p : Int} (hp : p ∈ PR) {k : Int} (hk : ¬ p ∣ k) {l : List Int} (h : ∀ z ∈ l, 0 ≤ z ∧ z < p) : nz (l.map fun z => z * k % p) = (nz l).map fun z => z * k % p := by
  unfold nz
  rw [List.filter_map]
  congr 1
  refine List.filter_congr fun z hz => ?_
  by_cases z0 : z = 0
  · rw [z0]
    simp
  · have a1 : (z * k % p != 0) = true := by
      have : ¬ z * k % p = 0 := fun e => z0 (not_lt (pm hp (by rw [Int.mul_comm]; exact Int.dvd_of_emod_eq_zero e) hk) (by have := h z hz; omega) (h z hz).2)
      simpa using this
    have a2 : (z != 0) = true := by simpa using z0
    show (z * k % p != 0) = (z != 0)
    rw [a1, a2]
theorem map2 (p a b : Int) (l : List Int) : (l.map fun z => z * a % p).map (fun z => z * b % p) = l.map fun z => z * (a * b) % p := by
  rw [List.map_map]
  exact List.map_congr_left fun z _ => by
    show z * a % p * b % p = _
    rw [modmul, Int.mul_assoc]
theorem map_em {p a b : Int} (h : p ∣ a - b) (l : List Int) : (l.map fun z => z * a % p) = l.map fun z => z * b % p := List.map_congr_left fun z _ => em_iff.mpr (by
  obtain ⟨c, hc⟩ := h
  exact ⟨z * c, by grind⟩)
theorem map_id {p : Int} {l : List Int} (h : ∀ z ∈ l, 0 ≤ z ∧ z < p) : (l.map fun z => z * 1 % p) = l :=
  (List.map_congr_left (g := id) fun z hz => by rw [Int.mul_one]; exact Int.emod_eq_of_lt (h z hz).1 (h z hz).2).trans (List.map_id l)
theorem pr_uniq {p : Int} (hp : p ∈ PR) {l L L' : List Int} (h : Pr p l L) (h' : Pr p l L') : L = L' := by
  obtain ⟨h1, h2, a, ha, e⟩ := h
  obtain ⟨h1', h2', b, hb, e'⟩ := h'
  obtain ⟨u, hu⟩ := inv hp ha
  have huu : ¬ p ∣ u := fun x => not_one hp (by
    obtain ⟨c, hc⟩ := hu
    obtain ⟨d, hd⟩ := x
    exact ⟨a * d - c, by grind⟩)
  have e2 : L' = L.map fun z => z * (u * b) % p := by
    rw [e, map2, e']
    refine (map_em ?_ l)
    obtain ⟨c, hc⟩ := hu
    exact ⟨-(c * b), by grind⟩
  have e3 := nz_map hp (pm_ne hp huu hb) h1
  rw [← e2] at e3
  rw [e3, List.head?_map, h2] at h2'
  have e4 : 1 * (u * b) % p = 1 := Option.some.inj h2'
  rw [Int.one_mul] at e4
  have e5 : p ∣ u * b - 1 := em_iff.mp (e4.trans (Int.emod_eq_of_lt (by decide) (by have := (pr_bd hp).1; omega)).symm)
  rw [e2, map_em e5, map_id h1]
theorem pr_self {p : Int} (hp : p ∈ PR) {L : List Int} (h1 : ∀ z ∈ L, 0 ≤ z ∧ z < p) (h2 : (nz L).head? = some 1) : Pr p L L := ⟨h1, h2, 1, not_one hp, (map_id h1).symm⟩
theorem pr_plR {p : Int} (hp : p ∈ PR) {l : List Int} (h : ∃ z ∈ l, ¬ p ∣ z) : Pr p l (plR p (md p l)) := by
  obtain ⟨p1, p2⟩ := pr_bd hp
  have hb : ∀ z ∈ md p l, 0 ≤ z ∧ z < p := fun z hz => by
    obtain ⟨y, _, rfl⟩ := List.mem_map.mp hz
    exact ⟨Int.emod_nonneg _ (by omega), Int.emod_lt_of_pos _ (by omega)⟩
  obtain ⟨z0, hz0, hn⟩ := h
  have hin : z0 % p ∈ nz (md p l) := List.mem_filter.mpr ⟨List.mem_map_of_mem hz0, by
    have : ¬ z0 % p = 0 := fun e => hn (Int.dvd_of_emod_eq_zero e)
    simpa using this⟩
  cases e : nz (md p l) with
  | nil => rw [e] at hin; cases hin
  | cons x r =>
    have hx : x ∈ nz (md p l) := by rw [e]; exact List.mem_cons_self
    obtain ⟨hxl, hx0⟩ := List.mem_filter.mp hx
    have hx0 : x ≠ 0 := by simpa using hx0
    obtain ⟨b1, b2⟩ := hb x hxl
    have hf := und_fermat p hp x.toNat (by omega) (by rw [Int.toNat_of_nonneg b1, Int.emod_eq_of_lt b1 b2]; exact hx0)
    rw [Int.toNat_of_nonneg b1] at hf
    have hu : ¬ p ∣ und p x := fun c => by
      rw [Int.emod_eq_zero_of_dvd (Int.dvd_trans c ⟨x, Int.mul_comm _ _⟩)] at hf
      cases hf
    have e1 : plR p (md p l) = (md p l).map fun z => z * und p x % p := by unfold plR; rw [e]
    refine ⟨fun z hz => ?_, ?_, und p x, hu, ?_⟩
    · rw [e1] at hz
      obtain ⟨y, _, rfl⟩ := List.mem_map.mp hz
      exact ⟨Int.emod_nonneg _ (by omega), Int.emod_lt_of_pos _ (by omega)⟩
    · rw [e1, nz_map hp hu hb, e, List.map_cons, hf]
      rfl
    · rw [e1]
      unfold md
      rw [List.map_map]
      exact List.map_congr_left fun z _ => modmul z _ p
theorem pr_rel {p : Int} (hp : p ∈ PR) {k k' : Int} (hk : ¬ p ∣ k) (hk' : ¬ p ∣ k') {l l' L : List Int} (e : md p (l'.map (k' * ·)) = md p (l.map (k * ·))) (h : Pr p l' L) : Pr p l L := by
  obtain ⟨h1, h2, a, ha, hL⟩ := h
  obtain ⟨v, hv⟩ := inv hp hk'
  have hvv : ¬ p ∣ v := fun x => not_one hp (by
    obtain ⟨c, hc⟩ := hv
    obtain ⟨d, hd⟩ := x
    exact ⟨k' * d - c, by grind⟩)
  refine ⟨h1, h2, k * (v * a), pm_ne hp hk (pm_ne hp hvv ha), ?_⟩
  rw [md_scaled, md_scaled] at e
  rw [← map2, ← e, map2, hL]
  refine map_em ?_ l'
  obtain ⟨c, hc⟩ := hv
  exact ⟨-(c * a), by grind⟩
/-! ### points and tables -/
def PP (p x y : Int) : Prop := (x = 0 ∧ y = 1) ∨ (x = 1 ∧ 0 ≤ y ∧ y < p)
theorem pp_nz {p : Int} (hp : p ∈ PR) {x y : Int} (h : PP p x y) : ¬ (p ∣ x ∧ p ∣ y) := fun ⟨a, b⟩ => by
  rcases h with ⟨_, h⟩ | ⟨h, _⟩
  · exact not_one hp (h ▸ b)
  · exact not_one hp (h ▸ a)
theorem pp_self {p : Int} (hp : p ∈ PR) {x y : Int} (h : PP p x y) : Pr p [x, y] [x, y] := by
  have := (pr_bd hp).1
  refine pr_self hp (fun z hz => ?_) ?_
  · simp only [List.mem_cons, List.not_mem_nil, or_false] at hz
    rcases h with ⟨rfl, rfl⟩ | ⟨rfl, h1, h2⟩ <;> rcases hz with rfl | rfl <;> omega
  · rcases h with ⟨rfl, rfl⟩ | ⟨rfl, h1, h2⟩ <;> rfl
theorem pp_of {p : Int} {l : List Int} {u v : Int} (h : Pr p l [u, v]) : PP p u v := by
  obtain ⟨h1, h2, _⟩ := h
  by_cases c : u = 0
  · subst c
    by_cases d : v = 0
    · subst d
      cases h2
    · have e : (nz [0, v]) = [v] := by simp [nz, d]
      rw [e] at h2
      exact .inl ⟨rfl, Option.some.inj h2⟩
  · have e : (nz [u, v]).head? = some u := by simp [nz, c]
    rw [e] at h2
    exact .inr ⟨Option.some.inj h2, h1 v (by simp)⟩
def led (p a b c d x y : Int) : List Int := plR p (md p [a * x + b * y, c * x + d * y])
theorem nn2 {p : Int} (hp : p ∈ PR) {a b c d x y : Int} (hd : ¬ p ∣ a * d - b * c) (h : ¬ (p ∣ x ∧ p ∣ y)) : ∃ z ∈ [a * x + b * y, c * x + d * y], ¬ p ∣ z := by
  by_cases h1 : p ∣ a * x + b * y
  · by_cases h2 : p ∣ c * x + d * y
    · refine absurd ?_ h
      obtain ⟨e, he⟩ := h1
      obtain ⟨f, hf⟩ := h2
      exact ⟨pm hp (a := a * d - b * c) ⟨d * e - b * f, by grind⟩ hd, pm hp (a := a * d - b * c) ⟨a * f - c * e, by grind⟩ hd⟩
    · exact ⟨_, .tail _ (.head _), h2⟩
  · exact ⟨_, .head _, h1⟩
theorem led_pr {p : Int} (hp : p ∈ PR) {a b c d x y : Int} (hd : ¬ p ∣ a * d - b * c) (h : PP p x y) : ∃ u v, led p a b c d x y = [u, v] ∧ PP p u v ∧ Pr p [a * x + b * y, c * x + d * y] [u, v] := by
  have q := pr_plR hp (nn2 hp hd (pp_nz hp h))
  have hl : (led p a b c d x y).length = 2 := by
    obtain ⟨_, _, k, _, e⟩ := id q
    show (plR p (md p [a * x + b * y, c * x + d * y])).length = 2
    rw [e]
    rfl
  match e : led p a b c d x y, hl with
  | [u, v], _ =>
    have q' : Pr p [a * x + b * y, c * x + d * y] [u, v] := by rw [← e]; exact q
    exact ⟨u, v, rfl, pp_of q', q'⟩
theorem md2 {p a b c d : Int} (h1 : p ∣ a - c) (h2 : p ∣ b - d) : md p [a, b] = md p [c, d] := by
  show [a % p, b % p] = [c % p, d % p]
  rw [em_iff.mpr h1, em_iff.mpr h2]
theorem led_times {p : Int} (hp : p ∈ PR) {f a b c d x y : Int} (hf : ¬ p ∣ f) (hd : ¬ p ∣ a * d - b * c) (h : PP p x y) : led p (f * a) (f * b) (f * c) (f * d) x y = led p a b c d x y := by
  obtain ⟨u, v, e, _, q⟩ := led_pr hp hd h
  have hd2 : ¬ p ∣ (f * a) * (f * d) - (f * b) * (f * c) := fun z => pm_ne hp hf (pm_ne hp hf hd) (by
    obtain ⟨w, hw⟩ := z
    exact ⟨w, by grind⟩)
  obtain ⟨u2, v2, e2, _, q2⟩ := led_pr hp hd2 h
  rw [e, e2]
  refine pr_uniq hp (pr_rel hp (k := f) (k' := 1) hf (not_one hp) ?_ q2) q
  exact md2 ⟨0, by grind⟩ ⟨0, by grind⟩
theorem det_mul {p : Int} (hp : p ∈ PR) {a b c d a' b' c' d' : Int} (hd : ¬ p ∣ a * d - b * c) (hd' : ¬ p ∣ a' * d' - b' * c') : ¬ p ∣ (a * a' + b * c') * (c * b' + d * d') - (a * b' + b * d') * (c * a' + d * c') := fun z => pm_ne hp hd hd' (by
  obtain ⟨w, hw⟩ := z
  exact ⟨w, by grind⟩)
theorem led_led {p : Int} (hp : p ∈ PR) {a b c d a' b' c' d' x y u v : Int} (hd : ¬ p ∣ a * d - b * c) (hd' : ¬ p ∣ a' * d' - b' * c') (h : PP p x y) (e : led p a' b' c' d' x y = [u, v]) :
    led p (a * a' + b * c') (a * b' + b * d') (c * a' + d * c') (c * b' + d * d') x y = led p a b c d u v := by
  obtain ⟨u1, v1, e1, hP, q1⟩ := led_pr hp hd' h
  rw [e] at e1
  injection e1 with e1 e2
  injection e2 with e2 _
  subst e1 e2
  obtain ⟨u2, v2, e2, _, q2⟩ := led_pr hp hd hP
  obtain ⟨u3, v3, e3, _, q3⟩ := led_pr hp (det_mul hp hd hd') h
  rw [e2, e3]
  obtain ⟨_, _, k, hk, e4⟩ := q1
  injection e4 with e4 e5
  injection e5 with e5 _
  refine pr_uniq hp q3 (pr_rel hp (k := k) (k' := 1) hk (not_one hp) ?_ q2)
  have f1 : p ∣ u - (a' * x + b' * y) * k := em_iff.mp (by rw [e4]; exact Int.emod_emod_of_dvd _ (Int.dvd_refl p))
  have f2 : p ∣ v - (c' * x + d' * y) * k := em_iff.mp (by rw [e5]; exact Int.emod_emod_of_dvd _ (Int.dvd_refl p))
  obtain ⟨g1, h1⟩ := f1
  obtain ⟨g2, h2⟩ := f2
  exact md2 ⟨a * g1 + b * g2, by grind⟩ ⟨c * g1 + d * g2, by grind⟩
theorem cross_ne {p : Int} (hp : p ∈ PR) {x y u v : Int} (h : PP p x y) (h' : PP p u v) (ne : ¬ (x = u ∧ y = v)) : ¬ p ∣ x * v - y * u := fun z => by
  have := (pr_bd hp).1
  rcases h with ⟨rfl, rfl⟩ | ⟨rfl, h1, h2⟩ <;> rcases h' with ⟨rfl, rfl⟩ | ⟨rfl, h3, h4⟩
  · exact ne ⟨rfl, rfl⟩
  · have := not_lt z (by omega) (by omega); omega
  · have := not_lt z (by omega) (by omega); omega
  · have := not_lt z (by omega) (by omega)
    exact ne ⟨rfl, by omega⟩
theorem led_inj {p : Int} (hp : p ∈ PR) {a b c d x y x' y' : Int} (hd : ¬ p ∣ a * d - b * c) (h : PP p x y) (h' : PP p x' y') (e : led p a b c d x y = led p a b c d x' y') : x = x' ∧ y = y' := by
  obtain ⟨u, v, e1, _, _, _, k, hk, q1⟩ := led_pr hp hd h
  obtain ⟨u2, v2, e2, _, _, _, k2, hk2, q2⟩ := led_pr hp hd h'
  rw [← e2, ← e, e1] at q2
  injection q1 with q1 q1'
  injection q1' with q1' _
  injection q2 with q2 q2'
  injection q2' with q2' _
  by_cases ne : x = x' ∧ y = y'
  · exact ne
  · exfalso
    refine pm_ne hp hd (pm_ne hp hk (pm_ne hp hk2 (cross_ne hp h h' ne))) ?_
    have f1 : p ∣ (a * x + b * y) * k - (a * x' + b * y') * k2 := em_iff.mp (q1.symm.trans q2)
    have f2 : p ∣ (c * x + d * y) * k - (c * x' + d * y') * k2 := em_iff.mp (q1'.symm.trans q2')
    obtain ⟨g1, h1⟩ := f1
    obtain ⟨g2, h2⟩ := f2
    exact ⟨g1 * (c * x' + d * y') * k2 - g2 * (a * x' + b * y') * k2, by grind⟩
end K50

set_option Elab.async false
set_option linter.all false
set_option maxRecDepth 100000
set_option maxHeartbeats 4000000
namespace K50
/-! ### plain tables -/
def plT (p a b c d : Int) : List Int := plR p (md p [a, b, c, d])
theorem nn4 {p : Int} {a b c d : Int} (hd : ¬ p ∣ a * d - b * c) : ∃ z ∈ [a, b, c, d], ¬ p ∣ z := by
  by_cases h1 : p ∣ a
  · by_cases h2 : p ∣ b
    · refine absurd ?_ hd
      obtain ⟨e, he⟩ := h1
      obtain ⟨f, hf⟩ := h2
      exact ⟨e * d - f * c, by grobner⟩
    · exact ⟨_, .tail _ (.head _), h2⟩
  · exact ⟨_, .head _, h1⟩
theorem plT_pr {p : Int} (hp : p ∈ PR) {a b c d : Int} (hd : ¬ p ∣ a * d - b * c) : ∃ x y z w, plT p a b c d = [x, y, z, w] ∧ Pr p [a, b, c, d] [x, y, z, w] := by
  have q := pr_plR hp (nn4 hd)
  have hl : (plT p a b c d).length = 4 := by
    obtain ⟨_, _, k, _, e⟩ := id q
    show (plR p (md p [a, b, c, d])).length = 4
    rw [e]
    rfl
  match e : plT p a b c d, hl with
  | [x, y, z, w], _ => exact ⟨x, y, z, w, rfl, by rw [← e]; exact q⟩
theorem md4 {p a b c d a' b' c' d' : Int} (h1 : p ∣ a - a') (h2 : p ∣ b - b') (h3 : p ∣ c - c') (h4 : p ∣ d - d') : md p [a, b, c, d] = md p [a', b', c', d'] := by
  show [a % p, b % p, c % p, d % p] = [a' % p, b' % p, c' % p, d' % p]
  rw [em_iff.mpr h1, em_iff.mpr h2, em_iff.mpr h3, em_iff.mpr h4]
/-- what the plain table is, told by a factor -/
theorem pr4 {p : Int} {a b c d x y z w : Int} (h : Pr p [a, b, c, d] [x, y, z, w]) : ∃ k, ¬ p ∣ k ∧ p ∣ x - a * k ∧ p ∣ y - b * k ∧ p ∣ z - c * k ∧ p ∣ w - d * k := by
  obtain ⟨_, _, k, hk, e⟩ := h
  injection e with e1 e
  injection e with e2 e
  injection e with e3 e
  injection e with e4 _
  have f : ∀ {x y : Int}, x = y % p → p ∣ x - y := fun {x y} e => em_iff.mp (by rw [e]; exact Int.emod_emod_of_dvd _ (Int.dvd_refl p))
  exact ⟨k, hk, f e1, f e2, f e3, f e4⟩
theorem plT_times {p : Int} (hp : p ∈ PR) {f a b c d : Int} (hf : ¬ p ∣ f) (hd : ¬ p ∣ a * d - b * c) : plT p (f * a) (f * b) (f * c) (f * d) = plT p a b c d := by
  obtain ⟨x, y, z, w, e, q⟩ := plT_pr hp hd
  have hd2 : ¬ p ∣ (f * a) * (f * d) - (f * b) * (f * c) := fun z => pm_ne hp hf (pm_ne hp hf hd) (by
    obtain ⟨w, hw⟩ := z
    exact ⟨w, by grobner⟩)
  obtain ⟨x2, y2, z2, w2, e2, q2⟩ := plT_pr hp hd2
  rw [e, e2]
  refine pr_uniq hp (pr_rel hp (k := f) (k' := 1) hf (not_one hp) ?_ q2) q
  exact md4 ⟨0, by grobner⟩ ⟨0, by grobner⟩ ⟨0, by grobner⟩ ⟨0, by grobner⟩
theorem plT_self {p : Int} (hp : p ∈ PR) {l : List Int} {x y z w : Int} (q : Pr p l [x, y, z, w]) : plT p x y z w = [x, y, z, w] := by
  have hs : Pr p [x, y, z, w] [x, y, z, w] := pr_self hp q.1 q.2.1
  have hn : ∃ t ∈ [x, y, z, w], ¬ p ∣ t := by
    obtain ⟨t, r, e⟩ : ∃ t r, nz [x, y, z, w] = t :: r := by
      cases e : nz [x, y, z, w] with
      | nil => have := q.2.1; rw [e] at this; cases this
      | cons t r => exact ⟨t, r, rfl⟩
    have hm : t ∈ nz [x, y, z, w] := by rw [e]; exact List.mem_cons_self
    have ht : t = 1 := by have := q.2.1; rw [e] at this; exact Option.some.inj this
    exact ⟨t, (List.mem_filter.mp hm).1, by rw [ht]; exact not_one hp⟩
  exact pr_uniq hp (pr_plR hp hn) hs
theorem det_plT {p : Int} (hp : p ∈ PR) {a b c d x y z w : Int} (hd : ¬ p ∣ a * d - b * c) (q : Pr p [a, b, c, d] [x, y, z, w]) : ¬ p ∣ x * w - y * z := fun h => by
  obtain ⟨k, hk, ⟨f1, h1⟩, ⟨f2, h2⟩, ⟨f3, h3⟩, ⟨f4, h4⟩⟩ := pr4 q
  obtain ⟨t, ht⟩ := h
  exact pm_ne hp hd (pm_ne hp hk hk) ⟨t - f1 * w - a * k * f4 + f2 * z + b * k * f3, by grobner⟩
/-- leading by the plain table -/
theorem led_plT {p : Int} (hp : p ∈ PR) {a b c d x y z w u v : Int} (hd : ¬ p ∣ a * d - b * c) (q : Pr p [a, b, c, d] [x, y, z, w]) (h : PP p u v) : led p x y z w u v = led p a b c d u v := by
  obtain ⟨u1, v1, e1, _, q1⟩ := led_pr hp hd h
  obtain ⟨u2, v2, e2, _, q2⟩ := led_pr hp (det_plT hp hd q) h
  rw [e1, e2]
  obtain ⟨k, hk, ⟨f1, h1⟩, ⟨f2, h2⟩, ⟨f3, h3⟩, ⟨f4, h4⟩⟩ := pr4 q
  refine pr_uniq hp (pr_rel hp (k := k) (k' := 1) hk (not_one hp) ?_ q2) q1
  exact md2 ⟨f1 * u + f2 * v, by grobner⟩ ⟨f3 * u + f4 * v, by grobner⟩
/-! ### the table between two triples -/
def cr (x y u v : Int) : Int := x * v - y * u
/-- the table that leads (1, 0), (0, 1), (1, 1) to three points: its entries -/
def tt (x1 y1 x2 y2 x3 y3 : Int) : Int × Int × Int × Int := (cr x3 y3 x2 y2 * x1, cr x1 y1 x3 y3 * x2, cr x3 y3 x2 y2 * y1, cr x1 y1 x3 y3 * y2)
/-- before the plain multiple is taken -/
def bt (A B : Int × Int × Int × Int) : Int × Int × Int × Int :=
  (B.1 * A.2.2.2 + B.2.1 * -A.2.2.1, B.1 * -A.2.1 + B.2.1 * A.1, B.2.2.1 * A.2.2.2 + B.2.2.2 * -A.2.2.1, B.2.2.1 * -A.2.1 + B.2.2.2 * A.1)
structure T3 (p x1 y1 x2 y2 x3 y3 : Int) : Prop where
  h1 : PP p x1 y1
  h2 : PP p x2 y2
  h3 : PP p x3 y3
  n12 : ¬ (x1 = x2 ∧ y1 = y2)
  n13 : ¬ (x1 = x3 ∧ y1 = y3)
  n23 : ¬ (x2 = x3 ∧ y2 = y3)
section
variable {p x1 y1 x2 y2 x3 y3 u1 v1 u2 v2 u3 v3 : Int}
theorem T3.c1 (hp : p ∈ PR) (h : T3 p x1 y1 x2 y2 x3 y3) : ¬ p ∣ cr x3 y3 x2 y2 := cross_ne hp h.h3 h.h2 fun e => h.n23 ⟨e.1.symm, e.2.symm⟩
theorem T3.c2 (hp : p ∈ PR) (h : T3 p x1 y1 x2 y2 x3 y3) : ¬ p ∣ cr x1 y1 x3 y3 := cross_ne hp h.h1 h.h3 h.n13
theorem T3.c3 (hp : p ∈ PR) (h : T3 p x1 y1 x2 y2 x3 y3) : ¬ p ∣ cr x1 y1 x2 y2 := cross_ne hp h.h1 h.h2 h.n12
theorem bt_det (hp : p ∈ PR) (h : T3 p x1 y1 x2 y2 x3 y3) (g : T3 p u1 v1 u2 v2 u3 v3) :
    ¬ p ∣ (bt (tt x1 y1 x2 y2 x3 y3) (tt u1 v1 u2 v2 u3 v3)).1 * (bt (tt x1 y1 x2 y2 x3 y3) (tt u1 v1 u2 v2 u3 v3)).2.2.2 - (bt (tt x1 y1 x2 y2 x3 y3) (tt u1 v1 u2 v2 u3 v3)).2.1 * (bt (tt x1 y1 x2 y2 x3 y3) (tt u1 v1 u2 v2 u3 v3)).2.2.1 := fun z => by
  refine pm_ne hp (pm_ne hp (pm_ne hp (h.c1 hp) (h.c2 hp)) (h.c3 hp)) (pm_ne hp (pm_ne hp (g.c1 hp) (g.c2 hp)) (g.c3 hp)) ?_
  obtain ⟨w, hw⟩ := z
  refine ⟨w, hw ▸ ?_⟩
  simp only [bt, tt, cr]
  grobner
theorem led_to (hp : p ∈ PR) {a b c d x y u v k k' : Int} (hd : ¬ p ∣ a * d - b * c) (hP : PP p x y) (hQ : PP p u v) (hk : ¬ p ∣ k) (hk' : ¬ p ∣ k') (e1 : k' * (a * x + b * y) = k * u) (e2 : k' * (c * x + d * y) = k * v) : led p a b c d x y = [u, v] := by
  obtain ⟨u1, v1, e, _, q1⟩ := led_pr hp hd hP
  rw [e]
  refine pr_uniq hp (pr_rel hp (k := k) (k' := k') hk hk' ?_ q1) (pp_self hp hQ)
  exact md2 ⟨0, by grobner⟩ ⟨0, by grobner⟩
theorem bt_led (hp : p ∈ PR) (h : T3 p x1 y1 x2 y2 x3 y3) (g : T3 p u1 v1 u2 v2 u3 v3) {a b c d : Int} (e : bt (tt x1 y1 x2 y2 x3 y3) (tt u1 v1 u2 v2 u3 v3) = (a, b, c, d)) :
    led p a b c d x1 y1 = [u1, v1] ∧ led p a b c d x2 y2 = [u2, v2] ∧ led p a b c d x3 y3 = [u3, v3] := by
  have hd := bt_det hp h g
  rw [e] at hd
  simp only [bt, tt] at e
  injection e with ea e
  injection e with eb e
  injection e with ec ed
  have hD : ¬ p ∣ cr x3 y3 x2 y2 * cr x1 y1 x3 y3 * cr x1 y1 x2 y2 := pm_ne hp (pm_ne hp (h.c1 hp) (h.c2 hp)) (h.c3 hp)
  refine ⟨led_to hp hd h.h1 g.h1 (k' := cr x3 y3 x2 y2) (k := cr x3 y3 x2 y2 * cr x1 y1 x3 y3 * cr x1 y1 x2 y2 * cr u3 v3 u2 v2) (pm_ne hp hD (g.c1 hp)) (h.c1 hp) ?_ ?_,
    led_to hp hd h.h2 g.h2 (k' := cr x1 y1 x3 y3) (k := cr x3 y3 x2 y2 * cr x1 y1 x3 y3 * cr x1 y1 x2 y2 * cr u1 v1 u3 v3) (pm_ne hp hD (g.c2 hp)) (h.c2 hp) ?_ ?_,
    led_to hp hd h.h3 g.h3 (k' := cr x1 y1 x2 y2) (k := cr x3 y3 x2 y2 * cr x1 y1 x3 y3 * cr x1 y1 x2 y2 * cr u1 v1 u2 v2) (pm_ne hp hD (g.c3 hp)) (h.c3 hp) ?_ ?_⟩ <;> subst ea eb ec ed <;> simp only [cr] <;> grobner
/-! ### there is only one -/
theorem quad0 (hp : p ∈ PR) {α β γ y1 y2 y3 : Int} (h1 : p ∣ α + β * y1 + γ * y1 * y1) (h2 : p ∣ α + β * y2 + γ * y2 * y2) (h3 : p ∣ α + β * y3 + γ * y3 * y3) (n12 : ¬ p ∣ y1 - y2) (n13 : ¬ p ∣ y1 - y3) (n23 : ¬ p ∣ y2 - y3) : p ∣ α ∧ p ∣ β ∧ p ∣ γ := by
  obtain ⟨a1, e1⟩ := h1
  obtain ⟨a2, e2⟩ := h2
  obtain ⟨a3, e3⟩ := h3
  have f1 : p ∣ β + γ * (y1 + y2) := pm hp (a := y1 - y2) ⟨a1 - a2, by grobner⟩ n12
  have f2 : p ∣ β + γ * (y1 + y3) := pm hp (a := y1 - y3) ⟨a1 - a3, by grobner⟩ n13
  obtain ⟨b1, g1⟩ := f1
  obtain ⟨b2, g2⟩ := f2
  have hg : p ∣ γ := pm hp (a := y2 - y3) ⟨b1 - b2, by
    clear e1 e2 e3
    grobner⟩ n23
  obtain ⟨c, hc⟩ := id hg
  have hb : p ∣ β := ⟨b1 - c * (y1 + y2), by
    clear e1 e2 e3 g2
    grobner⟩
  obtain ⟨d, hd⟩ := id hb
  exact ⟨⟨a1 - d * y1 - c * y1 * y1, by
    clear e2 e3 g1 g2
    grobner⟩, hb, hg⟩
theorem quad1 (hp : p ∈ PR) {α β γ y1 y2 : Int} (hg : p ∣ γ) (h1 : p ∣ α + β * y1 + γ * y1 * y1) (h2 : p ∣ α + β * y2 + γ * y2 * y2) (n12 : ¬ p ∣ y1 - y2) : p ∣ α ∧ p ∣ β ∧ p ∣ γ := by
  obtain ⟨a1, e1⟩ := h1
  obtain ⟨a2, e2⟩ := h2
  obtain ⟨c, hc⟩ := id hg
  have hb : p ∣ β := pm hp (a := y1 - y2) ⟨a1 - a2 - c * (y1 * y1 - y2 * y2), by grobner⟩ n12
  obtain ⟨d, hd⟩ := id hb
  exact ⟨⟨a1 - d * y1 - c * y1 * y1, by grobner⟩, hb, hg⟩
theorem quad (hp : p ∈ PR) (h : T3 p x1 y1 x2 y2 x3 y3) {α β γ : Int} (g1 : p ∣ α * x1 * x1 + β * x1 * y1 + γ * y1 * y1) (g2 : p ∣ α * x2 * x2 + β * x2 * y2 + γ * y2 * y2) (g3 : p ∣ α * x3 * x3 + β * x3 * y3 + γ * y3 * y3) : p ∣ α ∧ p ∣ β ∧ p ∣ γ := by
  have n12 := h.c3 hp
  have n13 := h.c2 hp
  have n23 := h.c1 hp
  have s23 : ¬ p ∣ y2 - y3 → ¬ p ∣ y3 - y2 := fun a b => a (by obtain ⟨c, hc⟩ := b; exact ⟨-c, by grobner⟩)
  have sgn : ∀ {a b : Int}, ¬ p ∣ 1 * a - b * 1 → ¬ p ∣ b - a := fun {a b} n b => n (by obtain ⟨c, hc⟩ := b; exact ⟨-c, by grobner⟩)
  have one : ∀ {α β γ y : Int}, p ∣ α * 1 * 1 + β * 1 * y + γ * y * y → p ∣ α + β * y + γ * y * y := fun {α β γ y} ⟨c, hc⟩ => ⟨c, by grobner⟩
  have inf : ∀ {α β γ : Int}, p ∣ α * 0 * 0 + β * 0 * 1 + γ * 1 * 1 → p ∣ γ := fun {α β γ} ⟨c, hc⟩ => ⟨c, by grobner⟩
  rcases h.h1 with ⟨rfl, rfl⟩ | ⟨rfl, _⟩ <;> rcases h.h2 with ⟨rfl, rfl⟩ | ⟨rfl, _⟩ <;> rcases h.h3 with ⟨rfl, rfl⟩ | ⟨rfl, _⟩
  · exact absurd ⟨rfl, rfl⟩ h.n12
  · exact absurd ⟨rfl, rfl⟩ h.n12
  · exact absurd ⟨rfl, rfl⟩ h.n13
  · exact quad1 hp (inf g1) (one g3) (one g2) (sgn n23)
  · exact absurd ⟨rfl, rfl⟩ h.n23
  · exact quad1 hp (inf g2) (one g1) (one g3) (sgn n13)
  · exact quad1 hp (inf g3) (one g1) (one g2) (sgn n12)
  · exact quad0 hp (one g1) (one g2) (one g3) (sgn n12) (sgn n13) (fun z => sgn n23 (by obtain ⟨c, hc⟩ := z; exact ⟨-c, by grobner⟩))
theorem cross_of (hp : p ∈ PR) {a b c d a' b' c' d' x y u v : Int} (hd : ¬ p ∣ a * d - b * c) (hd' : ¬ p ∣ a' * d' - b' * c') (hP : PP p x y) (e : led p a b c d x y = [u, v]) (e' : led p a' b' c' d' x y = [u, v]) :
    p ∣ (a * c' - c * a') * x * x + (a * d' + b * c' - c * b' - d * a') * x * y + (b * d' - d * b') * y * y := by
  obtain ⟨u1, v1, e1, _, _, _, k, hk, q1⟩ := led_pr hp hd hP
  obtain ⟨u2, v2, e2, _, _, _, k2, hk2, q2⟩ := led_pr hp hd' hP
  rw [e] at e1
  rw [e'] at e2
  rw [← e1] at q1
  rw [← e2] at q2
  injection q1 with q1 q1'
  injection q1' with q1' _
  injection q2 with q2 q2'
  injection q2' with q2' _
  have f1 : p ∣ (a * x + b * y) * k - (a' * x + b' * y) * k2 := em_iff.mp (q1.symm.trans q2)
  have f2 : p ∣ (c * x + d * y) * k - (c' * x + d' * y) * k2 := em_iff.mp (q1'.symm.trans q2')
  obtain ⟨g1, h1⟩ := f1
  obtain ⟨g2, h2⟩ := f2
  refine pm hp (a := k) ⟨(c' * x + d' * y) * g1 - (a' * x + b' * y) * g2, ?_⟩ hk
  grobner
theorem only (hp : p ∈ PR) (h : T3 p x1 y1 x2 y2 x3 y3) {l l' : List Int} {a b c d a' b' c' d' : Int} (q : Pr p l [a, b, c, d]) (q' : Pr p l' [a', b', c', d']) (hd : ¬ p ∣ a * d - b * c) (hd' : ¬ p ∣ a' * d' - b' * c')
    (e1 : led p a b c d x1 y1 = [u1, v1]) (e2 : led p a b c d x2 y2 = [u2, v2]) (e3 : led p a b c d x3 y3 = [u3, v3]) (e1' : led p a' b' c' d' x1 y1 = [u1, v1]) (e2' : led p a' b' c' d' x2 y2 = [u2, v2]) (e3' : led p a' b' c' d' x3 y3 = [u3, v3]) :
    [a', b', c', d'] = [a, b, c, d] := by
  obtain ⟨hα, hβ, hγ⟩ := quad hp h (cross_of hp hd hd' h.h1 e1 e1') (cross_of hp hd hd' h.h2 e2 e2') (cross_of hp hd hd' h.h3 e3 e3')
  -- a column is a multiple of the other one
  have col : ∀ {a c a' c' b d : Int}, ¬ p ∣ a * d - b * c → p ∣ a * c' - c * a' → ∃ s, p ∣ a' - s * a ∧ p ∣ c' - s * c := fun {a c a' c' b d} hd ⟨w, hw⟩ => by
    by_cases z : p ∣ a
    · have z2 : ¬ p ∣ c := fun z2 => hd (by
        obtain ⟨f, hf⟩ := z
        obtain ⟨g, hg⟩ := z2
        exact ⟨f * d - b * g, by grobner⟩)
      obtain ⟨v, r, hv⟩ := inv hp z2
      exact ⟨v * c', ⟨-(r * a') - v * w, by grobner⟩, ⟨-(r * c'), by grobner⟩⟩
    · obtain ⟨v, r, hv⟩ := inv hp z
      exact ⟨v * a', ⟨-(r * a'), by grobner⟩, ⟨v * w - r * c', by grobner⟩⟩
  obtain ⟨s, ⟨s1, hs1⟩, ⟨s2, hs2⟩⟩ := col hd hα
  obtain ⟨t, ⟨t1, ht1⟩, ⟨t2, ht2⟩⟩ := col (a := b) (c := d) (b := a) (d := c) (fun ⟨w, hw⟩ => hd ⟨-w, by grobner⟩) hγ
  have hts : p ∣ t - s := pm hp (a := a * d - b * c) (by
    obtain ⟨w, hw⟩ := hβ
    exact ⟨w - a * t2 - b * s2 + c * t1 + d * s1, by grobner⟩) hd
  obtain ⟨w, hw⟩ := hts
  have hs : ¬ p ∣ s := fun ⟨r, hr⟩ => hd' ⟨(r * a + s1) * d' - (r * c + s2) * b', by grobner⟩
  refine pr_uniq hp (pr_self hp q'.1 q'.2.1) (pr_rel hp (k := 1) (k' := s) (not_one hp) hs ?_ (pr_self hp q.1 q.2.1))
  exact md4 ⟨-s1, by grobner⟩ ⟨w * b * 0 - (t1 + w * b), by grobner⟩ ⟨-s2, by grobner⟩ ⟨-(t2 + w * d), by grobner⟩
end
end K50

set_option Elab.async false
set_option linter.all false
set_option maxRecDepth 100000
set_option maxHeartbeats 4000000
namespace K50
open PySem PySem.Spec PyProof.Rows L2 StX RZ MyR SlX OwnR OwnF EnumT
theorem PP.bd {p x y : Int} (h : PP p x y) (hp : p ∈ PR) : 0 ≤ x ∧ x ≤ 1 ∧ 0 ≤ y ∧ y ≤ 101 := by
  have := pr_bd hp
  rcases h with ⟨rfl, rfl⟩ | ⟨rfl, h1, h2⟩ <;> omega
section
variable {P : Program} {w : World} {K : PySem.W.Frag} {mg : Str → Option Value} {base : Heap}
def spIsPP : Sp := fun vs H Q _ => ∃ (p : Int) (t : Addr) (x y : Int), vs = [.int p, .ref t] ∧ p ∈ PR ∧ PP p x y ∧ H t = some (tp [x, y]) ∧ ∀ H', Same H H' → Q (.bl true) H'
theorem ok_is_prime_point (T : Facts K mg) : FnOk P w K mg base CX0 3 T.f_is_prime_point T.fd_is_prime_point ["prime", "value"] spIsPP := by
  have G_is_short := ok_is_short (P := P) (w := w) (base := base) T
  refine T.F_is_prime_point.ok sc_is_prime_point (fun vs H Q E h => ?_) (fun cdv A outer s H vs Q E hr h => ?_)
  · obtain ⟨p, t, x, y, rfl, _⟩ := h
    rfl
  · obtain ⟨p, t, x, y, rfl, hp, hP, ht, q⟩ := h
    have hb := hP.bd hp
    refine ⟨_, (PSs.nox (pss_cons (ps_if (pw_or (pt_not (pt_val (pe_callB call_isi (by rfl) T.z_isinstance (by decide +kernel) (pa_cons (pv 1) (pa_cons (pe_bltn (v := .ty "tuple") (by rfl) T.z_tuple (by decide +kernel) rfl) pa_nil))))) (pw_or (pt_cmpR op_ne (pe_callB call_len_seq (by rfl) T.z_len (by decide +kernel) (pa_cons (pv 1) pa_nil)) pe_int (nomark _)) (pw_or1 (pt_not (pt_val (pe_callB (cr_all (by rfl)) (by rfl) T.z_all (by decide +kernel) (pa_cons (pe_lc (own := [("one", 2)]) (g := (gName 2)) (tt := tYes) (by rfl) sc_is_prime_point.nd (pi_tup (pv 1)) (blkOk_by (N := N_is_prime_point) (sc := defScope s_is_prime_point) (by decide +kernel)) (fun _ _ _ _ _ => (pg_name (i := 2) sc_is_prime_point.nd rfl (.inl rfl))) (fun _ _ _ _ _ => pts_nil) (fun _ _ _ _ _ => (pe_call G_is_short hr (by rfl) T.g_is_short T.F_is_short.kp T.b_is_short .nil pass0 (pa_cons (pv 2) pa_nil)))) pa_nil))))))).pt
      (pss_one (ps_ret pe_bl))
      pss_nil)
    (pss_one (ps_ret (pe_and (pe_cmpR op_in_seq (pe_ix ix_tup (pv 1) pe_int (fun _ _ => rfl)) (pe_tup (pa_cons pe_int (pa_cons pe_int pa_nil))) (by rfl)) (pe_and (pe_chain op_le op_lt pe_int (pe_ix ix_tup (pv 1) pe_int (fun _ _ => rfl)) (pv 0)) (pe_one (pe_or (pe_cmpR op_eq (pe_ix ix_tup (pv 1) pe_int (fun _ _ => rfl)) pe_int (nomark _)) (pe_one (pe_cmpR op_eq (pe_ix ix_tup (pv 1) pe_int (fun _ _ => rfl)) pe_int (nomark _))))))))))), ?_⟩
    refine ⟨_, rfl, .ref t, .ty "tuple", .type "tuple", .type "tuple", true, rfl, .ty "tuple", .base (.tup ht), kit_ty (show kitB "tuple" "tuple" = some true by decide +kernel), true, rfl, iteF ?_⟩
    refine ⟨_, rfl, t, _, rfl, .inr (SqT.of ht), rfl, _, rfl, iteF ?_⟩
    refine ⟨_, rfl, t, rfl, ⟨_, SqT.of ht⟩, fun D hD => lc_tup (xs := [.int x, .int y]) (fun i H2 => H2 = upd H D (.lst (List.replicate i (V.bl true)))) rfl (fun i H2 _ hP => ?_) (fun i z H2 hx hP => ?_) (fun H2 hP => ?_)⟩
    · rw [hP]
      exact SqT.of (same_upd0 hD _ _ ht)
    · subst hP
      have hi2 : i < 2 := (List.getElem?_eq_some_iff.mp hx).1
      obtain ⟨z, rfl, hz⟩ : ∃ z', z = .int z' ∧ Sho z' := by
        have hm := List.mem_of_getElem? hx
        simp only [List.mem_cons, List.not_mem_nil, or_false] at hm
        rcases hm with e | e <;> rw [e]
        · exact ⟨_, rfl, Nat.lt_of_le_of_lt (show x.natAbs ≤ 101 by omega) (by decide)⟩
        · exact ⟨_, rfl, Nat.lt_of_le_of_lt (show y.natAbs ≤ 101 by omega) (by decide)⟩
      refine ⟨rfl, _, rfl, z, rfl, hz, _, upd_same, ?_, ?_⟩
      · rw [List.length_replicate]
        exact small1000 (by omega)
      · rw [upd_upd, List.replicate_succ']
    · subst hP
      refine ⟨D, [true, true], rfl, SqL.of upd_same, true, rfl, ?_⟩
      have s0 := same_upd0 (o := .lst (List.replicate 2 (V.bl true))) hD
      generalize upd H D (.lst (List.replicate [V.int x, V.int y].length (V.bl true))) = H1 at *
      have t1 := s0 _ _ ht
      refine iteF ⟨_, rfl, t, _, 0, _, rfl, rfl, SqT.of t1, atI_nat (j := 0) rfl, by decide, fun p2 n2 => gen_upd H1 p2 (tp [0, 1]) n2 fun H3 s3 f3 => ?_⟩
      have t3 := s3 _ _ t1
      refine ⟨p2, _, rfl, .inr (SqT.of f3), rfl, rfl, ?_⟩
      have hin : inV (V.int x) (List.map V.int [0, 1]) = true := by
        rcases hP with ⟨rfl, _⟩ | ⟨rfl, _⟩ <;> rfl
      refine ⟨true, congrArg V.bl hin, iteT ⟨_, rfl, t, _, 1, _, rfl, rfl, SqT.of t3, atI_nat (j := 1) rfl, 0, y, rfl, rfl, true, ?_, iteT ⟨_, rfl, y, p, rfl, rfl, true, ?_, iteT ⟨_, rfl, t, _, 0, _, rfl, rfl, SqT.of t3, atI_nat (j := 0) rfl, rfl, ?_⟩⟩⟩⟩
      · exact congrArg V.bl (decide_eq_true (by omega))
      · refine congrArg V.bl (decide_eq_true ?_)
        have := pr_bd hp
        rcases hP with ⟨_, e⟩ | ⟨_, _, h⟩
        · omega
        · exact h
      · have s13 := s0.trans s3
        by_cases c : x = 1
        · exact ⟨true, congrArg V.bl (decide_eq_true (by rw [c])), iteT (q _ s13)⟩
        · have hy : y = 1 := by
            rcases hP with ⟨_, e⟩ | ⟨e, _⟩
            · exact e
            · exact absurd e c
          refine ⟨false, congrArg V.bl (decide_eq_false fun z => c (V.int.inj z)), iteF ⟨_, rfl, t, _, 1, _, rfl, rfl, SqT.of t3, atI_nat (j := 1) rfl, rfl, ?_⟩⟩
          rw [decide_eq_true (by rw [hy])]
          exact q _ s13
def spPTIn : Sp := fun vs H Q _ => ∃ (p : Int) (t : Addr) (a b c d : Int), vs = [.int p, .ref t] ∧ p ∈ PR ∧ Tb H t [a, b] [c, d] ∧ ¬ p ∣ a * d - b * c ∧ ∀ q H' x y z w, plT p a b c d = [x, y, z, w] → Same H H' → Tb H' q [x, y] [z, w] → Q (.ref q) H'
theorem ok_plain_table_in (T : Facts K mg) : FnOk P w K mg base CX0 3 T.f_plain_table_in T.fd_plain_table_in ["prime", "table"] spPTIn := by
  have G_modulo := ok_modulo (P := P) (w := w) (base := base) T
  have G_plain_row := ok_plain_row (P := P) (w := w) (base := base) T
  refine T.F_plain_table_in.ok sc_plain_table_in (fun vs H Q E h => ?_) (fun cdv A outer s H vs Q E hr h => ?_)
  · obtain ⟨p, t, a, b, c, d, rfl, _⟩ := h
    rfl
  · obtain ⟨p, t, a, b, c, d, rfl, hp, ⟨r0, r1, h0, k0, k1⟩, hd, q⟩ := h
    refine ⟨_, (PSs.nox (pss_cons (ps_asg (pe_call G_plain_row hr (by rfl) T.g_plain_row T.F_plain_row.kp T.b_plain_row .nil pass0 (pa_cons (pv 0) (pa_cons (pe_call G_modulo (hr.mono (by decide)) (by rfl) T.g_modulo T.F_modulo.kp T.b_modulo .nil pass0 (pa_cons (pv 0) (pa_cons (pe_lst (pa_star (pe_ix ix_tup (pv 1) pe_int (fun _ _ => rfl)) (pa_star (pe_ix ix_tup (pv 1) pe_int (fun _ _ => rfl)) pa_nil))) pa_nil))) pa_nil))) (pg_tup (by rfl) (pgs_cons (pg_name (i := 2) sc_plain_table_in.nd rfl (.inl rfl)) (pgs_cons (pg_name (i := 3) sc_plain_table_in.nd rfl (.inl rfl)) (pgs_cons (pg_name (i := 4) sc_plain_table_in.nd rfl (.inl rfl)) (pgs_cons (pg_name (i := 5) sc_plain_table_in.nd rfl (.inl rfl)) pgs_nil))))))
    (pss_one (ps_ret (pe_tup (pa_cons (pe_tup (pa_cons (pv 2) (pa_cons (pv 3) pa_nil))) (pa_cons (pe_tup (pa_cons (pv 4) (pa_cons (pv 5) pa_nil))) pa_nil))))))), ?_⟩
    have := pr_bd hp
    refine ⟨_, rfl, _, rfl, _, rfl, t, _, 0, _, rfl, rfl, SqT.of h0, atI_nat (j := 0) rfl, r0, _, rfl, .inl (SqT.of k0), _, rfl, t, _, 1, _, rfl, rfl, SqT.of h0, atI_nat (j := 1) rfl, r1, _, rfl, .inl (SqT.of k1), ?_⟩
    refine ⟨by show 4 ≤ sizeLine; decide, fun B nB => gen_upd H B (.lst ([a, b, c, d].map V.int)) nB fun H1 s1 f1 => ⟨p, B, [a, b, c, d], rfl, by omega, f1, (show 4 ≤ 100 by decide), fun q1 H2 s2 f2 => ?_⟩⟩
    have hb : ∀ z ∈ md p [a, b, c, d], 0 ≤ z ∧ z < p := fun z hz => by
      obtain ⟨y, _, rfl⟩ := List.mem_map.mp hz
      exact ⟨Int.emod_nonneg _ (by omega), Int.emod_lt_of_pos _ (by omega)⟩
    refine ⟨q1, _, p, rfl, hp, f2, hb, (show 4 ≤ 100 by decide), fun q2 H3 s3 f3 => ?_⟩
    obtain ⟨x, y, z, v, e, _⟩ := plT_pr hp hd
    have e' : plR p (md p [a, b, c, d]) = [x, y, z, v] := e
    rw [e'] at f3
    refine ⟨q2, _, rfl, SqT.of f3, rfl, _, _, rfl, _, _, rfl, _, _, rfl, _, _, rfl, rfl, ?_⟩
    have z2 : 2 ≤ sizeLine := by decide
    exact ⟨_, rfl, _, rfl, z2, fun p1 n1 => gen_upd H3 p1 (tp [x, y]) n1 fun H4 s4 f4 => ⟨_, rfl, _, rfl, z2, fun p2 n2 => gen_upd H4 p2 (tp [z, v]) n2 fun H5 s5 f5 => ⟨z2, fun p3 n3 => gen_upd H5 p3 (.tup [.ref p1, .ref p2]) n3 fun H6 s6 f6 => q p3 H6 x y z v e (s1.trans (s2.trans (s3.trans (s4.trans (s5.trans s6))))) ⟨p1, p2, f6, s6 _ _ (s5 _ _ f4), s6 _ _ f5⟩⟩⟩⟩
def spLedIn : Sp := fun vs H Q _ => ∃ (p : Int) (t u : Addr) (a b c d x y : Int), vs = [.int p, .ref t, .ref u] ∧ p ∈ PR ∧ Tb H t [a, b] [c, d] ∧ (∀ z ∈ [a, b, c, d], z.natAbs ≤ 10 ^ 45) ∧ PP p x y ∧ H u = some (tp [x, y]) ∧ ∀ q H', Same H H' → H' q = some (tp (led p a b c d x y)) → Q (.ref q) H'
theorem ok_led_in (T : Facts K mg) : FnOk P w K mg base CX0 3 T.f_led_in T.fd_led_in ["prime", "table", "point"] spLedIn := by
  have G_modulo := ok_modulo (P := P) (w := w) (base := base) T
  have G_plain_row := ok_plain_row (P := P) (w := w) (base := base) T
  refine T.F_led_in.ok sc_led_in (fun vs H Q E h => ?_) (fun cdv A outer s H vs Q E hr h => ?_)
  · obtain ⟨p, t, u, a, b, c, d, x, y, rfl, _⟩ := h
    rfl
  · obtain ⟨p, t, u, a, b, c, d, x, y, rfl, hp, ⟨r0, r1, h0, k0, k1⟩, hb, hP, hu, q⟩ := h
    refine ⟨_, (PSs.nox (pss_cons (ps_asg (pv 2) (pg_tup (by rfl) (pgs_cons (pg_name (i := 3) sc_led_in.nd rfl (.inr rfl)) (pgs_cons (pg_name (i := 4) sc_led_in.nd rfl (.inr rfl)) pgs_nil))))
    (pss_one (ps_ret (pe_call G_plain_row hr (by rfl) T.g_plain_row T.F_plain_row.kp T.b_plain_row .nil pass0 (pa_cons (pv 0) (pa_cons (pe_call G_modulo (hr.mono (by decide)) (by rfl) T.g_modulo T.F_modulo.kp T.b_modulo .nil pass0 (pa_cons (pv 0) (pa_cons (pe_lc (own := [("row", 5)]) (g := (gName 5)) (tt := tYes) (by rfl) sc_led_in.nd (pi_tup (pv 1)) (blkOk_by (N := N_led_in) (sc := defScope s_led_in) (by decide +kernel)) (fun _ _ _ _ _ => (pg_name (i := 5) sc_led_in.nd rfl (.inl rfl))) (fun _ _ _ _ _ => pts_nil) (fun _ _ _ _ _ => (pe_op op_add (pe_op op_mulW (pe_ix (ix_tup : IxR _ (rIxT K)) (pv 5) pe_int (fun _ _ => rfl)) (pv 3)) (pe_op op_mulW (pe_ix (ix_tup : IxR _ (rIxT K)) (pv 5) pe_int (fun _ _ => rfl)) (pv 4))))) pa_nil))) pa_nil))))))), ?_⟩
    have := pr_bd hp
    refine ⟨_, rfl, u, _, rfl, SqT.of hu, rfl, _, _, rfl, _, _, rfl, rfl, ?_⟩
    have bx := hP.bd hp
    have sb : ∀ z ∈ [a, b, c, d], sm z := fun z hz => sm_le (hb z hz) (by decide)
    have sx : sm x := sm_le (n := 101) (show x.natAbs ≤ 101 by omega) (by decide)
    have sy : sm y := sm_le (n := 101) (show y.natAbs ≤ 101 by omega) (by decide)
    refine ⟨_, rfl, _, rfl, _, rfl, t, rfl, ⟨_, SqT.of h0⟩, fun D hD => lc_tup (xs := [.ref r0, .ref r1]) (fun i H2 => H2 = upd H D (.lst (([a * x + b * y, c * x + d * y].take i).map V.int))) rfl (fun i H2 _ hP => ?_) (fun i z H2 hx hP => ?_) (fun H2 hP => ?_)⟩
    · rw [hP]
      exact SqT.of (same_upd0 hD _ _ h0)
    · subst hP
      have s0 := same_upd0 (o := .lst (([a * x + b * y, c * x + d * y].take i).map V.int)) hD
      match i, hx with
      | 0, hx =>
        cases hx
        refine ⟨rfl, _, rfl, r0, _, 0, _, rfl, rfl, SqT.of (s0 _ _ k0), atI_nat (j := 0) rfl, _, rfl, _, _, rfl, rfl, sm_mul (sb a (by simp)) sx, _, rfl, r0, _, 1, _, rfl, rfl, SqT.of (s0 _ _ k0), atI_nat (j := 1) rfl, _, rfl, _, _, rfl, rfl, sm_mul (sb b (by simp)) sy, _, _, rfl, rfl, _, upd_same, (show 0 < sizeLine by decide), ?_⟩
        rw [upd_upd]
        rfl
      | 1, hx =>
        cases hx
        refine ⟨rfl, _, rfl, r1, _, 0, _, rfl, rfl, SqT.of (s0 _ _ k1), atI_nat (j := 0) rfl, _, rfl, _, _, rfl, rfl, sm_mul (sb c (by simp)) sx, _, rfl, r1, _, 1, _, rfl, rfl, SqT.of (s0 _ _ k1), atI_nat (j := 1) rfl, _, rfl, _, _, rfl, rfl, sm_mul (sb d (by simp)) sy, _, _, rfl, rfl, _, upd_same, (show 1 < sizeLine by decide), ?_⟩
        rw [upd_upd]
        rfl
    · subst hP
      refine ⟨p, D, [a * x + b * y, c * x + d * y], rfl, by omega, upd_same, (show 2 ≤ 100 by decide), fun q1 H2 s2 f2 => ?_⟩
      have hb : ∀ z ∈ md p [a * x + b * y, c * x + d * y], 0 ≤ z ∧ z < p := fun z hz => by
        obtain ⟨y, _, rfl⟩ := List.mem_map.mp hz
        exact ⟨Int.emod_nonneg _ (by omega), Int.emod_lt_of_pos _ (by omega)⟩
      exact ⟨q1, _, p, rfl, hp, f2, hb, (show 2 ≤ 100 by decide), fun q2 H3 s3 f3 => q q2 H3 ((same_upd0 hD).trans (s2.trans s3)) f3⟩
def spReqPP : Sp := fun vs H Q _ => ∃ (p : Int) (t : Addr) (x y : Int), vs = [.int p, .ref t] ∧ p ∈ PR ∧ PP p x y ∧ H t = some (tp [x, y]) ∧ ∀ H', Same H H' → Q .non H'
theorem ok_require_prime_point (T : Facts K mg) : FnOk P w K mg base CX0 4 T.f_require_prime_point T.fd_require_prime_point ["prime", "value"] spReqPP := by
  have G_is_prime_point := ok_is_prime_point (P := P) (w := w) (base := base) T
  refine T.F_require_prime_point.ok sc_require_prime_point (fun vs H Q E h => ?_) (fun cdv A outer s H vs Q E hr h => ?_)
  · obtain ⟨p, t, x, y, rfl, _⟩ := h
    rfl
  · obtain ⟨p, t, x, y, rfl, hp, hP, ht, q⟩ := h
    refine ⟨_, (PSs.nox (pss_one (ps_if (pt_not (pt_val (pe_call G_is_prime_point hr (by rfl) T.g_is_prime_point T.F_is_prime_point.kp T.b_is_prime_point .nil pass0 (pa_cons (pv 0) (pa_cons (pv 1) pa_nil)))))
      (pss_one ps_never)
      pss_nil))), ?_⟩
    exact ⟨_, rfl, _, rfl, p, t, x, y, rfl, hp, hP, ht, fun H' s1 => ⟨true, rfl, iteF (q _ s1)⟩⟩
def spLedPt : Sp := fun vs H Q _ => ∃ (p : Int) (t u : Addr) (a b c d x y : Int), vs = [.int p, .ref t, .ref u] ∧ p ∈ PR ∧ Tb H t [a, b] [c, d] ∧ (∀ z ∈ [a, b, c, d], z.natAbs ≤ 10 ^ 45) ∧ ¬ p ∣ a * d - b * c ∧ PP p x y ∧ H u = some (tp [x, y]) ∧ ∀ q H', Same H H' → H' q = some (tp (led p a b c d x y)) → Q (.ref q) H'
theorem ok_led_point (T : Facts K mg) : FnOk P w K mg base CX0 5 T.f_led_point T.fd_led_point ["prime", "table", "point"] spLedPt := by
  have G_require_prime := ok_require_prime (P := P) (w := w) (base := base) T
  have G_require_prime_table := ok_require_prime_table (P := P) (w := w) (base := base) T
  have G_require_prime_point := ok_require_prime_point (P := P) (w := w) (base := base) T
  have G_led_in := ok_led_in (P := P) (w := w) (base := base) T
  refine T.F_led_point.ok sc_led_point (fun vs H Q E h => ?_) (fun cdv A outer s H vs Q E hr h => ?_)
  · obtain ⟨p, t, u, a, b, c, d, x, y, rfl, _⟩ := h
    rfl
  · obtain ⟨p, t, u, a, b, c, d, x, y, rfl, hp, hT, hb, hd, hP, hu, q⟩ := h
    have p1 := pr_bd hp
    refine ⟨_, (PSs.nox (pss_cons (ps_expr (pe_call G_require_prime (hr.mono (by decide)) (by rfl) T.g_require_prime T.F_require_prime.kp T.b_require_prime .nil pass0 (pa_cons (pv 0) pa_nil)))
    (pss_cons (ps_expr (pe_call G_require_prime_table hr (by rfl) T.g_require_prime_table T.F_require_prime_table.kp T.b_require_prime_table .nil pass0 (pa_cons (pv 0) (pa_cons (pv 1) pa_nil))))
    (pss_cons (ps_expr (pe_call G_require_prime_point hr (by rfl) T.g_require_prime_point T.F_require_prime_point.kp T.b_require_prime_point .nil pass0 (pa_cons (pv 0) (pa_cons (pv 2) pa_nil))))
    (pss_one (ps_ret (pe_call G_led_in (hr.mono (by decide)) (by rfl) T.g_led_in T.F_led_in.kp T.b_led_in .nil pass0 (pa_cons (pv 0) (pa_cons (pv 1) (pa_cons (pv 2) pa_nil)))))))))), ?_⟩
    refine ⟨_, rfl, p, rfl, hp, _, rfl, _, rfl, p, t, a, b, c, d, rfl, by omega, hT, hb a (by simp), hb b (by simp), hb c (by simp), hb d (by simp), fun z => hd (Int.dvd_of_emod_eq_zero z), fun H1 s1 => ?_⟩
    exact ⟨_, rfl, _, rfl, p, u, x, y, rfl, hp, hP, s1 _ _ hu, fun H2 s2 => ⟨_, rfl, _, rfl, _, rfl, p, t, u, a, b, c, d, x, y, rfl, hp, (hT.same s1).same s2, hb, hP, s2 _ _ (s1 _ _ hu), fun q1 H3 s3 f3 => q q1 H3 (s1.trans (s2.trans s3)) f3⟩⟩
def spPlainT : Sp := fun vs H Q _ => ∃ (p : Int) (t : Addr) (a b c d : Int), vs = [.int p, .ref t] ∧ p ∈ PR ∧ Tb H t [a, b] [c, d] ∧ (∀ z ∈ [a, b, c, d], z.natAbs ≤ 10 ^ 45) ∧ ¬ p ∣ a * d - b * c ∧ ∀ q H' x y z w, plT p a b c d = [x, y, z, w] → Same H H' → Tb H' q [x, y] [z, w] → Q (.ref q) H'
theorem ok_plain_table (T : Facts K mg) : FnOk P w K mg base CX0 5 T.f_plain_table T.fd_plain_table ["prime", "table"] spPlainT := by
  have G_require_prime := ok_require_prime (P := P) (w := w) (base := base) T
  have G_require_prime_table := ok_require_prime_table (P := P) (w := w) (base := base) T
  have G_plain_table_in := ok_plain_table_in (P := P) (w := w) (base := base) T
  refine T.F_plain_table.ok sc_plain_table (fun vs H Q E h => ?_) (fun cdv A outer s H vs Q E hr h => ?_)
  · obtain ⟨p, t, a, b, c, d, rfl, _⟩ := h
    rfl
  · obtain ⟨p, t, a, b, c, d, rfl, hp, hT, hb, hd, q⟩ := h
    have p1 := pr_bd hp
    refine ⟨_, (PSs.nox (pss_cons (ps_expr (pe_call G_require_prime (hr.mono (by decide)) (by rfl) T.g_require_prime T.F_require_prime.kp T.b_require_prime .nil pass0 (pa_cons (pv 0) pa_nil)))
    (pss_cons (ps_expr (pe_call G_require_prime_table hr (by rfl) T.g_require_prime_table T.F_require_prime_table.kp T.b_require_prime_table .nil pass0 (pa_cons (pv 0) (pa_cons (pv 1) pa_nil))))
    (pss_one (ps_ret (pe_call G_plain_table_in (hr.mono (by decide)) (by rfl) T.g_plain_table_in T.F_plain_table_in.kp T.b_plain_table_in .nil pass0 (pa_cons (pv 0) (pa_cons (pv 1) pa_nil)))))))), ?_⟩
    refine ⟨_, rfl, p, rfl, hp, _, rfl, _, rfl, p, t, a, b, c, d, rfl, by omega, hT, hb a (by simp), hb b (by simp), hb c (by simp), hb d (by simp), fun z => hd (Int.dvd_of_emod_eq_zero z), fun H1 s1 => ?_⟩
    exact ⟨_, rfl, _, rfl, p, t, a, b, c, d, rfl, hp, hT.same s1, hd, fun q1 H2 x y z w e s2 f2 => q q1 H2 x y z w e (s1.trans s2) f2⟩
/-- the points, as rows -/
def pts (p : Nat) : List (List Int) := [0, 1] :: (List.range p).map fun k : Nat => [1, (k : Int)]
abbrev Qs (H : Hp) (qs : List (Addr × List Int)) : Prop := ∀ q ∈ qs, H q.1 = some (tp q.2)
def spPtsIn : Sp := fun vs H Q _ => ∃ (p : Nat), vs = [.int (p : Int)] ∧ p ≤ 101 ∧ ∀ q qs H', Same H H' → H' q = some (.tup (qs.map fun r => V.ref r.1)) → Qs H' qs → qs.map (·.2) = pts p → Q (.ref q) H'
theorem ok_points_in (T : Facts K mg) : FnOk P w K mg base CX0 1 T.f_points_in T.fd_points_in ["prime"] spPtsIn := by
  refine T.F_points_in.ok sc_points_in (fun vs H Q E h => ?_) (fun cdv A outer s H vs Q E hr h => ?_)
  · obtain ⟨p, rfl, _⟩ := h
    rfl
  · obtain ⟨p, rfl, hp, q⟩ := h
    refine ⟨_, (PSs.nox (pss_one (ps_ret (pe_tup (pa_cons (pe_tup (pa_cons pe_int (pa_cons pe_int pa_nil))) (pa_star (pe_lc (own := [("last", 1)]) (g := (gName 1)) (tt := tYes) (by rfl) sc_points_in.nd (pi_range1 (by rfl) T.z_range (pa_cons (pv 0) pa_nil)) (blkOk_by (N := N_points_in) (sc := defScope s_points_in) (by decide +kernel)) (fun _ _ _ _ _ => (pg_name (i := 1) sc_points_in.nd rfl (.inl rfl))) (fun _ _ _ _ _ => pts_nil) (fun _ _ _ _ _ => (pe_tup (pa_cons pe_int (pa_cons (pv 1) pa_nil))))) pa_nil)))))), ?_⟩
    have z2 : 2 ≤ sizeLine := by decide
    refine ⟨z2, fun p1 n1 => gen_upd H p1 (tp [0, 1]) n1 fun H1 s1 f1 => ⟨_, rfl, p, rfl, by omega, by omega, fun D hD => lc_range (n := (p : Int).toNat) (fun j H' => ∃ qs : List (Addr × List Int), Same H1 H' ∧ H' D = some (.lst (qs.map fun r => V.ref r.1)) ∧ Qs H' qs ∧ qs.map (·.2) = (List.range j).map fun k : Nat => [1, (k : Int)]) ⟨[], same_upd0 hD, upd_same, fun q hq => (nomatch hq), rfl⟩ (fun j H' hj hP => ?_) (fun H' hP => ?_)⟩⟩
    · obtain ⟨qs, sH, hL, hq, hm⟩ := hP
      have hj2 : j < p := hj
      have hl : qs.length = j := by
        have := congrArg List.length hm
        rwa [List.length_map, List.length_map, List.length_range] at this
      refine ⟨rfl, _, rfl, z2, fun p2 n2 => gen_upd H' p2 (tp [1, 0 + (j : Int)]) n2 fun H2 s2 f2 => ?_⟩
      have hL2 := s2 _ _ hL
      have ne : ∀ a l, H2 a = some (tp l) → a ≠ D := fun a l e z => by
        rw [z, hL2] at e
        cases e
      refine ⟨_, hL2, by rw [List.length_map, hl]; exact small1000 (by omega), qs ++ [(p2, [1, (j : Int)])], fun b o e => ?_, by rw [upd_same, List.map_append]; rfl, fun r hr => ?_, ?_⟩
      · rw [upd_ne (ne_of_none e hD)]
        exact s2 _ _ (sH _ _ e)
      · rcases List.mem_append.mp hr with e | e
        · have e2 := s2 _ _ (hq r e)
          rw [upd_ne (ne _ _ e2)]
          exact e2
        · rw [List.mem_singleton.mp e]
          show upd H2 D _ p2 = _
          rw [upd_ne (ne _ _ f2), f2, Int.zero_add]
      · rw [List.map_append, hm, List.range_succ, List.map_append]
        rfl
    · obtain ⟨qs, sH, hL, hq, hm⟩ := hP
      have hl : qs.length = p := by
        have := congrArg List.length hm
        rwa [List.length_map, List.length_map, List.length_range] at this
      refine ⟨D, _, rfl, .inr (SqL.of hL), ?_⟩
      dsimp only [tNil]
      rw [List.append_nil]
      refine ⟨by rw [List.length_cons, List.length_map, hl]; exact Nat.le_trans (show p + 1 ≤ 1000 by omega) (by decide), fun p3 n3 => ?_⟩
      have s3 := same_upd0 (o := .tup (V.ref p1 :: qs.map fun r => V.ref r.1)) n3
      refine q p3 ((p1, [0, 1]) :: qs) _ (s1.trans (sH.trans s3)) upd_same (fun r hr => ?_) (by rw [List.map_cons, hm]; rfl)
      rcases List.mem_cons.mp hr with e | e
      · rw [e]
        exact s3 _ _ (sH _ _ f1)
      · exact s3 _ _ (hq r e)
def spAllPts : Sp := fun vs H Q _ => ∃ (p : Nat), vs = [.int (p : Int)] ∧ (p : Int) ∈ PR ∧ ∀ q qs H', Same H H' → H' q = some (.tup (qs.map fun r => V.ref r.1)) → Qs H' qs → qs.map (·.2) = pts p → Q (.ref q) H'
theorem ok_all_points (T : Facts K mg) : FnOk P w K mg base CX0 4 T.f_all_points T.fd_all_points ["prime"] spAllPts := by
  have G_require_prime := ok_require_prime (P := P) (w := w) (base := base) T
  have G_points_in := ok_points_in (P := P) (w := w) (base := base) T
  refine T.F_all_points.ok sc_all_points (fun vs H Q E h => ?_) (fun cdv A outer s H vs Q E hr h => ?_)
  · obtain ⟨p, rfl, _⟩ := h
    rfl
  · obtain ⟨p, rfl, hp, q⟩ := h
    have := pr_bd hp
    refine ⟨_, (PSs.nox (pss_cons (ps_expr (pe_call G_require_prime hr (by rfl) T.g_require_prime T.F_require_prime.kp T.b_require_prime .nil pass0 (pa_cons (pv 0) pa_nil)))
    (pss_one (ps_ret (pe_call G_points_in (hr.mono (by decide)) (by rfl) T.g_points_in T.F_points_in.kp T.b_points_in .nil pass0 (pa_cons (pv 0) pa_nil)))))), ?_⟩
    exact ⟨_, rfl, _, rfl, hp, _, rfl, p, rfl, by omega, q⟩
def spCr : Sp := fun vs H Q _ => ∃ (t u : Addr) (a b c d : Int), vs = [.ref t, .ref u] ∧ H t = some (tp [a, b]) ∧ H u = some (tp [c, d]) ∧ (∀ z ∈ [a, b, c, d], z.natAbs ≤ 101) ∧ Q (.int (cr a b c d)) H
theorem ok_crossed (T : Facts K mg) : FnOk P w K mg base CX0 1 T.f_crossed T.fd_crossed ["one", "other"] spCr := by
  refine T.F_crossed.ok sc_crossed (fun vs H Q E h => ?_) (fun cdv A outer s H vs Q E hr h => ?_)
  · obtain ⟨t, u, a, b, c, d, rfl, _⟩ := h
    rfl
  · obtain ⟨t, u, a, b, c, d, rfl, ht, hu, hb, q⟩ := h
    have sb : ∀ z ∈ [a, b, c, d], sm z := fun z hz => sm_le (hb z hz) (by decide)
    refine ⟨_, (PSs.nox (pss_one (ps_ret (pe_op op_sub (pe_op op_mulW (pe_ix ix_tup (pv 0) pe_int (fun _ _ => rfl)) (pe_ix ix_tup (pv 1) pe_int (fun _ _ => rfl))) (pe_op op_mulW (pe_ix ix_tup (pv 0) pe_int (fun _ _ => rfl)) (pe_ix ix_tup (pv 1) pe_int (fun _ _ => rfl))))))), ?_⟩
    exact ⟨_, rfl, t, _, 0, _, rfl, rfl, SqT.of ht, atI_nat (j := 0) rfl, _, rfl, u, _, 1, _, rfl, rfl, SqT.of hu, atI_nat (j := 1) rfl, _, _, rfl, rfl, sm_mul (sb a (by simp)) (sb d (by simp)), _, rfl, t, _, 1, _, rfl, rfl, SqT.of ht, atI_nat (j := 1) rfl, _, rfl, u, _, 0, _, rfl, rfl, SqT.of hu, atI_nat (j := 0) rfl, _, _, rfl, rfl, sm_mul (sb b (by simp)) (sb c (by simp)), _, _, rfl, rfl, q⟩
/-- a triple of points at a -/
def Tr (H : Hp) (t : Addr) (p : Int) (x1 y1 x2 y2 x3 y3 : Int) : Prop := T3 p x1 y1 x2 y2 x3 y3 ∧ ∃ a b c, H t = some (.tup [.ref a, .ref b, .ref c]) ∧ H a = some (tp [x1, y1]) ∧ H b = some (tp [x2, y2]) ∧ H c = some (tp [x3, y3])
theorem Tr.same {H H' : Hp} {t : Addr} {p x1 y1 x2 y2 x3 y3 : Int} (h : Tr H t p x1 y1 x2 y2 x3 y3) (s : Same H H') : Tr H' t p x1 y1 x2 y2 x3 y3 := by
  obtain ⟨g, a, b, c, h0, h1, h2, h3⟩ := h
  exact ⟨g, a, b, c, s _ _ h0, s _ _ h1, s _ _ h2, s _ _ h3⟩
theorem cr_bd {a b c d : Int} (h : ∀ z ∈ [a, b, c, d], 0 ≤ z ∧ z ≤ 101) : (cr a b c d).natAbs ≤ 20402 := by
  obtain ⟨a0, a1⟩ := h a (by simp)
  obtain ⟨b0, b1⟩ := h b (by simp)
  obtain ⟨c0, c1⟩ := h c (by simp)
  obtain ⟨d0, d1⟩ := h d (by simp)
  have m1 : a * d ≤ 101 * 101 := Int.mul_le_mul a1 d1 d0 (by decide)
  have m2 : b * c ≤ 101 * 101 := Int.mul_le_mul b1 c1 c0 (by decide)
  have m3 := Int.mul_nonneg a0 d0
  have m4 := Int.mul_nonneg b0 c0
  unfold cr
  omega
def spTT : Sp := fun vs H Q _ => ∃ (t : Addr) (p x1 y1 x2 y2 x3 y3 : Int), vs = [.ref t] ∧ p ∈ PR ∧ Tr H t p x1 y1 x2 y2 x3 y3 ∧ ∀ q H', Same H H' → Tb H' q [(tt x1 y1 x2 y2 x3 y3).1, (tt x1 y1 x2 y2 x3 y3).2.1] [(tt x1 y1 x2 y2 x3 y3).2.2.1, (tt x1 y1 x2 y2 x3 y3).2.2.2] → Q (.ref q) H'
theorem ok_table_to_three (T : Facts K mg) : FnOk P w K mg base CX0 2 T.f_table_to_three T.fd_table_to_three ["three"] spTT := by
  have G_crossed := ok_crossed (P := P) (w := w) (base := base) T
  refine T.F_table_to_three.ok sc_table_to_three (fun vs H Q E h => ?_) (fun cdv A outer s H vs Q E hr h => ?_)
  · obtain ⟨t, p, x1, y1, x2, y2, x3, y3, rfl, _⟩ := h
    rfl
  · obtain ⟨t, p, x1, y1, x2, y2, x3, y3, rfl, hp, ⟨g, a, b, c, h0, h1, h2, h3⟩, q⟩ := h
    obtain ⟨b1, b1', b2, b2'⟩ := g.h1.bd hp
    obtain ⟨c1, c1', c2, c2'⟩ := g.h2.bd hp
    obtain ⟨d1, d1', d2, d2'⟩ := g.h3.bd hp
    refine ⟨_, (PSs.nox (pss_cons (ps_asg (pv 0) (pg_tup (by rfl) (pgs_cons (pg_name (i := 1) sc_table_to_three.nd rfl (.inl rfl)) (pgs_cons (pg_name (i := 2) sc_table_to_three.nd rfl (.inl rfl)) (pgs_cons (pg_name (i := 3) sc_table_to_three.nd rfl (.inl rfl)) pgs_nil)))))
    (pss_cons (ps_par (i := 4) (j := 5) (by rfl) sc_table_to_three.nd rfl rfl (by decide) rfl rfl (pa_cons (pe_call G_crossed hr (by rfl) T.g_crossed T.F_crossed.kp T.b_crossed .nil pass0 (pa_cons (pv 3) (pa_cons (pv 2) pa_nil))) (pa_cons (pe_call G_crossed hr (by rfl) T.g_crossed T.F_crossed.kp T.b_crossed .nil pass0 (pa_cons (pv 1) (pa_cons (pv 3) pa_nil))) pa_nil)) (by rfl))
    (pss_one (ps_ret (pe_tup (pa_cons (pe_tup (pa_cons (pe_op op_mulW (pv 4) (pe_ix ix_tup (pv 1) pe_int (fun _ _ => rfl))) (pa_cons (pe_op op_mulW (pv 5) (pe_ix ix_tup (pv 2) pe_int (fun _ _ => rfl))) pa_nil))) (pa_cons (pe_tup (pa_cons (pe_op op_mulW (pv 4) (pe_ix ix_tup (pv 1) pe_int (fun _ _ => rfl))) (pa_cons (pe_op op_mulW (pv 5) (pe_ix ix_tup (pv 2) pe_int (fun _ _ => rfl))) pa_nil))) pa_nil)))))))), ?_⟩
    refine ⟨_, rfl, t, _, rfl, SqT.of h0, rfl, _, _, rfl, _, _, rfl, _, _, rfl, rfl, ?_⟩
    refine ⟨_, rfl, _, rfl, c, b, x3, y3, x2, y2, rfl, h3, h2, ?_, _, rfl, _, rfl, a, c, x1, y1, x3, y3, rfl, h1, h3, ?_, ?_⟩
    · intro z hz
      simp only [List.mem_cons, List.not_mem_nil, or_false] at hz
      rcases hz with rfl | rfl | rfl | rfl <;> omega
    · intro z hz
      simp only [List.mem_cons, List.not_mem_nil, or_false] at hz
      rcases hz with rfl | rfl | rfl | rfl <;> omega
    · have e1 : sm (cr x3 y3 x2 y2) := sm_le (n := 20402) (cr_bd fun z hz => by
        simp only [List.mem_cons, List.not_mem_nil, or_false] at hz
        rcases hz with rfl | rfl | rfl | rfl <;> omega) (by decide)
      have e2 : sm (cr x1 y1 x3 y3) := sm_le (n := 20402) (cr_bd fun z hz => by
        simp only [List.mem_cons, List.not_mem_nil, or_false] at hz
        rcases hz with rfl | rfl | rfl | rfl <;> omega) (by decide)
      have sx : ∀ {z : Int}, 0 ≤ z → z ≤ 101 → sm z := fun {z} i j => sm_le (n := 101) (by omega) (by decide)
      have z2 : 2 ≤ sizeLine := by decide
      refine ⟨_, _, rfl, _, rfl, _, rfl, a, _, 0, _, rfl, rfl, SqT.of h1, atI_nat (j := 0) rfl, _, _, rfl, rfl, sm_mul e1 (sx b1 (by omega)), _, rfl, _, rfl, b, _, 0, _, rfl, rfl, SqT.of h2, atI_nat (j := 0) rfl, _, _, rfl, rfl, sm_mul e2 (sx c1 (by omega)), z2, fun p1 n1 => gen_upd H p1 (tp [cr x3 y3 x2 y2 * x1, cr x1 y1 x3 y3 * x2]) n1 fun H1 s1 f1 => ?_⟩
      refine ⟨_, rfl, _, rfl, a, _, 1, _, rfl, rfl, SqT.of (s1 _ _ h1), atI_nat (j := 1) rfl, _, _, rfl, rfl, sm_mul e1 (sx b2 (by omega)), _, rfl, _, rfl, b, _, 1, _, rfl, rfl, SqT.of (s1 _ _ h2), atI_nat (j := 1) rfl, _, _, rfl, rfl, sm_mul e2 (sx c2 (by omega)), z2, fun p2 n2 => gen_upd H1 p2 (tp [cr x3 y3 x2 y2 * y1, cr x1 y1 x3 y3 * y2]) n2 fun H2 s2 f2 => ?_⟩
      exact ⟨z2, fun p3 n3 => gen_upd H2 p3 (.tup [.ref p1, .ref p2]) n3 fun H3 s3 f3 => q p3 H3 (s1.trans (s2.trans s3)) ⟨p1, p2, f3, s3 _ _ (s2 _ _ f1), s3 _ _ f2⟩⟩
def spProd : Sp := fun vs H Q _ => ∃ (t u : Addr) (a b c d a' b' c' d' : Int), vs = [.ref t, .ref u] ∧ Tb H t [a, b] [c, d] ∧ Tb H u [a', b'] [c', d'] ∧ (∀ z ∈ [a, b, c, d, a', b', c', d'], sm z) ∧ ∀ q H', Same H H' → Tb H' q [a * a' + b * c', a * b' + b * d'] [c * a' + d * c', c * b' + d * d'] → Q (.ref q) H'
theorem ok_product_of_tables (T : Facts K mg) : FnOk P w K mg base CX0 1 T.f_product_of_tables T.fd_product_of_tables ["one", "other"] spProd := by
  refine T.F_product_of_tables.ok sc_product_of_tables (fun vs H Q E h => ?_) (fun cdv A outer s H vs Q E hr h => ?_)
  · obtain ⟨t, u, a, b, c, d, a', b', c', d', rfl, _⟩ := h
    rfl
  · obtain ⟨t, u, a, b, c, d, a', b', c', d', rfl, ⟨r0, r1, h0, h1, h2⟩, ⟨o0, o1, g0, g1, g2⟩, hb, q⟩ := h
    refine ⟨_, (PSs.nox (pss_cons (ps_set (i := 2) sc_product_of_tables.nd rfl (.inr rfl) (ZipL.pe_listZipS (by rfl) (pv 1) (by rfl) T.z_list (by rfl) T.z_zip))
    (pss_one (ps_ret (pe_tupleOf (by rfl) T.z_tuple (pe_lc (own := [("row", 4)]) (g := (gName 4)) (tt := tYes) (by rfl) sc_product_of_tables.nd (pi_tup (pv 0)) (blkOk_by (N := N_product_of_tables) (sc := defScope s_product_of_tables) (by decide +kernel)) (fun _ _ _ _ _ => (pg_name (i := 4) sc_product_of_tables.nd rfl (.inr rfl))) (fun _ _ _ _ _ => pts_nil) (fun _ _ _ _ _ => (pe_tupleOf (by rfl) T.z_tuple (pe_lc (own := [("column", 3)]) (g := (gName 3)) (tt := tYes) (by rfl) sc_product_of_tables.nd (pi_list (pv 2) : PI _ _ _ (iList K _)) (blkOk_by (N := N_product_of_tables) (sc := relS _ (defScope s_product_of_tables)) (by decide +kernel)) (fun _ _ _ _ _ => (pg_name (i := 3) sc_product_of_tables.nd rfl (.inl rfl))) (fun _ _ _ _ _ => pts_nil) (fun _ _ _ _ _ => (pe_op op_add (pe_op op_mulW (pe_ix (ix_tup : IxR _ (rIxT K)) (pv 4) pe_int (fun _ _ => rfl)) (pe_ix (ix_tup : IxR _ (rIxT K)) (pv 3) pe_int (fun _ _ => rfl))) (pe_op op_mulW (pe_ix (ix_tup : IxR _ (rIxT K)) (pv 4) pe_int (fun _ _ => rfl)) (pe_ix (ix_tup : IxR _ (rIxT K)) (pv 3) pe_int (fun _ _ => rfl)))))) : PE _ _ (tThen _ (kTup K)))))))))), ?_⟩
    refine ⟨_, rfl, u, o0, o1, [V.int a', V.int b'], [V.int c', V.int d'], rfl, SqT.of g0, SqT.of g1, SqT.of g2, rfl, (show 2 ≤ 1000 by decide), fun S H0 ts s0 hl hC hS => ?_⟩
    have s0 : Same H H0 := s0
    match ts, hl with
    | [c0, c1], _ =>
      obtain ⟨_, _, e1, e2, k0⟩ := hC 0 c0 rfl
      cases e1
      cases e2
      obtain ⟨_, _, e1, e2, k1⟩ := hC 1 c1 rfl
      cases e1
      cases e2
      refine gen_upd H0 S (.lst [.ref c0, .ref c1]) hS fun H1 s1 f1 => ?_
      have h0' := s1 _ _ (s0 _ _ h0)
      have h1' := s1 _ _ (s0 _ _ h1)
      have h2' := s1 _ _ (s0 _ _ h2)
      have k0' := s1 _ _ k0
      have k1' := s1 _ _ k1
      dsimp only [gName]
      refine ⟨_, rfl, t, rfl, ⟨_, SqT.of h0'⟩, fun D hD => lc_tup (xs := [.ref r0, .ref r1]) (fun i H2 => Same H1 H2 ∧ ∃ qs : List (Addr × List Int), H2 D = some (.lst (qs.map fun r => V.ref r.1)) ∧ Qs H2 qs ∧ qs.map (·.2) = [[a * a' + b * c', a * b' + b * d'], [c * a' + d * c', c * b' + d * d']].take i) ⟨same_upd0 hD, [], upd_same, fun q hq => (nomatch hq), rfl⟩ (fun i H2 _ hP => ?_) (fun i x H2 hx hP => ?_) (fun H2 hP => ?_)⟩
      · exact SqT.of (hP.1 _ _ h0')
      · obtain ⟨sH, qs, hL, hq, hm⟩ := hP
        have hi : i < 2 := (List.getElem?_eq_some_iff.mp hx).1
        obtain ⟨r, z1, z2, rfl, hr, b1, b2, hn⟩ : ∃ r z1 z2, x = .ref r ∧ H1 r = some (tp [z1, z2]) ∧ sm z1 ∧ sm z2 ∧ [[a * a' + b * c', a * b' + b * d'], [c * a' + d * c', c * b' + d * d']].take (i + 1) = [[a * a' + b * c', a * b' + b * d'], [c * a' + d * c', c * b' + d * d']].take i ++ [[z1 * a' + z2 * c', z1 * b' + z2 * d']] := by
          match i, hi, hx with
          | 0, _, hx => cases hx; exact ⟨r0, a, b, rfl, h1', hb a (by simp), hb b (by simp), rfl⟩
          | 1, _, hx => cases hx; exact ⟨r1, c, d, rfl, h2', hb c (by simp), hb d (by simp), rfl⟩
        have hl : qs.length = i := by
          have := congrArg List.length hm
          rw [List.length_map, List.length_take] at this
          simp at this
          omega
        refine ⟨rfl, _, rfl, S, rfl, ⟨_, SqL.of (sH _ _ f1)⟩, fun D2 hD2 => lc_list (xs := [.ref c0, .ref c1]) (fun j H3 => Same H2 H3 ∧ H3 D2 = some (.lst (([z1 * a' + z2 * c', z1 * b' + z2 * d'].take j).map V.int))) ⟨same_upd0 hD2, upd_same⟩ (fun j H3 _ hP => ?_) (fun j y H3 hy hP => ?_) (fun H3 hP => ?_)⟩
        · exact SqL.of (hP.1 _ _ (sH _ _ f1))
        · obtain ⟨s3, hL3⟩ := hP
          have sT := sH.trans s3
          match j, hy with
          | 0, hy =>
            cases hy
            refine ⟨rfl, _, rfl, r, _, 0, _, rfl, rfl, SqT.of (sT _ _ hr), atI_nat (j := 0) rfl, _, rfl, c0, _, 0, _, rfl, rfl, SqT.of (sT _ _ k0'), atI_nat (j := 0) rfl, _, _, rfl, rfl, sm_mul b1 (hb a' (by simp)), _, rfl, r, _, 1, _, rfl, rfl, SqT.of (sT _ _ hr), atI_nat (j := 1) rfl, _, rfl, c0, _, 1, _, rfl, rfl, SqT.of (sT _ _ k0'), atI_nat (j := 1) rfl, _, _, rfl, rfl, sm_mul b2 (hb c' (by simp)), _, _, rfl, rfl, _, hL3, (show 0 < sizeLine by decide), fun b o e => ?_, upd_same⟩
            rw [upd_ne (ne_of_none e hD2)]
            exact s3 _ _ e
          | 1, hy =>
            cases hy
            refine ⟨rfl, _, rfl, r, _, 0, _, rfl, rfl, SqT.of (sT _ _ hr), atI_nat (j := 0) rfl, _, rfl, c1, _, 0, _, rfl, rfl, SqT.of (sT _ _ k1'), atI_nat (j := 0) rfl, _, _, rfl, rfl, sm_mul b1 (hb b' (by simp)), _, rfl, r, _, 1, _, rfl, rfl, SqT.of (sT _ _ hr), atI_nat (j := 1) rfl, _, rfl, c1, _, 1, _, rfl, rfl, SqT.of (sT _ _ k1'), atI_nat (j := 1) rfl, _, _, rfl, rfl, sm_mul b2 (hb d' (by simp)), _, _, rfl, rfl, _, hL3, (show 1 < sizeLine by decide), fun b o e => ?_, upd_same⟩
            rw [upd_ne (ne_of_none e hD2)]
            exact s3 _ _ e
        · obtain ⟨s3, hL3⟩ := hP
          refine .inl ⟨D2, _, rfl, SqL.of hL3, fun p1 n1 => gen_upd H3 p1 (tp [z1 * a' + z2 * c', z1 * b' + z2 * d']) n1 fun H4 s4 f4 => ?_⟩
          have hL4 := s4 _ _ (s3 _ _ hL)
          have ne : ∀ a l, H4 a = some (tp l) → a ≠ D := fun a l e z => by
            rw [z, hL4] at e
            cases e
          refine ⟨_, hL4, by rw [List.length_map, hl]; exact small1000 (by omega), fun b o e => ?_, qs ++ [(p1, [z1 * a' + z2 * c', z1 * b' + z2 * d'])], by rw [upd_same, List.map_append]; rfl, fun w hw => ?_, by rw [List.map_append, hm, hn]; rfl⟩
          · rw [upd_ne (ne_of_none e hD)]
            exact s4 _ _ (s3 _ _ (sH _ _ e))
          · rcases List.mem_append.mp hw with e | e
            · have e2 := s4 _ _ (s3 _ _ (hq w e))
              rw [upd_ne (ne _ _ e2)]
              exact e2
            · rw [List.mem_singleton.mp e]
              show upd H4 D _ p1 = _
              rw [upd_ne (ne _ _ f4), f4]
      · obtain ⟨sH, qs, hL, hq, hm⟩ := hP
        match qs, hm with
        | [(p0, _), (p1, _)], hm =>
          injection hm with e1 hm
          injection hm with e2 _
          dsimp only at e1 e2
          subst e1 e2
          refine .inl ⟨D, _, rfl, SqL.of hL, fun p3 n3 => gen_upd H2 p3 (.tup [.ref p0, .ref p1]) n3 fun H3 s3 f3 => q p3 H3 (s0.trans (s1.trans (sH.trans s3))) ⟨p0, p1, f3, s3 _ _ (hq _ (.head _)), s3 _ _ (hq _ (.tail _ (.head _)))⟩⟩
theorem tt_bd {p x1 y1 x2 y2 x3 y3 : Int} (hp : p ∈ PR) (g : T3 p x1 y1 x2 y2 x3 y3) : (tt x1 y1 x2 y2 x3 y3).1.natAbs ≤ 20402 ∧ (tt x1 y1 x2 y2 x3 y3).2.1.natAbs ≤ 20402 ∧ (tt x1 y1 x2 y2 x3 y3).2.2.1.natAbs ≤ 2060602 ∧ (tt x1 y1 x2 y2 x3 y3).2.2.2.natAbs ≤ 2060602 := by
  obtain ⟨b1, b1', b2, b2'⟩ := g.h1.bd hp
  obtain ⟨c1, c1', c2, c2'⟩ := g.h2.bd hp
  obtain ⟨d1, d1', d2, d2'⟩ := g.h3.bd hp
  have e1 : (cr x3 y3 x2 y2).natAbs ≤ 20402 := cr_bd fun z hz => by
    simp only [List.mem_cons, List.not_mem_nil, or_false] at hz
    rcases hz with rfl | rfl | rfl | rfl <;> omega
  have e2 : (cr x1 y1 x3 y3).natAbs ≤ 20402 := cr_bd fun z hz => by
    simp only [List.mem_cons, List.not_mem_nil, or_false] at hz
    rcases hz with rfl | rfl | rfl | rfl <;> omega
  have mul : ∀ {u v : Int} {k : Nat}, u.natAbs ≤ 20402 → v.natAbs ≤ k → (u * v).natAbs ≤ 20402 * k := fun {u v k} h1 h2 => by
    rw [Int.natAbs_mul]
    exact Nat.mul_le_mul h1 h2
  exact ⟨mul e1 (k := 1) (by omega), mul e2 (k := 1) (by omega), mul e1 (k := 101) (by omega), mul e2 (k := 101) (by omega)⟩
def spBetween : Sp := fun vs H Q _ => ∃ (p : Int) (t u : Addr) (x1 y1 x2 y2 x3 y3 u1 v1 u2 v2 u3 v3 : Int), vs = [.int p, .ref t, .ref u] ∧ p ∈ PR ∧ Tr H t p x1 y1 x2 y2 x3 y3 ∧ Tr H u p u1 v1 u2 v2 u3 v3 ∧
  ∀ q H' a b c d x y z w, bt (tt x1 y1 x2 y2 x3 y3) (tt u1 v1 u2 v2 u3 v3) = (a, b, c, d) → plT p a b c d = [x, y, z, w] → Same H H' → Tb H' q [x, y] [z, w] → Q (.ref q) H'
theorem ok_table_between (T : Facts K mg) : FnOk P w K mg base CX0 4 T.f_table_between T.fd_table_between ["prime", "three", "other"] spBetween := by
  have G_table_to_three := ok_table_to_three (P := P) (w := w) (base := base) T
  have G_product_of_tables := ok_product_of_tables (P := P) (w := w) (base := base) T
  have G_plain_table_in := ok_plain_table_in (P := P) (w := w) (base := base) T
  refine T.F_table_between.ok sc_table_between (fun vs H Q E h => ?_) (fun cdv A outer s H vs Q E hr h => ?_)
  · obtain ⟨p, t, u, x1, y1, x2, y2, x3, y3, u1, v1, u2, v2, u3, v3, rfl, _⟩ := h
    rfl
  · obtain ⟨p, t, u, x1, y1, x2, y2, x3, y3, u1, v1, u2, v2, u3, v3, rfl, hp, h1, h2, q⟩ := h
    refine ⟨_, (PSs.nox (pss_cons (ps_asg (pe_call G_table_to_three (hr.mono (by decide)) (by rfl) T.g_table_to_three T.F_table_to_three.kp T.b_table_to_three .nil pass0 (pa_cons (pv 1) pa_nil)) (pg_tup (by rfl) (pgs_cons (pg_tup (by rfl) (pgs_cons (pg_name (i := 3) sc_table_between.nd rfl (.inl rfl)) (pgs_cons (pg_name (i := 4) sc_table_between.nd rfl (.inl rfl)) pgs_nil))) (pgs_cons (pg_tup (by rfl) (pgs_cons (pg_name (i := 5) sc_table_between.nd rfl (.inl rfl)) (pgs_cons (pg_name (i := 6) sc_table_between.nd rfl (.inl rfl)) pgs_nil))) pgs_nil))))
    (pss_one (ps_ret (pe_call G_plain_table_in hr (by rfl) T.g_plain_table_in T.F_plain_table_in.kp T.b_plain_table_in .nil pass0 (pa_cons (pv 0) (pa_cons (pe_call G_product_of_tables (hr.mono (by decide)) (by rfl) T.g_product_of_tables T.F_product_of_tables.kp T.b_product_of_tables .nil pass0 (pa_cons (pe_call G_table_to_three (hr.mono (by decide)) (by rfl) T.g_table_to_three T.F_table_to_three.kp T.b_table_to_three .nil pass0 (pa_cons (pv 2) pa_nil)) (pa_cons (pe_tup (pa_cons (pe_tup (pa_cons (pv 6) (pa_cons (pe_un un_neg (pv 4)) pa_nil))) (pa_cons (pe_tup (pa_cons (pe_un un_neg (pv 5)) (pa_cons (pv 3) pa_nil))) pa_nil))) pa_nil))) pa_nil))))))), ?_⟩
    obtain ⟨a1, a2, a3, a4⟩ := tt_bd hp h1.1
    obtain ⟨c1, c2, c3, c4⟩ := tt_bd hp h2.1
    refine ⟨_, rfl, t, p, x1, y1, x2, y2, x3, y3, rfl, hp, h1, fun q1 H1 s1 ⟨r0, r1, f0, f1, f2⟩ => ?_⟩
    refine ⟨q1, _, rfl, SqT.of f0, rfl, _, _, rfl, ⟨r0, _, rfl, SqT.of f1, rfl, _, _, rfl, _, _, rfl, rfl, ?_⟩⟩
    refine ⟨_, _, rfl, r1, _, rfl, SqT.of f2, rfl, _, _, rfl, _, _, rfl, rfl, rfl, ?_⟩
    have z2 : 2 ≤ sizeLine := by decide
    refine ⟨_, rfl, _, rfl, u, p, u1, v1, u2, v2, u3, v3, rfl, hp, h2.same s1, fun q2 H2 s2 hB => ?_⟩
    refine ⟨_, rfl, _, rfl, _, rfl, z2, fun p1 n1 => gen_upd H2 p1 (tp [(tt x1 y1 x2 y2 x3 y3).2.2.2, -(tt x1 y1 x2 y2 x3 y3).2.1]) n1 fun H3 s3 f3 => ⟨_, rfl, _, rfl, _, rfl, z2, fun p2 n2 => gen_upd H3 p2 (tp [-(tt x1 y1 x2 y2 x3 y3).2.2.1, (tt x1 y1 x2 y2 x3 y3).1]) n2 fun H4 s4 f4 => ⟨z2, fun p3 n3 => gen_upd H4 p3 (.tup [.ref p1, .ref p2]) n3 fun H5 s5 f5 => ?_⟩⟩⟩
    refine ⟨q2, p3, _, _, _, _, _, _, _, _, rfl, ((hB.same s3).same s4).same s5, ⟨p1, p2, f5, s5 _ _ (s4 _ _ f3), s5 _ _ f4⟩, fun z hz => ?_, fun q6 H6 s6 hT => ?_⟩
    · refine sm_le (n := 2060602) ?_ (by decide)
      simp only [List.mem_cons, List.not_mem_nil, or_false] at hz
      rcases hz with rfl | rfl | rfl | rfl | rfl | rfl | rfl | rfl <;> omega
    · refine ⟨p, q6, _, _, _, _, rfl, hp, hT, bt_det hp h1.1 h2.1, fun q7 H7 x y z w e s7 hR => ?_⟩
      exact q q7 H7 _ _ _ _ x y z w rfl e (s1.trans (s2.trans (s3.trans (s4.trans (s5.trans (s6.trans s7)))))) hR
end
end K50

set_option Elab.async false
set_option linter.all false
set_option maxRecDepth 100000
set_option maxHeartbeats 4000000
namespace K50
open PySem PySem.Spec PyProof.Rows L2 StX RZ MyR SlX OwnR OwnF EnumT
section
variable {P : Program} {w : World} {K : PySem.W.Frag} {mg : Str → Option Value} {base : Heap}
def spIsThree : Sp := fun vs H Q _ => ∃ (t : Addr) (p x1 y1 x2 y2 x3 y3 : Int), vs = [.int p, .ref t] ∧ p ∈ PR ∧ Tr H t p x1 y1 x2 y2 x3 y3 ∧ ∀ H', Same H H' → Q (.bl true) H'
theorem T3.nd {p x1 y1 x2 y2 x3 y3 : Int} (g : T3 p x1 y1 x2 y2 x3 y3) (a b c : Addr) : ([(a, [x1, y1]), (b, [x2, y2]), (c, [x3, y3])].map (·.2) : List (List Int)).Nodup := by
  have e : ∀ {x y u v : Int}, ¬ (x = u ∧ y = v) → [x, y] ≠ [u, v] := fun {x y u v} n z => n (by
    injection z with z1 z2
    injection z2 with z2 _
    exact ⟨z1, z2⟩)
  simp only [List.map_cons, List.map_nil, List.nodup_cons, List.mem_cons, List.not_mem_nil, or_false, not_or, List.nodup_nil, and_true, not_false_eq_true]
  exact ⟨⟨e g.n12, e g.n13⟩, e g.n23⟩
theorem ok_is_three (T : Facts K mg) : FnOk P w K mg base CX0 4 T.f_is_three T.fd_is_three ["prime", "value"] spIsThree := by
  have G_is_prime_point := ok_is_prime_point (P := P) (w := w) (base := base) T
  refine T.F_is_three.ok sc_is_three (fun vs H Q E h => ?_) (fun cdv A outer s H vs Q E hr h => ?_)
  · obtain ⟨t, p, x1, y1, x2, y2, x3, y3, rfl, _⟩ := h
    rfl
  · obtain ⟨t, p, x1, y1, x2, y2, x3, y3, rfl, hp, ⟨g, a, b, c, h0, h1, h2, h3⟩, q⟩ := h
    refine ⟨_, (PSs.nox (pss_cons (ps_if (pw_or (pt_not (pt_val (pe_callB call_isi (by rfl) T.z_isinstance (by decide +kernel) (pa_cons (pv 1) (pa_cons (pe_bltn (v := .ty "tuple") (by rfl) T.z_tuple (by decide +kernel) rfl) pa_nil))))) (pw_or (pt_cmpR op_ne (pe_callB call_len_seq (by rfl) T.z_len (by decide +kernel) (pa_cons (pv 1) pa_nil)) pe_int (nomark _)) (pw_or1 (pt_not (pt_val (pe_callB (cr_all (by rfl)) (by rfl) T.z_all (by decide +kernel) (pa_cons (pe_lc (own := [("one", 2)]) (g := (gName 2)) (tt := tYes) (by rfl) sc_is_three.nd (pi_tup (pv 1)) (blkOk_by (N := N_is_three) (sc := defScope s_is_three) (by decide +kernel)) (fun _ _ _ _ _ => (pg_name (i := 2) sc_is_three.nd rfl (.inl rfl))) (fun _ _ _ _ _ => pts_nil) (fun _ _ _ _ _ => (pe_call G_is_prime_point hr (by rfl) T.g_is_prime_point T.F_is_prime_point.kp T.b_is_prime_point .nil pass0 (pa_cons (pv 0) (pa_cons (pv 2) pa_nil))))) pa_nil))))))).pt
      (pss_one (ps_ret pe_bl))
      pss_nil)
    (pss_one (ps_ret (pe_cmpR op_eq (SetB.pe_lenSetB (by rfl) (hu64 hr) (by rfl) T.z_len (by rfl) T.z_set (pv 1)) pe_int (nomark _)))))), ?_⟩
    refine ⟨_, rfl, .ref t, .ty "tuple", .type "tuple", .type "tuple", true, rfl, .ty "tuple", .base (.tup h0), kit_ty (show kitB "tuple" "tuple" = some true by decide +kernel), true, rfl, iteF ?_⟩
    refine ⟨_, rfl, t, _, rfl, .inr (SqT.of h0), rfl, _, rfl, iteF ?_⟩
    refine ⟨_, rfl, t, rfl, ⟨_, SqT.of h0⟩, fun D hD => lc_tup (xs := [.ref a, .ref b, .ref c]) (fun i H2 => Same H H2 ∧ H2 D = some (.lst (List.replicate i (V.bl true)))) ⟨same_upd0 hD, upd_same⟩ (fun i H2 _ hP => ?_) (fun i z H2 hx hP => ?_) (fun H2 hP => ?_)⟩
    · exact SqT.of (hP.1 _ _ h0)
    · obtain ⟨sH, hL⟩ := hP
      have hi : i < 3 := (List.getElem?_eq_some_iff.mp hx).1
      obtain ⟨r, x, y, rfl, hr, hPP⟩ : ∃ r x y, z = .ref r ∧ H r = some (tp [x, y]) ∧ PP p x y := by
        have hm := List.mem_of_getElem? hx
        simp only [List.mem_cons, List.not_mem_nil, or_false] at hm
        rcases hm with e | e | e <;> rw [e]
        · exact ⟨_, _, _, rfl, h1, g.h1⟩
        · exact ⟨_, _, _, rfl, h2, g.h2⟩
        · exact ⟨_, _, _, rfl, h3, g.h3⟩
      refine ⟨rfl, _, rfl, _, rfl, p, r, x, y, rfl, hp, hPP, sH _ _ hr, fun H3 s3 => ⟨_, s3 _ _ hL, ?_, fun b o e => ?_, ?_⟩⟩
      · rw [List.length_replicate]
        exact small1000 (by omega)
      · rw [upd_ne (ne_of_none e hD)]
        exact s3 _ _ (sH _ _ e)
      · rw [upd_same, List.replicate_succ']
    · obtain ⟨sH, hL⟩ := hP
      refine ⟨D, [true, true, true], rfl, SqL.of hL, true, rfl, iteF ?_⟩
      refine ⟨_, rfl, t, [(a, [x1, y1]), (b, [x2, y2]), (c, [x3, y3])], rfl, .inl (SqT.of (sH _ _ h0)), fun r hr => ?_, (show 3 ≤ 256 by decide), g.nd a b c, rfl, q _ sH⟩
      simp only [List.mem_cons, List.not_mem_nil, or_false] at hr
      rcases hr with e | e | e <;> rw [e]
      · exact SqT.of (sH _ _ h1)
      · exact SqT.of (sH _ _ h2)
      · exact SqT.of (sH _ _ h3)
def spByThree : Sp := fun vs H Q _ => ∃ (p : Int) (t u : Addr) (x1 y1 x2 y2 x3 y3 u1 v1 u2 v2 u3 v3 : Int), vs = [.int p, .ref t, .ref u] ∧ p ∈ PR ∧ Tr H t p x1 y1 x2 y2 x3 y3 ∧ Tr H u p u1 v1 u2 v2 u3 v3 ∧
  ∀ q H' a b c d x y z w, bt (tt x1 y1 x2 y2 x3 y3) (tt u1 v1 u2 v2 u3 v3) = (a, b, c, d) → plT p a b c d = [x, y, z, w] → Same H H' → Tb H' q [x, y] [z, w] → Q (.ref q) H'
theorem ok_table_by_three (T : Facts K mg) : FnOk P w K mg base CX0 5 T.f_table_by_three T.fd_table_by_three ["prime", "three", "other"] spByThree := by
  have G_require_prime := ok_require_prime (P := P) (w := w) (base := base) T
  have G_is_three := ok_is_three (P := P) (w := w) (base := base) T
  have G_table_between := ok_table_between (P := P) (w := w) (base := base) T
  refine T.F_table_by_three.ok sc_table_by_three (fun vs H Q E h => ?_) (fun cdv A outer s H vs Q E hr h => ?_)
  · obtain ⟨p, t, u, x1, y1, x2, y2, x3, y3, u1, v1, u2, v2, u3, v3, rfl, _⟩ := h
    rfl
  · obtain ⟨p, t, u, x1, y1, x2, y2, x3, y3, u1, v1, u2, v2, u3, v3, rfl, hp, h1, h2, q⟩ := h
    refine ⟨_, (PSs.nox (pss_cons (ps_expr (pe_call G_require_prime (hr.mono (by decide)) (by rfl) T.g_require_prime T.F_require_prime.kp T.b_require_prime .nil pass0 (pa_cons (pv 0) pa_nil)))
    (pss_cons (ps_for PassesOwn.never (by rfl) (pi_tup (pe_tup (pa_cons (pv 1) (pa_cons (pv 2) pa_nil)))) (pg_name (i := 3) sc_table_by_three.nd rfl (.inl rfl))
      (pss_one (ps_if (pt_not (pt_val (pe_call G_is_three hr (by rfl) T.g_is_three T.F_is_three.kp T.b_is_three .nil pass0 (pa_cons (pv 0) (pa_cons (pv 3) pa_nil)))))
        (pss_one ps_never)
        pss_nil)))
    (pss_one (ps_ret (pe_call G_table_between hr (by rfl) T.g_table_between T.F_table_between.kp T.b_table_between .nil pass0 (pa_cons (pv 0) (pa_cons (pv 1) (pa_cons (pv 2) pa_nil))))))))), ?_⟩
    refine ⟨_, rfl, p, rfl, hp, _, rfl, _, rfl, (show 2 ≤ sizeLine by decide), fun B nB => gen_upd H B (.tup [.ref t, .ref u]) nB fun H1 s1 f1 => ⟨B, rfl, ⟨_, SqT.of f1⟩, for_tup (xs := [.ref t, .ref u]) (fun i σ H' => ∃ o4, σ = [some (.int p), some (.ref t), some (.ref u), o4] ∧ Same H1 H') ⟨none, rfl, Same.rf _⟩ (fun i σ H' _ hP => ?_) (fun i x σ H' hx hP => ?_) (fun σ H' hP => ?_)⟩⟩
    · obtain ⟨o4, _, sH⟩ := hP
      exact SqT.of (sH _ _ f1)
    · obtain ⟨o4, rfl, sH⟩ := hP
      obtain ⟨r, X1, Y1, X2, Y2, X3, Y3, rfl, hr⟩ : ∃ r X1 Y1 X2 Y2 X3 Y3, x = .ref r ∧ Tr H r p X1 Y1 X2 Y2 X3 Y3 := by
        have hm := List.mem_of_getElem? hx
        simp only [List.mem_cons, List.not_mem_nil, or_false] at hm
        rcases hm with e | e <;> rw [e]
        · exact ⟨_, _, _, _, _, _, _, rfl, h1⟩
        · exact ⟨_, _, _, _, _, _, _, rfl, h2⟩
      exact ⟨_, rfl, _, rfl, r, p, X1, Y1, X2, Y2, X3, Y3, rfl, hp, (hr.same s1).same sH, fun H2 s2 => ⟨true, rfl, iteF ⟨_, rfl, sH.trans s2⟩⟩⟩
    · obtain ⟨o4, rfl, sH⟩ := hP
      exact ⟨_, rfl, _, rfl, _, rfl, p, t, u, x1, y1, x2, y2, x3, y3, u1, v1, u2, v2, u3, v3, rfl, hp, (h1.same s1).same sH, (h2.same s1).same sH, fun q1 H2 a b c d x y z w e1 e2 s2 hT => q q1 H2 a b c d x y z w e1 e2 (s1.trans (sH.trans s2)) hT⟩
/-! ### the law's own -/
theorem map_erase {α β : Type} (f : α → β) : ∀ (l : List α) (r : Nat), (l.map f).eraseIdx r = (l.eraseIdx r).map f
  | [], _ => rfl
  | x :: l, 0 => rfl
  | x :: l, r + 1 => congrArg (f x :: ·) (map_erase f l r)
theorem perm_erase {α : Type} : ∀ (l : List α) (r : Nat) (h : r < l.length), l.Perm (l[r] :: l.eraseIdx r)
  | x :: l, 0, _ => .refl _
  | x :: l, r + 1, h => ((perm_erase l r (Nat.lt_of_succ_lt_succ h)).cons x).trans (.swap _ _ _)
def spMixed : Sp := fun vs H Q _ => ∃ (d b : Addr) (qs : List (Addr × List Int)), vs = [.ref d, .ref b] ∧ Dc H d ∧ H b = some (.lst (qs.map fun r => V.ref r.1)) ∧ b ≠ d ∧ qs.length ≤ 500 ∧
  ∀ q (qs' : List (Addr × List Int)) H', Sx d H H' → Dc H' d → H' q = some (.lst (qs'.map fun r => V.ref r.1)) → qs'.Perm qs → Q (.ref q) H'
theorem ok_law_mixed (T : Facts K mg) : FnOk P w K mg base CX0 2 T.f_law_mixed T.fd_law_mixed ["_law_dice_here", "_law_items"] spMixed := by
  have G_law_roll : FnOk P w K mg base CX0 1 T.f_law_roll T.fd_law_roll ["_law_dice_here", "_law_total"] spRoll2 := (ok_law_roll T).imp roll2
  refine T.F_law_mixed.ok sc_law_mixed (fun vs H Q E h => ?_) (fun cdv A outer s H vs Q E hr h => ?_)
  · obtain ⟨d, b, qs, rfl, _⟩ := h
    rfl
  · obtain ⟨d, b, qs, rfl, hd, hb, nb, hl, q⟩ := h
    refine ⟨_, (PSs.nox (pss_cons (ps_par (i := 2) (j := 3) (by rfl) sc_law_mixed.nd rfl rfl (by decide) rfl rfl (pa_cons (pe_callTy call_list_of (by rfl) T.z_list (by decide +kernel) (pa_cons (pv 1) pa_nil)) (pa_cons (pe_lst pa_nil) pa_nil)) (by rfl))
    (pss_cons (ps_for PassesOwn.never (by rfl) (pi_range1 (by rfl) T.z_range (pa_cons (pe_callB call_len_seq (by rfl) T.z_len (by decide +kernel) (pa_cons (pv 1) pa_nil)) pa_nil)) (pg_name (i := 4) sc_law_mixed.nd rfl (.inl rfl))
      (pss_one (ps_expr (pe_bm PySem.F.plainAttrs_list PySem.F.slot_list_append PySem.F.type_list_append mt_append (pv 3) (pa_cons (pe_bm PySem.F.plainAttrs_list PySem.F.slot_list_pop PySem.F.type_list_pop mt_popAt (pv 2) (pa_cons (pe_call G_law_roll hr (by rfl) T.g_law_roll T.F_law_roll.kp T.b_law_roll .nil pass0 (pa_cons (pv 0) (pa_cons (pe_callB call_len_seq (by rfl) T.z_len (by decide +kernel) (pa_cons (pv 2) pa_nil)) pa_nil))) pa_nil)) pa_nil)))))
    (pss_one (ps_ret (pv 3)))))), ?_⟩
    refine ⟨_, rfl, b, _, rfl, .inl (SqL.of hb), fun l nl => ?_⟩
    dsimp only [tCons, tLst, tNil]
    have s1 : Same H (upd H l (.lst (qs.map fun r => V.ref r.1))) := same_upd0 nl
    have f1 : upd H l (.lst (qs.map fun r => V.ref r.1)) l = some (.lst (qs.map fun r => V.ref r.1)) := upd_same
    generalize upd H l (.lst (qs.map fun r => V.ref r.1)) = H1 at s1 f1 ⊢
    refine ⟨(show 0 ≤ sizeLine from Nat.zero_le _), fun f nf => ?_⟩
    have s2 : Same H1 (upd H1 f (.lst [])) := same_upd0 nf
    have f2 : upd H1 f (.lst []) f = some (.lst []) := upd_same
    generalize upd H1 f (.lst []) = H2 at s2 f2 ⊢
    have nlf : l ≠ f := ne_of_none f1 nf
    have f1' := s2 _ _ f1
    have hb2 := s2 _ _ (s1 _ _ hb)
    have nld : l ≠ d := hd.ne nl
    have nfd : f ≠ d := (hd.same s1).ne nf
    have hd2 := (hd.same s1).same s2
    have s12 : Same H H2 := s1.trans s2
    have nhl : ∀ c o, H c = some o → c ≠ l := fun c o e => ne_of_none e nl
    have nhf : ∀ c o, H c = some o → c ≠ f := fun c o e => ne_of_none (s1 _ _ e) nf
    refine ⟨_, _, rfl, _, rfl, b, _, rfl, .inl (SqL.of hb2), _, rfl, by rw [List.length_map]; omega, by rw [List.length_map]; omega, for_range (n := ((qs.map fun r => V.ref r.1).length : Int).toNat) (fun j σ H' => ∃ (o4 : Option V) (left found : List (Addr × List Int)), σ = [some (.ref d), some (.ref b), some (.ref l), some (.ref f), o4] ∧ Dc H' d ∧ H' l = some (.lst (left.map fun r => V.ref r.1)) ∧ H' f = some (.lst (found.map fun r => V.ref r.1)) ∧ (found ++ left).Perm qs ∧ found.length = j ∧ (∀ c o, c ≠ d → c ≠ l → c ≠ f → H2 c = some o → H' c = some o)) ⟨none, qs, [], rfl, hd2, f1', f2, .refl _, rfl, fun _ _ _ _ _ e => e⟩ (fun j σ H' hj hP => ?_) (fun σ H' hP => ?_)⟩
    · obtain ⟨o4, left, found, rfl, hd3, hL, hF, pm, hl3, hs⟩ := hP
      have hj2 : j < qs.length := by
        rw [List.length_map] at hj
        exact hj
      have hlen : left.length = qs.length - j := by
        have := pm.length_eq
        rw [List.length_append] at this
        omega
      refine ⟨_, rfl, .inl ⟨rfl, _, SqL.of hF⟩, _, rfl, .inl ⟨rfl, _, SqL.of hL⟩, _, rfl, _, rfl, l, _, rfl, .inl (SqL.of hL), d, _, rfl, hd3, ?_, ?_, fun r H4 hr s4 d4 => ?_⟩
      · rw [List.length_map]
        omega
      · rw [List.length_map]
        exact Nat.lt_trans (PySem.Flt.log2_lt_of (k := 10) (by decide) (by show left.length < 2 ^ 10; omega)) (by decide)
      · rw [List.length_map] at hr
        have hr2 : r < left.length := by omega
        have hL4 := s4 _ _ nld hL
        have hF4 := s4 _ _ nfd hF
        refine ⟨l, _, (r : Int), r, .ref left[r].1, rfl, rfl, hL4, by omega, by omega, ?_, by rw [List.getElem?_map, List.getElem?_eq_getElem hr2]; rfl, ?_⟩
        · rw [List.length_map]
          unfold seqIndex?
          simp
          omega
        · have hF5 : upd H4 l (.lst ((left.map fun r => V.ref r.1).eraseIdx r)) f = some (.lst (found.map fun r => V.ref r.1)) := by
            rw [upd_ne (Ne.symm nlf)]
            exact hF4
          refine ⟨f, _, _, rfl, rfl, hF5, by rw [List.length_map]; exact small1000 (by omega), _, left.eraseIdx r, found ++ [left[r]], rfl, ?_, ?_, ?_, ?_, by rw [List.length_append, hl3]; rfl, fun c o n1 n2 n3 e => ?_⟩
          · obtain ⟨x, y, z, e⟩ := d4
            exact ⟨x, y, z, by rw [upd_ne (Ne.symm nfd), upd_ne (Ne.symm nld)]; exact e⟩
          · rw [upd_ne nlf, upd_same, map_erase]
          · rw [upd_same, List.map_append]
            rfl
          · have p1 : left.Perm (left[r] :: left.eraseIdx r) := perm_erase left r hr2
            rw [List.append_assoc]
            exact ((List.Perm.append_left found p1).symm.trans (.refl _)).trans pm
          · rw [upd_ne n3, upd_ne n2]
            exact s4 c o n1 (hs c o n1 n2 n3 e)
    · obtain ⟨o4, left, found, rfl, hd3, hL, hF, pm, hl3, hs⟩ := hP
      have hl4 : found.length = qs.length := by
        rw [List.length_map] at hl3
        exact hl3
      have hlen : left = [] := by
        have := pm.length_eq
        rw [List.length_append] at this
        exact List.eq_nil_of_length_eq_zero (by omega)
      subst hlen
      rw [List.append_nil] at pm
      exact ⟨_, rfl, q f found H' (fun c o nc e => hs c o nc (nhl _ _ e) (nhf _ _ e) (s12 _ _ e)) hd3 hF pm⟩
def spPPt : Sp := fun vs H Q _ => ∃ (d : Addr) (p : Int), vs = [.ref d, .int p] ∧ Dc H d ∧ p ∈ PR ∧ ∀ q x y H', PP p x y → Sx d H H' → Dc H' d → H' q = some (tp [x, y]) → Q (.ref q) H'
theorem ok_law_prime_point (T : Facts K mg) : FnOk P w K mg base CX0 2 T.f_law_prime_point T.fd_law_prime_point ["_law_dice_here", "_law_prime"] spPPt := by
  have G_law_roll : FnOk P w K mg base CX0 1 T.f_law_roll T.fd_law_roll ["_law_dice_here", "_law_total"] spRoll2 := (ok_law_roll T).imp roll2
  refine T.F_law_prime_point.ok sc_law_prime_point (fun vs H Q E h => ?_) (fun cdv A outer s H vs Q E hr h => ?_)
  · obtain ⟨d, p, rfl, _⟩ := h
    rfl
  · obtain ⟨d, p, rfl, hd, hp, q⟩ := h
    have p1 := pr_bd hp
    have z2 : 2 ≤ sizeLine := by decide
    refine ⟨_, (PSs.nox (pss_cons (ps_set (i := 2) sc_law_prime_point.nd rfl (.inl rfl) (pe_call G_law_roll hr (by rfl) T.g_law_roll T.F_law_roll.kp T.b_law_roll .nil pass0 (pa_cons (pv 0) (pa_cons (pe_op op_add (pv 1) pe_int) pa_nil))))
    (pss_one (ps_ret (pe_ifExp (pt_cmpR op_eq (pv 2) (pv 1) (nomark _)) (pe_tup (pa_cons pe_int (pa_cons pe_int pa_nil))) (pe_tup (pa_cons pe_int (pa_cons (pv 2) pa_nil)))))))), ?_⟩
    refine ⟨_, rfl, _, rfl, _, _, rfl, rfl, d, _, rfl, hd, by omega, ?_, fun r H1 hr s1 d1 => ?_⟩
    · exact Nat.lt_trans (PySem.Flt.log2_lt_of (k := 10) (by decide) (by show (p + 1).natAbs < 2 ^ 10; omega)) (by decide)
    · refine ⟨_, rfl, _, rfl, rfl, _, rfl, ?_⟩
      by_cases c : (r : Int) = p
      · rw [decide_eq_true (by rw [c])]
        exact iteT ⟨z2, fun p2 n2 => q p2 0 1 _ (.inl ⟨rfl, rfl⟩) (s1.trans (Sx.of (same_upd0 n2))) (d1.same (same_upd0 n2)) upd_same⟩
      · rw [decide_eq_false fun z => c (V.int.inj z)]
        exact iteF ⟨_, rfl, z2, fun p2 n2 => q p2 1 r _ (.inr ⟨rfl, by omega, by omega⟩) (s1.trans (Sx.of (same_upd0 n2))) (d1.same (same_upd0 n2)) upd_same⟩
def spLedBy : Sp := fun vs H Q _ => ∃ (t u : Addr) (p a b c d x y : Int), vs = [.ref t, .ref u, .int p] ∧ p ∈ PR ∧ Tb H t [a, b] [c, d] ∧ (∀ z ∈ [a, b, c, d], z.natAbs ≤ 10 ^ 45) ∧ PP p x y ∧ H u = some (tp [x, y]) ∧ ∀ q H', Same H H' → H' q = some (tp (led p a b c d x y)) → Q (.ref q) H'
theorem ok_law_led_by (T : Facts K mg) : FnOk P w K mg base CX0 3 T.f_law_led_by T.fd_law_led_by ["_law_table", "_law_point", "_law_prime"] spLedBy := by
  have G_law_first_one := ok_law_first_one (P := P) (w := w) (base := base) T
  refine T.F_law_led_by.ok sc_law_led_by (fun vs H Q E h => ?_) (fun cdv A outer s H vs Q E hr h => ?_)
  · obtain ⟨t, u, p, a, b, c, d, x, y, rfl, _⟩ := h
    rfl
  · obtain ⟨t, u, p, a, b, c, d, x, y, rfl, hp, ⟨r0, r1, h0, k0, k1⟩, hb, hP, hu, q⟩ := h
    have := pr_bd hp
    have bx := hP.bd hp
    have sb : ∀ z ∈ [a, b, c, d], sm z := fun z hz => sm_le (hb z hz) (by decide)
    have nx : x.natAbs ≤ 101 := by omega
    have ny : y.natAbs ≤ 101 := by omega
    have sx : sm x := sm_le nx (by decide)
    have sy : sm y := sm_le ny (by decide)
    refine ⟨_, (PSs.nox (pss_one (ps_ret (pe_call G_law_first_one hr (by rfl) T.g_law_first_one T.F_law_first_one.kp T.b_law_first_one .nil pass0 (pa_cons (pe_lc (own := [("_law_row", 3)]) (g := (gName 3)) (tt := tYes) (by rfl) sc_law_led_by.nd (pi_tup (pv 0)) (blkOk_by (N := N_law_led_by) (sc := defScope s_law_led_by) (by decide +kernel)) (fun _ _ _ _ _ => (pg_name (i := 3) sc_law_led_by.nd rfl (.inl rfl))) (fun _ _ _ _ _ => pts_nil) (fun _ _ _ _ _ => (pe_op op_add (pe_op op_mulW (pe_ix (ix_tup : IxR _ (rIxT K)) (pv 3) pe_int (fun _ _ => rfl)) (pe_ix (ix_tup : IxR _ (rIxT K)) (pv 1) pe_int (fun _ _ => rfl))) (pe_op op_mulW (pe_ix (ix_tup : IxR _ (rIxT K)) (pv 3) pe_int (fun _ _ => rfl)) (pe_ix (ix_tup : IxR _ (rIxT K)) (pv 1) pe_int (fun _ _ => rfl)))))) (pa_cons (pv 2) pa_nil)))))), ?_⟩
    refine ⟨_, rfl, t, rfl, ⟨_, SqT.of h0⟩, fun D hD => lc_tup (xs := [.ref r0, .ref r1]) (fun i H2 => H2 = upd H D (.lst (([a * x + b * y, c * x + d * y].take i).map V.int))) rfl (fun i H2 _ hP => ?_) (fun i z H2 hx hP => ?_) (fun H2 hP => ?_)⟩
    · rw [hP]
      exact SqT.of (same_upd0 hD _ _ h0)
    · subst hP
      have s0 := same_upd0 (o := .lst (([a * x + b * y, c * x + d * y].take i).map V.int)) hD
      have hu' := s0 _ _ hu
      match i, hx with
      | 0, hx =>
        cases hx
        refine ⟨rfl, _, rfl, r0, _, 0, _, rfl, rfl, SqT.of (s0 _ _ k0), atI_nat (j := 0) rfl, _, rfl, u, _, 0, _, rfl, rfl, SqT.of hu', atI_nat (j := 0) rfl, _, _, rfl, rfl, sm_mul (sb a (by simp)) sx, _, rfl, r0, _, 1, _, rfl, rfl, SqT.of (s0 _ _ k0), atI_nat (j := 1) rfl, _, rfl, u, _, 1, _, rfl, rfl, SqT.of hu', atI_nat (j := 1) rfl, _, _, rfl, rfl, sm_mul (sb b (by simp)) sy, _, _, rfl, rfl, _, upd_same, (show 0 < sizeLine by decide), ?_⟩
        rw [upd_upd]
        rfl
      | 1, hx =>
        cases hx
        refine ⟨rfl, _, rfl, r1, _, 0, _, rfl, rfl, SqT.of (s0 _ _ k1), atI_nat (j := 0) rfl, _, rfl, u, _, 0, _, rfl, rfl, SqT.of hu', atI_nat (j := 0) rfl, _, _, rfl, rfl, sm_mul (sb c (by simp)) sx, _, rfl, r1, _, 1, _, rfl, rfl, SqT.of (s0 _ _ k1), atI_nat (j := 1) rfl, _, rfl, u, _, 1, _, rfl, rfl, SqT.of hu', atI_nat (j := 1) rfl, _, _, rfl, rfl, sm_mul (sb d (by simp)) sy, _, _, rfl, rfl, _, upd_same, (show 1 < sizeLine by decide), ?_⟩
        rw [upd_upd]
        rfl
    · subst hP
      have mb : ∀ {u v : Int}, u.natAbs ≤ 10 ^ 45 → v.natAbs ≤ 101 → (u * v).natAbs ≤ 10 ^ 45 * 101 := fun {u v} h1 h2 => by
        rw [Int.natAbs_mul]
        exact Nat.mul_le_mul h1 h2
      have ab : ∀ {u v : Int}, u.natAbs ≤ 10 ^ 45 * 101 → v.natAbs ≤ 10 ^ 45 * 101 → sm (u + v) := fun {u v} h1 h2 => sm_le (n := 10 ^ 45 * 101 + 10 ^ 45 * 101) (Nat.le_trans (Int.natAbs_add_le _ _) (Nat.add_le_add h1 h2)) (by decide)
      refine ⟨_, rfl, D, [a * x + b * y, c * x + d * y], p, rfl, hp, .inr upd_same, fun z hz => ?_, (show 2 ≤ 100 by decide), fun q1 H2 s2 f2 => q q1 H2 ((same_upd0 hD).trans s2) f2⟩
      simp only [List.mem_cons, List.not_mem_nil, or_false] at hz
      rcases hz with rfl | rfl
      · exact ab (mb (hb a (by simp)) nx) (mb (hb b (by simp)) ny)
      · exact ab (mb (hb c (by simp)) nx) (mb (hb d (by simp)) ny)
def spPtsBy : Sp := fun vs H Q _ => ∃ (p : Nat), vs = [.int (p : Int)] ∧ p ≤ 101 ∧ ∀ q qs H', Same H H' → H q = none → H' q = some (.lst (qs.map fun r => V.ref r.1)) → Qs H' qs → qs.map (·.2) = pts p → Q (.ref q) H'
theorem ok_law_points_by (T : Facts K mg) : FnOk P w K mg base CX0 1 T.f_law_points_by T.fd_law_points_by ["_law_prime"] spPtsBy := by
  refine T.F_law_points_by.ok sc_law_points_by (fun vs H Q E h => ?_) (fun cdv A outer s H vs Q E hr h => ?_)
  · obtain ⟨p, rfl, _⟩ := h
    rfl
  · obtain ⟨p, rfl, hp, q⟩ := h
    refine ⟨_, (PSs.nox (pss_one (ps_ret (pe_op op_cat (pe_lst (pa_cons (pe_tup (pa_cons pe_int (pa_cons pe_int pa_nil))) pa_nil)) (pe_lc (own := [("_law_number", 1)]) (g := (gName 1)) (tt := tYes) (by rfl) sc_law_points_by.nd (pi_range1 (by rfl) T.z_range (pa_cons (pv 0) pa_nil)) (blkOk_by (N := N_law_points_by) (sc := defScope s_law_points_by) (by decide +kernel)) (fun _ _ _ _ _ => (pg_name (i := 1) sc_law_points_by.nd rfl (.inl rfl))) (fun _ _ _ _ _ => pts_nil) (fun _ _ _ _ _ => (pe_tup (pa_cons pe_int (pa_cons (pv 1) pa_nil))))))))), ?_⟩
    have z2 : 2 ≤ sizeLine := by decide
    refine ⟨z2, fun p1 n1 => gen_upd H p1 (tp [0, 1]) n1 fun H1 s1 f1 => ⟨(show 1 ≤ sizeLine by decide), fun l nl => ?_⟩⟩
    have s2 : Same H1 (upd H1 l (.lst [.ref p1])) := same_upd0 nl
    have f2 : upd H1 l (.lst [.ref p1]) l = some (.lst [.ref p1]) := upd_same
    generalize upd H1 l (.lst [.ref p1]) = H2 at s2 f2 ⊢
    refine ⟨_, rfl, p, rfl, by omega, by omega, fun D hD => lc_range (n := (p : Int).toNat) (fun j H' => ∃ qs : List (Addr × List Int), Same H2 H' ∧ H' D = some (.lst (qs.map fun r => V.ref r.1)) ∧ Qs H' qs ∧ qs.map (·.2) = (List.range j).map fun k : Nat => [1, (k : Int)]) ⟨[], same_upd0 hD, upd_same, fun q hq => (nomatch hq), rfl⟩ (fun j H' hj hP => ?_) (fun H' hP => ?_)⟩
    · obtain ⟨qs, sH, hL, hq, hm⟩ := hP
      have hj2 : j < p := hj
      have hl : qs.length = j := by
        have := congrArg List.length hm
        rwa [List.length_map, List.length_map, List.length_range] at this
      refine ⟨rfl, _, rfl, z2, fun p2 n2 => gen_upd H' p2 (tp [1, 0 + (j : Int)]) n2 fun H3 s3 f3 => ?_⟩
      have hL3 := s3 _ _ hL
      have ne : ∀ a l, H3 a = some (tp l) → a ≠ D := fun a l e z => by
        rw [z, hL3] at e
        cases e
      refine ⟨_, hL3, by rw [List.length_map, hl]; exact small1000 (by omega), qs ++ [(p2, [1, (j : Int)])], fun b o e => ?_, by rw [upd_same, List.map_append]; rfl, fun r hr => ?_, ?_⟩
      · rw [upd_ne (ne_of_none e hD)]
        exact s3 _ _ (sH _ _ e)
      · rcases List.mem_append.mp hr with e | e
        · have e2 := s3 _ _ (hq r e)
          rw [upd_ne (ne _ _ e2)]
          exact e2
        · rw [List.mem_singleton.mp e]
          show upd H3 D _ p2 = _
          rw [upd_ne (ne _ _ f3), f3, Int.zero_add]
      · rw [List.map_append, hm, List.range_succ, List.map_append]
        rfl
    · obtain ⟨qs, sH, hL, hq, hm⟩ := hP
      have hl : qs.length = p := by
        have := congrArg List.length hm
        rwa [List.length_map, List.length_map, List.length_range] at this
      refine ⟨l, D, _, _, rfl, rfl, sH _ _ f2, hL, by rw [List.length_map, hl]; exact Nat.le_trans (show 1 + p ≤ 1000 by omega) (by decide), fun p3 n3 => ?_⟩
      have s3 := same_upd0 (o := .lst ([V.ref p1] ++ qs.map fun r => V.ref r.1)) n3
      have sT : Same H H' := s1.trans (s2.trans sH)
      refine q p3 ((p1, [0, 1]) :: qs) _ (sT.trans s3) (Same.free sT n3) upd_same (fun r hr => ?_) (by rw [List.map_cons, hm]; rfl)
      rcases List.mem_cons.mp hr with e | e
      · rw [e]
        exact s3 _ _ (sH _ _ (s2 _ _ f1))
      · exact s3 _ _ (hq r e)
end
end K50

set_option Elab.async false
set_option linter.all false
set_option maxRecDepth 100000
set_option maxHeartbeats 4000000
namespace K50
open PySem PySem.Spec PyProof.Rows L2 StX RZ MyR SlX OwnR OwnF EnumT
theorem pts_pp {p : Nat} {l : List Int} (h : l ∈ pts p) : ∃ x y, l = [x, y] ∧ PP p x y := by
  rcases List.mem_cons.mp h with e | e
  · exact ⟨0, 1, e, .inl ⟨rfl, rfl⟩⟩
  · obtain ⟨k, hk, e⟩ := List.mem_map.mp e
    exact ⟨1, k, e.symm, .inr ⟨rfl, by omega, by have := List.mem_range.mp hk; omega⟩⟩
theorem pts_nd (p : Nat) : (pts p).Nodup := by
  refine List.nodup_cons.mpr ⟨fun h => ?_, List.pairwise_map.mpr (List.Pairwise.imp (fun {a b} hne e => hne ?_) List.nodup_range)⟩
  · obtain ⟨k, _, e⟩ := List.mem_map.mp h
    injection e with e _
    cases e
  · injection e with _ e
    injection e with e _
    omega
theorem pts_len (p : Nat) : (pts p).length = p + 1 := by
  unfold pts
  rw [List.length_cons, List.length_map, List.length_range]
section
variable {P : Program} {w : World} {K : PySem.W.Frag} {mg : Str → Option Value} {base : Heap}
theorem ok_law_plain_table (T : Facts K mg) : FnOk P w K mg base CX0 3 T.f_law_plain_table T.fd_law_plain_table ["_law_table", "_law_prime"] (fun vs H Q _ => ∃ (p : Int) (t : Addr) (a b c d : Int), vs = [.ref t, .int p] ∧ p ∈ PR ∧ Tb H t [a, b] [c, d] ∧ (∀ z ∈ [a, b, c, d], z.natAbs ≤ 10 ^ 45) ∧ ¬ p ∣ a * d - b * c ∧ ∀ q H' x y z w, plT p a b c d = [x, y, z, w] → Same H H' → Tb H' q [x, y] [z, w] → Q (.ref q) H') := by
  have G_law_first_one := ok_law_first_one (P := P) (w := w) (base := base) T
  refine T.F_law_plain_table.ok sc_law_plain_table (fun vs H Q E h => ?_) (fun cdv A outer s H vs Q E hr h => ?_)
  · obtain ⟨p, t, a, b, c, d, rfl, _⟩ := h
    rfl
  · obtain ⟨p, t, a, b, c, d, rfl, hp, ⟨r0, r1, h0, k0, k1⟩, hb, hd, q⟩ := h
    refine ⟨_, (PSs.nox (pss_cons (ps_set (i := 2) sc_law_plain_table.nd rfl (.inl rfl) (pe_call G_law_first_one hr (by rfl) T.g_law_first_one T.F_law_first_one.kp T.b_law_first_one .nil pass0 (pa_cons (pe_op op_catA (pe_ix ix_tup (pv 0) pe_int (fun _ _ => rfl)) (pe_ix ix_tup (pv 0) pe_int (fun _ _ => rfl))) (pa_cons (pv 1) pa_nil))))
    (pss_one (ps_ret (pe_tup (pa_cons (pe_slice sl_tupA (pv 2) po_none (po_some pe_int)) (pa_cons (pe_slice sl_tupA (pv 2) (po_some pe_int) po_none) pa_nil))))))), ?_⟩
    refine ⟨_, rfl, t, _, 0, _, rfl, rfl, SqT.of h0, atI_nat (j := 0) rfl, _, rfl, t, _, 1, _, rfl, rfl, SqT.of h0, atI_nat (j := 1) rfl, r0, r1, _, _, rfl, rfl, SqT.of k0, SqT.of k1, (show 4 ≤ sizeLine by decide), fun z => (nomatch z), fun _ z => (nomatch z), fun _ _ B nB => gen_upd H B (tp [a, b, c, d]) nB fun H1 s1 f1 => ?_⟩
    refine ⟨_, rfl, B, [a, b, c, d], p, rfl, hp, .inl f1, fun z hz => sm_le (hb z hz) (by decide), (show 4 ≤ 100 by decide), fun q1 H2 s2 f2 => ?_⟩
    obtain ⟨x, y, z, v, e, _⟩ := plT_pr hp hd
    have e' : plR p (md p [a, b, c, d]) = [x, y, z, v] := e
    rw [e'] at f2
    dsimp only [gName]
    have c1 : cutV ([x, y, z, v].map V.int) none (some 2) = [V.int x, V.int y] := rfl
    have c2 : cutV ([x, y, z, v].map V.int) (some 2) none = [V.int z, V.int v] := rfl
    refine ⟨_, rfl, 2, rfl, q1, _, rfl, SqT.of f2, fun z => absurd z.2 (show ¬ (2 : Nat) = 4 by decide), fun _ p1 n1 => ?_⟩
    rw [c1]
    refine gen_upd H2 p1 (tp [x, y]) n1 fun H3 s3 f3 => ?_
    refine ⟨_, rfl, 2, rfl, q1, _, rfl, SqT.of (s3 _ _ f2), fun z => absurd z.1 (show ¬ (2 : Nat) = 0 by decide), fun _ p2 n2 => ?_⟩
    rw [c2]
    refine gen_upd H3 p2 (tp [z, v]) n2 fun H4 s4 f4 => ?_
    exact ⟨(show 2 ≤ sizeLine by decide), fun p3 n3 => gen_upd H4 p3 (.tup [.ref p1, .ref p2]) n3 fun H5 s5 f5 => q p3 H5 x y z v e (s1.trans (s2.trans (s3.trans (s4.trans s5)))) ⟨p1, p2, f5, s5 _ _ (s4 _ _ f3), s5 _ _ f4⟩⟩
def spThree : Sp := fun vs H Q _ => ∃ (d : Addr) (p : Nat), vs = [.ref d, .int (p : Int)] ∧ Dc H d ∧ (p : Int) ∈ PR ∧ ∀ q x1 y1 x2 y2 x3 y3 H', Sx d H H' → Dc H' d → Tr H' q p x1 y1 x2 y2 x3 y3 → Q (.ref q) H'
theorem ok_law_three (T : Facts K mg) : FnOk P w K mg base CX0 3 T.f_law_three T.fd_law_three ["_law_dice_here", "_law_prime"] spThree := by
  have G_law_mixed := ok_law_mixed (P := P) (w := w) (base := base) T
  have G_law_points_by := ok_law_points_by (P := P) (w := w) (base := base) T
  refine T.F_law_three.ok sc_law_three (fun vs H Q E h => ?_) (fun cdv A outer s H vs Q E hr h => ?_)
  · obtain ⟨d, p, rfl, _⟩ := h
    rfl
  · obtain ⟨d, p, rfl, hd, hp, q⟩ := h
    have p1 := pr_bd hp
    refine ⟨_, (PSs.nox (pss_cons (ps_set (i := 2) sc_law_three.nd rfl (.inl rfl) (pe_call G_law_mixed hr (by rfl) T.g_law_mixed T.F_law_mixed.kp T.b_law_mixed .nil pass0 (pa_cons (pv 0) (pa_cons (pe_call G_law_points_by (hr.mono (by decide)) (by rfl) T.g_law_points_by T.F_law_points_by.kp T.b_law_points_by .nil pass0 (pa_cons (pv 1) pa_nil)) pa_nil))))
    (pss_one (ps_ret (pe_tup (pa_cons (pe_ix ix_list (pv 2) pe_int (fun _ _ => rfl)) (pa_cons (pe_ix ix_list (pv 2) pe_int (fun _ _ => rfl)) (pa_cons (pe_ix ix_list (pv 2) pe_int (fun _ _ => rfl)) pa_nil)))))))), ?_⟩
    refine ⟨_, rfl, _, rfl, p, rfl, by omega, fun b qs H1 s1 nb hb hq hm => ⟨d, b, qs, rfl, hd.same s1, hb, hd.ne nb, ?_, fun r qs' H2 s2 d2 hr pm => ?_⟩⟩
    · have := congrArg List.length hm
      rw [List.length_map, pts_len] at this
      omega
    · have hm2 : (qs'.map (·.2)).Perm (pts p) := by rw [← hm]; exact pm.map _
      have hnd : (qs'.map (·.2)).Nodup := hm2.nodup_iff.mpr (pts_nd p)
      have hl : qs'.length = p + 1 := by
        have := hm2.length_eq
        rwa [List.length_map, pts_len] at this
      have hq2 : Qs H2 qs' := fun z hz => s2 _ _ (dc_ne (hd.same s1) (hq z (pm.mem_iff.mp hz))) (hq z (pm.mem_iff.mp hz))
      have hpp : ∀ z ∈ qs', ∃ x y, z.2 = [x, y] ∧ PP p x y := fun z hz => pts_pp (hm2.mem_iff.mp (List.mem_map.mpr ⟨z, hz, rfl⟩))
      obtain ⟨a1, l1, a2, l2, a3, l3, rest, rfl⟩ : ∃ a1 l1 a2 l2 a3 l3 rest, qs' = (a1, l1) :: (a2, l2) :: (a3, l3) :: rest := by
        match qs', hl with
        | [], hl => exact absurd hl (by simp)
        | [_], hl => exact absurd hl (by simp; omega)
        | [_, _], hl => exact absurd hl (by simp; omega)
        | (a1, l1) :: (a2, l2) :: (a3, l3) :: rest, _ => exact ⟨_, _, _, _, _, _, _, rfl⟩
      · skip
        obtain ⟨x1, y1, e1, g1⟩ := hpp (a1, l1) (.head _)
        obtain ⟨x2, y2, e2, g2⟩ := hpp (a2, l2) (.tail _ (.head _))
        obtain ⟨x3, y3, e3, g3⟩ := hpp (a3, l3) (.tail _ (.tail _ (.head _)))
        dsimp only at e1 e2 e3
        subst e1 e2 e3
        have k1 := hq2 _ (.head _)
        have k2 := hq2 _ (.tail _ (.head _))
        have k3 := hq2 _ (.tail _ (.tail _ (.head _)))
        refine ⟨_, rfl, r, _, 0, _, rfl, rfl, SqL.of hr, atI_nat (j := 0) rfl, _, rfl, r, _, 1, _, rfl, rfl, SqL.of hr, atI_nat (j := 1) rfl, _, rfl, r, _, 2, _, rfl, rfl, SqL.of hr, atI_nat (j := 2) rfl, (show 3 ≤ sizeLine by decide), fun t nt => ?_⟩
        have s3 := same_upd0 (o := .tup [.ref a1, .ref a2, .ref a3]) nt
        rw [List.map_cons, List.map_cons, List.map_cons] at hnd
        obtain ⟨n1, hnd⟩ := List.nodup_cons.mp hnd
        obtain ⟨n2, hnd⟩ := List.nodup_cons.mp hnd
        have ne : ∀ {x y u v : Int}, [x, y] ≠ [u, v] → ¬ (x = u ∧ y = v) := fun h z => h (by rw [z.1, z.2])
        exact q t x1 y1 x2 y2 x3 y3 _ ((Sx.of s1).trans (s2.trans (Sx.of s3))) (d2.same s3) ⟨⟨g1, g2, g3, ne fun z => n1 (by rw [show (a1, [x1, y1]).2 = [x1, y1] from rfl, z]; exact .head _), ne fun z => n1 (by rw [show (a1, [x1, y1]).2 = [x1, y1] from rfl, z]; exact .tail _ (.head _)), ne fun z => n2 (by rw [show (a2, [x2, y2]).2 = [x2, y2] from rfl, z]; exact .head _)⟩, a1, a2, a3, upd_same, s3 _ _ k1, s3 _ _ k2, s3 _ _ k3⟩
def spLeads : Sp := fun vs H Q _ => ∃ (t u v : Addr) (p a b c d x1 y1 x2 y2 x3 y3 u1 v1 u2 v2 u3 v3 : Int), vs = [.ref t, .int p, .ref u, .ref v] ∧ p ∈ PR ∧ Tb H t [a, b] [c, d] ∧ (∀ z ∈ [a, b, c, d], z.natAbs ≤ 10 ^ 45) ∧ Tr H u p x1 y1 x2 y2 x3 y3 ∧ Tr H v p u1 v1 u2 v2 u3 v3 ∧
  ∀ H', Same H H' → Q (.bl (decide (led p a b c d x1 y1 = [u1, v1] ∧ led p a b c d x2 y2 = [u2, v2] ∧ led p a b c d x3 y3 = [u3, v3]))) H'
theorem ok_law_leads_three (T : Facts K mg) : FnOk P w K mg base CX0 4 T.f_law_leads_three T.fd_law_leads_three ["_law_table", "_law_prime", "_law_three_here", "_law_other"] spLeads := by
  have G_law_led_by := ok_law_led_by (P := P) (w := w) (base := base) T
  refine T.F_law_leads_three.ok sc_law_leads_three (fun vs H Q E h => ?_) (fun cdv A outer s H vs Q E hr h => ?_)
  · obtain ⟨t, u, v, p, a, b, c, d, x1, y1, x2, y2, x3, y3, u1, v1, u2, v2, u3, v3, rfl, _⟩ := h
    rfl
  · obtain ⟨t, u, v, p, a, b, c, d, x1, y1, x2, y2, x3, y3, u1, v1, u2, v2, u3, v3, rfl, hp, hT, hb, ⟨g, a1, a2, a3, h0, h1, h2, h3⟩, ⟨g', b1, b2, b3, k0, k1, k2, k3⟩, q⟩ := h
    refine ⟨_, (PSs.nox (pss_one (ps_ret (pe_callB (cr_all (by rfl)) (by rfl) T.z_all (by decide +kernel) (pa_cons (pe_lc (own := [("_law_one", 4), ("_law_goal", 5)]) (g := (gTup K 2 (gCons (gName 4) (gCons (gName 5) gNil)))) (tt := tYes) (by rfl) sc_law_leads_three.nd (pi_zipA (by rfl) T.z_zip (pa_cons (pv 2) (pa_cons (pv 3) pa_nil))) (blkOk_by (N := N_law_leads_three) (sc := defScope s_law_leads_three) (by decide +kernel)) (fun _ _ _ _ _ => (pg_tup (by rfl) (pgs_cons (pg_name (i := 4) sc_law_leads_three.nd rfl (.inl rfl)) (pgs_cons (pg_name (i := 5) sc_law_leads_three.nd rfl (.inl rfl)) pgs_nil)))) (fun _ _ _ _ _ => pts_nil) (fun _ _ _ _ _ => (pe_cmpR (op_eqD (hu64 hr) : OpR _ _ (rEqD K)) (pe_call G_law_led_by hr (by rfl) T.g_law_led_by T.F_law_led_by.kp T.b_law_led_by .nil pass0 (pa_cons (pv 0) (pa_cons (pv 4) (pa_cons (pv 1) pa_nil)))) (pv 5) (nomark _)))) pa_nil))))), ?_⟩
    refine ⟨_, rfl, _, rfl, u, v, _, _, rfl, .inr ⟨SqT.of h0, SqT.of k0, fun D hD => lc_zipT (xs := [.ref a1, .ref a2, .ref a3]) (ys := [.ref b1, .ref b2, .ref b3]) rfl (fun i H2 => Same H H2 ∧ H2 D = some (.lst (([decide (led p a b c d x1 y1 = [u1, v1]), decide (led p a b c d x2 y2 = [u2, v2]), decide (led p a b c d x3 y3 = [u3, v3])].take i).map V.bl))) ⟨same_upd0 hD, upd_same⟩ (fun i H2 _ hP => ⟨SqT.of (hP.1 _ _ h0), SqT.of (hP.1 _ _ k0)⟩) (fun i x y T2 H2 hx hy hP nT => ?_) (fun H2 hP => ?_)⟩⟩
    · obtain ⟨sH, hL⟩ := hP
      have hi : i < 3 := (List.getElem?_eq_some_iff.mp hx).1
      obtain ⟨r, r', X, Y, U, V', rfl, rfl, e1, e2, hPP, hn⟩ : ∃ r r' X Y U V', x = .ref r ∧ y = .ref r' ∧ H r = some (tp [X, Y]) ∧ H r' = some (tp [U, V']) ∧ PP p X Y ∧
          [decide (led p a b c d x1 y1 = [u1, v1]), decide (led p a b c d x2 y2 = [u2, v2]), decide (led p a b c d x3 y3 = [u3, v3])].take (i + 1) = [decide (led p a b c d x1 y1 = [u1, v1]), decide (led p a b c d x2 y2 = [u2, v2]), decide (led p a b c d x3 y3 = [u3, v3])].take i ++ [decide (led p a b c d X Y = [U, V'])] := by
        match i, hi, hx, hy with
        | 0, _, hx, hy => cases hx; cases hy; exact ⟨_, _, _, _, _, _, rfl, rfl, h1, k1, g.h1, rfl⟩
        | 1, _, hx, hy => cases hx; cases hy; exact ⟨_, _, _, _, _, _, rfl, rfl, h2, k2, g.h2, rfl⟩
        | 2, _, hx, hy => cases hx; cases hy; exact ⟨_, _, _, _, _, _, rfl, rfl, h3, k3, g.h3, rfl⟩
      have s1 := same_upd0 (o := .tup [.ref r, .ref r']) nT
      have sT : Same H (upd H2 T2 (.tup [.ref r, .ref r'])) := sH.trans s1
      refine ⟨T2, _, rfl, SqT.of upd_same, rfl, _, _, rfl, _, _, rfl, rfl, ?_⟩
      refine ⟨rfl, _, rfl, _, rfl, _, rfl, t, r, p, a, b, c, d, X, Y, rfl, hp, hT.same sT, hb, hPP, sT _ _ e1, fun q3 H3 s3 f3 => ⟨_, rfl, eq_ints (SqT.of f3) (SqT.of (s3 _ _ (sT _ _ e2))) ⟨_, s3 _ _ (s1 _ _ hL), ?_, fun b o e => ?_, ?_⟩⟩⟩
      · rw [List.length_map, List.length_take]
        exact small1000 (by omega)
      · rw [upd_ne (ne_of_none e hD)]
        exact s3 _ _ (sT _ _ e)
      · rw [upd_same, hn, List.map_append]
        rfl
    · obtain ⟨sH, hL⟩ := hP
      refine ⟨D, [decide (led p a b c d x1 y1 = [u1, v1]), decide (led p a b c d x2 y2 = [u2, v2]), decide (led p a b c d x3 y3 = [u3, v3])], rfl, SqL.of hL, ?_⟩
      have e : [decide (led p a b c d x1 y1 = [u1, v1]), decide (led p a b c d x2 y2 = [u2, v2]), decide (led p a b c d x3 y3 = [u3, v3])].all id = decide (led p a b c d x1 y1 = [u1, v1] ∧ led p a b c d x2 y2 = [u2, v2] ∧ led p a b c d x3 y3 = [u3, v3]) := by
        simp [Bool.decide_and]
      rw [e]
      exact q _ sH
end
end K50

set_option Elab.async false
set_option linter.all false
set_option maxRecDepth 100000
set_option maxHeartbeats 4000000
namespace K50
open PySem PySem.Spec PyProof.Rows L2 StX RZ MyR SlX OwnR OwnF EnumT
theorem p13 : (13 : Int) ∈ PR := by decide
/-- the digits of a place -/
theorem digits (j : Nat) (hj : j < 2197) : ∃ s0 s1 s2 : Int, (((0 + (j : Int)).fdiv 13).fdiv 13) = s0 ∧ ((0 + (j : Int)).fdiv 13) % 13 = s1 ∧ (0 + (j : Int)) % 13 = s2 ∧ 0 ≤ s0 ∧ s0 < 13 ∧ 0 ≤ s1 ∧ s1 < 13 ∧ 0 ≤ s2 ∧ s2 < 13 ∧ (j : Int) = 169 * s0 + 13 * s1 + s2 := by
  rw [Int.fdiv_eq_ediv_of_nonneg _ (by decide), Int.fdiv_eq_ediv_of_nonneg _ (by decide)]
  refine ⟨_, _, _, rfl, rfl, rfl, ?_⟩
  omega
/-- what is found so far at F: the told table, or nothing -/
def Fd (F : Addr) (X Y Z W : Int) (H : Hp) (hit : Prop) : Prop := (hit ∧ ∃ t, H F = some (.lst [.ref t]) ∧ Tb H t [X, Y] [Z, W]) ∨ (¬ hit ∧ H F = some (.lst []))
theorem Tb.at {H H' : Hp} {F t : Addr} {xs : List V} {l m : List Int} (h : Tb H t l m) (hF : H F = some (.lst xs)) (s : Sx F H H') : Tb H' t l m := by
  obtain ⟨r0, r1, h0, h1, h2⟩ := h
  have ne : ∀ c ys, H c = some (.tup ys) → c ≠ F := fun c ys e z => by
    rw [z, hF] at e
    cases e
  exact ⟨r0, r1, s _ _ (ne _ _ h0) h0, s _ _ (ne _ _ h1) h1, s _ _ (ne _ _ h2) h2⟩
theorem Fd.lst {F : Addr} {X Y Z W : Int} {H : Hp} {hit : Prop} (h : Fd F X Y Z W H hit) : ∃ xs, H F = some (.lst xs) := by
  rcases h with ⟨_, t, e, _⟩ | ⟨_, e⟩
  · exact ⟨_, e⟩
  · exact ⟨_, e⟩
theorem Fd.same {F : Addr} {X Y Z W : Int} {H H' : Hp} {hit hit' : Prop} (h : Fd F X Y Z W H hit) (s : Same H H') (e : hit ↔ hit') : Fd F X Y Z W H' hit' := by
  rcases h with ⟨z, t, e1, e2⟩ | ⟨z, e1⟩
  · exact .inl ⟨e.mp z, t, s _ _ e1, e2.same s⟩
  · exact .inr ⟨fun y => z (e.mpr y), s _ _ e1⟩
theorem Fd.app {F t : Addr} {X Y Z W : Int} {H : Hp} {hit hit' : Prop} (h : Fd F X Y Z W H hit) (n : ¬ hit) (y : hit') (hT : Tb H t [X, Y] [Z, W]) : H F = some (.lst []) ∧ Fd F X Y Z W (upd H F (.lst ([] ++ [.ref t]))) hit' := by
  rcases h with ⟨z, _⟩ | ⟨_, e⟩
  · exact absurd z n
  · exact ⟨e, .inl ⟨y, t, upd_same, hT.at e (Sx.upd)⟩⟩
theorem plain1 {f g h : Int} (b1 : 0 ≤ f ∧ f < 13) (b2 : 0 ≤ g ∧ g < 13) (b3 : 0 ≤ h ∧ h < 13) : (∀ z ∈ [1, f, g, h], 0 ≤ z ∧ z < (13 : Int)) ∧ (nz [1, f, g, h]).head? = some 1 := by
  refine ⟨fun z hz => ?_, by simp [nz]⟩
  simp only [List.mem_cons, List.not_mem_nil, or_false] at hz
  rcases hz with rfl | rfl | rfl | rfl <;> omega
theorem plain0 {g h : Int} (b2 : 0 ≤ g ∧ g < 13) (b3 : 0 ≤ h ∧ h < 13) : (∀ z ∈ [0, 1, g, h], 0 ≤ z ∧ z < (13 : Int)) ∧ (nz [0, 1, g, h]).head? = some 1 := by
  refine ⟨fun z hz => ?_, by simp [nz]⟩
  simp only [List.mem_cons, List.not_mem_nil, or_false] at hz
  rcases hz with rfl | rfl | rfl | rfl <;> omega
section
variable {P : Program} {w : World} {K : PySem.W.Frag} {mg : Str → Option Value} {base : Heap}
def spAllB : Sp := fun vs H Q _ => ∃ (u v : Addr) (x1 y1 x2 y2 x3 y3 u1 v1 u2 v2 u3 v3 : Int), vs = [.int 13, .ref u, .ref v] ∧ Tr H u 13 x1 y1 x2 y2 x3 y3 ∧ Tr H v 13 u1 v1 u2 v2 u3 v3 ∧
  ∀ q t H' a b c d x y z w, bt (tt x1 y1 x2 y2 x3 y3) (tt u1 v1 u2 v2 u3 v3) = (a, b, c, d) → plT 13 a b c d = [x, y, z, w] → Same H H' → H' q = some (.lst [.ref t]) → Tb H' t [x, y] [z, w] → Q (.ref q) H'
theorem ok_law_all_between (T : Facts K mg) : FnOk P w K mg base CX0 5 T.f_law_all_between T.fd_law_all_between ["_law_prime", "_law_three_here", "_law_other"] spAllB := by
  have G_law_det := ok_law_det (P := P) (w := w) (base := base) T
  have G_law_leads_three := ok_law_leads_three (P := P) (w := w) (base := base) T
  refine T.F_law_all_between.ok sc_law_all_between (fun vs H Q E h => ?_) (fun cdv A outer s H vs Q E hr h => ?_)
  · obtain ⟨u, v, x1, y1, x2, y2, x3, y3, u1, v1, u2, v2, u3, v3, rfl, _⟩ := h
    rfl
  · obtain ⟨u, v, x1, y1, x2, y2, x3, y3, u1, v1, u2, v2, u3, v3, rfl, h1, h2, q⟩ := h
    refine ⟨_, (PSs.nox (pss_cons (ps_set (i := 3) sc_law_all_between.nd rfl (.inl rfl) (pe_lst pa_nil))
    (pss_cons (ps_for PassesOwn.never (by rfl) (pi_range1 (by rfl) T.z_range (pa_cons (pe_op op_mulW (pe_op op_mulW (pv 0) (pv 0)) (pv 0)) pa_nil)) (pg_name (i := 4) sc_law_all_between.nd rfl (.inl rfl))
      (pss_cons (ps_set (i := 5) sc_law_all_between.nd rfl (.inl rfl) (pe_tup (pa_cons (pe_op op_fdivZ (pe_op op_fdivZ (pe_callTy call_int1 (by rfl) T.z_int (by decide +kernel) (pa_cons (pv 4) pa_nil)) (pv 0)) (pv 0)) (pa_cons (pe_op op_mod (pe_op op_fdivZ (pe_callTy call_int1 (by rfl) T.z_int (by decide +kernel) (pa_cons (pv 4) pa_nil)) (pv 0)) (pv 0)) (pa_cons (pe_op op_mod (pe_callTy call_int1 (by rfl) T.z_int (by decide +kernel) (pa_cons (pv 4) pa_nil)) (pv 0)) pa_nil)))))
      (pss_cons (ps_set (i := 6) sc_law_all_between.nd rfl (.inl rfl) (pe_tup (pa_cons (pe_tup (pa_cons pe_int (pa_cons (pe_ix ix_tup (pv 5) pe_int (fun _ _ => rfl)) pa_nil))) (pa_cons (pe_tup (pa_cons (pe_ix ix_tup (pv 5) pe_int (fun _ _ => rfl)) (pa_cons (pe_ix ix_tup (pv 5) pe_int (fun _ _ => rfl)) pa_nil))) pa_nil))))
      (pss_one (ps_if (pw_and (pt_cmpR op_ne (pe_op op_mod (pe_callTy call_int1 (by rfl) T.z_int (by decide +kernel) (pa_cons (pe_call G_law_det (hr.mono (by decide)) (by rfl) T.g_law_det T.F_law_det.kp T.b_law_det .nil pass0 (pa_cons (pv 6) pa_nil)) pa_nil)) (pv 0)) pe_int (nomark _)) (pw_and1 (pt_val (pe_call G_law_leads_three hr (by rfl) T.g_law_leads_three T.F_law_leads_three.kp T.b_law_leads_three .nil pass0 (pa_cons (pv 6) (pa_cons (pv 0) (pa_cons (pv 1) (pa_cons (pv 2) pa_nil)))))))).pt
        (pss_one (ps_expr (pe_bm PySem.F.plainAttrs_list PySem.F.slot_list_append PySem.F.type_list_append mt_append (pv 3) (pa_cons (pv 6) pa_nil))))
        pss_nil)))))
    (pss_cons (ps_for PassesOwn.never (by rfl) (pi_range1 (by rfl) T.z_range (pa_cons (pv 0) pa_nil)) (pg_name (i := 4) sc_law_all_between.nd rfl (.inl rfl))
      (pss_one (ps_for PassesOwn.never (by rfl) (pi_range2 (by rfl) T.z_range (pa_cons pe_int (pa_cons (pv 0) pa_nil))) (pg_name (i := 7) sc_law_all_between.nd rfl (.inl rfl))
        (pss_cons (ps_set (i := 6) sc_law_all_between.nd rfl (.inl rfl) (pe_tup (pa_cons (pe_tup (pa_cons pe_int (pa_cons pe_int pa_nil))) (pa_cons (pe_tup (pa_cons (pv 7) (pa_cons (pv 4) pa_nil))) pa_nil))))
        (pss_one (ps_if (pt_val (pe_call G_law_leads_three hr (by rfl) T.g_law_leads_three T.F_law_leads_three.kp T.b_law_leads_three .nil pass0 (pa_cons (pv 6) (pa_cons (pv 0) (pa_cons (pv 1) (pa_cons (pv 2) pa_nil))))))
          (pss_one (ps_expr (pe_bm PySem.F.plainAttrs_list PySem.F.slot_list_append PySem.F.type_list_append mt_append (pv 3) (pa_cons (pv 6) pa_nil))))
          pss_nil))))))
    (pss_one (ps_ret (pv 3))))))), ?_⟩
    obtain ⟨a, b, c, d, eB⟩ : ∃ a b c d, bt (tt x1 y1 x2 y2 x3 y3) (tt u1 v1 u2 v2 u3 v3) = (a, b, c, d) := ⟨_, _, _, _, rfl⟩
    have hd := bt_det p13 h1.1 h2.1
    rw [eB] at hd
    dsimp only at hd
    obtain ⟨X, Y, Z, W, eT, hPr⟩ := plT_pr p13 hd
    obtain ⟨l1, l2, l3⟩ := bt_led p13 h1.1 h2.1 eB
    have hdT := det_plT p13 hd hPr
    have m1 := (led_plT p13 hd hPr h1.1.h1).trans l1
    have m2 := (led_plT p13 hd hPr h1.1.h2).trans l2
    have m3 := (led_plT p13 hd hPr h1.1.h3).trans l3
    have bX := hPr.1 X (by simp)
    have bY := hPr.1 Y (by simp)
    have bZ := hPr.1 Z (by simp)
    have bW := hPr.1 W (by simp)
    have kind : X = 1 ∨ (X = 0 ∧ Y = 1 ∧ 1 ≤ Z) := by
      have hn := hPr.2.1
      by_cases c0 : X = 0
      · subst c0
        by_cases c1 : Y = 0
        · subst c1
          exact absurd ⟨0, by grobner⟩ hdT
        · have : (nz [0, Y, Z, W]).head? = some Y := by simp [nz, c1]
          rw [this] at hn
          refine .inr ⟨rfl, Option.some.inj hn, ?_⟩
          by_cases c2 : Z = 0
          · subst c2
            exact absurd ⟨0, by grobner⟩ hdT
          · omega
      · have : (nz [X, Y, Z, W]).head? = some X := by simp [nz, c0]
        rw [this] at hn
        exact .inl (Option.some.inj hn)
    -- a plain table leads so exactly if it is the told one
    have sole : ∀ {e f g h : Int}, (∀ z ∈ [e, f, g, h], 0 ≤ z ∧ z < 13) → (nz [e, f, g, h]).head? = some 1 → ¬ (13 : Int) ∣ e * h - f * g → (led 13 e f g h x1 y1 = [u1, v1] ∧ led 13 e f g h x2 y2 = [u2, v2] ∧ led 13 e f g h x3 y3 = [u3, v3]) → [e, f, g, h] = [X, Y, Z, W] := fun {e f g h} hb hn hdd hl =>
      only p13 h1.1 hPr (pr_self p13 hb hn) hdT hdd m1 m2 m3 hl.1 hl.2.1 hl.2.2
    have nat13 : ∀ {z : Int}, 0 ≤ z → z < 13 → z.natAbs ≤ 10 ^ 45 := fun {z} i j => Nat.le_trans (show z.natAbs ≤ 13 by omega) (by decide)
    refine ⟨(show 0 ≤ sizeLine from Nat.zero_le _), fun F nF => ?_⟩
    have s1 : Same H (upd H F (.lst [])) := same_upd0 nF
    have f1 : upd H F (.lst []) F = some (.lst []) := upd_same
    generalize upd H F (.lst []) = H1 at s1 f1 ⊢
    have sm13 : sm 13 := sm_le (n := 13) (by decide) (by decide)
    have t1 := h1.same s1
    have t2 := h2.same s1
    have z2 : 2 ≤ sizeLine := by decide
    have cd : ∀ i : Int, CDivZ i 13 := fun i => ⟨by decide, by decide⟩
    have sFH : ∀ {H' : Hp}, Sx F H1 H' → Tr H' u 13 x1 y1 x2 y2 x3 y3 ∧ Tr H' v 13 u1 v1 u2 v2 u3 v3 := fun {H'} s => by
      have up : ∀ {t : Addr} {a b c d e f : Int}, Tr H1 t 13 a b c d e f → Tr H' t 13 a b c d e f := fun {t a b c d e f} ⟨g, r1, r2, r3, k0, k1, k2, k3⟩ => by
        have ne : ∀ c ys, H1 c = some (.tup ys) → c ≠ F := fun c ys e z => by
          rw [z, f1] at e
          cases e
        exact ⟨g, r1, r2, r3, s _ _ (ne _ _ k0) k0, s _ _ (ne _ _ k1) k1, s _ _ (ne _ _ k2) k2, s _ _ (ne _ _ k3) k3⟩
      exact ⟨up t1, up t2⟩
    refine ⟨_, rfl, _, rfl, _, _, rfl, rfl, sm_mul sm13 sm13, _, rfl, _, _, rfl, rfl, sm_mul (sm_le (n := 169) (by decide) (by decide)) sm13, _, rfl, by decide, by decide, for_range (n := 2197) (fun j σ H' => ∃ (o4 o5 o6 : Option V), σ = [some (.int 13), some (.ref u), some (.ref v), some (.ref F), o4, o5, o6, none] ∧ Sx F H1 H' ∧ Fd F X Y Z W H' (X = 1 ∧ 169 * Y + 13 * Z + W < j)) ⟨none, none, none, rfl, fun _ _ _ e => e, .inr ⟨fun z => by omega, f1⟩⟩ (fun j σ H' hj hP => ?_) (fun σ H' hP => ?_)⟩
    · obtain ⟨o4, o5, o6, rfl, sF, hF⟩ := hP
      have hj2 : j < 2197 := hj
      obtain ⟨s0, d1, d2, e0, e1, e2, b0, b0', b1, b1', b2, b2', ej⟩ := digits j hj2
      refine ⟨_, rfl, .inl ⟨_, rfl, _, rfl, _, _, rfl, rfl, cd _, _, rfl, _, _, rfl, rfl, cd _, _, rfl, .inl ⟨_, rfl, _, rfl, _, _, rfl, rfl, cd _, _, rfl, _, _, rfl, rfl, (by decide : (0 : Int) < 13), _, rfl, .inl ⟨_, rfl, _, rfl, _, _, rfl, rfl, (by decide : (0 : Int) < 13), (show 3 ≤ sizeLine by decide), fun p1 n1 => ?_⟩⟩⟩⟩
      dsimp only [gName]
      rw [e0, e1, e2]
      have s2 : Same H' (upd H' p1 (.tup [.int s0, .int d1, .int d2])) := same_upd0 n1
      have f2 : upd H' p1 (.tup [.int s0, .int d1, .int d2]) p1 = some (tp [s0, d1, d2]) := upd_same
      generalize upd H' p1 (.tup [.int s0, .int d1, .int d2]) = H2 at s2 f2 ⊢
      refine ⟨_, rfl, p1, _, 0, _, rfl, rfl, SqT.of f2, atI_nat (j := 0) rfl, z2, fun p2 n2 => ?_⟩
      have s3 : Same H2 (upd H2 p2 (.tup [.int 1, .int s0])) := same_upd0 n2
      have f3 : upd H2 p2 (.tup [.int 1, .int s0]) p2 = some (tp [1, s0]) := upd_same
      generalize upd H2 p2 (.tup [.int 1, .int s0]) = H3 at s3 f3 ⊢
      refine ⟨_, rfl, p1, _, 1, _, rfl, rfl, SqT.of (s3 _ _ f2), atI_nat (j := 1) rfl, _, rfl, p1, _, 2, _, rfl, rfl, SqT.of (s3 _ _ f2), atI_nat (j := 2) rfl, z2, fun p3 n3 => ?_⟩
      have s4 : Same H3 (upd H3 p3 (.tup [.int d1, .int d2])) := same_upd0 n3
      have f4 : upd H3 p3 (.tup [.int d1, .int d2]) p3 = some (tp [d1, d2]) := upd_same
      generalize upd H3 p3 (.tup [.int d1, .int d2]) = H4 at s4 f4 ⊢
      refine ⟨z2, fun p4 n4 => ?_⟩
      have s5 : Same H4 (upd H4 p4 (.tup [.ref p2, .ref p3])) := same_upd0 n4
      have f5 : upd H4 p4 (.tup [.ref p2, .ref p3]) p4 = some (.tup [.ref p2, .ref p3]) := upd_same
      generalize upd H4 p4 (.tup [.ref p2, .ref p3]) = H5 at s5 f5 ⊢
      have hT : Tb H5 p4 [1, s0] [d1, d2] := ⟨p2, p3, f5, s5 _ _ (s4 _ _ f3), s5 _ _ f4⟩
      have sT : Same H' H5 := s2.trans (s3.trans (s4.trans s5))
      obtain ⟨pb, pn⟩ := plain1 ⟨b0, b0'⟩ ⟨b1, b1'⟩ ⟨b2, b2'⟩
      refine ⟨_, rfl, p4, 1, s0, d1, d2, rfl, hT, by decide, nat13 b0 b0', nat13 b1 b1', nat13 b2 b2', .inl ⟨_, rfl, _, rfl, _, _, rfl, rfl, (by decide : (0 : Int) < 13), rfl, _, rfl, ?_⟩⟩
      have sF5 : Sx F H1 H5 := sF.trans (Sx.of sT)
      have told : [1, s0, d1, d2] = [X, Y, Z, W] → X = 1 ∧ Y = s0 ∧ Z = d1 ∧ W = d2 := fun e => by
        injection e with a1 e
        injection e with a2 e
        injection e with a3 e
        injection e with a4 _
        exact ⟨a1.symm, a2.symm, a3.symm, a4.symm⟩
      have stay : ¬ (X = 1 ∧ Y = s0 ∧ Z = d1 ∧ W = d2) → ((X = 1 ∧ 169 * Y + 13 * Z + W < (j : Int)) ↔ (X = 1 ∧ 169 * Y + 13 * Z + W < ((j + 1 : Nat) : Int))) := fun n => by
        refine ⟨fun z => ⟨z.1, by omega⟩, fun z => ⟨z.1, ?_⟩⟩
        by_cases c : 169 * Y + 13 * Z + W = (j : Int)
        · exact absurd ⟨z.1, by omega, by omega, by omega⟩ n
        · omega
      by_cases dz : (1 * d2 - s0 * d1) % 13 = 0
      · rw [decide_eq_true (show V.int ((1 * d2 - s0 * d1) % 13) = V.int 0 by rw [dz])]
        refine iteF ⟨_, _, _, rfl, sF5, hF.same sT (stay fun z => ?_)⟩
        obtain ⟨c1, c2, c3, c4⟩ := z
        subst c1 c2 c3 c4
        exact hdT (Int.dvd_of_emod_eq_zero dz)
      · rw [decide_eq_false fun y => dz (V.int.inj y)]
        refine iteT ⟨_, rfl, _, rfl, _, rfl, _, rfl, p4, u, v, 13, 1, s0, d1, d2, x1, y1, x2, y2, x3, y3, u1, v1, u2, v2, u3, v3, rfl, p13, hT, fun z hz => nat13 (pb z hz).1 (pb z hz).2, (sFH sF5).1, (sFH sF5).2, fun H6 s6 => ?_⟩
        by_cases hl : led 13 1 s0 d1 d2 x1 y1 = [u1, v1] ∧ led 13 1 s0 d1 d2 x2 y2 = [u2, v2] ∧ led 13 1 s0 d1 d2 x3 y3 = [u3, v3]
        · rw [decide_eq_true hl]
          obtain ⟨c1, c2, c3, c4⟩ := told (sole pb pn (fun z => dz (Int.emod_eq_zero_of_dvd z)) hl)
          subst c1 c2 c3 c4
          obtain ⟨g1, g2⟩ := (hF.same (sT.trans s6) (.refl _)).app (t := p4) (hit' := (1 : Int) = 1 ∧ 169 * Y + 13 * Z + W < ((j + 1 : Nat) : Int)) (fun z => by omega) ⟨rfl, by omega⟩ (hT.same s6)
          exact ⟨_, rfl, iteT ⟨_, rfl, .inl ⟨rfl, _, SqL.of g1⟩, _, rfl, F, _, _, rfl, rfl, g1, (show 0 < sizeLine by decide), _, _, _, rfl, (sF5.trans (Sx.of s6)).trans Sx.upd, g2⟩⟩
        · rw [decide_eq_false hl]
          refine ⟨_, rfl, iteF ⟨_, _, _, rfl, sF5.trans (Sx.of s6), hF.same (sT.trans s6) (stay fun z => ?_)⟩⟩
          obtain ⟨c1, c2, c3, c4⟩ := z
          subst c1 c2 c3 c4
          exact hl ⟨m1, m2, m3⟩
    · obtain ⟨o4, o5, o6, rfl, sF, hF⟩ := hP
      have hF : Fd F X Y Z W H' (X = 1) := hF.same (Same.rf _) ⟨fun z => z.1, fun z => ⟨z, by omega⟩⟩
      refine ⟨_, rfl, _, rfl, by decide, by decide, for_range (n := 13) (fun i σ H2 => ∃ (o4 o5 o6 o7 : Option V), σ = [some (.int 13), some (.ref u), some (.ref v), some (.ref F), o4, o5, o6, o7] ∧ Sx F H1 H2 ∧ Fd F X Y Z W H2 (X = 1 ∨ (X = 0 ∧ W < i))) ⟨_, _, _, _, rfl, sF, hF.same (Same.rf _) ⟨.inl, fun z => by omega⟩⟩ (fun i σ H2 hi hP => ?_) (fun σ H2 hP => ?_)⟩
      · obtain ⟨o4, o5, o6, o7, rfl, sF2, hF2⟩ := hP
        have hi2 : i < 13 := hi
        dsimp only [gName]
        refine ⟨_, rfl, 1, 13, rfl, by decide, for_range (n := 12) (fun k σ H3 => ∃ (o6 o7 : Option V), σ = [some (.int 13), some (.ref u), some (.ref v), some (.ref F), some (.int (i : Int)), o5, o6, o7] ∧ Sx F H1 H3 ∧ Fd F X Y Z W H3 (X = 1 ∨ (X = 0 ∧ (W < i ∨ (W = i ∧ Z < 1 + k))))) ⟨_, _, by rw [Int.zero_add]; rfl, sF2, hF2.same (Same.rf _) ⟨fun z => by omega, fun z => by omega⟩⟩ (fun k σ H3 hk hP => ?_) (fun σ H3 hP => ?_)⟩
        · obtain ⟨o6, o7, rfl, sF3, hF3⟩ := hP
          have hk2 : k < 12 := hk
          dsimp only [gName]
          refine ⟨z2, fun p2 n2 => ?_⟩
          have s3 : Same H3 (upd H3 p2 (.tup [.int 0, .int 1])) := same_upd0 n2
          have f3 : upd H3 p2 (.tup [.int 0, .int 1]) p2 = some (tp [0, 1]) := upd_same
          generalize upd H3 p2 (.tup [.int 0, .int 1]) = H4 at s3 f3 ⊢
          refine ⟨_, rfl, _, rfl, z2, fun p3 n3 => ?_⟩
          have s4 : Same H4 (upd H4 p3 (.tup [.int (1 + (k : Int)), .int (i : Int)])) := same_upd0 n3
          have f4 : upd H4 p3 (.tup [.int (1 + (k : Int)), .int (i : Int)]) p3 = some (tp [1 + (k : Int), (i : Int)]) := upd_same
          generalize upd H4 p3 (.tup [.int (1 + (k : Int)), .int (i : Int)]) = H5 at s4 f4 ⊢
          refine ⟨z2, fun p4 n4 => ?_⟩
          have s5 : Same H5 (upd H5 p4 (.tup [.ref p2, .ref p3])) := same_upd0 n4
          have f5 : upd H5 p4 (.tup [.ref p2, .ref p3]) p4 = some (.tup [.ref p2, .ref p3]) := upd_same
          generalize upd H5 p4 (.tup [.ref p2, .ref p3]) = H6 at s5 f5 ⊢
          have hT : Tb H6 p4 [0, 1] [1 + (k : Int), (i : Int)] := ⟨p2, p3, f5, s5 _ _ (s4 _ _ f3), s5 _ _ f4⟩
          have sT : Same H3 H6 := s3.trans (s4.trans s5)
          obtain ⟨pb, pn⟩ := plain0 (g := 1 + (k : Int)) (h := (i : Int)) ⟨by omega, by omega⟩ ⟨by omega, by omega⟩
          have sF6 : Sx F H1 H6 := sF3.trans (Sx.of sT)
          have hdd : ¬ (13 : Int) ∣ 0 * (i : Int) - 1 * (1 + (k : Int)) := fun z => by
            have := not_lt z (by omega) (by omega)
            omega
          refine ⟨_, rfl, _, rfl, _, rfl, _, rfl, p4, u, v, 13, 0, 1, 1 + (k : Int), i, x1, y1, x2, y2, x3, y3, u1, v1, u2, v2, u3, v3, rfl, p13, hT, fun z hz => nat13 (pb z hz).1 (pb z hz).2, (sFH sF6).1, (sFH sF6).2, fun H7 s7 => ?_⟩
          by_cases hl : led 13 0 1 (1 + (k : Int)) i x1 y1 = [u1, v1] ∧ led 13 0 1 (1 + (k : Int)) i x2 y2 = [u2, v2] ∧ led 13 0 1 (1 + (k : Int)) i x3 y3 = [u3, v3]
          · rw [decide_eq_true hl]
            have e := sole pb pn hdd hl
            injection e with c1 e
            injection e with c2 e
            injection e with c3 e
            injection e with c4 _
            subst c1 c2 c3 c4
            obtain ⟨g1, g2⟩ := (hF3.same (sT.trans s7) (.refl _)).app (t := p4) (hit' := (0 : Int) = 1 ∨ ((0 : Int) = 0 ∧ ((i : Int) < i ∨ ((i : Int) = i ∧ 1 + (k : Int) < 1 + ((k + 1 : Nat) : Int))))) (fun z => by omega) (by omega) (hT.same s7)
            exact ⟨_, rfl, iteT ⟨_, rfl, .inl ⟨rfl, _, SqL.of g1⟩, _, rfl, F, _, _, rfl, rfl, g1, (show 0 < sizeLine by decide), _, _, rfl, (sF6.trans (Sx.of s7)).trans Sx.upd, g2⟩⟩
          · rw [decide_eq_false hl]
            refine ⟨_, rfl, iteF ⟨_, _, rfl, sF6.trans (Sx.of s7), hF3.same (sT.trans s7) ⟨fun z => by omega, fun z => ?_⟩⟩⟩
            rcases z with z | ⟨z, z' | ⟨z', z''⟩⟩
            · exact .inl z
            · exact .inr ⟨z, .inl z'⟩
            · by_cases c : Z = 1 + (k : Int)
              · have hY : Y = 1 := by omega
                subst z z' c hY
                exact absurd ⟨m1, m2, m3⟩ hl
              · exact .inr ⟨z, .inr ⟨z', by omega⟩⟩
        · obtain ⟨o6, o7, rfl, sF3, hF3⟩ := hP
          exact ⟨_, _, _, _, rfl, sF3, hF3.same (Same.rf _) ⟨fun z => by omega, fun z => by omega⟩⟩
      · obtain ⟨o4, o5, o6, o7, rfl, sF2, hF2⟩ := hP
        rcases hF2 with ⟨_, t, e1, e2⟩ | ⟨n, _⟩
        · refine ⟨_, rfl, q F t H2 a b c d X Y Z W eB eT (fun c o e => sF2 _ _ (ne_of_none e nF) (s1 _ _ e)) e1 e2⟩
        · exact absurd (by omega) n
end
end K50

set_option Elab.async false
set_option linter.all false
set_option maxRecDepth 100000
set_option maxHeartbeats 4000000
namespace K50
open PySem PySem.Spec PyProof.Rows L2 StX RZ MyR SlX OwnR OwnF EnumT
/-! ### rows as data -/
def TD (ls : List (List Int)) : List PyData := ls.map fun l => .tuple (l.map PyData.int)
theorem lay_td : ∀ ls : List (List Int), PyData.canLayAll0 (TD ls) = true
  | [] => rfl
  | l :: r => by
    show (PyData.canLay0 (.tuple (l.map PyData.int)) && PyData.canLayAll0 (TD r)) = true
    rw [lay_td r, show PyData.canLay0 (.tuple (l.map PyData.int)) = PyData.canLayAll0 (l.map PyData.int) from rfl, lay_ints]
    rfl
theorem depth_td : ∀ ls : List (List Int), PyData.depthAll (TD ls) ≤ 1
  | [] => Nat.zero_le _
  | l :: r => by
    show max (PyData.depth (.tuple (l.map PyData.int))) (PyData.depthAll (TD r)) ≤ 1
    have h := depth_td r
    rw [show PyData.depth (.tuple (l.map PyData.int)) = PyData.depthAll (l.map PyData.int) + 1 from rfl, depth_ints]
    omega
theorem shaped_ltd (ls : List (List Int)) : SeqAt.shaped (.list (TD ls)) = true := by
  unfold SeqAt.shaped
  rw [show PyData.canLay0 (.list (TD ls)) = PyData.canLayAll0 (TD ls) from rfl, lay_td]
  rw [show PyData.depth (.list (TD ls)) = PyData.depthAll (TD ls) + 1 from rfl, decide_eq_true (show PyData.depthAll (TD ls) + 1 ≤ 64 by have := depth_td ls; omega)]
  rfl
theorem shaped_ttd (ls : List (List Int)) : SeqAt.shaped (.tuple (TD ls)) = true := by
  unfold SeqAt.shaped
  rw [show PyData.canLay0 (.tuple (TD ls)) = PyData.canLayAll0 (TD ls) from rfl, lay_td]
  rw [show PyData.depth (.tuple (TD ls)) = PyData.depthAll (TD ls) + 1 from rfl, decide_eq_true (show PyData.depthAll (TD ls) + 1 ≤ 64 by have := depth_td ls; omega)]
  rfl
theorem dpAll_qs {K : PySem.W.Frag} {H : Hp} : ∀ (qs : List (Addr × List Int)), Qs H qs → DpAll K H (qs.map fun q => V.ref q.1) (TD (qs.map (·.2)))
  | [], _ => .nil
  | q :: qs, h => .cons (.tup (SqT.of (h q (.head _))) (dpAll_ints _)) (dpAll_qs qs fun x hx => h x (.tail _ hx))
theorem ne_sameD {K : PySem.W.Frag} {H : Hp} {x y : V} {d : PyData} {Q : VK} (hx : Dp K H x d) (hy : Dp K H y d) (hl : PyData.canLay0 d = true) (hs : SeqAt.shaped d = true) (q : Q (.bl false) H) : rNeD K x y H Q := by
  refine ⟨d, d, hx, hy, hs, hs, ?_⟩
  rw [SeqAt.eqv_refl d hl]
  exact q
theorem eq_sameD {K : PySem.W.Frag} {H : Hp} {x y : V} {d : PyData} {Q : VK} (hx : Dp K H x d) (hy : Dp K H y d) (hl : PyData.canLay0 d = true) (hs : SeqAt.shaped d = true) (q : Q (.bl true) H) : rEqD K x y H Q := by
  refine ⟨d, d, hx, hy, hs, hs, ?_⟩
  rw [SeqAt.eqv_refl d hl]
  exact q
theorem dp_tab {K : PySem.W.Frag} {H : Hp} {t : Addr} {l m : List Int} (h : Tb H t l m) : Dp K H (.ref t) (.tuple (TD [l, m])) := by
  obtain ⟨r0, r1, h0, h1, h2⟩ := h
  exact .tup (SqT.of h0) (.cons (.tup (SqT.of h1) (dpAll_ints _)) (.cons (.tup (SqT.of h2) (dpAll_ints _)) .nil))
theorem ne_tab {K : PySem.W.Frag} {H : Hp} {t u : Addr} {l m : List Int} {Q : VK} (h : Tb H t l m) (g : Tb H u l m) (q : Q (.bl false) H) : rNeD K (.ref t) (.ref u) H Q :=
  ne_sameD (dp_tab h) (dp_tab g) (lay_td [l, m]) (shaped_ttd [l, m]) q
theorem ne_row {K : PySem.W.Frag} {H : Hp} {t u : Addr} {l : List Int} {Q : VK} (h : H t = some (tp l)) (g : H u = some (tp l)) (q : Q (.bl false) H) : rNeD K (.ref t) (.ref u) H Q :=
  ne_sameD (.tup (SqT.of h) (dpAll_ints l)) (.tup (SqT.of g) (dpAll_ints l)) (lay_ints l) (shaped_tints l) q
theorem ne_rows {K : PySem.W.Frag} {H : Hp} {t u : Addr} {qs qs' : List (Addr × List Int)} {Q : VK} (h : H t = some (.lst (qs.map fun r => V.ref r.1))) (hq : Qs H qs) (g : H u = some (.lst (qs'.map fun r => V.ref r.1))) (hq' : Qs H qs') (e : qs.map (·.2) = qs'.map (·.2)) (q : Q (.bl false) H) : rNeD K (.ref t) (.ref u) H Q :=
  ne_sameD (.lst (SqL.of h) (dpAll_qs qs hq)) (.lst (SqL.of g) (by rw [e]; exact dpAll_qs qs' hq')) (lay_td _) (shaped_ltd _) q
theorem Tb.sx {H H' : Hp} {d t : Addr} {l m : List Int} (h : Tb H t l m) (hd : Dc H d) (s : Sx d H H') : Tb H' t l m := by
  obtain ⟨x, y, z, e⟩ := hd
  exact h.at e s
theorem Tr.sx {H H' : Hp} {d t : Addr} {p x1 y1 x2 y2 x3 y3 : Int} (h : Tr H t p x1 y1 x2 y2 x3 y3) (hd : Dc H d) (s : Sx d H H') : Tr H' t p x1 y1 x2 y2 x3 y3 := by
  obtain ⟨g, a, b, c, h0, h1, h2, h3⟩ := h
  exact ⟨g, a, b, c, s _ _ (dc_ne hd h0) h0, s _ _ (dc_ne hd h1) h1, s _ _ (dc_ne hd h2) h2, s _ _ (dc_ne hd h3) h3⟩
theorem st_norm {S : TS} {D : Ends} {σ : L2.St} (σ' : L2.St) {H : Hp} (e : σ = σ') (h : S D σ' H) : S D σ H := e ▸ h
/-- where a table leads a row -/
def ledL (p X Y Z W : Int) (l : List Int) : List Int := led p X Y Z W (l.getD 0 0) (l.getD 1 0)
theorem led_nd {n : Nat} (hp : (n : Int) ∈ PR) {X Y Z W : Int} (hd : ¬ (n : Int) ∣ X * W - Y * Z) : ((pts n).map (ledL n X Y Z W)).Nodup := by
  refine List.pairwise_map.mpr (List.Pairwise.imp_of_mem (fun {l m} hl hm ne e => ne ?_) (pts_nd n))
  obtain ⟨x, y, rfl, h1⟩ := pts_pp hl
  obtain ⟨u, v, rfl, h2⟩ := pts_pp hm
  obtain ⟨i1, i2⟩ := led_inj hp hd h1 h2 e
  rw [i1, i2]
theorem qs_get {qs : List (Addr × List Int)} {i : Nat} {x : V} (h : (qs.map fun q => V.ref q.1)[i]? = some x) : ∃ q, qs[i]? = some q ∧ q ∈ qs ∧ x = .ref q.1 ∧ i < qs.length := by
  rw [List.getElem?_map] at h
  cases e : qs[i]? with
  | none => rw [e] at h; cases h
  | some q =>
    rw [e] at h
    exact ⟨q, rfl, List.mem_of_getElem? e, (Option.some.inj h).symm, (List.getElem?_eq_some_iff.mp e).1⟩
section
variable {P : Program} {w : World} {K : PySem.W.Frag} {mg : Str → Option Value} {base : Heap}
theorem ok_law_right (T : Facts K mg) : FnOk P w K mg base CX0 6 T.f_law_right T.fd_law_right ["_law_dice_here"] spRight := by
  have G_law_roll : FnOk P w K mg base CX0 1 T.f_law_roll T.fd_law_roll ["_law_dice_here", "_law_total"] spRoll2 := (ok_law_roll T).imp roll2
  have G_law_some_prime := ok_law_some_prime (P := P) (w := w) (base := base) T
  have G_law_prime_table := ok_law_prime_table (P := P) (w := w) (base := base) T
  have G_law_prime_point := ok_law_prime_point (P := P) (w := w) (base := base) T
  have G_law_points_by := ok_law_points_by (P := P) (w := w) (base := base) T
  have G_law_plain_table := ok_law_plain_table (P := P) (w := w) (base := base) T
  have G_law_led_by := ok_law_led_by (P := P) (w := w) (base := base) T
  have G_law_joined := ok_law_joined (P := P) (w := w) (base := base) T
  have G_law_three := ok_law_three (P := P) (w := w) (base := base) T
  have G_law_det := ok_law_det (P := P) (w := w) (base := base) T
  have G_all_points := ok_all_points (P := P) (w := w) (base := base) T
  have G_plain_table := ok_plain_table (P := P) (w := w) (base := base) T
  have G_led_point := ok_led_point (P := P) (w := w) (base := base) T
  have G_table_by_three := ok_table_by_three (P := P) (w := w) (base := base) T
  refine T.F_law_right.ok sc_law_right (fun vs H Q E h => ?_) (fun cdv A outer s H vs Q E hr h => ?_)
  · obtain ⟨d, rfl, _⟩ := h
    rfl
  · obtain ⟨d, rfl, hd, q⟩ := h
    refine ⟨_, (PSs.nox (pss_cons (ps_set (i := 1) sc_law_right.nd rfl (.inr rfl) (pe_call G_law_some_prime (hr.mono (by decide)) (by rfl) T.g_law_some_prime T.F_law_some_prime.kp T.b_law_some_prime .nil pass0 (pa_cons (pv 0) pa_nil)))
    (pss_cons (ps_if (pt_cmpR (op_neD (hu64 hr)) (pe_callTy call_list_of (by rfl) T.z_list (by decide +kernel) (pa_cons (pe_call G_all_points (hr.mono (by decide)) (by rfl) T.g_all_points T.F_all_points.kp T.b_all_points .nil pass0 (pa_cons (pv 1) pa_nil)) pa_nil)) (pe_call G_law_points_by (hr.mono (by decide)) (by rfl) T.g_law_points_by T.F_law_points_by.kp T.b_law_points_by .nil pass0 (pa_cons (pv 1) pa_nil)) (nomark _))
      (pss_one (ps_ret pe_bl))
      pss_nil)
    (pss_cons (ps_asg (pe_tup (pa_cons (pe_call G_law_prime_table (hr.mono (by decide)) (by rfl) T.g_law_prime_table T.F_law_prime_table.kp T.b_law_prime_table .nil pass0 (pa_cons (pv 0) (pa_cons (pv 1) pa_nil))) (pa_cons (pe_call G_law_prime_table (hr.mono (by decide)) (by rfl) T.g_law_prime_table T.F_law_prime_table.kp T.b_law_prime_table .nil pass0 (pa_cons (pv 0) (pa_cons (pv 1) pa_nil))) (pa_cons (pe_op op_add pe_int (pe_call G_law_roll (hr.mono (by decide)) (by rfl) T.g_law_roll T.F_law_roll.kp T.b_law_roll .nil pass0 (pa_cons (pv 0) (pa_cons (pe_op op_sub (pv 1) pe_int) pa_nil)))) pa_nil)))) (pg_tup (by rfl) (pgs_cons (pg_name (i := 2) sc_law_right.nd rfl (.inl rfl)) (pgs_cons (pg_name (i := 3) sc_law_right.nd rfl (.inl rfl)) (pgs_cons (pg_name (i := 4) sc_law_right.nd rfl (.inr rfl)) pgs_nil)))))
    (pss_cons (ps_set (i := 5) sc_law_right.nd rfl (.inl rfl) (pe_tupleOf (by rfl) T.z_tuple (pe_lc (own := [("_law_row", 7)]) (g := (gName 7)) (tt := tYes) (by rfl) sc_law_right.nd (pi_tup (pv 2)) (blkOk_by (N := N_law_right) (sc := defScope s_law_right) (by decide +kernel)) (fun _ _ _ _ _ => (pg_name (i := 7) sc_law_right.nd rfl (.inl rfl))) (fun _ _ _ _ _ => pts_nil) (fun _ _ _ _ _ => (pe_tupleOf (by rfl) T.z_tuple (pe_lc (own := [("_law_entry", 6)]) (g := (gName 6)) (tt := tYes) (by rfl) sc_law_right.nd (pi_tup (pv 7) : PI _ _ _ (iTup K _)) (blkOk_by (N := N_law_right) (sc := relS _ (defScope s_law_right)) (by decide +kernel)) (fun _ _ _ _ _ => (pg_name (i := 6) sc_law_right.nd rfl (.inl rfl))) (fun _ _ _ _ _ => pts_nil) (fun _ _ _ _ _ => (pe_op op_mulW (pv 4) (pv 6)))) : PE _ _ (tThen _ (kTup K)))))))
    (pss_cons (ps_if (pw_or (pt_cmpR (op_neD (hu64 hr)) (pe_call G_plain_table hr (by rfl) T.g_plain_table T.F_plain_table.kp T.b_plain_table .nil pass0 (pa_cons (pv 1) (pa_cons (pv 2) pa_nil))) (pe_call G_law_plain_table (hr.mono (by decide)) (by rfl) T.g_law_plain_table T.F_law_plain_table.kp T.b_law_plain_table .nil pass0 (pa_cons (pv 2) (pa_cons (pv 1) pa_nil))) (nomark _)) (pw_or1 (pt_cmpR (op_neD (hu64 hr)) (pe_call G_plain_table hr (by rfl) T.g_plain_table T.F_plain_table.kp T.b_plain_table .nil pass0 (pa_cons (pv 1) (pa_cons (pv 5) pa_nil))) (pe_call G_plain_table hr (by rfl) T.g_plain_table T.F_plain_table.kp T.b_plain_table .nil pass0 (pa_cons (pv 1) (pa_cons (pv 2) pa_nil))) (nomark _)))).pt
      (pss_one (ps_ret pe_bl))
      pss_nil)
    (pss_cons (ps_for PassesOwn.never (by rfl) (pi_range1 (by rfl) T.z_range (pa_cons pe_int pa_nil)) (pg_name (i := 8) sc_law_right.nd rfl (.inl rfl))
      (pss_cons (ps_set (i := 9) sc_law_right.nd rfl (.inl rfl) (pe_call G_law_prime_point (hr.mono (by decide)) (by rfl) T.g_law_prime_point T.F_law_prime_point.kp T.b_law_prime_point .nil pass0 (pa_cons (pv 0) (pa_cons (pv 1) pa_nil))))
      (pss_cons (ps_set (i := 10) sc_law_right.nd rfl (.inr rfl) (pe_call G_led_point hr (by rfl) T.g_led_point T.F_led_point.kp T.b_led_point .nil pass0 (pa_cons (pv 1) (pa_cons (pv 2) (pa_cons (pv 9) pa_nil)))))
      (pss_cons (ps_if (pw_or (pt_cmpR (op_neD (hu64 hr)) (pv 10) (pe_call G_law_led_by (hr.mono (by decide)) (by rfl) T.g_law_led_by T.F_law_led_by.kp T.b_law_led_by .nil pass0 (pa_cons (pv 2) (pa_cons (pv 9) (pa_cons (pv 1) pa_nil)))) (nomark _)) (pw_or1 (pt_cmpR (op_neD (hu64 hr)) (pe_call G_led_point hr (by rfl) T.g_led_point T.F_led_point.kp T.b_led_point .nil pass0 (pa_cons (pv 1) (pa_cons (pv 5) (pa_cons (pv 9) pa_nil)))) (pv 10) (nomark _)))).pt
        (pss_one (ps_ret pe_bl))
        pss_nil)
      (pss_one (ps_if (pt_cmpR (op_neD (hu64 hr)) (pe_call G_led_point hr (by rfl) T.g_led_point T.F_led_point.kp T.b_led_point .nil pass0 (pa_cons (pv 1) (pa_cons (pe_call G_law_joined (hr.mono (by decide)) (by rfl) T.g_law_joined T.F_law_joined.kp T.b_law_joined .nil pass0 (pa_cons (pv 2) (pa_cons (pv 3) pa_nil))) (pa_cons (pv 9) pa_nil)))) (pe_call G_led_point hr (by rfl) T.g_led_point T.F_led_point.kp T.b_led_point .nil pass0 (pa_cons (pv 1) (pa_cons (pv 2) (pa_cons (pe_call G_led_point hr (by rfl) T.g_led_point T.F_led_point.kp T.b_led_point .nil pass0 (pa_cons (pv 1) (pa_cons (pv 3) (pa_cons (pv 9) pa_nil)))) pa_nil)))) (nomark _))
        (pss_one (ps_ret pe_bl))
        pss_nil))))))
    (pss_cons (ps_par (i := 11) (j := 12) (by rfl) sc_law_right.nd rfl rfl (by decide) rfl rfl (pa_cons (pe_call G_law_three (hr.mono (by decide)) (by rfl) T.g_law_three T.F_law_three.kp T.b_law_three .nil pass0 (pa_cons (pv 0) (pa_cons (pv 1) pa_nil))) (pa_cons (pe_call G_law_three (hr.mono (by decide)) (by rfl) T.g_law_three T.F_law_three.kp T.b_law_three .nil pass0 (pa_cons (pv 0) (pa_cons (pv 1) pa_nil))) pa_nil)) (by rfl))
    (pss_cons (ps_set (i := 10) sc_law_right.nd rfl (.inr rfl) (pe_call G_table_by_three hr (by rfl) T.g_table_by_three T.F_table_by_three.kp T.b_table_by_three .nil pass0 (pa_cons (pv 1) (pa_cons (pv 11) (pa_cons (pv 12) pa_nil)))))
    (pss_cons (ps_if (pw_or (pt_cmpR (op_neD (hu64 hr)) (pv 10) (pe_call G_law_plain_table (hr.mono (by decide)) (by rfl) T.g_law_plain_table T.F_law_plain_table.kp T.b_law_plain_table .nil pass0 (pa_cons (pv 10) (pa_cons (pv 1) pa_nil))) (nomark _)) (pw_or1 (pt_cmpR op_eq (pe_op op_mod (pe_callTy call_int1 (by rfl) T.z_int (by decide +kernel) (pa_cons (pe_call G_law_det (hr.mono (by decide)) (by rfl) T.g_law_det T.F_law_det.kp T.b_law_det .nil pass0 (pa_cons (pv 10) pa_nil)) pa_nil)) (pv 1)) pe_int (nomark _)))).pt
      (pss_one (ps_ret pe_bl))
      pss_nil)
    (pss_cons (ps_if (pt_cmpR (op_neD (hu64 hr)) (pe_lc (own := [("_law_point", 9)]) (g := (gName 9)) (tt := tYes) (by rfl) sc_law_right.nd (pi_tup (pv 11)) (blkOk_by (N := N_law_right) (sc := defScope s_law_right) (by decide +kernel)) (fun _ _ _ _ _ => (pg_name (i := 9) sc_law_right.nd rfl (.inl rfl))) (fun _ _ _ _ _ => pts_nil) (fun _ _ _ _ _ => (pe_call G_led_point hr (by rfl) T.g_led_point T.F_led_point.kp T.b_led_point .nil pass0 (pa_cons (pv 1) (pa_cons (pv 10) (pa_cons (pv 9) pa_nil)))))) (pe_callTy call_list_of (by rfl) T.z_list (by decide +kernel) (pa_cons (pv 12) pa_nil)) (nomark _))
      (pss_one (ps_ret pe_bl))
      pss_nil)
    (pss_one (ps_ret (pe_cmpR op_eq (SetB.pe_lenSetB (by rfl) (hu64 hr) (by rfl) T.z_len (by rfl) T.z_set (pe_lc (own := [("_law_point", 9)]) (g := (gName 9)) (tt := tYes) (by rfl) sc_law_right.nd (pi_tup (pe_call G_all_points (hr.mono (by decide)) (by rfl) T.g_all_points T.F_all_points.kp T.b_all_points .nil pass0 (pa_cons (pv 1) pa_nil))) (blkOk_by (N := N_law_right) (sc := defScope s_law_right) (by decide +kernel)) (fun _ _ _ _ _ => (pg_name (i := 9) sc_law_right.nd rfl (.inl rfl))) (fun _ _ _ _ _ => pts_nil) (fun _ _ _ _ _ => (pe_call G_led_point hr (by rfl) T.g_led_point T.F_led_point.kp T.b_led_point .nil pass0 (pa_cons (pv 1) (pa_cons (pv 10) (pa_cons (pv 9) pa_nil))))))) (pe_op op_add (pv 1) pe_int) (nomark _))))))))))))))), ?_⟩
    refine ⟨_, rfl, d, rfl, hd, fun p H1 hp s1 d1 => ?_⟩
    have p1 := pr_bd hp
    obtain ⟨n, rfl⟩ : ∃ n : Nat, p = n := ⟨p.toNat, by omega⟩
    refine ⟨_, rfl, n, rfl, hp, fun q1 qs H2 s2 f2 hq hm => ⟨q1, _, rfl, .inr (SqT.of f2), fun l nl => ?_⟩⟩
    have s3 : Same H2 (upd H2 l (.lst (qs.map fun r => V.ref r.1))) := same_upd0 nl
    have f3 : upd H2 l (.lst (qs.map fun r => V.ref r.1)) l = some (.lst (qs.map fun r => V.ref r.1)) := upd_same
    generalize upd H2 l (.lst (qs.map fun r => V.ref r.1)) = H3 at s3 f3 ⊢
    refine ⟨_, rfl, n, rfl, by omega, fun q2 qs2 H4 s4 _ f4 hq2 hm2 => ?_⟩
    refine ne_rows (s4 _ _ f3) (fun r hr => s4 _ _ (s3 _ _ (hq r hr))) f4 hq2 (hm.trans hm2.symm) ⟨false, rfl, iteF ?_⟩
    have d4 := ((d1.same s2).same s3).same s4
    have sI : Sx d H H4 := s1.trans (Sx.of (s2.trans (s3.trans s4)))
    clear s1 s2 s3 s4 f2 f3 f4 hq hq2 d1
    refine ⟨_, rfl, _, rfl, d, n, rfl, d4, hp, fun t1 H5 a b c e s5 d5 T1 a1 b1 c1 e1 dt1 => ⟨_, rfl, _, rfl, d, n, rfl, d5, hp, fun t2 H6 a' b' c' e' s6 d6 T2 a2 b2 c2 e2 dt2 => ?_⟩⟩
    refine ⟨_, rfl, _, rfl, _, _, rfl, rfl, d, _, rfl, d6, by omega, ?_, fun r H7 hr s7 d7 => ⟨_, _, rfl, rfl, (show 3 ≤ sizeLine by decide), fun p0 n0 => ?_⟩⟩
    · exact Nat.lt_trans (PySem.Flt.log2_lt_of (k := 10) (by decide) (by show ((n : Int) - 1).natAbs < 2 ^ 10; omega)) (by decide)
    have s8 : Same H7 (upd H7 p0 (.tup [.ref t1, .ref t2, .int (1 + (r : Int))])) := same_upd0 n0
    have f8 : upd H7 p0 (.tup [.ref t1, .ref t2, .int (1 + (r : Int))]) p0 = some (.tup [.ref t1, .ref t2, .int (1 + (r : Int))]) := upd_same
    dsimp only []
    generalize upd H7 p0 (.tup [.ref t1, .ref t2, .int (1 + (r : Int))]) = H8 at s8 f8 ⊢
    have hr2 : (r : Int) < n - 1 := hr
    have T1 := (((T1.sx d5 s6).sx d6 s7)).same s8
    have T2 := (T2.sx d6 s7).same s8
    have d8 := d7.same s8
    have sI : Sx d H H8 := sI.trans (s5.trans (s6.trans (s7.trans (Sx.of s8))))
    refine ⟨p0, _, rfl, SqT.of f8, rfl, _, _, rfl, _, _, rfl, _, _, rfl, rfl, ?_⟩
    clear s5 s6 s7 s8 d4 d5 d6 d7 n0 f8
    refine st_norm [some (.ref d), some (.int n), some (.ref t1), some (.ref t2), some (.int (1 + (r : Int))), none, none, none, none, none, none, none, none] rfl ?_
    have nd1 : ¬ (n : Int) ∣ a * e - b * c := fun z => dt1 (Int.emod_eq_zero_of_dvd z)
    have nd2 : ¬ (n : Int) ∣ a' * e' - b' * c' := fun z => dt2 (Int.emod_eq_zero_of_dvd z)
    have nf : ¬ (n : Int) ∣ 1 + (r : Int) := fun z => by
      have := not_lt z (by omega) (by omega)
      omega
    obtain ⟨f, hf⟩ : ∃ f : Int, f = 1 + (r : Int) := ⟨_, rfl⟩
    rw [← hf] at nf ⊢
    have fb : f.natAbs ≤ 101 := by omega
    have sf : sm f := sm_le fb (by decide)
    have b20 : ∀ z ∈ [a, b, c, e], z.natAbs ≤ 10 ^ 20 := fun z hz => by
      simp only [List.mem_cons, List.not_mem_nil, or_false] at hz
      rcases hz with rfl | rfl | rfl | rfl <;> assumption
    have b20' : ∀ z ∈ [a', b', c', e'], z.natAbs ≤ 10 ^ 20 := fun z hz => by
      simp only [List.mem_cons, List.not_mem_nil, or_false] at hz
      rcases hz with rfl | rfl | rfl | rfl <;> assumption
    have b45 : ∀ z ∈ [a, b, c, e], z.natAbs ≤ 10 ^ 45 := fun z hz => Nat.le_trans (b20 z hz) (by decide)
    have b45' : ∀ z ∈ [a', b', c', e'], z.natAbs ≤ 10 ^ 45 := fun z hz => Nat.le_trans (b20' z hz) (by decide)
    clear a1 b1 c1 e1 a2 b2 c2 e2 dt1 dt2
    obtain ⟨r0, r1, h0, h1, h2⟩ := id T1
    have sb : ∀ z ∈ [a, b, c, e], sm z := fun z hz => sm_le (b45 z hz) (by decide)
    refine ⟨_, rfl, t1, rfl, ⟨_, SqT.of h0⟩, fun D hD => lc_tup (xs := [.ref r0, .ref r1]) (fun i H2 => Same H8 H2 ∧ ∃ qs : List (Addr × List Int), H2 D = some (.lst (qs.map fun r => V.ref r.1)) ∧ Qs H2 qs ∧ qs.map (·.2) = [[f * a, f * b], [f * c, f * e]].take i) ⟨same_upd0 hD, [], upd_same, fun q hq => (nomatch hq), rfl⟩ (fun i H2 _ hP => ?_) (fun i x H2 hx hP => ?_) (fun H2 hP => ?_)⟩
    · exact SqT.of (hP.1 _ _ h0)
    · obtain ⟨sH, qs, hL, hq, hm⟩ := hP
      have hi : i < 2 := (List.getElem?_eq_some_iff.mp hx).1
      obtain ⟨r, z1, z2, rfl, hr, b1, b2, hn⟩ : ∃ r z1 z2, x = .ref r ∧ H8 r = some (tp [z1, z2]) ∧ sm z1 ∧ sm z2 ∧ [[f * a, f * b], [f * c, f * e]].take (i + 1) = [[f * a, f * b], [f * c, f * e]].take i ++ [[f * z1, f * z2]] := by
        match i, hi, hx with
        | 0, _, hx => cases hx; exact ⟨r0, a, b, rfl, h1, sb a (by simp), sb b (by simp), rfl⟩
        | 1, _, hx => cases hx; exact ⟨r1, c, e, rfl, h2, sb c (by simp), sb e (by simp), rfl⟩
      have hl : qs.length = i := by
        have := congrArg List.length hm
        rw [List.length_map, List.length_take] at this
        simp at this
        omega
      refine ⟨rfl, _, rfl, r, rfl, ⟨_, SqT.of (sH _ _ hr)⟩, fun D2 hD2 => lc_tup (xs := [.int z1, .int z2]) (fun j H3 => Same H2 H3 ∧ H3 D2 = some (.lst (([f * z1, f * z2].take j).map V.int))) ⟨same_upd0 hD2, upd_same⟩ (fun j H3 _ hP => ?_) (fun j y H3 hy hP => ?_) (fun H3 hP => ?_)⟩
      · exact SqT.of (hP.1 _ _ (sH _ _ hr))
      · obtain ⟨s3, hL3⟩ := hP
        match j, hy with
        | 0, hy =>
          cases hy
          refine ⟨rfl, _, rfl, _, rfl, _, _, rfl, rfl, sm_mul sf b1, _, hL3, (show 0 < sizeLine by decide), fun b o e => ?_, upd_same⟩
          rw [upd_ne (ne_of_none e hD2)]
          exact s3 _ _ e
        | 1, hy =>
          cases hy
          refine ⟨rfl, _, rfl, _, rfl, _, _, rfl, rfl, sm_mul sf b2, _, hL3, (show 1 < sizeLine by decide), fun b o e => ?_, upd_same⟩
          rw [upd_ne (ne_of_none e hD2)]
          exact s3 _ _ e
      · obtain ⟨s3, hL3⟩ := hP
        refine .inl ⟨D2, _, rfl, SqL.of hL3, fun p1 n1 => gen_upd H3 p1 (tp [f * z1, f * z2]) n1 fun H4 s4 f4 => ?_⟩
        have hL4 := s4 _ _ (s3 _ _ hL)
        have ne : ∀ a l, H4 a = some (tp l) → a ≠ D := fun a l e z => by
          rw [z, hL4] at e
          cases e
        refine ⟨_, hL4, by rw [List.length_map, hl]; exact small1000 (by omega), fun b o e => ?_, qs ++ [(p1, [f * z1, f * z2])], by rw [upd_same, List.map_append]; rfl, fun w hw => ?_, by rw [List.map_append, hm, hn]; rfl⟩
        · rw [upd_ne (ne_of_none e hD)]
          exact s4 _ _ (s3 _ _ (sH _ _ e))
        · rcases List.mem_append.mp hw with e | e
          · have e2 := s4 _ _ (s3 _ _ (hq w e))
            rw [upd_ne (ne _ _ e2)]
            exact e2
          · rw [List.mem_singleton.mp e]
            show upd H4 D _ p1 = _
            rw [upd_ne (ne _ _ f4), f4]
    · obtain ⟨sH, qs, hL, hq, hm⟩ := hP
      obtain ⟨p0, p1, rfl⟩ : ∃ p0 p1, qs = [(p0, [f * a, f * b]), (p1, [f * c, f * e])] := by
        match qs, hm with
        | [(p0, _), (p1, _)], hm =>
          injection hm with e1 hm
          injection hm with e2 _
          dsimp only at e1 e2
          subst e1 e2
          exact ⟨_, _, rfl⟩
      refine .inl ⟨D, _, rfl, SqL.of hL, fun p3 n3 => ?_⟩
      have s9 : Same H2 (upd H2 p3 (.tup ([(p0, [f * a, f * b]), (p1, [f * c, f * e])].map fun r => V.ref r.1))) := same_upd0 n3
      have f9 : upd H2 p3 (.tup ([(p0, [f * a, f * b]), (p1, [f * c, f * e])].map fun r => V.ref r.1)) p3 = some (.tup [.ref p0, .ref p1]) := upd_same
      generalize upd H2 p3 (.tup ([(p0, [f * a, f * b]), (p1, [f * c, f * e])].map fun r => V.ref r.1)) = H9 at s9 f9 ⊢
      have TM : Tb H9 p3 [f * a, f * b] [f * c, f * e] := ⟨p0, p1, f9, s9 _ _ (hq _ (.head _)), s9 _ _ (hq _ (.tail _ (.head _)))⟩
      have sX := sH.trans s9
      have T1 := T1.same sX
      have T2 := T2.same sX
      have d9 := d8.same sX
      have sI := sI.trans (Sx.of sX)
      clear sH s9 f9 hL hq hm sX n3 h0 h1 h2 d8 hD
      dsimp only [gName]
      refine st_norm [some (.ref d), some (.int n), some (.ref t1), some (.ref t2), some (.int f), some (.ref p3), none, none, none, none, none, none, none] rfl ?_
      have bM : ∀ z ∈ [f * a, f * b, f * c, f * e], z.natAbs ≤ 10 ^ 45 := fun z hz => by
        have mul : ∀ w ∈ [a, b, c, e], (f * w).natAbs ≤ 10 ^ 45 := fun w hw => by
          rw [Int.natAbs_mul]
          exact Nat.le_trans (Nat.mul_le_mul fb (b20 w hw)) (by decide)
        simp only [List.mem_cons, List.not_mem_nil, or_false] at hz
        rcases hz with rfl | rfl | rfl | rfl
        · exact mul a (by simp)
        · exact mul b (by simp)
        · exact mul c (by simp)
        · exact mul e (by simp)
      have nM : ¬ (n : Int) ∣ (f * a) * (f * e) - (f * b) * (f * c) := fun z => pm_ne hp nf (pm_ne hp nf nd1) (by
        obtain ⟨w, hw⟩ := z
        exact ⟨w, by grobner⟩)
      -- plain tables
      refine ⟨_, rfl, _, rfl, n, t1, a, b, c, e, rfl, hp, T1, b45, nd1, fun g1 G1 x y z w ex k1 U1 => ⟨_, rfl, _, rfl, n, t1, a, b, c, e, rfl, hp, T1.same k1, b45, nd1, fun g2 G2 x' y' z' w' ex' k2 U2 => ?_⟩⟩
      rw [ex] at ex'
      injection ex' with i1 ex'
      injection ex' with i2 ex'
      injection ex' with i3 ex'
      injection ex' with i4 _
      subst i1 i2 i3 i4
      refine ne_tab (U1.same k2) U2 ⟨false, rfl, iteF ?_⟩
      have k12 := k1.trans k2
      refine ⟨_, rfl, _, rfl, n, p3, f * a, f * b, f * c, f * e, rfl, hp, TM.same k12, bM, nM, fun g3 G3 x' y' z' w' ex3 k3 U3 => ⟨_, rfl, _, rfl, n, t1, a, b, c, e, rfl, hp, (T1.same k12).same k3, b45, nd1, fun g4 G4 x2 y2 z2 w2 ex4 k4 U4 => ?_⟩⟩
      rw [plT_times hp nf nd1, ex] at ex3
      rw [ex] at ex4
      injection ex3 with i1 ex3
      injection ex3 with i2 ex3
      injection ex3 with i3 ex3
      injection ex3 with i4 _
      subst i1 i2 i3 i4
      injection ex4 with i1 ex4
      injection ex4 with i2 ex4
      injection ex4 with i3 ex4
      injection ex4 with i4 _
      subst i1 i2 i3 i4
      refine ne_tab (U3.same k4) U4 ⟨false, rfl, iteF ?_⟩
      have kk := k12.trans (k3.trans k4)
      have T1 := T1.same kk
      have T2 := T2.same kk
      have TM := TM.same kk
      have dG := d9.same kk
      have sI := sI.trans (Sx.of kk)
      clear k1 k2 k12 k3 k4 kk U1 U2 U3 U4 d9 ex
      have nJ := det_mul hp nd1 nd2
      have bJ : ∀ z ∈ [a * a' + b * c', a * b' + b * e', c * a' + e * c', c * b' + e * e'], z.natAbs ≤ 10 ^ 45 := fun z hz => by
        have two : ∀ {u v u' v' : Int}, u ∈ [a, b, c, e] → v ∈ [a', b', c', e'] → u' ∈ [a, b, c, e] → v' ∈ [a', b', c', e'] → (u * v + u' * v').natAbs ≤ 10 ^ 45 := fun {u v u' v'} i1 i2 i3 i4 => by
          refine Nat.le_trans (Int.natAbs_add_le _ _) ?_
          rw [Int.natAbs_mul, Int.natAbs_mul]
          exact Nat.le_trans (Nat.add_le_add (Nat.mul_le_mul (b20 u i1) (b20' v i2)) (Nat.mul_le_mul (b20 u' i3) (b20' v' i4))) (by decide)
        simp only [List.mem_cons, List.not_mem_nil, or_false] at hz
        rcases hz with rfl | rfl | rfl | rfl <;> exact two (by simp) (by simp) (by simp) (by simp)
      refine ⟨_, rfl, by decide, by decide, for_range (n := 4) (fun i σ H' => ∃ (o8 o9 o10 : Option V), σ = [some (.ref d), some (.int n), some (.ref t1), some (.ref t2), some (.int f), some (.ref p3), none, none, o8, o9, o10, none, none] ∧ Sx d G4 H' ∧ Dc H' d) ⟨none, none, none, rfl, fun _ _ _ z => z, dG⟩ (fun i σ H' hi hP => ?_) (fun σ H' hP => ?_)⟩
      · obtain ⟨o8, o9, o10, rfl, sG, dH⟩ := hP
        dsimp only [gName]
        refine ⟨_, rfl, _, rfl, d, n, rfl, dH, hp, fun u x y K1 hPP k1 d1 f1 => ?_⟩
        have sK := sG.trans k1
        have T1 := T1.sx dG sK
        have T2 := T2.sx dG sK
        have TM := TM.sx dG sK
        obtain ⟨X1, Y1, l1, _, _⟩ := led_pr hp nd1 hPP
        refine ⟨_, rfl, _, rfl, _, rfl, n, t1, u, a, b, c, e, x, y, rfl, hp, T1, b45, nd1, hPP, f1, fun v1 K2 k2 f2 => ?_⟩
        dsimp only [gName]
        refine ⟨_, rfl, _, rfl, _, rfl, _, rfl, t1, u, n, a, b, c, e, x, y, rfl, hp, T1.same k2, b45, hPP, k2 _ _ f1, fun v2 K3 k3 f3 => ne_row (k3 _ _ f2) f3 ⟨false, rfl, iteF ?_⟩⟩
        have k23 := k2.trans k3
        refine ⟨_, rfl, _, rfl, _, rfl, n, p3, u, f * a, f * b, f * c, f * e, x, y, rfl, hp, TM.same k23, bM, nM, hPP, k23 _ _ f1, fun v3 K4 k4 f4 => ⟨_, rfl, ?_⟩⟩
        rw [led_times hp nf nd1 hPP] at f4
        refine ne_row f4 (k4 _ _ (k3 _ _ f2)) ⟨false, rfl, iteF ?_⟩
        have k24 := k23.trans k4
        refine ⟨_, rfl, _, rfl, _, rfl, t1, t2, a, b, c, e, a', b', c', e', rfl, T1.same k24, T2.same k24, fun z hz => ?_, fun w1 K5 k5 U5 => ?_⟩
        · rcases List.mem_append.mp (show z ∈ [a, b, c, e] ++ [a', b', c', e'] from hz) with z1 | z1
          · exact b20 z z1
          · exact b20' z z1
        · have k25 := k24.trans k5
          obtain ⟨X2, Y2, l2, hP2, _⟩ := led_pr hp nd2 hPP
          have ll := led_led hp nd1 nd2 hPP l2
          refine ⟨_, rfl, n, w1, u, _, _, _, _, x, y, rfl, hp, U5, bJ, nJ, hPP, k25 _ _ f1, fun v5 K6 k6 f6 => ?_⟩
          have k26 := k25.trans k6
          refine ⟨_, rfl, _, rfl, _, rfl, _, rfl, _, rfl, n, t2, u, a', b', c', e', x, y, rfl, hp, T2.same k26, b45', nd2, hPP, k26 _ _ f1, fun v6 K7 k7 f7 => ?_⟩
          rw [l2] at f7
          refine ⟨n, t1, v6, a, b, c, e, X2, Y2, rfl, hp, (T1.same k26).same k7, b45, nd1, hP2, f7, fun v7 K8 k8 f8 => ?_⟩
          rw [ll] at f6
          have k28 := k26.trans (k7.trans k8)
          exact ne_row (k8 _ _ (k7 _ _ f6)) f8 ⟨false, rfl, iteF ⟨_, _, _, rfl, sK.trans (Sx.of k28), d1.same k28⟩⟩
      · obtain ⟨o8, o9, o10, rfl, sG, dH⟩ := hP
        have sI := sI.trans sG
        clear sG dG T1 T2 TM
        refine ⟨_, rfl, _, rfl, d, n, rfl, dH, hp, fun r1 x1 y1 x2 y2 x3 y3 H1 k1 d1 R1 => ⟨_, rfl, _, rfl, d, n, rfl, d1, hp, fun r2 u1 v1 u2 v2 u3 v3 H2 k2 d2 R2 => ⟨_, _, rfl, ?_⟩⟩⟩
        have R1 := R1.sx d1 k2
        have sI := sI.trans (k1.trans k2)
        clear k1 k2 d1 dH
        refine ⟨_, rfl, _, rfl, _, rfl, n, r1, r2, x1, y1, x2, y2, x3, y3, u1, v1, u2, v2, u3, v3, rfl, hp, R1, R2, fun t H3 A B C D X Y Z W eB eT k3 U => ?_⟩
        dsimp only [gName]
        refine st_norm [some (.ref d), some (.int n), some (.ref t1), some (.ref t2), some (.int f), some (.ref p3), none, none, o8, o9, some (.ref t), some (.ref r1), some (.ref r2)] rfl ?_
        have hdB := bt_det hp R1.1 R2.1
        rw [eB] at hdB
        dsimp only at hdB
        obtain ⟨X', Y', Z', W', eT', hPr⟩ := plT_pr hp hdB
        rw [eT] at eT'
        injection eT' with i1 eT'
        injection eT' with i2 eT'
        injection eT' with i3 eT'
        injection eT' with i4 _
        subst i1 i2 i3 i4
        have hdT := det_plT hp hdB hPr
        obtain ⟨l1, l2, l3⟩ := bt_led hp R1.1 R2.1 eB
        have m1 := (led_plT hp hdB hPr R1.1.h1).trans l1
        have m2 := (led_plT hp hdB hPr R1.1.h2).trans l2
        have m3 := (led_plT hp hdB hPr R1.1.h3).trans l3
        have bT : ∀ z ∈ [X, Y, Z, W], z.natAbs ≤ 10 ^ 45 := fun z hz => by
          have := hPr.1 z hz
          exact Nat.le_trans (show z.natAbs ≤ 101 by omega) (by decide)
        have R1 := R1.same k3
        have R2 := R2.same k3
        have d3 := d2.same k3
        have sI := sI.trans (Sx.of k3)
        clear k3 d2
        refine ⟨_, rfl, _, rfl, _, rfl, n, t, X, Y, Z, W, rfl, hp, U, bT, hdT, fun g1 G1 x' y' z' w' ex k4 U4 => ?_⟩
        rw [plT_self hp hPr] at ex
        injection ex with i1 ex
        injection ex with i2 ex
        injection ex with i3 ex
        injection ex with i4 _
        subst i1 i2 i3 i4
        refine ne_tab (U.same k4) U4 ⟨false, rfl, iteF ?_⟩
        have U := U.same k4
        refine ⟨_, rfl, t, X, Y, Z, W, rfl, U, bT X (by simp), bT Y (by simp), bT Z (by simp), bT W (by simp), .inl ⟨_, rfl, _, rfl, _, _, rfl, rfl, (by show (0 : Int) < n; omega), rfl, _, rfl, ?_⟩⟩
        rw [decide_eq_false fun z => hdT (Int.dvd_of_emod_eq_zero (V.int.inj z))]
        refine iteF ?_
        have R1 := R1.same k4
        have R2 := R2.same k4
        have d4 := d3.same k4
        have sI := sI.trans (Sx.of k4)
        clear k4 d3 U4
        -- the told points
        obtain ⟨g, a1, a2, a3, h0, h1, h2, h3⟩ := id R1
        obtain ⟨g', b1, b2, b3, j0, j1, j2, j3⟩ := id R2
        refine ⟨_, rfl, r1, rfl, ⟨_, SqT.of h0⟩, fun D hD => lc_tup (xs := [.ref a1, .ref a2, .ref a3]) (fun i H' => Same G1 H' ∧ ∃ qs : List (Addr × List Int), H' D = some (.lst (qs.map fun r => V.ref r.1)) ∧ Qs H' qs ∧ qs.map (·.2) = [[u1, v1], [u2, v2], [u3, v3]].take i) ⟨same_upd0 hD, [], upd_same, fun q hq => (nomatch hq), rfl⟩ (fun i H' _ hP => ?_) (fun i x H' hx hP => ?_) (fun H' hP => ?_)⟩
        · exact SqT.of (hP.1 _ _ h0)
        · obtain ⟨sH, qs, hL, hq, hm⟩ := hP
          have hi : i < 3 := (List.getElem?_eq_some_iff.mp hx).1
          obtain ⟨s, px, py, pu, pv, rfl, hr, hPP, hle, hn⟩ : ∃ s px py pu pv, x = .ref s ∧ G1 s = some (tp [px, py]) ∧ PP n px py ∧ led n X Y Z W px py = [pu, pv] ∧ [[u1, v1], [u2, v2], [u3, v3]].take (i + 1) = [[u1, v1], [u2, v2], [u3, v3]].take i ++ [[pu, pv]] := by
            match i, hi, hx with
            | 0, _, hx => cases hx; exact ⟨a1, _, _, _, _, rfl, h1, g.h1, m1, rfl⟩
            | 1, _, hx => cases hx; exact ⟨a2, _, _, _, _, rfl, h2, g.h2, m2, rfl⟩
            | 2, _, hx => cases hx; exact ⟨a3, _, _, _, _, rfl, h3, g.h3, m3, rfl⟩
          have hl : qs.length = i := by
            have := congrArg List.length hm
            rw [List.length_map, List.length_take] at this
            simp at this
            omega
          refine ⟨rfl, _, rfl, _, rfl, _, rfl, n, t, s, X, Y, Z, W, px, py, rfl, hp, U.same sH, bT, hdT, hPP, sH _ _ hr, fun v H4 k5 f5 => ?_⟩
          rw [hle] at f5
          have hL4 := k5 _ _ hL
          have ne : ∀ a l, H4 a = some (tp l) → a ≠ D := fun a l e z => by
            rw [z, hL4] at e
            cases e
          refine ⟨_, hL4, by rw [List.length_map, hl]; exact small1000 (by omega), fun b o e => ?_, qs ++ [(v, [pu, pv])], by rw [upd_same, List.map_append]; rfl, fun w hw => ?_, by rw [List.map_append, hm, hn]; rfl⟩
          · rw [upd_ne (ne_of_none e hD)]
            exact k5 _ _ (sH _ _ e)
          · rcases List.mem_append.mp hw with e | e
            · have e2 := k5 _ _ (hq w e)
              rw [upd_ne (ne _ _ e2)]
              exact e2
            · rw [List.mem_singleton.mp e]
              show upd H4 D _ v = _
              rw [upd_ne (ne _ _ f5), f5]
        · obtain ⟨sH, qs, hL, hq, hm⟩ := hP
          refine ⟨_, rfl, r2, _, rfl, .inr (SqT.of (sH _ _ j0)), fun l nl => ?_⟩
          have s6 : Same H' (upd H' l (.lst [.ref b1, .ref b2, .ref b3])) := same_upd0 nl
          have f6 : upd H' l (.lst [.ref b1, .ref b2, .ref b3]) l = some (.lst [.ref b1, .ref b2, .ref b3]) := upd_same
          generalize upd H' l (.lst [.ref b1, .ref b2, .ref b3]) = H6 at s6 f6 ⊢
          have s7 := sH.trans s6
          refine ne_rows (s6 _ _ hL) (fun r hr => s6 _ _ (hq r hr)) (qs' := [(b1, [u1, v1]), (b2, [u2, v2]), (b3, [u3, v3])]) f6 (fun r hr => ?_) hm ⟨false, rfl, iteF ?_⟩
          · simp only [List.mem_cons, List.not_mem_nil, or_false] at hr
            rcases hr with e | e | e <;> rw [e]
            · exact s7 _ _ j1
            · exact s7 _ _ j2
            · exact s7 _ _ j3
          · have U := U.same s7
            have sI := sI.trans (Sx.of s7)
            have d6 := d4.same s7
            clear s6 f6 hL hq hm sH s7 h0 h1 h2 h3 j0 j1 j2 j3 hD
            refine ⟨_, rfl, n, rfl, hp, fun q1 ps H7 s8 f8 hq hm => ⟨q1, rfl, ⟨_, SqT.of f8⟩, fun D hD => lc_tup (xs := ps.map fun r => V.ref r.1) (fun i H' => Same H7 H' ∧ ∃ qs : List (Addr × List Int), H' D = some (.lst (qs.map fun r => V.ref r.1)) ∧ Qs H' qs ∧ qs.map (·.2) = ((ps.take i).map (·.2)).map (ledL n X Y Z W)) ⟨same_upd0 hD, [], upd_same, fun q hq => (nomatch hq), rfl⟩ (fun i H' _ hP => ?_) (fun i x H' hx hP => ?_) (fun H' hP => ?_)⟩⟩
            · exact SqT.of (hP.1 _ _ f8)
            · obtain ⟨sH, qs, hL, hq', hm'⟩ := hP
              obtain ⟨s, e1, e2, rfl, hi⟩ := qs_get hx
              obtain ⟨px, py, e3, hPP⟩ := pts_pp (show s.2 ∈ pts n by rw [← hm]; exact List.mem_map.mpr ⟨s, e2, rfl⟩)
              have hr := hq s e2
              rw [e3] at hr
              have hl : qs.length = i := by
                have := congrArg List.length hm'
                rw [List.length_map, List.length_map, List.length_map, List.length_take] at this
                omega
              have hlp : ps.length = n + 1 := by
                have := congrArg List.length hm
                rwa [List.length_map, pts_len] at this
              refine ⟨rfl, _, rfl, _, rfl, _, rfl, n, t, s.1, X, Y, Z, W, px, py, rfl, hp, (U.same s8).same sH, bT, hdT, hPP, sH _ _ hr, fun v H4 k5 f5 => ?_⟩
              have hL4 := k5 _ _ hL
              have ne : ∀ a l, H4 a = some (tp l) → a ≠ D := fun a l e z => by
                rw [z, hL4] at e
                cases e
              refine ⟨_, hL4, by rw [List.length_map, hl]; exact small1000 (by omega), fun b o e => ?_, qs ++ [(v, led n X Y Z W px py)], by rw [upd_same, List.map_append]; rfl, fun w hw => ?_, ?_⟩
              · rw [upd_ne (ne_of_none e hD)]
                exact k5 _ _ (sH _ _ e)
              · rcases List.mem_append.mp hw with e | e
                · have e2 := k5 _ _ (hq' w e)
                  rw [upd_ne (ne _ _ e2)]
                  exact e2
                · rw [List.mem_singleton.mp e]
                  show upd H4 D _ v = _
                  rw [upd_ne (ne _ _ f5), f5]
              · rw [show ps.take (i + 1) = ps.take i ++ [s] by rw [List.take_succ, e1]; rfl, List.map_append, hm', List.map_append, List.map_append]
                show _ ++ [led n X Y Z W px py] = _ ++ [ledL n X Y Z W s.2]
                rw [e3]
                rfl
            · obtain ⟨sH, qs, hL, hq', hm'⟩ := hP
              rw [List.length_map, List.take_length, hm] at hm'
              have hl : qs.length = n + 1 := by
                have := congrArg List.length hm'
                rwa [List.length_map, List.length_map, pts_len] at this
              refine ⟨D, qs, rfl, .inr (SqL.of hL), fun r hr => SqT.of (hq' r hr), by omega, by rw [hm']; exact led_nd hp hdT, _, rfl, _, _, rfl, rfl, rfl, ?_⟩
              rw [decide_eq_true (by rw [hl]; rfl)]
              exact q _ (sI.trans (Sx.of (s8.trans sH))) (d6.same (s8.trans sH))
end
end K50

set_option Elab.async false
set_option linter.all false
set_option maxRecDepth 100000
set_option maxHeartbeats 4000000
namespace K50
open PySem PySem.Spec PyProof.Rows L2 StX RZ MyR SlX OwnR OwnF EnumT
def spLaw (K : PySem.W.Frag) : Sp := fun vs H Q _ => ∃ (a : Addr) (ns : List Int), vs = [.ref a] ∧ SqL K H a (ns.map V.int) ∧ ns.length ≤ 63 ∧ ∀ H', Q (.bl true) H'
theorem told13 : plT 13 (bt (tt 1 0 0 1 1 1) (tt 1 2 1 5 0 1)).1 (bt (tt 1 0 0 1 1 1) (tt 1 2 1 5 0 1)).2.1 (bt (tt 1 0 0 1 1 1) (tt 1 2 1 5 0 1)).2.2.1 (bt (tt 1 0 0 1 1 1) (tt 1 2 1 5 0 1)).2.2.2 = [1, 12, 2, 8] := by decide +kernel
theorem t3a : T3 13 1 0 0 1 1 1 := ⟨.inr ⟨rfl, by decide, by decide⟩, .inl ⟨rfl, rfl⟩, .inr ⟨rfl, by decide, by decide⟩, by decide, by decide, by decide⟩
theorem t3b : T3 13 1 2 1 5 0 1 := ⟨.inr ⟨rfl, by decide, by decide⟩, .inr ⟨rfl, by decide, by decide⟩, .inl ⟨rfl, rfl⟩, by decide, by decide, by decide⟩
theorem led17 : led 17 1 2 3 5 1 8 = [0, 1] := by decide +kernel
theorem plain17 : plT 17 3 6 9 15 = [1, 2, 3, 5] := by decide +kernel
theorem cut3 (xs : List V) (h : xs.length = 14) : cutV xs none (some 3) = xs.take 3 ∧ ¬ (HT.sIx xs.length 0 none = 0 ∧ HT.sIx xs.length xs.length (some 3) = xs.length) := by
  have e : HT.sIx xs.length xs.length (some 3) = 3 := by rw [h]; rfl
  refine ⟨?_, fun z => ?_⟩
  · unfold cutV
    rw [e, HT.sIx_none, List.drop_zero]
  · rw [e, h] at z
    exact absurd z.2 (by decide)
theorem pts13 : pts 13 = [0, 1] :: [1, 0] :: [1, 1] :: (pts 13).drop 3 := by decide
section
variable {P : Program} {w : World} {K : PySem.W.Frag} {mg : Str → Option Value} {base : Heap}
theorem ok_law (T : Facts K mg) : FnOk P w K mg base CX0 7 T.f_law T.fd_law ["_law_script"] (spLaw K) := by
  have G_law_dice : FnOk P w K mg base CX0 1 T.f_law_dice T.fd_law_dice ["_law_script", "_law_spot"] (spDice K) := ok_law_dice T
  have G_law_right := ok_law_right (P := P) (w := w) (base := base) T
  have G_law_three := ok_law_three (P := P) (w := w) (base := base) T
  have G_law_all_between := ok_law_all_between (P := P) (w := w) (base := base) T
  have G_table_by_three := ok_table_by_three (P := P) (w := w) (base := base) T
  have G_all_points := ok_all_points (P := P) (w := w) (base := base) T
  have G_led_point := ok_led_point (P := P) (w := w) (base := base) T
  have G_plain_table := ok_plain_table (P := P) (w := w) (base := base) T
  refine T.F_law.ok sc_law (fun vs H Q E h => ?_) (fun cdv A outer s H vs Q E hr h => ?_)
  · obtain ⟨a, ns, rfl, _⟩ := h
    rfl
  · obtain ⟨a, ns, rfl, hS, hlen, q⟩ := h
    refine ⟨_, (PSs.nox (pss_cons (ps_for PassesOwn.never (by rfl) (pi_range1 (by rfl) T.z_range (pa_cons (pe_callB (call_max2 (by rfl)) (by rfl) T.z_max (by decide +kernel) (pa_cons pe_int (pa_cons (pe_callB (call_min2 (by rfl)) (by rfl) T.z_min (by decide +kernel) (pa_cons pe_int (pa_cons (pe_callB call_len_seq (by rfl) T.z_len (by decide +kernel) (pa_cons (pv 0) pa_nil)) pa_nil))) pa_nil))) pa_nil)) (pg_name (i := 1) sc_law.nd rfl (.inl rfl))
      (pss_one (ps_if (pt_not (pt_val (pe_call G_law_right hr (by rfl) T.g_law_right T.F_law_right.kp T.b_law_right .nil pass0 (pa_cons (pe_call G_law_dice (hr.mono (by decide)) (by rfl) T.g_law_dice T.F_law_dice.kp T.b_law_dice .nil pass0 (pa_cons (pv 0) (pa_cons (pv 1) pa_nil))) pa_nil))))
        (pss_one (ps_ret pe_bl))
        pss_nil)))
    (pss_cons (ps_set (i := 2) sc_law.nd rfl (.inl rfl) (pe_call G_law_dice (hr.mono (by decide)) (by rfl) T.g_law_dice T.F_law_dice.kp T.b_law_dice .nil pass0 (pa_cons (pv 0) (pa_cons pe_int pa_nil))))
    (pss_cons (ps_par (i := 3) (j := 4) (by rfl) sc_law.nd rfl rfl (by decide) rfl rfl (pa_cons (pe_call G_law_three (hr.mono (by decide)) (by rfl) T.g_law_three T.F_law_three.kp T.b_law_three .nil pass0 (pa_cons (pv 2) (pa_cons pe_int pa_nil))) (pa_cons (pe_call G_law_three (hr.mono (by decide)) (by rfl) T.g_law_three T.F_law_three.kp T.b_law_three .nil pass0 (pa_cons (pv 2) (pa_cons pe_int pa_nil))) pa_nil)) (by rfl))
    (pss_cons (ps_if (pt_cmpR (op_neD (hu64 hr)) (pe_call G_law_all_between (hr.mono (by decide)) (by rfl) T.g_law_all_between T.F_law_all_between.kp T.b_law_all_between .nil pass0 (pa_cons pe_int (pa_cons (pv 3) (pa_cons (pv 4) pa_nil)))) (pe_lst (pa_cons (pe_call G_table_by_three (hr.mono (by decide)) (by rfl) T.g_table_by_three T.F_table_by_three.kp T.b_table_by_three .nil pass0 (pa_cons pe_int (pa_cons (pv 3) (pa_cons (pv 4) pa_nil)))) pa_nil)) (nomark _))
      (pss_one (ps_ret pe_bl))
      pss_nil)
    (pss_cons (ps_set (i := 5) sc_law.nd rfl (.inl rfl) (pe_lst (pa_cons (pe_callB call_len_seq (by rfl) T.z_len (by decide +kernel) (pa_cons (pe_call G_all_points (hr.mono (by decide)) (by rfl) T.g_all_points T.F_all_points.kp T.b_all_points .nil pass0 (pa_cons pe_int pa_nil)) pa_nil)) (pa_cons (pe_slice sl_tupA (pe_call G_all_points (hr.mono (by decide)) (by rfl) T.g_all_points T.F_all_points.kp T.b_all_points .nil pass0 (pa_cons pe_int pa_nil)) po_none (po_some pe_int)) (pa_cons (pe_call G_table_by_three (hr.mono (by decide)) (by rfl) T.g_table_by_three T.F_table_by_three.kp T.b_table_by_three .nil pass0 (pa_cons pe_int (pa_cons (pe_tup (pa_cons (pe_tup (pa_cons pe_int (pa_cons pe_int pa_nil))) (pa_cons (pe_tup (pa_cons pe_int (pa_cons pe_int pa_nil))) (pa_cons (pe_tup (pa_cons pe_int (pa_cons pe_int pa_nil))) pa_nil)))) (pa_cons (pe_tup (pa_cons (pe_tup (pa_cons pe_int (pa_cons pe_int pa_nil))) (pa_cons (pe_tup (pa_cons pe_int (pa_cons pe_int pa_nil))) (pa_cons (pe_tup (pa_cons pe_int (pa_cons pe_int pa_nil))) pa_nil)))) pa_nil)))) pa_nil)))))
    (pss_cons (ps_if (pt_cmpR (op_neD (hu64 hr)) (pv 5) (pe_lst (pa_cons pe_int (pa_cons (pe_tup (pa_cons (pe_tup (pa_cons pe_int (pa_cons pe_int pa_nil))) (pa_cons (pe_tup (pa_cons pe_int (pa_cons pe_int pa_nil))) (pa_cons (pe_tup (pa_cons pe_int (pa_cons pe_int pa_nil))) pa_nil)))) (pa_cons (pe_tup (pa_cons (pe_tup (pa_cons pe_int (pa_cons pe_int pa_nil))) (pa_cons (pe_tup (pa_cons pe_int (pa_cons pe_int pa_nil))) pa_nil))) pa_nil)))) (nomark _))
      (pss_one (ps_ret pe_bl))
      pss_nil)
    (pss_one (ps_ret (pe_and (pe_cmpR (op_eqD (hu64 hr)) (pe_call G_led_point (hr.mono (by decide)) (by rfl) T.g_led_point T.F_led_point.kp T.b_led_point .nil pass0 (pa_cons pe_int (pa_cons (pe_tup (pa_cons (pe_tup (pa_cons pe_int (pa_cons pe_int pa_nil))) (pa_cons (pe_tup (pa_cons pe_int (pa_cons pe_int pa_nil))) pa_nil))) (pa_cons (pe_tup (pa_cons pe_int (pa_cons pe_int pa_nil))) pa_nil)))) (pe_tup (pa_cons pe_int (pa_cons pe_int pa_nil))) (nomark _)) (pe_one (pe_cmpR (op_eqD (hu64 hr)) (pe_call G_plain_table (hr.mono (by decide)) (by rfl) T.g_plain_table T.F_plain_table.kp T.b_plain_table .nil pass0 (pa_cons pe_int (pa_cons (pe_tup (pa_cons (pe_tup (pa_cons pe_int (pa_cons pe_int pa_nil))) (pa_cons (pe_tup (pa_cons pe_int (pa_cons pe_int pa_nil))) pa_nil))) pa_nil))) (pe_tup (pa_cons (pe_tup (pa_cons pe_int (pa_cons pe_int pa_nil))) (pa_cons (pe_tup (pa_cons pe_int (pa_cons pe_int pa_nil))) pa_nil))) (nomark _))))))))))))), ?_⟩
    refine ⟨.ref a, rfl, a, _, rfl, .inl hS, 4, _, rfl, 1, _, rfl, _, rfl, ?_⟩
    rw [List.length_map]
    obtain ⟨n, hn, hn0⟩ : ∃ n : Int, (if (if ((ns.length : Nat) : Int) < 4 then ((ns.length : Nat) : Int) else 4) > 1 then (if ((ns.length : Nat) : Int) < 4 then ((ns.length : Nat) : Int) else 4) else 1) = n ∧ 0 ≤ n ∧ n ≤ 4 := ⟨_, rfl, by split <;> split <;> omega, by split <;> split <;> omega⟩
    rw [hn]
    refine ⟨by omega, by omega, for_range (n := n.toNat) (fun i σ H' => ∃ y1, σ = [some (.ref a), y1, none, none, none, none] ∧ SqL K H' a (ns.map V.int)) ⟨none, rfl, hS⟩ (fun i σ H1 hi hP => ?_) (fun σ H1 hP => ?_)⟩
    · obtain ⟨y1, rfl, h1⟩ := hP
      refine ⟨.ref a, rfl, _, rfl, a, ns, i, ?_, h1, fun d x y z nd => ?_⟩
      · show [V.ref a, V.int (0 + (i : Int))] ++ [] = _
        rw [Int.zero_add]
        rfl
      have d1 : Dc (upd H1 d (dice x y z)) d := ⟨x, y, z, upd_same⟩
      refine ⟨d, rfl, d1, fun H2 s2 d2 => ⟨true, rfl, iteF ?_⟩⟩
      exact ⟨_, rfl, script_Sx s2 nd h1⟩
    · obtain ⟨y1, rfl, h1⟩ := hP
      refine ⟨_, rfl, a, ns, 0, rfl, h1, fun d x y z nd => ?_⟩
      have d1 : Dc (upd H1 d (dice x y z)) d := ⟨x, y, z, upd_same⟩
      generalize upd H1 d (dice x y z) = H2 at d1 ⊢
      dsimp only [gName]
      refine ⟨_, rfl, d, 13, rfl, d1, p13, fun r1 x1 y1 x2 y2 x3 y3 H3 k1 d3 R1 => ⟨_, rfl, d, 13, rfl, d3, p13, fun r2 u1 v1 u2 v2 u3 v3 H4 k2 d4 R2 => ⟨_, _, rfl, ?_⟩⟩⟩
      have R1 := R1.sx d3 k2
      refine ⟨_, rfl, _, rfl, r1, r2, x1, y1, x2, y2, x3, y3, u1, v1, u2, v2, u3, v3, rfl, R1, R2, fun l t H5 A B C D X Y Z W eB eT k5 f5 T5 => ?_⟩
      refine ⟨_, rfl, _, rfl, 13, r1, r2, x1, y1, x2, y2, x3, y3, u1, v1, u2, v2, u3, v3, rfl, p13, R1.same k5, R2.same k5, fun t' H6 A' B' C' D' X' Y' Z' W' eB' eT' k6 T6 => ⟨(show 1 ≤ sizeLine by decide), fun l2 n2 => ?_⟩⟩
      rw [eB] at eB'
      injection eB' with i1 eB'
      injection eB' with i2 eB'
      injection eB' with i3 i4
      subst i1 i2 i3 i4
      rw [eT] at eT'
      injection eT' with i1 eT'
      injection eT' with i2 eT'
      injection eT' with i3 eT'
      injection eT' with i4 _
      subst i1 i2 i3 i4
      have k7 := same_upd0 (o := .lst [.ref t']) n2
      refine ne_sameD (.lst (SqL.of (k7 _ _ (k6 _ _ f5))) (.cons (dp_tab ((T5.same k6).same k7)) .nil)) (.lst (SqL.of upd_same) (.cons (dp_tab (T6.same k7)) .nil)) (by rfl) (by rfl) ⟨false, rfl, iteF ?_⟩
      generalize upd H6 l2 (.lst [.ref t']) = H7
      clear k1 k2 d1 d3 d4 R1 R2 k5 f5 T5 k6 T6 k7 n2 eT
      have z2 : 2 ≤ sizeLine := by decide
      have z3 : 3 ≤ sizeLine := by decide
      have p17 : (17 : Int) ∈ PR := by decide
      refine ⟨13, rfl, p13, fun q1 qs H8 k8 f8 hq8 hm8 => ⟨q1, _, rfl, .inr (SqT.of f8), ?_⟩⟩
      have lq : qs.length = 14 := by
        have := congrArg List.length hm8
        rwa [List.length_map, pts_len] at this
      refine ⟨13, rfl, p13, fun q2 ps H9 k9 f9 hq9 hm9 => ?_⟩
      have lp : ps.length = 14 := by
        have := congrArg List.length hm9
        rwa [List.length_map, pts_len] at this
      obtain ⟨c1, c2, c3, rest, rfl⟩ : ∃ c1 c2 c3 rest, ps = (c1, [0, 1]) :: (c2, [1, 0]) :: (c3, [1, 1]) :: rest := by
        rw [pts13] at hm9
        match ps, hm9 with
        | (c1, _) :: (c2, _) :: (c3, _) :: rest, hm =>
          injection hm with e1 hm
          injection hm with e2 hm
          injection hm with e3 _
          dsimp only at e1 e2 e3
          subst e1 e2 e3
          exact ⟨_, _, _, _, rfl⟩
      obtain ⟨cc1, cc2⟩ := cut3 (((c1, [0, 1]) :: (c2, [1, 0]) :: (c3, [1, 1]) :: rest).map fun r => V.ref r.1) (by rw [List.length_map]; exact lp)
      refine ⟨3, rfl, q2, _, rfl, SqT.of f9, fun z => absurd z cc2, fun _ b n3 => ?_⟩
      rw [cc1]
      have m9 : Same H9 (upd H9 b (.tup [.ref c1, .ref c2, .ref c3])) := same_upd0 n3
      have g9 : upd H9 b (.tup [.ref c1, .ref c2, .ref c3]) b = some (.tup [.ref c1, .ref c2, .ref c3]) := upd_same
      have e9 : (List.map (fun r => V.ref r.1) ((c1, [0, 1]) :: (c2, [1, 0]) :: (c3, [1, 1]) :: rest)).take 3 = [V.ref c1, V.ref c2, V.ref c3] := rfl
      rw [e9]
      have hc1 := m9 _ _ (hq9 _ (.head _))
      have hc2 := m9 _ _ (hq9 _ (.tail _ (.head _)))
      have hc3 := m9 _ _ (hq9 _ (.tail _ (.tail _ (.head _))))
      generalize upd H9 b (.tup [.ref c1, .ref c2, .ref c3]) = H10 at m9 g9 hc1 hc2 hc3 ⊢
      refine ⟨z2, fun w1 i1 => gen_upd H10 w1 (tp [1, 0]) i1 fun G1 s1 o1 => ⟨z2, fun w2 i2 => gen_upd G1 w2 (tp [0, 1]) i2 fun G2 s2 o2 => ⟨z2, fun w3 i3 => gen_upd G2 w3 (tp [1, 1]) i3 fun G3 s3 o3 => ⟨z3, fun w4 i4 => gen_upd G3 w4 (.tup [.ref w1, .ref w2, .ref w3]) i4 fun G4 s4 o4 => ?_⟩⟩⟩⟩
      have R1 : Tr G4 w4 13 1 0 0 1 1 1 := ⟨t3a, w1, w2, w3, o4, s4 _ _ (s3 _ _ (s2 _ _ o1)), s4 _ _ (s3 _ _ o2), s4 _ _ o3⟩
      have s14 := m9.trans (s1.trans (s2.trans (s3.trans s4)))
      refine ⟨z2, fun w5 i5 => gen_upd G4 w5 (tp [1, 2]) i5 fun G5 s5 o5 => ⟨z2, fun w6 i6 => gen_upd G5 w6 (tp [1, 5]) i6 fun G6 s6 o6 => ⟨z2, fun w7 i7 => gen_upd G6 w7 (tp [0, 1]) i7 fun G7 s7 o7 => ⟨z3, fun w8 i8 => gen_upd G7 w8 (.tup [.ref w5, .ref w6, .ref w7]) i8 fun G8 s8 o8 => ?_⟩⟩⟩⟩
      have R2 : Tr G8 w8 13 1 2 1 5 0 1 := ⟨t3b, w5, w6, w7, o8, s8 _ _ (s7 _ _ (s6 _ _ o5)), s8 _ _ (s7 _ _ o6), s8 _ _ o7⟩
      have s58 := s5.trans (s6.trans (s7.trans s8))
      refine ⟨13, w4, w8, 1, 0, 0, 1, 1, 1, 1, 2, 1, 5, 0, 1, rfl, p13, R1.same s58, R2, fun t G9 A B C D X Y Z W eB eT s9 U => ?_⟩
      have eU := told13
      rw [eB] at eU
      dsimp only at eU
      rw [eT] at eU
      injection eU with i1 eU
      injection eU with i2 eU
      injection eU with i3 eU
      injection eU with i4 _
      subst i1 i2 i3 i4
      refine ⟨z3, fun w9 i9 => ?_⟩
      have s10 : Same G9 (upd G9 w9 (.lst [.int (((qs.map fun r => V.ref r.1).length : Nat) : Int), .ref b, .ref t])) := same_upd0 i9
      have o10 : upd G9 w9 (.lst [.int (((qs.map fun r => V.ref r.1).length : Nat) : Int), .ref b, .ref t]) w9 = some (.lst [.int (((qs.map fun r => V.ref r.1).length : Nat) : Int), .ref b, .ref t]) := upd_same
      generalize upd G9 w9 (.lst [.int (((qs.map fun r => V.ref r.1).length : Nat) : Int), .ref b, .ref t]) = G10 at s10 o10 ⊢
      rw [List.length_map, lq] at o10
      dsimp only [gName]
      refine ⟨_, rfl, z2, fun e1 i1 => gen_upd G10 e1 (tp [0, 1]) i1 fun L1 t1 n1 => ⟨z2, fun e2 i2 => gen_upd L1 e2 (tp [1, 0]) i2 fun L2 t2 n2 => ⟨z2, fun e3 i3 => gen_upd L2 e3 (tp [1, 1]) i3 fun L3 t3 n3 => ⟨z3, fun e4 i4 => gen_upd L3 e4 (.tup [.ref e1, .ref e2, .ref e3]) i4 fun L4 t4 n4 => ?_⟩⟩⟩⟩
      refine ⟨z2, fun e5 i5 => gen_upd L4 e5 (tp [1, 12]) i5 fun L5 t5 n5 => ⟨z2, fun e6 i6 => gen_upd L5 e6 (tp [2, 8]) i6 fun L6 t6 n6 => ⟨z2, fun e7 i7 => gen_upd L6 e7 (.tup [.ref e5, .ref e6]) i7 fun L7 t7 n7 => ⟨z3, fun e8 i8 => gen_upd L7 e8 (.lst [.int 14, .ref e4, .ref e7]) i8 fun L8 t8 n8 => ?_⟩⟩⟩⟩
      have u48 := t5.trans (t6.trans (t7.trans t8))
      have u18 := t1.trans (t2.trans (t3.trans (t4.trans u48)))
      have k910 := s14.trans (s58.trans (s9.trans s10))
      have kc : Same H10 G10 := s1.trans (s2.trans (s3.trans (s4.trans (s58.trans (s9.trans s10)))))
      refine ne_sameD (d := .list [.int 14, .tuple (TD [[0, 1], [1, 0], [1, 1]]), .tuple (TD [[1, 12], [2, 8]])])
        (.lst (SqL.of (u18 _ _ o10)) (.cons (.int 14) (.cons (.tup (SqT.of (u18 _ _ (kc _ _ g9))) (dpAll_qs [(c1, [0, 1]), (c2, [1, 0]), (c3, [1, 1])] fun r hr => ?_)) (.cons (dp_tab ((U.same s10).same u18)) .nil))))
        (.lst (SqL.of n8) (.cons (.int 14) (.cons (.tup (SqT.of (u48 _ _ n4)) (dpAll_qs [(e1, [0, 1]), (e2, [1, 0]), (e3, [1, 1])] fun r hr => ?_)) (.cons (dp_tab ⟨e5, e6, t8 _ _ n7, t8 _ _ (t7 _ _ (t6 _ _ n5)), t8 _ _ (t7 _ _ n6)⟩) .nil))))
        (by rfl) (by rfl) ⟨false, rfl, iteF ?_⟩
      · simp only [List.mem_cons, List.not_mem_nil, or_false] at hr
        rcases hr with e | e | e <;> rw [e]
        · exact u18 _ _ (kc _ _ hc1)
        · exact u18 _ _ (kc _ _ hc2)
        · exact u18 _ _ (kc _ _ hc3)
      · simp only [List.mem_cons, List.not_mem_nil, or_false] at hr
        rcases hr with e | e | e <;> rw [e]
        · exact u48 _ _ (t4 _ _ (t3 _ _ (t2 _ _ n1)))
        · exact u48 _ _ (t4 _ _ (t3 _ _ n2))
        · exact u48 _ _ (t4 _ _ n3)
      · clear k910 kc u18 u48 t1 t2 t3 t4 t5 t6 t7 t8 n1 n2 n3 n4 n5 n6 n7 n8 s1 s2 s3 s4 s5 s6 s7 s8 s9 s10 o1 o2 o3 o4 o5 o6 o7 o8 o10 R1 R2 U m9 g9 hc1 hc2 hc3 hq8 hq9 f8 f9
        refine ⟨z2, fun e1 i1 => gen_upd L8 e1 (tp [1, 2]) i1 fun M1 t1 n1 => ⟨z2, fun e2 i2 => gen_upd M1 e2 (tp [3, 5]) i2 fun M2 t2 n2 => ⟨z2, fun e3 i3 => gen_upd M2 e3 (.tup [.ref e1, .ref e2]) i3 fun M3 t3 n3 => ⟨z2, fun e4 i4 => gen_upd M3 e4 (tp [1, 8]) i4 fun M4 t4 n4 => ?_⟩⟩⟩⟩
        refine ⟨17, e3, e4, 1, 2, 3, 5, 1, 8, rfl, p17, ⟨e1, e2, t4 _ _ n3, t4 _ _ (t3 _ _ (t2 _ _ n1)), t4 _ _ (t3 _ _ n2)⟩, by decide, by decide, .inr ⟨rfl, by decide, by decide⟩, n4, fun v M5 t5 n5 => ⟨z2, fun e5 i5 => gen_upd M5 e5 (tp [0, 1]) i5 fun M6 t6 n6 => ?_⟩⟩
        rw [led17] at n5
        refine eq_ints (SqT.of (t6 _ _ n5)) (SqT.of n6) ?_
        rw [decide_eq_true rfl]
        refine ⟨true, rfl, iteT ⟨z2, fun e6 i6 => gen_upd M6 e6 (tp [3, 6]) i6 fun M7 t7 n7 => ⟨z2, fun e7 i7 => gen_upd M7 e7 (tp [9, 15]) i7 fun M8 t8 n8 => ⟨z2, fun e8 i8 => gen_upd M8 e8 (.tup [.ref e6, .ref e7]) i8 fun M9 t9 n9 => ?_⟩⟩⟩⟩
        refine ⟨17, e8, 3, 6, 9, 15, rfl, p17, ⟨e6, e7, n9, t9 _ _ (t8 _ _ n7), t9 _ _ n8⟩, by decide, by decide, fun v2 M10 X Y Z W ex t10 U => ?_⟩
        rw [plain17] at ex
        injection ex with i1 ex
        injection ex with i2 ex
        injection ex with i3 ex
        injection ex with i4 _
        subst i1 i2 i3 i4
        refine ⟨z2, fun e9 i9 => gen_upd M10 e9 (tp [1, 2]) i9 fun M11 t11 n11 => ⟨z2, fun e10 i10 => gen_upd M11 e10 (tp [3, 5]) i10 fun M12 t12 n12 => ⟨z2, fun e11 i11 => gen_upd M12 e11 (.tup [.ref e9, .ref e10]) i11 fun M13 t13 n13 => ?_⟩⟩⟩
        exact eq_sameD (dp_tab ((U.same t11).same t12 |>.same t13)) (dp_tab ⟨e9, e10, n13, t13 _ _ (t12 _ _ n11), t13 _ _ n12⟩) (lay_td _) (shaped_ttd _) (q _)
end
end K50

set_option Elab.async false
set_option linter.all false
set_option maxRecDepth 100000
set_option maxHeartbeats 0
namespace K50
open PySem PySem.Spec PyProof.Rows L2
theorem facts {P : Program} {w : World} {K : PySem.W.Frag} {h : Heap} {mg : Str → Option Value} {f : Addr} (X : K.In h) (G : h.Ns mainGlobals mg) (hfa : mg ("law" : Str) = some (.ref f)) (c : HookG.SaysG faL fnL exL K) :
    ∃ fd : FuncData, (∀ (s : Shared) (v : Value), BindsTo s fd ⟨[v], []⟩ [("_law_script", v)]) ∧ ∀ base : Heap, K.In base → base.Ns mainGlobals mg → FnOk P w K mg base CX0 7 f fd ["_law_script"] (spLaw K) := by
  obtain ⟨T⟩ := facts_of X G c
  have e := hfa.symm.trans T.g_law
  cases e
  have b := FunD.bindsA (ps := ["_law_script"]) T.F_law fun _ _ _ _ _ _ us hl => match us, hl with | [_], _ => rfl
  exact ⟨T.fd_law, fun s v => b s [v] rfl, fun base _ _ => ok_law T⟩
end K50
open PySem PySem.W PySem.Calls PyProof.Rows
theorem PySem.Challenge.cw_sourceforms_k50_whole_prime_points_and_t_holds : PySem.Challenge.rw_sourceforms_k50_whole_prime_points_and_t.Holds := by
  w_on; o_law
  refine HandSHeadRun.head_any (r := OpenLaw.row PySem.Challenge.rw_sourceforms_k50_whole_prime_points_and_t) (q := view (OpenLaw.row PySem.Challenge.rw_sourceforms_k50_whole_prime_points_and_t).prog [54]) (H := K50.hk) (ob := K50.ob) (M := 9000) (loose := K50.loose) (d := HandSHeadRun.topDef (OpenLaw.row PySem.Challenge.rw_sourceforms_k50_whole_prime_points_and_t).prog 54) (kwd := []) K50.ob_eq
    (by kernel_rfl) (fun s => by kernel_rfl) K50.run (by kernel_rfl) (by kernel_rfl) (by kernel_rfl) (by rfl) (by first | assumption | decide +kernel) (by decide +kernel) ⟨rfl, rfl, rfl, rfl, rfl, by decide +kernel⟩ ?hw ?hc
  case hw => w_witness2
  case hc =>
    refine L2.walk_ofE (l := PySem.Challenge.rw_sourceforms_k50_whole_prime_points_and_t) (n := 63) (k := 7) (x := "_law_script") (CX := L2.CX0) rfl (by decide) (by kernel_rfl) ⟨rfl, by decide, by decide⟩ ?F (fun _ _ _ _ z => z)
    intro w mg fa h Y G hmg0
    obtain ⟨K, KX, c⟩ := Y
    have hmg : mg ("law" : PySem.Str) = some (.ref fa) := by
      have e : (HandSHeadRun.topDef (OpenLaw.row PySem.Challenge.rw_sourceforms_k50_whole_prime_points_and_t).prog 54).name = ("law" : PySem.Str) := by kernel_rfl
      rw [← e]
      exact hmg0
    obtain ⟨fd, hb, hF⟩ := K50.facts (P := (PySem.Challenge.rw_sourceforms_k50_whole_prime_points_and_t).prog) (w := w) KX G hmg c
    exact ⟨K, fd, K50.spLaw K, KX, hb, fun H a ns hl _ hS => ⟨a, ns, rfl, hS, hl, fun _ => rfl⟩, hF⟩
